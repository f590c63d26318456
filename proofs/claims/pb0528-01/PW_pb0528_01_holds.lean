import PyProof.Rows.All
import Wide.All
import OpenK.AllK
import Wide.FinOn
import Lean
import PySem.Challenge.RW_pb0528_01
open PySem PySem.W PyProof.Rows PySem.Calls PyProof.V PySem.Spec
set_option Elab.async false
set_option maxRecDepth 100000
set_option maxHeartbeats 8000000
set_option linter.unusedVariables false
set_option linter.unusedSimpArgs false
set_option compiler.extract_closed false
namespace Mine
/-- the text without its six assignments of __name__ -/
noncomputable def pickOut (ds : List Nat) (l : List Stmt) : List Stmt := (l.zipIdx.filter fun p => !ds.contains p.2).map (·.1)
noncomputable def view : Program := { PySem.Challenge.rw_pb0528_01.row.prog with main := { PySem.Challenge.rw_pb0528_01.row.prog.main with body := pickOut [1, 6, 12, 21, 25, 35] PySem.Challenge.rw_pb0528_01.row.prog.main.body } }
noncomputable abbrev viewOpen : List (Str × WData) := [(Str.ofString "OPEN_STATES", WData.tuple [WData.str { cps := #[114, 101, 97, 100, 121] }, WData.str { cps := #[115, 101, 110, 100] }])]
noncomputable abbrev viewX : Shared → Bool := fun s => xlAt view viewOpen s && recOk (RowW.records PySem.Challenge.rw_pb0528_01.row.toRowW) s
theorem map_pair {α β γ : Type} {o : Option α} {f : α → β} {g : α → γ} {b : β} {c : γ} (h1 : o.map f = some b) (h2 : o.map g = some c) : o.map (fun s => (f s, g s)) = some (b, c) := by
  cases o with
  | none => cases h1
  | some s =>
    injection h1 with h1
    injection h2 with h2
    show some (f s, g s) = _
    rw [h1, h2]
theorem seenAll (w : World) : (openEnds treeTable PySem.Challenge.rw_pb0528_01.row.prog w 4618).map (fun s => openSeen view [Str.ofString "OPEN_STATES"] (importedModules PySem.Challenge.rw_pb0528_01.row.prog.main.body) viewX true s) = some (openGood view [Str.ofString "OPEN_STATES"]) := by kernel_rfl
theorem lawSaid : PySem.Challenge.rw_pb0528_01.wellSaid = true := by kernel_rfl
local macro_rules | `(tactic| o_law) => `(tactic| (refine holds_law lawSaid fun _ => ?_))
local macro_rules | `(tactic| o_head $H) => `(tactic| (refine (fun hAB : _ ∧ _ => holds_open (q := view) (loose := [Str.ofString "OPEN_STATES"]) (Xt := viewX) (XP := XL view viewOpen) (Yf := Hook.obs $H) (Ya := Hook.val $H) (YP := Hook.says $H) (N := 4618) hAB.1 (Hook.of $H) (Hook.keeps $H) (fun s e => xl_of s (Bool.and_eq_true_iff.mp e).1) XL.keeps (by rfl) (by rfl) (by rfl) (fun s e => recFacts_of (Bool.and_eq_true_iff.mp e).2) (by rfl) (by first | assumption | decide +kernel) (by decide +kernel) ⟨rfl, rfl, rfl, rfl, rfl, by decide +kernel⟩ ?hw hAB.2) ?hc))
open_top hd for PySem.Challenge.rw_pb0528_01
/-- the objects that the top leaves and the walks look at -/
noncomputable abbrev leftAs : List Addr := [2, 3, 15, 17, 18, 20, 21, 22, 29, 31, 32, 34, 35, 36, 37, 38, 39, 42, 44, 45, 47, 48, 49, 51, 52, 54, 55, 56, 58, 59, 61, 62, 63, 65, 66, 68, 69, 70, 72, 73, 75, 76, 77, 85, 87, 88, 90, 91, 92, 94, 95, 97, 98, 99, 101, 102, 104, 105, 106, 108, 109, 111, 112, 113, 115, 116, 118, 119, 120, 122, 123, 125, 126, 127, 129, 130, 132, 133, 134, 136, 137, 139, 140, 141, 143, 144, 146, 147, 148, 150, 151, 153, 154, 155, 157, 158, 160, 161, 162, 164, 165, 167, 168, 169, 171, 172, 174, 175, 176, 178, 179, 181, 182, 183, 185, 186, 188, 189, 190, 192, 193, 195, 196, 197, 198, 199, 200, 201, 204, 206, 207, 209, 210, 211, 213, 214, 216, 217, 218, 221, 222, 230, 232, 233, 235, 236, 237, 239, 240, 242, 243, 244, 246, 247, 249, 250, 251, 253, 254, 256, 257, 258, 260, 261, 263, 264, 265, 267, 268, 270, 271, 272, 274, 275, 277, 278, 279, 281, 282, 284, 285, 286, 288, 289, 291, 292, 293, 295, 296, 298, 299, 300, 302, 303, 305, 306, 307, 308, 309, 310, 311, 314, 316, 317, 319, 320, 321, 323, 324, 326, 327, 328, 330, 331, 333, 334, 335, 337, 338, 340, 341, 342, 344, 345, 347, 348, 349, 352, 353, 354, 356, 357, 359, 360]
theorem leftY (w : World) : (openEnds treeTable PySem.Challenge.rw_pb0528_01.row.prog w 4618).map (fun s => leftAs.map s.heap.get?) = some ((hd.heap_1 w.params).map fun p => some p.2) := by kernel_rfl
theorem leftAll (w : World) : (openEnds treeTable PySem.Challenge.rw_pb0528_01.row.prog w 4618).map (fun s => (openSeen view [Str.ofString "OPEN_STATES"] (importedModules PySem.Challenge.rw_pb0528_01.row.prog.main.body) viewX true s, leftAs.map s.heap.get?)) = some (openGood view [Str.ofString "OPEN_STATES"], (hd.heap_1 w.params).map fun p => some p.2) := map_pair (seenAll w) (leftY w)
theorem filled : (PySem.Challenge.rw_pb0528_01, hd.heap_1) = (PySem.Challenge.rw_pb0528_01, hd.heap_1) := by
  k_fill
  w_top off
  rfl
noncomputable abbrev Led := List (Addr × Obj)
noncomputable abbrev LOOSE : List Str := looseW view [Str.ofString "OPEN_STATES"]

/-- tuples and lists: what never changes once it is in the tail -/
noncomputable def isDat (o : Obj) : Prop := o.cls = .type "tuple" ∨ o.cls = .type "list"
noncomputable def Sub (T T' : Led) : Prop := ∀ p ∈ T, isDat p.2 → p ∈ T'
theorem Sub.of {T T' : Led} (h : ∀ p ∈ T, p ∈ T') : Sub T T' := fun p hp _ => h p hp
theorem Sub.trans {T T' T'' : Led} (h : Sub T T') (h' : Sub T' T'') : Sub T T'' := fun p hp hd => h' p (h p hp hd) hd

/-- what a call of the text's def f is promised: M the cells, own the tail, which only grows -/
noncomputable def Calls (w : World) (f : Addr) (dc uc : Nat) (vs : List Value) (M own : Led) (Post : Value → Led → Led → Prop) : Prop :=
  ∀ (prog : Program) (mean : ExcName → Option Value) (mg mb : Str → Option Value) (dp un : Nat) (gd : Option (List Code)) (cn : Str) (cs : Scope) (a : Addr) (ccd : Value) (cl : List (Str × Addr)) (outer : List Env) (A₀ : Around) (base h₀ : Heap) (L : Addr) (m : Str → Option Value) (s : Shared)
    (Q E : Value → Shared → Prop),
    Below A₀ base outer h₀ → Fr h₀ L s.heap m → (hd.heap_1 w.params).In h₀ → News h₀ L s.heap (M ++ own) → OwnOff own (M.map (·.1)) → Top view LOOSE mean mg mb h₀ → cs.kind = .function → dp + dc < recursionLimit → un + uc < cLine →
    (∀ r M' tl' h' tk', Fr h₀ L h' m → News h₀ L h' (M' ++ tl') → (∀ p ∈ own, p ∈ tl') → OwnOff tl' (M.map (·.1)) → Post r M' tl' → Q r { s with heap := h', toks := tk' }) →
    wpAny (model prog w) (ktrTop dp un gd cn cs L a ccd cl outer) (call (.ref f) vs) Q E s

/-- a value given, the cells as they were -/
inductive PRd (v : Value) (M : Led) : Value → Led → Prop
  | mk : PRd v M v M
theorem PRd.of {r v : Value} {M : Led} (e : r = v) : PRd v M r M := e ▸ .mk
inductive PMt (M : Led) (P : Prop) : Led → Prop
  | mk (h : P) : PMt M P M
inductive PInt (i : Int) (M : Led) : Value → Led → Prop
  | mk (t : Tok) : PInt i M (.int i t) M
/-- the locals, said again by what is known of them -/
noncomputable def mOf (bs : List (Str × Value)) (u : Str → Option Value) : Str → Option Value := fun y => match bs.lookup y with
  | some v => some v
  | none => u y
theorem mOf_eq {bs : List (Str × Value)} {u : Str → Option Value} (h : ∀ p ∈ bs, u p.1 = some p.2) : mOf bs u = u := by
  funext y
  unfold mOf
  cases e : bs.lookup y with
  | none => rfl
  | some v =>
    have : (y, v) ∈ bs := by
      clear h
      induction bs with
      | nil => cases e
      | cons p r ih =>
        rw [List.lookup_cons] at e
        by_cases q : (y == p.1) = true
        · rw [q] at e
          have e1 : p.2 = v := by simpa using e
          have e2 : y = p.1 := by simpa using q
          rw [e2, ← e1]
          exact .head _
        · have q' : (y == p.1) = false := by simpa using q
          rw [q'] at e
          exact .tail _ (ih e)
    exact (h _ this).symm
theorem fr_of {h₀ h : Heap} {L : Addr} {u : Str → Option Value} (bs : List (Str × Value)) (F : Fr h₀ L h u) (e : ∀ p ∈ bs, u p.1 = some p.2) : Fr h₀ L h (mOf bs u) := by
  rw [mOf_eq e]; exact F

theorem room1 {d k a c R : Nat} (h : d + k < R) (e : a + c ≤ k) : d + a + c < R := by omega
theorem room0 {d k c R : Nat} (h : d + k < R) (e : c ≤ k) : d + c < R := by omega
theorem size0 {a b R : Nat} (h : a ≤ b) (e : b ≤ R) : a ≤ R := Nat.le_trans h e
theorem size1 {a b c R : Nat} (h : a ≤ b) (e : b + c ≤ R) : a + c ≤ R := Nat.le_trans (Nat.add_le_add_right h c) e
theorem all_cons {α : Type} {P : α → Prop} {a : α} {l : List α} (h : P a) (k : ∀ x ∈ l, P x) : ∀ x ∈ a :: l, P x := List.forall_mem_cons.mpr ⟨h, k⟩
theorem all_app {α : Type} {P : α → Prop} {l l' : List α} (h : ∀ x ∈ l, P x) (k : ∀ x ∈ l', P x) : ∀ x ∈ l ++ l', P x := List.forall_mem_append.mpr ⟨h, k⟩
theorem all_nil {α : Type} {P : α → Prop} : ∀ x ∈ ([] : List α), P x := List.forall_mem_nil _
theorem allLt_ne {d : Addr} : ∀ {l : Led}, AllLt d l → ∀ p ∈ l, p.1 ≠ d
  | [], _, _, hp => nomatch hp
  | _ :: _, h, p, hp => by
    rcases List.mem_cons.mp hp with rfl | hp
    · exact Nat.ne_of_lt h.1
    · exact allLt_ne h.2 p hp
theorem allLt_app {d : Addr} : ∀ {l l' : Led}, AllLt d (l ++ l') ↔ AllLt d l ∧ AllLt d l'
  | [], _ => by simp [AllLt]
  | p :: l, l' => by
    show (_ ∧ AllLt d (l ++ l')) ↔ _
    rw [allLt_app (l := l)]
    simp [AllLt, and_assoc]
theorem allLt_mem {d : Addr} : ∀ {l : Led}, AllLt d l → ∀ p ∈ l, p.1 < d
  | [], _, _, hp => nomatch hp
  | _ :: _, h, p, hp => by
    rcases List.mem_cons.mp hp with rfl | hp
    · exact h.1
    · exact allLt_mem h.2 p hp
theorem off_new {d : Addr} {o : Obj} {T M : Led} (h : AllLt d M) (k : OwnOff T (M.map (·.1))) : OwnOff ((d, o) :: T) (M.map (·.1)) := by
  intro p hp b hb e
  rcases List.mem_cons.mp hp with rfl | hp
  · obtain ⟨q, hq, rfl⟩ := List.mem_map.mp hb
    exact allLt_ne h q hq e.symm
  · exact k p hp b hb e
theorem news_sub {h₀ h : Heap} {L : Addr} {l l' : Led} (N : News h₀ L h l) (h' : ∀ p ∈ l', p ∈ l) : News h₀ L h l' := fun p hp => N p (h' p hp)

noncomputable def TurnEnd (h₀ : Heap) (L : Addr) (J : (Str → Option Value) → Led → Led → Prop) (tl : Led) (adr : List Addr) (T1 : Led) (s₁ s₂ : Shared) : Prop :=
  ∃ h' tk m' C' T2, s₂ = { s₁ with heap := h', toks := tk } ∧ Fr h₀ L h' m' ∧ News h₀ L h' (C' ++ T2) ∧ (∀ p ∈ T1, p ∈ T2) ∧ OwnOff T2 adr ∧ C'.map (·.1) = adr ∧ ∀ T3, Sub T2 T3 → (∀ p ∈ tl, p ∈ T3) → J m' C' T3
noncomputable def TurnPost (h₀ : Heap) (L : Addr) (J : (Str → Option Value) → Led → Led → Prop) (tl : Led) (adr : List Addr) (T1 : Led) (s₁ : Shared) (Q : Flow → Shared → Prop) (f : Flow) (s₂ : Shared) : Prop :=
  match f with
  | .ret v => Q (.ret v) s₂
  | .brk => Q .next s₂
  | _ => TurnEnd h₀ L J tl adr T1 s₁ s₂
theorem TurnEnd.intro {h₀ : Heap} {L : Addr} {J : (Str → Option Value) → Led → Led → Prop} {tl : Led} {adr : List Addr} {T1 : Led} {s₁ : Shared} {h' : Heap} {tk : Nat} {m' : Str → Option Value} (C' T2 : Led) (F : Fr h₀ L h' m') (N : News h₀ L h' (C' ++ T2))
    (h1 : ∀ p ∈ T1, p ∈ T2) (h2 : OwnOff T2 adr) (h3 : C'.map (·.1) = adr) (h4 : ∀ T3, Sub T2 T3 → (∀ p ∈ tl, p ∈ T3) → J m' C' T3) : TurnEnd h₀ L J tl adr T1 s₁ { s₁ with heap := h', toks := tk } :=
  ⟨h', tk, m', C', T2, rfl, F, N, h1, h2, h3, h4⟩

section
variable {prog : Program} {w : World} {A : Around} {E : Value → Shared → Prop} {s : Shared} {env : Env} {h₀ : Heap} {target : Expr} {body : List Stmt} {Q : Flow → Shared → Prop}

/-- a loop over something that is walked by one new object (its iterator), the cells C and the tail T in hand -/
theorem turns_core {I : Addr} {fp : List Addr} {n : Nat} {P : Nat → Value → Prop} {St : Nat → Heap → Prop} {m₀ : Str → Option Value} {C₀ tl : Led} {cls : String} (J : Nat → (Str → Option Value) → Led → Led → Prop)
    (W : Walks prog w A I fp [I] n P St) (hgo : ∀ i v (s : Shared) (Q : Unit → Shared → Prop) (E : Value → Shared → Prop), St i s.heap → Q () s → wpAny (model prog w) A (letOwnedTupleGo target (.ref I) v) Q E s)
    (hI : I ∈ fp) (hfp : ∀ b ∈ fp, b ≠ I → ∃ o, (b, o) ∈ tl) (hit : ∀ i h, St i h → ∃ o, h.get? I = some o ∧ o.cls = .type cls) (hcls : cls ≠ "tuple" ∧ cls ≠ "list") (hLI : env.locals ≠ I) (hI0 : h₀.get? I = none) (hnI : ∀ p ∈ C₀ ++ tl, p.1 ≠ I)
    (hst : St 0 s.heap) (F : Fr h₀ env.locals s.heap m₀) (N : News h₀ env.locals s.heap (C₀ ++ tl)) (off : OwnOff tl (C₀.map (·.1))) (h0 : J 0 m₀ C₀ tl)
    (turn : ∀ i v m C T T1 h tk, i < n → P i v → (∀ p ∈ tl, p ∈ T) → (∀ p ∈ T, p ∈ T1) → OwnOff T1 (C₀.map (·.1)) → C.map (·.1) = C₀.map (·.1) → J i m C T → Fr h₀ env.locals h m → News h₀ env.locals h (C ++ T1) →
      wpAny (model prog w) A (assign target env v) (fun _ s₃ => wpAny (model prog w) A (execs body env) (TurnPost h₀ env.locals (J (i + 1)) tl (C₀.map (·.1)) T1 { s with heap := h, toks := tk } Q) E s₃) E { s with heap := h, toks := tk })
    (done : ∀ m C T h tk, (∀ p ∈ tl, p ∈ T) → OwnOff T (C₀.map (·.1)) → C.map (·.1) = C₀.map (·.1) → J n m C T → Fr h₀ env.locals h m → News h₀ env.locals h (C ++ T) → Q .next { s with heap := h, toks := tk }) :
    TurnsAt prog w A h₀ env target body Q E (.ref I) s := by
  let J' : Nat → (Str → Option Value) → Led → Prop := fun i m nx => ∃ C T, nx = C ++ T ∧ (∀ p ∈ tl, p ∈ T) ∧ OwnOff T (C₀.map (·.1)) ∧ C.map (·.1) = C₀.map (·.1) ∧ J i m C T
  refine ⟨I, fp, [I], n, fun i v _ => P i v, fun i v h => P i v ∧ St (i + 1) h, St, m₀, C₀ ++ tl, J', rfl, KTurns.ofWalks W hgo, ?_, ?_, ?_, hst, F, N, ⟨C₀, tl, rfl, fun _ h => h, off, rfl, h0⟩, ?_, ?_⟩
  · intro hm
    by_cases e : env.locals = I
    · exact hLI e
    · obtain ⟨o, ho⟩ := hfp _ hm e
      exact (N _ (List.mem_append_right _ ho)).2.1 rfl
  · intro b hb
    rw [List.mem_singleton.mp hb]; exact hI0
  · intro p hp hm
    exact hnI p hp (List.mem_singleton.mp hm)
  · rintro i v m₁ news₁ hh tk own hin hP ⟨C, T, rfl, htl, hoff, hC, hJ⟩ hnw hown hget hmem hst' F₁ N₁
    obtain ⟨oI, hoI, hcI⟩ := hit _ _ hst'
    have hIown : (I, oI) ∈ own := hmem I hI hI0 oI hoI
    have hne : ∀ p ∈ C ++ T, p.1 ≠ I := fun p hp e => hnw p hp (List.mem_singleton.mpr e)
    have hin' : ∀ p ∈ C ++ ((I, oI) :: T), p ∈ own ++ (C ++ T) := by
      intro p hp
      rcases List.mem_append.mp hp with h | h
      · exact List.mem_append_right _ (List.mem_append_left _ h)
      · rcases List.mem_cons.mp h with rfl | h
        · exact List.mem_append_left _ hIown
        · exact List.mem_append_right _ (List.mem_append_right _ h)
    have hoff1 : OwnOff ((I, oI) :: T) (C₀.map (·.1)) := by
      intro p hp b hb e
      rcases List.mem_cons.mp hp with rfl | hp
      · rw [← hC] at hb
        obtain ⟨q, hq, rfl⟩ := List.mem_map.mp hb
        exact hne q (List.mem_append_left _ hq) e.symm
      · exact hoff p hp b hb e
    refine wpAny_mono (turn i v m₁ C T ((I, oI) :: T) hh tk hin hP htl (fun p hp => .tail _ hp) hoff1 hC hJ F₁ (fun p hp => N₁ p (hin' p hp))) (fun _ s₃ h₃ => wpAny_mono h₃ (fun f s₂ p => ?_) fun _ _ e => e) fun _ _ e => e
    have fin : TurnEnd h₀ env.locals (J (i + 1)) tl (C₀.map (·.1)) ((I, oI) :: T) { s with heap := hh, toks := tk } s₂ → LoopStepU h₀ env.locals [I] own (J' (i + 1)) { s with heap := hh, toks := tk } .next s₂ := by
      rintro ⟨h', tk', m', C', T2, e, F', N', h1, h2, h3, h4⟩
      have hI' : h'.get? I = some oI := (N' _ (List.mem_append_right _ (h1 _ (.head _)))).1
      have notI : ∀ p ∈ C' ++ T2, isDat p.2 → p.1 ≠ I := by
        intro p hp hd q
        have := (N' p hp).1
        rw [q, hI'] at this
        have e2 : oI = p.2 := Option.some.inj this
        rcases hd with hd | hd
        · rw [← e2, hcI] at hd; cases hd; exact hcls.1 rfl
        · rw [← e2, hcI] at hd; cases hd; exact hcls.2 rfl
      have hCI : ∀ p ∈ C', p.1 ≠ I := by
        intro p hp q
        have hm : p.1 ∈ C₀.map (·.1) := h3 ▸ List.mem_map.mpr ⟨p, hp, rfl⟩
        rw [q] at hm
        exact hoff1 _ (.head _) _ hm rfl
      have hT3 : ∀ p ∈ tl, p ∈ T2.filter fun p => decide (p.1 ≠ I) := fun p hp => List.mem_filter.mpr ⟨h1 _ (.tail _ (htl p hp)), by simpa using hnI p (List.mem_append_right _ hp)⟩
      have sub3 : ∀ p ∈ C' ++ (T2.filter fun p => decide (p.1 ≠ I)), p ∈ C' ++ T2 := by
        intro p hp
        rcases List.mem_append.mp hp with h | h
        · exact List.mem_append_left _ h
        · exact List.mem_append_right _ (List.mem_filter.mp h).1
      refine ⟨rfl, h', tk', m', C' ++ (T2.filter fun p => decide (p.1 ≠ I)), e, F', fun p hp => ?_, fun p hp hq => ?_, C', _, rfl, hT3, fun p hp => h2 p (List.mem_filter.mp hp).1, h3, h4 _ (fun p hp hd => List.mem_filter.mpr ⟨hp, by simpa using notI p (List.mem_append_right _ hp) hd⟩) hT3⟩
      · rcases List.mem_append.mp hp with h | h
        · by_cases q : p.1 = I
          · have : p = (I, oI) := Prod.ext q (by have := hget p h; rw [q, hoI] at this; exact (Option.some.inj this).symm)
            rw [this]
            exact N' _ (List.mem_append_right _ (h1 _ (.head _)))
          · obtain ⟨o, ho⟩ := hfp _ (hown p h) q
            have ho2 := htl _ ho
            have g1 : hh.get? p.1 = some o := (N₁ _ (List.mem_append_right _ (List.mem_append_right _ ho2))).1
            have : p = (p.1, o) := Prod.ext rfl (by have := hget p h; rw [g1] at this; exact (Option.some.inj this).symm)
            rw [this]
            exact N' _ (List.mem_append_right _ (h1 _ (.tail _ ho2)))
        · exact N' p (sub3 p h)
      · have q := List.mem_singleton.mp hq
        rcases List.mem_append.mp hp with h | h
        · exact hCI p h q
        · have := (List.mem_filter.mp h).2
          simp at this
          exact this q
    cases f with
    | ret v => exact .ret p
    | brk => exact .brk p
    | next => exact .next (fin p)
    | cont => exact .cont (fin p)
  · rintro h' tk m' news' F' N' _ ⟨C, T, rfl, htl, hoff, hC, hJ⟩
    exact done m' C T h' tk htl hoff hC hJ F' N'

theorem iter_list0 {l : Addr} {vs : List Value} {nn : Nat} {m₀ : Str → Option Value} {C₀ tl : Led} (J : Nat → (Str → Option Value) → Led → Led → Prop)
    (hh : A.handled = none) (hl : (l, listOf vs.toArray nn) ∈ tl) (F : Fr h₀ env.locals s.heap m₀) (N : News h₀ env.locals s.heap (C₀ ++ tl)) (off : OwnOff tl (C₀.map (·.1))) (h0 : J 0 m₀ C₀ tl)
    (turn : ∀ i v m C T T1 h tk, i < vs.length → vs[i]? = some v → (∀ p ∈ tl, p ∈ T) → (∀ p ∈ T, p ∈ T1) → OwnOff T1 (C₀.map (·.1)) → C.map (·.1) = C₀.map (·.1) → J i m C T → Fr h₀ env.locals h m → News h₀ env.locals h (C ++ T1) →
      wpAny (model prog w) A (assign target env v) (fun _ s₃ => wpAny (model prog w) A (execs body env) (TurnPost h₀ env.locals (J (i + 1)) tl (C₀.map (·.1)) T1 { s with heap := h, toks := tk } Q) E s₃) E { s with heap := h, toks := tk })
    (done : ∀ m C T h tk, (∀ p ∈ tl, p ∈ T) → OwnOff T (C₀.map (·.1)) → C.map (·.1) = C₀.map (·.1) → J vs.length m C T → Fr h₀ env.locals h m → News h₀ env.locals h (C ++ T) → Q .next { s with heap := h, toks := tk }) :
    wpAny (model prog w) A (pyIter (.ref l)) (fun it s₂ => TurnsAt prog w A h₀ env target body Q E it s₂) E s := by
  have hol : s.heap.get? l = some (listOf vs.toArray nn) := (N _ (List.mem_append_right _ hl)).1
  have hls : s.heap.IsList l vs.toArray := ⟨_, hol, rfl, nn, rfl⟩
  have hne : l ≠ s.heap.objs.size := Nat.ne_of_lt (Heap.lt_size hol)
  refine wpAny_pyIter_list hls ?_
  have W := Walks.list (prog := prog) (w := w) hh s.heap.objs.size l hne vs.toArray
  have hlen : vs.toArray.size = vs.length := by simp
  rw [hlen] at W
  refine turns_core (cls := "list_iterator") J W (fun i v s Q E st q => letGo_listiter st.1 q) (by simp) ?_ ?_ ⟨by decide, by decide⟩ ?_ (next_is_new F) (fun p hp => Nat.ne_of_lt (Heap.lt_size (N p hp).1)) ⟨⟨_, Heap.get?_push_size _ rfl, rfl, rfl⟩, hls.at fun o e => Heap.get?_push_of_some _ e⟩ (F.push _) (fun p hp => ⟨Heap.get?_push_of_some _ (N p hp).1, (N p hp).2⟩) off h0 ?_ done
  · intro b hb hbI
    have hb' : b = s.heap.objs.size ∨ b = l := by simpa using hb
    rcases hb' with e | e
    · exact absurd e hbI
    · exact ⟨_, e ▸ hl⟩
  · rintro i h ⟨⟨o, ho, hc, _⟩, _⟩
    exact ⟨o, ho, hc⟩
  · exact Nat.ne_of_lt F.ns.lt
  · intro i v m C T T1 h tk hi hv
    exact turn i v m C T T1 h tk hi (by simpa using hv)

theorem iter_range0 {x : Str} {px : Pos} {r : Addr} {a₀ b₀ : Int} {t₀ u₀ v₀ : Tok} {n : Nat} {m₀ : Str → Option Value} {C₀ tl : Led} (J : Nat → (Str → Option Value) → Led → Led → Prop)
    (hh : A.handled = none) (hr : IsRange s.heap r a₀ b₀ 1 t₀ u₀ v₀) (hsmall : Builtin.Range.small a₀ b₀ 1 = true) (hsz : Builtin.Range.rangeSize a₀ b₀ 1 = (n : Int)) (F : Fr h₀ env.locals s.heap m₀) (N : News h₀ env.locals s.heap (C₀ ++ tl)) (off : OwnOff tl (C₀.map (·.1))) (h0 : J 0 m₀ C₀ tl)
    (turn : ∀ i t m C T T1 h tk, i < n → (∀ p ∈ tl, p ∈ T) → (∀ p ∈ T, p ∈ T1) → OwnOff T1 (C₀.map (·.1)) → C.map (·.1) = C₀.map (·.1) → J i m C T → Fr h₀ env.locals h m → News h₀ env.locals h (C ++ T1) →
      wpAny (model prog w) A (assign (.Name x px) env (.int (a₀ + (i : Int)) t)) (fun _ s₃ => wpAny (model prog w) A (execs body env) (TurnPost h₀ env.locals (J (i + 1)) tl (C₀.map (·.1)) T1 { s with heap := h, toks := tk } Q) E s₃) E { s with heap := h, toks := tk })
    (done : ∀ m C T h tk, (∀ p ∈ tl, p ∈ T) → OwnOff T (C₀.map (·.1)) → C.map (·.1) = C₀.map (·.1) → J n m C T → Fr h₀ env.locals h m → News h₀ env.locals h (C ++ T) → Q .next { s with heap := h, toks := tk }) :
    wpAny (model prog w) A (pyIter (.ref r)) (fun it s₂ => TurnsAt prog w A h₀ env (.Name x px) body Q E it s₂) E s := by
  refine wpAny_pyIter_range hr hsmall ?_
  have W := Walks.range (prog := prog) (w := w) hh s.heap.objs.size a₀ 1 n
  refine turns_core (cls := "range_iterator") J W (fun i v s Q E st q => wpAny_pure q) (by simp) (fun b hb hbI => absurd (List.mem_singleton.mp hb) hbI) (fun i h st => ⟨_, st, rfl⟩) ⟨by decide, by decide⟩ (Nat.ne_of_lt F.ns.lt) (next_is_new F) (fun p hp => Nat.ne_of_lt (Heap.lt_size (N p hp).1)) (by rw [hsz]; simpa [IsRangeIter] using Heap.get?_push_size _ rfl) (F.push _) (fun p hp => ⟨Heap.get?_push_of_some _ (N p hp).1, (N p hp).2⟩) off h0 ?_ done
  rintro i v m C T T1 h tk hi ⟨t, rfl⟩
  have e1 : a₀ + (i : Int) * 1 = a₀ + (i : Int) := by omega
  rw [e1]
  exact turn i t m C T T1 h tk hi
end
section
variable {prog : Program} {w : World} {A : Around} {E : Value → Shared → Prop} {g : Array GenState} {dr : Drawn} {os : OsState} {hh : Heap} {tk₀ : Nat} {env : Env} {h₀ : Heap} {target : Expr} {body : List Stmt} {Q : Flow → Shared → Prop}
theorem iter_list {l : Addr} {vs : List Value} {nn : Nat} {m₀ : Str → Option Value} {C₀ tl : Led} (J : Nat → (Str → Option Value) → Led → Led → Prop)
    (hn : A.handled = none) (hl : (l, listOf vs.toArray nn) ∈ tl) (F : Fr h₀ env.locals hh m₀) (N : News h₀ env.locals hh (C₀ ++ tl)) (off : OwnOff tl (C₀.map (·.1))) (h0 : J 0 m₀ C₀ tl)
    (turn : ∀ i v m C T T1 h tk, i < vs.length → vs[i]? = some v → (∀ p ∈ tl, p ∈ T) → (∀ p ∈ T, p ∈ T1) → OwnOff T1 (C₀.map (·.1)) → C.map (·.1) = C₀.map (·.1) → J i m C T → Fr h₀ env.locals h m → News h₀ env.locals h (C ++ T1) →
      wpAny (model prog w) A (assign target env v) (fun _ s₃ => wpAny (model prog w) A (execs body env) (TurnPost h₀ env.locals (J (i + 1)) tl (C₀.map (·.1)) T1 ⟨h, g, dr, tk, os⟩ Q) E s₃) E ⟨h, g, dr, tk, os⟩)
    (done : ∀ m C T h tk, (∀ p ∈ tl, p ∈ T) → OwnOff T (C₀.map (·.1)) → C.map (·.1) = C₀.map (·.1) → J vs.length m C T → Fr h₀ env.locals h m → News h₀ env.locals h (C ++ T) → Q .next ⟨h, g, dr, tk, os⟩) :
    wpAny (model prog w) A (pyIter (.ref l)) (fun it s₂ => TurnsAt prog w A h₀ env target body Q E it s₂) E ⟨hh, g, dr, tk₀, os⟩ :=
  iter_list0 (s := ⟨hh, g, dr, tk₀, os⟩) J hn hl F N off h0 turn done
theorem iter_range {x : Str} {px : Pos} {r : Addr} {a₀ b₀ : Int} {t₀ u₀ v₀ : Tok} {n : Nat} {m₀ : Str → Option Value} {C₀ tl : Led} (J : Nat → (Str → Option Value) → Led → Led → Prop)
    (hn : A.handled = none) (hr : IsRange hh r a₀ b₀ 1 t₀ u₀ v₀) (hsmall : Builtin.Range.small a₀ b₀ 1 = true) (hsz : Builtin.Range.rangeSize a₀ b₀ 1 = (n : Int)) (F : Fr h₀ env.locals hh m₀) (N : News h₀ env.locals hh (C₀ ++ tl)) (off : OwnOff tl (C₀.map (·.1))) (h0 : J 0 m₀ C₀ tl)
    (turn : ∀ i t m C T T1 h tk, i < n → (∀ p ∈ tl, p ∈ T) → (∀ p ∈ T, p ∈ T1) → OwnOff T1 (C₀.map (·.1)) → C.map (·.1) = C₀.map (·.1) → J i m C T → Fr h₀ env.locals h m → News h₀ env.locals h (C ++ T1) →
      wpAny (model prog w) A (assign (.Name x px) env (.int (a₀ + (i : Int)) t)) (fun _ s₃ => wpAny (model prog w) A (execs body env) (TurnPost h₀ env.locals (J (i + 1)) tl (C₀.map (·.1)) T1 ⟨h, g, dr, tk, os⟩ Q) E s₃) E ⟨h, g, dr, tk, os⟩)
    (done : ∀ m C T h tk, (∀ p ∈ tl, p ∈ T) → OwnOff T (C₀.map (·.1)) → C.map (·.1) = C₀.map (·.1) → J n m C T → Fr h₀ env.locals h m → News h₀ env.locals h (C ++ T) → Q .next ⟨h, g, dr, tk, os⟩) :
    wpAny (model prog w) A (pyIter (.ref r)) (fun it s₂ => TurnsAt prog w A h₀ env (.Name x px) body Q E it s₂) E ⟨hh, g, dr, tk₀, os⟩ :=
  iter_range0 (s := ⟨hh, g, dr, tk₀, os⟩) J hn hr hsmall hsz F N off h0 turn done
end
noncomputable abbrev Sp := Int × Int
noncomputable abbrev By := List UInt8
noncomputable abbrev tupO (vs : List Value) (n : Nat) : Obj := { cls := .type "tuple", data := .seq vs.toArray n }
inductive All2 {α : Type} (R : Value → α → Prop) : List Value → List α → Prop
  | nil : All2 R [] []
  | cons {v : Value} {x : α} {vs : List Value} {xs : List α} : R v x → All2 R vs xs → All2 R (v :: vs) (x :: xs)
theorem All2.mono {α : Type} {R R' : Value → α → Prop} (h : ∀ v x, R v x → R' v x) : ∀ {vs : List Value} {xs : List α}, All2 R vs xs → All2 R' vs xs
  | _, _, .nil => .nil
  | _, _, .cons a b => .cons (h _ _ a) (b.mono h)
theorem All2.length {α : Type} {R : Value → α → Prop} : ∀ {vs : List Value} {xs : List α}, All2 R vs xs → vs.length = xs.length
  | _, _, .nil => rfl
  | _, _, .cons _ b => by rw [List.length_cons, List.length_cons, b.length]
theorem All2.append {α : Type} {R : Value → α → Prop} : ∀ {vs : List Value} {xs : List α} {ws : List Value} {ys : List α}, All2 R vs xs → All2 R ws ys → All2 R (vs ++ ws) (xs ++ ys)
  | _, _, _, _, .nil, k => k
  | _, _, _, _, .cons a b, k => .cons a (b.append k)
theorem All2.snoc {α : Type} {R : Value → α → Prop} {vs : List Value} {xs : List α} {v : Value} {x : α} (h : All2 R vs xs) (k : R v x) : All2 R (vs ++ [v]) (xs ++ [x]) := h.append (.cons k .nil)
theorem All2.get {α : Type} {R : Value → α → Prop} : ∀ {vs : List Value} {xs : List α}, All2 R vs xs → ∀ {i : Nat} {v : Value}, vs[i]? = some v → ∃ x, xs[i]? = some x ∧ R v x
  | _, _, .nil, _, _, e => by simp at e
  | _, _, .cons (x := x) a b, 0, _, e => by simp at e; subst e; exact ⟨x, rfl, a⟩
  | _, _, .cons a b, i + 1, _, e => by simp at e; obtain ⟨x, h1, h2⟩ := b.get e; exact ⟨x, by simpa using h1, h2⟩

/-- a tuple of two ints -/
inductive SpanV (T : Led) (v : Value) (p : Sp) : Prop
  | mk : ∀ a n t1 t2, v = .ref a → (a, tupO [.int p.1 t1, .int p.2 t2] n) ∈ T → SpanV T v p
inductive ListV {α : Type} (R : Led → Value → α → Prop) (T : Led) (v : Value) (xs : List α) : Prop
  | mk : ∀ l n vs, v = .ref l → (l, listOf vs.toArray n) ∈ T → All2 (R T) vs xs → ListV R T v xs
theorem SpanV.mono {T T' : Led} {v : Value} {p : Sp} (h : SpanV T v p) (s : Sub T T') : SpanV T' v p := by
  obtain ⟨a, n, t1, t2, rfl, hm⟩ := h
  exact ⟨a, n, t1, t2, rfl, s _ hm (.inl rfl)⟩
theorem spans_mono {T T' : Led} {vs : List Value} {xs : List Sp} (h : All2 (SpanV T) vs xs) (s : Sub T T') : All2 (SpanV T') vs xs := h.mono fun _ _ q => q.mono s
theorem SpansV.mono {T T' : Led} {v : Value} {xs : List Sp} (h : ListV SpanV T v xs) (s : Sub T T') : ListV SpanV T' v xs := by
  obtain ⟨l, n, vs, rfl, hm, ha⟩ := h
  exact ⟨l, n, vs, rfl, s _ hm (.inr rfl), spans_mono ha s⟩

/-- a new list given, the cells as they were -/
inductive PLst {α : Type} (Rk : Led → Value → α → Prop) (M : Led) (xs : List α) (T : Led) : Value → Led → Prop
  | mk (l : Addr) (n : Nat) (vs : List Value) (hm : (l, listOf vs.toArray n) ∈ T) (ha : All2 (Rk T) vs xs) : PLst Rk M xs T (.ref l) M
theorem PLst.of {α : Type} {Rk : Led → Value → α → Prop} {M : Led} {xs : List α} {T : Led} {v : Value} (h : ListV Rk T v xs) : PLst Rk M xs T v M := by
  obtain ⟨l, n, vs, rfl, hm, ha⟩ := h
  exact ⟨l, n, vs, hm, ha⟩
structure AddSt where
  found : List Sp
  put : Bool
  lo : Int
  hi : Int
noncomputable def addStep (st : AddSt) (p : Sp) : AddSt :=
  if p.2 < st.lo then { st with found := st.found ++ [p] }
  else if st.hi < p.1 then (if st.put then { st with found := st.found ++ [p] } else { st with found := st.found ++ [(st.lo, st.hi)] ++ [p], put := true })
  else { st with lo := if p.1 < st.lo then p.1 else st.lo, hi := if p.2 > st.hi then p.2 else st.hi }
noncomputable def addSpan (sp : List Sp) (lo hi : Int) : List Sp :=
  if hi ≤ lo then sp else
    let st := sp.foldl addStep ⟨[], false, lo, hi⟩
    if st.put then st.found else st.found ++ [(st.lo, st.hi)]
noncomputable abbrev Pc := Int × By
/-- Python's min and max of two ints -/
noncomputable def pmin (a b : Int) : Int := if b < a then b else a
noncomputable def pmax (a b : Int) : Int := if b > a then b else a
noncomputable def cutStep (lo hi : Int) (found : List Sp) (p : Sp) : List Sp :=
  let f1 := if p.1 < pmin p.2 lo then found ++ [(p.1, pmin p.2 lo)] else found
  if pmax p.1 hi < p.2 then f1 ++ [(pmax p.1 hi, p.2)] else f1
noncomputable def cutSpan (sp : List Sp) (lo hi : Int) : List Sp := if lo < hi then sp.foldl (cutStep lo hi) [] else sp
noncomputable def hasSpan (sp : List Sp) (lo hi : Int) : Bool := if lo ≥ hi then true else sp.any fun p => decide (p.1 ≤ lo) && decide (hi ≤ p.2)
noncomputable def firstSpan (sp : List Sp) (most : Int) : Option Sp := match sp with
  | [] => none
  | p :: _ => if most ≤ 0 then none else some (p.1, pmin p.2 (p.1 + most))
noncomputable def withoutSpans (sp others : List Sp) : List Sp := others.foldl (fun f p => cutSpan f p.1 p.2) sp

inductive SS where
  | ready | send | dataSent | dataRecvd | resetSent | resetRecvd
  deriving DecidableEq
noncomputable def SS.str : SS → Str
  | .ready => Str.ofString "ready"
  | .send => Str.ofString "send"
  | .dataSent => Str.ofString "data_sent"
  | .dataRecvd => Str.ofString "data_recvd"
  | .resetSent => Str.ofString "reset_sent"
  | .resetRecvd => Str.ofString "reset_recvd"
structure Snd where
  limit : Int
  st : SS
  written : By
  sentTo : Int
  acked : List Sp
  lost : List Sp
  fin : Bool
  oe : Bool
  ea : Bool
  rc : Option Int
  orr : Bool
noncomputable def SS.isOpen (s : SS) : Bool := s == .ready || s == .send
noncomputable def Snd.init (limit : Int) : Snd := ⟨limit, .ready, [], 0, [], [], false, false, false, none, false⟩
noncomputable def Snd.write (s : Snd) (d : By) : Snd := { s with written := s.written ++ d }
noncomputable def Snd.finish (s : Snd) : Snd := if s.fin then s else { s with fin := true, oe := true }
noncomputable def Snd.canReset (s : Snd) : Bool := s.st.isOpen || s.st == .dataSent
noncomputable def Snd.reset (s : Snd) (code : Int) : Snd := if s.canReset then { s with st := .resetSent, rc := some code, orr := true, lost := [], oe := false } else s
noncomputable def Snd.raise (s : Snd) (l : Int) : Snd := { s with limit := pmax s.limit l }
noncomputable def Snd.newRoom (s : Snd) : Int := if s.st.isOpen then pmax 0 (pmin s.written.length s.limit - s.sentTo) else 0
noncomputable def Snd.span (s : Snd) (most : Int) : Sp := match firstSpan s.lost most with
  | some p => p
  | none => (s.sentTo, s.sentTo + pmax 0 (pmin most s.newRoom))
noncomputable def Snd.isEnd (s : Snd) (p : Sp) : Bool := s.fin && decide (p.2 = (s.written.length : Int)) && (s.oe || decide (p.1 < p.2))
noncomputable def Snd.chunks (s : Snd) (most : Int) : Bool := s.canReset && !(decide ((s.span most).1 = (s.span most).2) && !s.isEnd (s.span most))
noncomputable def Snd.chunkOf (s : Snd) (most : Int) : Int × By × Bool := ((s.span most).1, (s.written.drop (s.span most).1.toNat).take ((s.span most).2.toNat - (s.span most).1.toNat), s.isEnd (s.span most))
noncomputable def Snd.chunked (s : Snd) (most : Int) : Snd :=
  { s with lost := cutSpan s.lost (s.span most).1 (s.span most).2, sentTo := pmax s.sentTo (s.span most).2, oe := if s.isEnd (s.span most) then false else s.oe, st := if s.isEnd (s.span most) || s.st == .dataSent then .dataSent else .send }
noncomputable def Snd.resetTold (s : Snd) : Snd := { s with orr := false }
noncomputable def Snd.ackData (s : Snd) (o n : Int) (e : Bool) : Snd :=
  { s with acked := addSpan s.acked o (o + n), lost := cutSpan s.lost o (o + n), ea := s.ea || e, oe := s.oe && !e,
           st := if s.st == .dataSent && (s.ea || e) && hasSpan (addSpan s.acked o (o + n)) 0 s.written.length then .dataRecvd else s.st }
noncomputable def Snd.loseData (s : Snd) (o n : Int) (e : Bool) : Snd :=
  if s.st == .send || s.st == .dataSent then
    { s with lost := (withoutSpans (if n > 0 then [(o, o + n)] else []) s.acked).foldl (fun l p => addSpan l p.1 p.2) s.lost, oe := s.oe || (e && !s.ea) }
  else s
noncomputable def Snd.ackReset (s : Snd) : Snd := { s with orr := false, st := if s.st == .resetSent then .resetRecvd else s.st }
noncomputable def Snd.loseReset (s : Snd) : Snd := { s with orr := s.orr || s.st == .resetSent }
noncomputable def Snd.over (s : Snd) : Bool := s.st == .dataRecvd || s.st == .resetRecvd

/-- pieces -/
structure AddPc where
  found : List Pc
  begin : Int
  joined : By
noncomputable def pcStep (st : AddPc) (p : Pc) : AddPc :=
  if p.1 + (p.2.length : Int) < st.begin ∨ st.begin + (st.joined.length : Int) < p.1 then { st with found := st.found ++ [p] }
  else { st with begin := pmin st.begin p.1, joined := st.joined.take (pmax 0 (p.1 - st.begin)).toNat ++ p.2 ++ st.joined.drop (p.1 + (p.2.length : Int) - st.begin).toNat }
noncomputable def addPcs (ps : List Pc) (o : Int) (d : By) : AddPc := ps.foldl pcStep ⟨[], o, d⟩
noncomputable def takeStep (at_ : Int) (st : By × List Pc) (p : Pc) : By × List Pc :=
  if p.1 ≤ at_ ∧ at_ < p.1 + (p.2.length : Int) then (p.2.drop (at_ - p.1).toNat, st.2) else if p.1 > at_ then (st.1, st.2 ++ [p]) else st
noncomputable def takenFrom (ps : List Pc) (at_ : Int) : By × List Pc := ps.foldl (takeStep at_) ([], [])
noncomputable def coveredBy (ps : List Pc) : List Sp := ps.map fun p => (p.1, p.1 + (p.2.length : Int))

inductive RS where
  | recv | sizeKnown | dataRecvd | dataRead | resetRecvd | resetRead
  deriving DecidableEq
noncomputable def RS.str : RS → Str
  | .recv => Str.ofString "recv"
  | .sizeKnown => Str.ofString "size_known"
  | .dataRecvd => Str.ofString "data_recvd"
  | .dataRead => Str.ofString "data_read"
  | .resetRecvd => Str.ofString "reset_recvd"
  | .resetRead => Str.ofString "reset_read"
noncomputable def RS.isOpen (s : RS) : Bool := s == .recv || s == .sizeKnown
structure Rcv where
  limit : Int
  st : RS
  pieces : List Pc
  readTo : Int
  highest : Int
  fs : Option Int
  rc : Option Int
  stop : Option Int
noncomputable def Rcv.init (limit : Int) : Rcv := ⟨limit, .recv, [], 0, 0, none, none, none⟩
/-- check_end raises nothing -/
noncomputable def Rcv.checks (r : Rcv) (end_ : Int) (f : Bool) : Prop := (∀ z, r.fs = some z → end_ ≤ z ∧ (f = true → end_ = z)) ∧ (f = true → r.highest ≤ end_) ∧ end_ ≤ r.limit
noncomputable def Rcv.grown (r : Rcv) (end_ : Int) : Rcv := { r with highest := r.highest + pmax 0 (end_ - r.highest) }
noncomputable def Rcv.hasAll (r : Rcv) : Bool := r.stop.isNone && hasSpan (coveredBy r.pieces) r.readTo (r.fs.getD 0)
noncomputable def Rcv.resetIn (r : Rcv) (code z : Int) : Rcv :=
  let r := { r.grown z with fs := some z }
  if r.st.isOpen then { r with st := .resetRecvd, rc := some code, pieces := [] } else r
/-- read's first lines -/
noncomputable def Rcv.isReset (r : Rcv) : Bool := r.st == .resetRecvd || r.st == .resetRead
noncomputable def Rcv.readReset (r : Rcv) : Rcv := { r with st := .resetRead }
noncomputable def Rcv.cut (r : Rcv) (most : Int) : By × List Pc :=
  let t := takenFrom r.pieces r.readTo
  if (t.1.length : Int) > most then (t.1.take most.toNat, (r.readTo + most, t.1.drop most.toNat) :: t.2) else t
noncomputable def Rcv.readData (r : Rcv) (most : Int) : Rcv :=
  { r with pieces := (r.cut most).2, readTo := r.readTo + ((r.cut most).1.length : Int), st := if r.st == .dataRecvd && decide (r.fs = some (r.readTo + ((r.cut most).1.length : Int))) then .dataRead else r.st }
noncomputable def Rcv.read (r : Rcv) (most : Int) : By × Bool × Rcv :=
  if r.isReset then ([], true, r.readReset) else ((r.cut most).1, (r.readData most).st == .dataRead, r.readData most)
noncomputable def Rcv.canStop (r : Rcv) : Bool := r.st.isOpen && r.stop.isNone
noncomputable def Rcv.stopped (r : Rcv) (code : Int) : Rcv := if r.canStop then { r with stop := some code, pieces := [] } else r
noncomputable def Rcv.raise (r : Rcv) (l : Int) : Rcv := { r with limit := pmax r.limit l }
noncomputable def Rcv.over (r : Rcv) : Bool := (r.st == .dataRead || r.st == .resetRead) || (r.stop.isSome && r.fs.isSome)

inductive Msg where
  | reset (code z : Int)
  | data (o : Int) (d : By) (e : Bool)
  deriving DecidableEq
theorem lt_ne {d : Addr} {l : Led} (h : ∀ p ∈ l, p.1 < d) : ∀ p ∈ l, p.1 ≠ d := fun p hp => Nat.ne_of_lt (h p hp)
theorem off_ne {l : Led} {adr : List Addr} {d : Addr} (h : OwnOff l adr) (hd : d ∈ adr) : ∀ p ∈ l, p.1 ≠ d := fun p hp => h p hp d hd
theorem off_nil {T : Led} : OwnOff T [] := fun _ _ _ hb => nomatch hb
theorem off_nilL {adr : List Addr} : OwnOff [] adr := fun _ hp => nomatch hp
theorem off_a {T : Led} {d : Addr} {adr : List Addr} (h : ∀ p ∈ T, p.1 ≠ d) (k : OwnOff T adr) : OwnOff T (d :: adr) := fun p hp b hb => by
  rcases List.mem_cons.mp hb with rfl | hb
  · exact h p hp
  · exact k p hp b hb
theorem off_c {x : Addr × Obj} {T : Led} {adr : List Addr} (h : ∀ b ∈ adr, x.1 ≠ b) (k : OwnOff T adr) : OwnOff (x :: T) adr := fun p hp b hb => by
  rcases List.mem_cons.mp hp with rfl | hp
  · exact h b hb
  · exact k p hp b hb
theorem off_app {T T' : Led} {adr : List Addr} (h : OwnOff T adr) (k : OwnOff T' adr) : OwnOff (T ++ T') adr := fun p hp => (List.mem_append.mp hp).elim (h p) (k p)
theorem lt_adr {d : Addr} {M : Led} (h : ∀ p ∈ M, p.1 < d) : ∀ b ∈ M.map (·.1), d ≠ b := fun b hb e => by
  obtain ⟨q, hq, rfl⟩ := List.mem_map.mp hb
  exact absurd (h q hq) (by rw [e]; exact Nat.lt_irrefl _)
theorem off_sub {T T' : Led} {adr adr' : List Addr} (h : OwnOff T adr) (s : ∀ p ∈ T', p ∈ T) (k : ∀ b ∈ adr', b ∈ adr) : OwnOff T' adr' := fun p hp b hb => h p (s p hp) b (k b hb)
theorem below_l {d : Addr} {l l' : Led} (h : ∀ p ∈ l ++ l', p.1 < d) : ∀ p ∈ l, p.1 < d := fun p hp => h p (List.mem_append_left _ hp)
theorem below_r {d : Addr} {l l' : Led} (h : ∀ p ∈ l ++ l', p.1 < d) : ∀ p ∈ l', p.1 < d := fun p hp => h p (List.mem_append_right _ hp)
theorem below_a {d : Addr} {l : Led} (h : AllLt d l) : ∀ p ∈ l, p.1 < d := allLt_mem h
theorem below_al {d : Addr} {l l' : Led} (h : AllLt d (l ++ l')) : ∀ p ∈ l, p.1 < d := (below_l (allLt_mem h))
theorem below_ar {d : Addr} {l l' : Led} (h : AllLt d (l ++ l')) : ∀ p ∈ l', p.1 < d := (below_r (allLt_mem h))
theorem adr_ne {d : Addr} {M : Led} (h : ∀ p ∈ M, p.1 ≠ d) : ∀ b ∈ M.map (·.1), d ≠ b := fun b hb e => by
  obtain ⟨q, hq, rfl⟩ := List.mem_map.mp hb
  exact h q hq e.symm
theorem off_tl {T : Led} {d : Addr} {adr : List Addr} (h : OwnOff T (d :: adr)) : OwnOff T adr := fun p hp b hb => h p hp b (.tail _ hb)
theorem append_L {prog : Program} {w : World} {A : Around} {E : Value → Shared → Prop} {s : Shared} {h₀ : Heap} {L D : Addr} {m : Str → Option Value} {news news' : Led} {vs : List Value} {n : Nat} {x : Value} {Q : Value → Shared → Prop} (F : Fr h₀ L s.heap m) (N : News h₀ L s.heap news)
    (U : Upd D (listOf vs.toArray n) (listOf (vs ++ [x]).toArray (n + 1)) news news') (h : ∀ h', Fr h₀ L h' m → News h₀ L h' news' → Q .none { s with heap := h' }) (hsz : vs.length ≤ sizeLine) : wpAny (model prog w) A (call (.builtin "list.append") [.ref D, x]) Q E s := by
  have e : (vs ++ [x]).toArray = vs.toArray.push x := by simp
  rw [e] at U
  exact append_K F N U h (by rw [List.size_toArray]; exact hsz)
theorem add_LL {prog : Program} {w : World} {A : Around} {E : Value → Shared → Prop} {s : Shared} {h₀ : Heap} {L a b : Addr} {m : Str → Option Value} {news : Led} {vs ws : List Value} {Q : Value → Shared → Prop} (F : Fr h₀ L s.heap m) (N : News h₀ L s.heap news) (ha : s.heap.IsList a vs.toArray) (hb : s.heap.IsList b ws.toArray)
    (h : ∀ D h', Fr h₀ L h' m → News h₀ L h' ((D, listOf (vs ++ ws).toArray 0) :: news) → (∀ p ∈ news, p.1 < D) → Q (.ref D) { s with heap := h' }) (hz : vs.length + ws.length ≤ sizeLine) : wpAny (model prog w) A (binaryOp .Add (.ref a) (.ref b)) Q E s :=
  add_lists F N ha hb (fun h' F' N' => h _ h' F' N' fun p hp => Heap.lt_size (N p hp).1) hz
theorem len_L {prog : Program} {w : World} {A : Around} {E : Value → Shared → Prop} {s : Shared} {l : Addr} {vs : List Value} {Q : Value → Shared → Prop} (hl : s.heap.IsList l vs.toArray) (hfit : (vs.length : Int) < 2 ^ 63)
    (h : ∀ t tk, Q (.int (vs.length : Int) t) { s with toks := tk }) : wpAny (model prog w) A (call (.builtin "len") [.ref l]) Q E s := by
  have e : vs.toArray.size = vs.length := List.size_toArray
  exact len_list hl (by rw [e]; exact hfit) (by rw [e]; exact h _ _)
theorem item_L {prog : Program} {w : World} {A : Around} {E : Value → Shared → Prop} {s : Shared} {value slice : PySem.Expr} {l : Addr} {vs : List Value} {k : Int} {u : Tok} {v : Value} {Q : Value → Shared → Prop} (hl : s.heap.IsList l vs.toArray) (h0 : 0 ≤ k) (hhi : k < 2 ^ 63) (hx : vs[k.toNat]? = some v) (h : Q v s)
    (hs : subscripted slice false (.ref l) (.int k u) = operate [.ref l, .int k u] (getItem (.ref l) (.int k u)) := by with_unfolding_all rfl) : wpAny (model prog w) A (subscriptTail value slice (.ref l) (.int k u)) Q E s :=
  tail_any hl.typeIs slot_list_getitem.lookup (wpAny_getItem_list hl h0 hhi (by simpa using hx) h) hs
theorem take_step {α β : Type} {xs : List α} {i : Nat} {x : α} (h : xs[i]? = some x) (f : β → α → β) (b : β) : (xs.take (i + 1)).foldl f b = f ((xs.take i).foldl f b) x := by
  rw [List.take_add_one, h]; simp
theorem envOf_locals {name : Str} {scope : Scope} {L a : Addr} {cd : Value} : (envOf name scope L a cd).locals = L := rfl
theorem use_call {prog : Program} {w : World} {f : Addr} {dc uc : Nat} {vs : List Value} {M own l : Led} {Post : Value → Led → Led → Prop} {mean : ExcName → Option Value} {mg mb : Str → Option Value} {dp un : Nat} {gd : Option (List Code)} {cn : Str} {cs : Scope} {a : Addr} {ccd : Value} {cl : List (Str × Addr)} {outer : List Env} {A₀ : Around} {base h₀ : Heap} {L : Addr} {g : Array GenState} {dr : Drawn} {os : OsState} {h : Heap} {tk : Nat} {m : Str → Option Value}
    {Q E : Value → Shared → Prop} (H : Calls w f dc uc vs M own Post) (B : Below A₀ base outer h₀) (F : Fr h₀ L h m) (X : (hd.heap_1 w.params).In h₀) (N : News h₀ L h l) (hs : ∀ p ∈ M ++ own, p ∈ l) (off : OwnOff own (M.map (·.1))) (T : Top view LOOSE mean mg mb h₀) (hk : cs.kind = .function) (h1 : dp + dc < recursionLimit) (h2 : un + uc < cLine)
    (k : ∀ r M' tl' h' tk', Fr h₀ L h' m → News h₀ L h' (M' ++ tl') → (∀ p ∈ own, p ∈ tl') → OwnOff tl' (M.map (·.1)) → Post r M' tl' → Q r ⟨h', g, dr, tk', os⟩) :
    wpAny (model prog w) (ktrTop dp un gd cn cs L a ccd cl outer) (call (.ref f) vs) Q E ⟨h, g, dr, tk, os⟩ := H prog mean mg mb dp un gd cn cs a ccd cl outer A₀ base h₀ L m ⟨h, g, dr, tk, os⟩ Q E B F X (news_sub N hs) off T hk h1 h2 k
theorem look_bytes_bytes : typeLookup (.type "bytes") "__bytes__" = pure (some (.builtin "bytes.__bytes__")) := by rw [typeLookup_type, builtinLookup_eq_fast]; kernel_rfl
section
variable {prog : Program} {w : World} {A : Around} {E : Value → Shared → Prop} {s : Shared}
theorem bytes_new_bytes {b : Array UInt8} {t : Tok} {Q : Value → Shared → Prop} (hQ : Q (.bytes b t) s) :
    codeAny (model prog w) A (.call (.builtin "bytes.__new__") ⟨[.type "bytes", .bytes b t], []⟩) (wants Q E) s := by
  refine codeAny_of_tree ?_
  show wpAny _ A.in1 (do checkBuiltinCall "bytes.__new__" ⟨[.type "bytes", .bytes b t], []⟩; again (.builtin "bytes.__new__" ⟨[.type "bytes", .bytes b t], []⟩)) _ _ s
  refine wpAny_bind (wpAny_of_eq (F.bm_newCall _) (wpAny_pure ⟨plainId_quiet F.bm_plain _, codeAny_builtin F.bm_entry ?_⟩))
  rw [Around.under_plainId F.bm_plain _]
  unfold Builtin.«bytes.__new__»
  refine wpAny_bind (wpAny_of_eq (a := true) rfl ?_)
  refine bm_if_false rfl ?_
  refine wpAny_bind (wpAny_of_eq F.bm_sub ?_)
  refine bm_if_false rfl ?_
  refine wpAny_bind (wpAny_of_eq (F.bm_bind _) ?_)
  refine wpAny_bind (wpAny_of_eq (a := ()) rfl ?_)
  refine wpAny_bind (wpAny_of_eq (a := ()) rfl ?_)
  refine bm_if_false rfl ?_
  refine wpAny_bind (wpAny_specialOf (typeIs_bytes _ b t) look_bytes_bytes ?_)
  dsimp only
  refine wpAny_bind (wpAny_rule ?_)
  refine wpAny_bind (wpAny_typeOf (typeIs_bytes _ b t) ?_)
  refine bm_if_true rfl ?_
  first
    | exact wpAny_pure hQ
    | exact wpAny_pure ⟨_, rfl, hQ⟩

theorem call_bytes_bytes {b : Array UInt8} {t : Tok} {Q : Value → Shared → Prop} (hQ : Q (.bytes b t) s) : wpAny (model prog w) A (call (.type "bytes") [.bytes b t]) Q E s := by
  refine callType_codes (Q₁ := fun obj s₁ => s₁.TypeIs obj "bytes" ∧ Q obj s₁) F.bm_called (F.bm_typeCall _) F.entry_object_init
    (bytes_new_bytes ⟨typeIs_bytes _ _ _, hQ⟩) fun obj s₁ h₁ => ?_
  exact ⟨h₁.1, F.args_object_init_2 obj _, object_init_meets F.bm_called.init.lookup F.bm_called.made (by decide) prog w A.in1 _ s₁ ⟨h₁.1, rfl, h₁.2⟩⟩
end
noncomputable def pickL {α : Type} (x : List α) (lo hi : Option Int) : List α := (x.drop (lo.elim 0 (clipAt x.length))).take (hi.elim x.length (clipAt x.length) - lo.elim 0 (clipAt x.length))
theorem clip_pos {n : Nat} {k : Int} (h : 0 ≤ k) : clipAt n k = min k.toNat n := by
  have e : ((k.toNat : Nat) : Int) = k := Int.toNat_of_nonneg h
  rw [← e, clipAt_nat, e]
theorem pick_both {α : Type} {x : List α} {a b : Int} (ha : 0 ≤ a) (hb : 0 ≤ b) : pickL x (some a) (some b) = (x.drop a.toNat).take (b.toNat - a.toNat) := by
  unfold pickL
  simp only [Option.elim, clip_pos ha, clip_pos hb]
  by_cases h : a.toNat ≤ x.length
  · rw [Nat.min_eq_left h]
    by_cases k : b.toNat ≤ x.length
    · rw [Nat.min_eq_left k]
    · rw [Nat.min_eq_right (by lia), List.take_of_length_le (by simp), List.take_of_length_le (by simp; lia)]
  · have e1 : x.drop (min a.toNat x.length) = [] := List.drop_eq_nil_of_le (by lia)
    have e2 : x.drop a.toNat = [] := List.drop_eq_nil_of_le (by lia)
    rw [e1, e2]
    simp
theorem pick_lo {α : Type} {x : List α} {a : Int} (ha : 0 ≤ a) : pickL x (some a) none = x.drop a.toNat := by
  unfold pickL
  simp only [Option.elim, clip_pos ha]
  by_cases h : a.toNat ≤ x.length
  · rw [Nat.min_eq_left h, List.take_of_length_le (by simp)]
  · rw [Nat.min_eq_right (by lia), List.drop_eq_nil_of_le (Nat.le_refl _), List.drop_eq_nil_of_le (by lia)]
    simp
theorem pick_hi {α : Type} {x : List α} {b : Int} (hb : 0 ≤ b) : pickL x none (some b) = x.take b.toNat := by
  unfold pickL
  simp only [Option.elim, clip_pos hb, List.drop_zero, Nat.sub_zero]
  by_cases h : b.toNat ≤ x.length
  · rw [Nat.min_eq_left h]
  · rw [Nat.min_eq_right (by lia), List.take_of_length_le (Nat.le_refl _), List.take_of_length_le (by lia)]
section
variable {prog : Program} {w : World} {A : Around} {E : Value → Shared → Prop} {s : Shared} {value slice : PySem.Expr} {x y : By} {t u : Tok} {h₀ : Heap} {L : Addr} {m : PySem.Str → Option Value} {news : Led} {l r : Value} {lo hi : Option Int} {Q : Value → Shared → Prop}
theorem len_B (hfit : x.length ≤ 1000000) (h : ∀ t tk, Q (.int (x.length : Int) t) { s with toks := tk }) : wpAny (model prog w) A (call (.builtin "len") [.bytes x.toArray t]) Q E s := by
  refine len_bytes (by rw [List.size_toArray]; lia) ?_
  rw [List.size_toArray]
  exact h _ _
theorem add_BB (hsz : x.length + y.length ≤ 1000000) (h : ∀ t' k, Q (.bytes (x ++ y).toArray t') { s with toks := k }) : wpAny (model prog w) A (binaryOp .Add (.bytes x.toArray t) (.bytes y.toArray u)) Q E s := by
  refine KBy.add_bytes (by rw [List.size_toArray, List.size_toArray]; lia) fun t' k => ?_
  have e : x.toArray ++ y.toArray = (x ++ y).toArray := by simp
  rw [e]
  exact h t' k
theorem slice_B (hF : Fr h₀ L s.heap m) (hN : News h₀ L s.heap news) (hl : IsPart l lo) (hu : IsPart r hi) (hz : x.length ≤ 1000000)
    (h : ∀ h' t' k, Fr h₀ L h' m → News h₀ L h' news → Q (.bytes (pickL x lo hi).toArray t') { s with heap := h', toks := k })
    (hs : subscripted slice false (.bytes x.toArray t) (.ref s.heap.objs.size) = operate [.ref s.heap.objs.size, .bytes x.toArray t] (getItem (.bytes x.toArray t) (.ref s.heap.objs.size)) := by with_unfolding_all rfl)
    (ht : ∀ r, letTemporaryGo value (.bytes x.toArray t) r = pure () := by intro _; with_unfolding_all rfl) :
    wpAny (model prog w) A (subscriptTail value slice (.bytes x.toArray t) (.ref s.heap.objs.size)) Q E { s with heap := s.heap.push { cls := .type "slice", data := .fields #[l, r, .none] } } := by
  refine KBc.slice_K (ks := KBw.bInts x.toArray) hF hN rfl hl hu (by rw [KBw.ints_length, List.size_toArray]; lia) (fun h' t' k F' N' _ => ?_) hs ht
  have e : KBy.picked x.toArray lo hi = (pickL x lo hi).toArray := by
    rw [KBc.picked_eq]
    simp only [List.size_toArray]
    rfl
  rw [e]
  exact h h' t' k F' N'
end
noncomputable def CutQ (h₀ : Heap) (L : Addr) (J : (Str → Option Value) → Led → Led → Prop) (tl : Led) (adr : List Addr) (g : Array GenState) (dr : Drawn) (os : OsState) (Q : Flow → Shared → Prop) (f : Flow) (s₂ : Shared) : Prop :=
  match f with
  | .next => ∃ h' tk m' C' T', s₂ = ⟨h', g, dr, tk, os⟩ ∧ Fr h₀ L h' m' ∧ News h₀ L h' (C' ++ T') ∧ (∀ p ∈ tl, p ∈ T') ∧ OwnOff T' adr ∧ J m' C' T'
  | f => Q f s₂
theorem cut_at {M : Model} {A : Around} {E : Value → Shared → Prop} {h : Heap} {g : Array GenState} {dr : Drawn} {os : OsState} {tk₀ : Nat} {env : Env} {h₀ : Heap} {L : Addr} {m : Str → Option Value} {st : Stmt} {rest : List Stmt} {Q : Flow → Shared → Prop} (F : Fr h₀ L h m) (tl : Led) (adr : List Addr) (J : (Str → Option Value) → Led → Led → Prop)
    (h1 : wpAny M A (exec st env) (CutQ h₀ L J tl adr g dr os Q) E ⟨h, g, dr, tk₀, os⟩)
    (h2 : ∀ h' tk m' C' T', (∀ p ∈ tl, p ∈ T') → OwnOff T' adr → J m' C' T' → Fr h₀ L h' m' → News h₀ L h' (C' ++ T') → wpAny M A (execs rest env) Q E ⟨h', g, dr, tk, os⟩) :
    wpAny M A (execs (st :: rest) env) Q E ⟨h, g, dr, tk₀, os⟩ := by
  refine wpAny_execs_cons (wpAny_mono h1 (fun f s' h => ?_) fun _ _ e => e)
  cases f with
  | next =>
    obtain ⟨h', tk, m', C', T', rfl, F', N', a, b, c⟩ := h
    exact h2 h' tk m' C' T' a b c F' N'
  | _ => exact h
theorem cut_end {h₀ : Heap} {L : Addr} {J : (Str → Option Value) → Led → Led → Prop} {tl : Led} {adr : List Addr} {g : Array GenState} {dr : Drawn} {os : OsState} {Q : Flow → Shared → Prop} {h' : Heap} {tk : Nat} {m' : Str → Option Value} (C' T' : Led) (F : Fr h₀ L h' m') (N : News h₀ L h' (C' ++ T')) (a : ∀ p ∈ tl, p ∈ T') (b : OwnOff T' adr) (c : J m' C' T') :
    CutQ h₀ L J tl adr g dr os Q .next ⟨h', g, dr, tk, os⟩ := ⟨h', tk, m', C', T', rfl, F, N, a, b, c⟩
/-- an expression walked apart -/
noncomputable def EvQ (h₀ : Heap) (L : Addr) (m : Str → Option Value) (C tl : Led) (adr : List Addr) (g : Array GenState) (dr : Drawn) (os : OsState) (P : Value → Led → Prop) (v : Value) (s' : Shared) : Prop :=
  ∃ h' tk T', s' = ⟨h', g, dr, tk, os⟩ ∧ Fr h₀ L h' m ∧ News h₀ L h' (C ++ T') ∧ (∀ p ∈ tl, p ∈ T') ∧ OwnOff T' adr ∧ P v T'
theorem ev_end {h₀ : Heap} {L : Addr} {m : Str → Option Value} {C tl : Led} {adr : List Addr} {g : Array GenState} {dr : Drawn} {os : OsState} {P : Value → Led → Prop} {v : Value} {h' : Heap} {tk : Nat} (T' : Led) (F : Fr h₀ L h' m) (N : News h₀ L h' (C ++ T')) (a : ∀ p ∈ tl, p ∈ T') (o : OwnOff T' adr) (p : P v T') : EvQ h₀ L m C tl adr g dr os P v ⟨h', g, dr, tk, os⟩ :=
  ⟨h', tk, T', rfl, F, N, a, o, p⟩
theorem cut_eval {M : Model} {A : Around} {E : Value → Shared → Prop} {env : Env} {g : Array GenState} {dr : Drawn} {os : OsState} {h : Heap} {tk₀ : Nat} {h₀ : Heap} {L : Addr} {m : Str → Option Value} {e : PySem.Expr} {Q : Value → Shared → Prop} (F : Fr h₀ L h m) (C tl : Led) (adr : List Addr) (P : Value → Led → Prop)
    (h1 : wpAny M A (eval e env) (EvQ h₀ L m C tl adr g dr os P) E ⟨h, g, dr, tk₀, os⟩)
    (h2 : ∀ v h' tk T', P v T' → (∀ p ∈ tl, p ∈ T') → OwnOff T' adr → Fr h₀ L h' m → News h₀ L h' (C ++ T') → Q v ⟨h', g, dr, tk, os⟩) : wpAny M A (eval e env) Q E ⟨h, g, dr, tk₀, os⟩ :=
  wpAny_mono h1 (fun v s' ⟨h', tk, T', e, F', N', a, o, p⟩ => e ▸ h2 v h' tk T' p a o F' N') fun _ _ e => e
/-- names: the library's rules with their equations turned round (the proofs are closed terms so), what stays from step to step ahead -/
theorem nmL {M : Model} {A : Around} {E : Value → Shared → Prop} {h₀ : Heap} {L a : Addr} {cn : Str} {cs : Scope} {ccd : Value} {cl : List (Str × Addr)} (hk : ScopeKind.function = cs.kind) {s : Shared} {m : Str → Option Value} (F : Fr h₀ L s.heap m) {x : Str} {pos : Pos} {v : Value}
    (hv : some v = m x) (hx : some NameKind.local = cs.names.lookup x) (hd : (x == ("__debug__" : Str)) = false) {Q : Value → Shared → Prop} (h : Q v s) : wpAny M A (eval (.Name x pos) (envX cn cs L a ccd cl)) Q E s := nameX_L F hv.symm h hk.symm hx.symm hd
theorem nmK {M : Model} {A : Around} {E : Value → Shared → Prop} {K : Frag} {h₀ : Heap} {L a : Addr} {mg mb : Str → Option Value} {cn : Str} {cs : Scope} {ccd : Value} {cl : List (Str × Addr)} {p : Program} {loose : List Str} (hk : ScopeKind.function = cs.kind) (X : K.In h₀) (T : TopRead p loose mg mb h₀) {s : Shared} {m : Str → Option Value} (F : Fr h₀ L s.heap m)
    {x : Str} {pos : Pos} {v : Value} (e : nsIn K mainGlobals x = some (some v)) (hx : some NameKind.globalImplicit = cs.names.lookup x) (hd : (x == ("__debug__" : Str)) = false) {Q : Value → Shared → Prop} (h : Q v s) : wpAny M A (eval (.Name x pos) (envX cn cs L a ccd cl)) Q E s := nameX_K F X T e h hk.symm hx.symm hd
theorem nmB {M : Model} {A : Around} {E : Value → Shared → Prop} {K : Frag} {h₀ : Heap} {L a : Addr} {mg mb : Str → Option Value} {cn : Str} {cs : Scope} {ccd : Value} {cl : List (Str × Addr)} {p : Program} {loose : List Str} (hk : ScopeKind.function = cs.kind) (X : K.In h₀) (T : TopRead p loose mg mb h₀) {s : Shared} {m : Str → Option Value} (F : Fr h₀ L s.heap m)
    {x : Str} {pos : Pos} {v : Value} (e : nsIn K mainGlobals x = some none) (hv : bootBuiltins x = some v) (hn : x ≠ "__name__") (hx : some NameKind.globalImplicit = cs.names.lookup x) (hd : (x == ("__debug__" : Str)) = false) {Q : Value → Shared → Prop} (h : Q v s) : wpAny M A (eval (.Name x pos) (envX cn cs L a ccd cl)) Q E s := nameX_B F X T e hv hn h hk.symm hx.symm hd
/-- an expression that makes nothing and changes nothing: its value, and the next token -/
structure Pev (M : Model) (A : Around) (env : Env) (g : Array GenState) (dr : Drawn) (os : OsState) (h : Heap) (tk : Nat) (e : PySem.Expr) (v : Value) (t : Nat) : Prop where
  run : ∀ (Q : Value → Shared → Prop) (E : Value → Shared → Prop), Q v ⟨h, g, dr, t, os⟩ → wpAny M A (eval e env) Q E ⟨h, g, dr, tk, os⟩
noncomputable def plainE : PySem.Expr → Bool
  | .Starred _ _ => false
  | _ => true
theorem star_plain {e : PySem.Expr} {es : List PySem.Expr} {env : Env} (h : true = plainE e) : starEach (e :: es) env = (false, eval e env) :: starEach es env := by
  cases e <;> first | rfl | cases h
structure Pevs (M : Model) (A : Around) (env : Env) (g : Array GenState) (dr : Drawn) (os : OsState) (h : Heap) (tk : Nat) (es : List PySem.Expr) (vs : List Value) (t : Nat) : Prop where
  pl : es.all plainE = true
  run : ∀ (pos : Pos) (Q : List Value → Shared → Prop) (E : Value → Shared → Prop), Q vs ⟨h, g, dr, t, os⟩ → wpAny M A (spliced (backTo pos (starEach es env))) Q E ⟨h, g, dr, tk, os⟩
theorem any_plain {env : Env} {pos : Pos} : ∀ {es : List PySem.Expr}, es.all plainE = true → (backTo pos (starEach es env)).any (·.1) = false := by
  intro es
  induction es with
  | nil => intro _; rfl
  | cons e es ih =>
    intro h
    rw [List.all_cons, Bool.and_eq_true] at h
    rw [star_plain h.1.symm]
    have := ih h.2
    unfold backTo at this ⊢
    simpa using this
section
variable {M : Model} {A : Around} {env : Env} {g : Array GenState} {dr : Drawn} {os : OsState} {h : Heap} {tk : Nat}
theorem pv_int {i : Int} {k : Nat} {pos : Pos} : Pev M A env g dr os h tk (.Constant (.int i) k pos) (.int i tk) (tk + 1) := ⟨fun _ _ q => wpAny_Constant_int q⟩
theorem pv_str {x : Str} {k : Nat} {pos : Pos} : Pev M A env g dr os h tk (.Constant (.str x) k pos) (.str x tk) (tk + 1) := ⟨fun _ _ q => PySem.Calls.Constant_str q⟩
theorem pv_bool {b : Bool} {k : Nat} {pos : Pos} : Pev M A env g dr os h tk (.Constant (.bool b) k pos) (.bool b) tk := ⟨fun _ _ q => Constant_bool q⟩
theorem pv_none {k : Nat} {pos : Pos} : Pev M A env g dr os h tk (.Constant .none k pos) .none tk := ⟨fun _ _ q => wpAny_Constant_none q⟩
theorem pvs_nil : Pevs M A env g dr os h tk [] [] tk := ⟨rfl, fun _ _ _ q => args_nil q⟩
theorem pvs_cons {e : PySem.Expr} {v : Value} {t : Nat} (p : Pev M A env g dr os h tk e v t) {es : List PySem.Expr} {vs : List Value} {t' : Nat} (ps : Pevs M A env g dr os h t es vs t') (he : true = plainE e) :
    Pevs M A env g dr os h tk (e :: es) (v :: vs) t' := ⟨by rw [List.all_cons, ← he, ps.pl]; rfl, fun pos Q E q => args_cons (p.run _ _ (ps.run pos (fun vs s₂ => Q (v :: vs) s₂) E q)) (star_plain he)⟩
end
section
variable {M : Model} {A : Around} {h₀ : Heap} {L a : Addr} {cn : Str} {cs : Scope} {ccd : Value} {cl : List (Str × Addr)} {g : Array GenState} {dr : Drawn} {os : OsState}
theorem pv_nm (hk : ScopeKind.function = cs.kind) {h : Heap} {m : Str → Option Value} (F : Fr h₀ L h m) {x : Str} {v : Value} (hv : some v = m x) (hx : some NameKind.local = cs.names.lookup x) (hd : (x == ("__debug__" : Str)) = false) {pos : Pos} {tk : Nat} :
    Pev M A (envX cn cs L a ccd cl) g dr os h tk (.Name x pos) v tk := ⟨fun _ _ q => nmL (s := ⟨h, g, dr, tk, os⟩) hk F hv hx hd q⟩
theorem pv_C (hk : ScopeKind.function = cs.kind) {h : Heap} {news : Led} (N : News h₀ L h news) {x : Str} {c : Addr} (hc : some c = cl.lookup x) {o : Obj} (hm : (c, o) ∈ news) {v : Value} (hd : o.data = .cell (some v)) (hx : some NameKind.cell = cs.names.lookup x) (hb : (x == ("__debug__" : Str)) = false) {pos : Pos} {tk : Nat} :
    Pev M A (envX cn cs L a ccd cl) g dr os h tk (.Name x pos) v tk := ⟨fun _ _ q => nameX_C (s := ⟨h, g, dr, tk, os⟩) N hc.symm hm hd q hk.symm hx.symm hb⟩
theorem pv_K {K : Frag} {mg mb : Str → Option Value} {p : Program} {loose : List Str} (hk : ScopeKind.function = cs.kind) (X : K.In h₀) (T : TopRead p loose mg mb h₀) {h : Heap} {m : Str → Option Value} (F : Fr h₀ L h m) {x : Str} {v : Value} (e : nsIn K mainGlobals x = some (some v))
    (hx : some NameKind.globalImplicit = cs.names.lookup x) (hd : (x == ("__debug__" : Str)) = false) {pos : Pos} {tk : Nat} : Pev M A (envX cn cs L a ccd cl) g dr os h tk (.Name x pos) v tk := ⟨fun _ _ q => nmK (s := ⟨h, g, dr, tk, os⟩) hk X T F e hx hd q⟩
theorem pv_B {K : Frag} {mg mb : Str → Option Value} {p : Program} {loose : List Str} (hk : ScopeKind.function = cs.kind) (X : K.In h₀) (T : TopRead p loose mg mb h₀) {h : Heap} {m : Str → Option Value} (F : Fr h₀ L h m) {x : Str} {v : Value} (e : nsIn K mainGlobals x = some none) (hv : bootBuiltins x = some v) (hn : x ≠ "__name__")
    (hx : some NameKind.globalImplicit = cs.names.lookup x) (hd : (x == ("__debug__" : Str)) = false) {pos : Pos} {tk : Nat} : Pev M A (envX cn cs L a ccd cl) g dr os h tk (.Name x pos) v tk := ⟨fun _ _ q => nmB (s := ⟨h, g, dr, tk, os⟩) hk X T F e hv hn hx hd q⟩
end
theorem pv_attr {prog : Program} {w : World} {A : Around} {h₀ : Heap} {L a : Addr} {cn : Str} {cs : Scope} {ccd : Value} {cl : List (Str × Addr)} {g : Array GenState} {dr : Drawn} {os : OsState} {K : Frag} (hk : ScopeKind.function = cs.kind) (X : K.In h₀) {h : Heap} {m : Str → Option Value} (F : Fr h₀ L h m) {news : Led} (N : News h₀ L h news)
    {x : Str} {b : Addr} (hv : some (Value.ref b) = m x) (hx : some NameKind.local = cs.names.lookup x) (hd : (x == ("__debug__" : Str)) = false) {C dx : Addr} {sl : Array (Option Value)} {es : List DictEntry} {n : Nat} (h1 : (b, (⟨.ref C, some dx, .plain, sl⟩ : Obj)) ∈ news) (h2 : (dx, dictOf es n) ∈ news)
    {attr : Str} {oa : Option Value} (hg : plainGet K C attr = true) (hh : hasDictIn K C = true) (ha : findIn K (.ref C) attr = some oa) (hn : noGet K oa = true) {v : Value} (hl : getL attr es = some (some v)) (hi : true = handedIn v) {xp pos : Pos} {tk : Nat} :
    Pev (model prog w) A (envX cn cs L a ccd cl) g dr os h tk (.Attribute (.Name x xp) attr pos) v (tk + 1) := ⟨fun _ _ q =>
  Attribute_Name_ (nmL (s := ⟨h, g, dr, tk, os⟩) hk F hv hx hd (get_own (s := ⟨h, g, dr, tk, os⟩) F X (InstAt.of_news N h1 h2) hg hh ha hn hl hi.symm q))⟩
section
variable {M : Model} {A : Around} {env : Env} {E : Value → Shared → Prop} {g : Array GenState} {dr : Drawn} {os : OsState} {h : Heap} {tk t t' : Nat}
theorem pe_eval {e : PySem.Expr} {v : Value} (p : Pev M A env g dr os h tk e v t) {Q : Value → Shared → Prop} (q : Q v ⟨h, g, dr, t, os⟩) : wpAny M A (eval e env) Q E ⟨h, g, dr, tk, os⟩ := p.run _ _ q
theorem pe_args {es : List PySem.Expr} {vs : List Value} (p : Pevs M A env g dr os h tk es vs t) {pos : Pos} {Q : List Value → Shared → Prop} (q : Q vs ⟨h, g, dr, t, os⟩) : wpAny M A (spliced (backTo pos (starEach es env))) Q E ⟨h, g, dr, tk, os⟩ := p.run _ _ _ q
theorem pe_binop {l r : PySem.Expr} {a b : Value} (p : Pev M A env g dr os h tk l a t) (p' : Pev M A env g dr os h t r b t') {op : Operator} {pos : Pos} {Q : Value → Shared → Prop} (q : wpAny M A (binaryOp op a b) Q E ⟨h, g, dr, t', os⟩) :
    wpAny M A (eval (.BinOp l op r pos) env) Q E ⟨h, g, dr, tk, os⟩ := wpAny_BinOp (p.run _ _ (p'.run _ _ q))
theorem pe_binopL {l r : PySem.Expr} {a : Value} (p : Pev M A env g dr os h tk l a t) {op : Operator} {pos : Pos} {Q : Value → Shared → Prop} (q : wpAny M A (eval r env) (fun b s₂ => wpAny M A (binaryOp op a b) Q E s₂) E ⟨h, g, dr, t, os⟩) :
    wpAny M A (eval (.BinOp l op r pos) env) Q E ⟨h, g, dr, tk, os⟩ := wpAny_BinOp (p.run _ _ q)
theorem pe_cmp {l r : PySem.Expr} {a b : Value} (p : Pev M A env g dr os h tk l a t) (p' : Pev M A env g dr os h t r b t') {op : CmpOp} {pos : Pos} (hm : behindInMarks op r = false) {Q : Value → Shared → Prop} (q : wpAny M A (compareOp op a b) Q E ⟨h, g, dr, t', os⟩) :
    wpAny M A (eval (.Compare l [op] [r] pos) env) Q E ⟨h, g, dr, tk, os⟩ := wpAny_Compare1 (p.run _ _ (p'.run _ _ q)) hm
theorem pe_cmpL {l r : PySem.Expr} {a : Value} (p : Pev M A env g dr os h tk l a t) {op : CmpOp} {pos : Pos} (hm : behindInMarks op r = false) {Q : Value → Shared → Prop} (q : wpAny M A (eval r env) (fun b s₂ => wpAny M A (compareOp op a b) Q E s₂) E ⟨h, g, dr, t, os⟩) :
    wpAny M A (eval (.Compare l [op] [r] pos) env) Q E ⟨h, g, dr, tk, os⟩ := wpAny_Compare1 (p.run _ _ q) hm
theorem pe_test {l r : PySem.Expr} {a b : Value} (p : Pev M A env g dr os h tk l a t) (p' : Pev M A env g dr os h t r b t') {op : CmpOp} {pos : Pos} (hm : behindInMarks op r = false) {whole : Sem Value} {Q : Bool → Shared → Prop}
    (q : wpAny M A (compareOp op a b) (fun c s₃ => wpAny M A (truthy c) Q E s₃) E ⟨h, g, dr, t', os⟩) : wpAny M A (isTrue (.Compare l [op] [r] pos) env whole) Q E ⟨h, g, dr, tk, os⟩ := wpAny_isTrue_Compare1 (p.run _ _ (p'.run _ _ q)) hm
theorem pe_testL {l r : PySem.Expr} {a : Value} (p : Pev M A env g dr os h tk l a t) {op : CmpOp} {pos : Pos} (hm : behindInMarks op r = false) {whole : Sem Value} {Q : Bool → Shared → Prop}
    (q : wpAny M A (eval r env) (fun b s₂ => wpAny M A (compareOp op a b) (fun c s₃ => wpAny M A (truthy c) Q E s₃) E s₂) E ⟨h, g, dr, t, os⟩) : wpAny M A (isTrue (.Compare l [op] [r] pos) env whole) Q E ⟨h, g, dr, tk, os⟩ := wpAny_isTrue_Compare1 (p.run _ _ q) hm
theorem pe_truthN {x : Str} {xp : Pos} {v : Value} (p : Pev M A env g dr os h tk (.Name x xp) v t) {Q : Bool → Shared → Prop} (q : wpAny M A (truthy v) Q E ⟨h, g, dr, t, os⟩) :
    wpAny M A (isTrue (.Name x xp) env (eval (.Name x xp) env)) Q E ⟨h, g, dr, tk, os⟩ := isTrue_plain (p.run _ _ q) rfl
theorem pe_truthA {o : PySem.Expr} {x : Str} {xp : Pos} {v : Value} (p : Pev M A env g dr os h tk (.Attribute o x xp) v t) {Q : Bool → Shared → Prop} (q : wpAny M A (truthy v) Q E ⟨h, g, dr, t, os⟩) :
    wpAny M A (isTrue (.Attribute o x xp) env (eval (.Attribute o x xp) env)) Q E ⟨h, g, dr, tk, os⟩ := isTrue_plain (p.run _ _ q) rfl
theorem pe_ret {e : PySem.Expr} {v : Value} (p : Pev M A env g dr os h tk e v t) {pos : Pos} {Q : Flow → Shared → Prop} (q : Q (.ret v) ⟨h, g, dr, t, os⟩) : wpAny M A (exec (.Return (some e) pos) env) Q E ⟨h, g, dr, tk, os⟩ := wpAny_Return_some (p.run _ _ q)
theorem pe_store {e : PySem.Expr} {v : Value} (p : Pev M A env g dr os h tk e v t) {x : Str} {pos' pos : Pos} (hs : pure false = swapsWith e (some (.Name x pos')) pos.line env) {Q : Flow → Shared → Prop} (q : wpAny M A (storeName env x v) (fun _ => Q .next) E ⟨h, g, dr, t, os⟩) :
    wpAny M A (exec (.Assign [.Name x pos'] e pos) env) Q E ⟨h, g, dr, tk, os⟩ := wpAny_Assign_Name (p.run _ _ q) hs.symm
theorem pe_put {e o : PySem.Expr} {v ov : Value} (p : Pev M A env g dr os h tk e v t) (p' : Pev M A env g dr os h t o ov t') {attr : Str} {pos' pos : Pos} (hs : pure false = swapsWith e (some (.Attribute o attr pos')) pos.line env) {Q : Flow → Shared → Prop} (q : wpAny M A (setAttr ov attr v) (fun _ => Q .next) E ⟨h, g, dr, t', os⟩) :
    wpAny M A (exec (.Assign [.Attribute o attr pos'] e pos) env) Q E ⟨h, g, dr, tk, os⟩ := plainObj_wpAny_Assign_Attribute (p.run _ _ (p'.run _ _ q)) hs.symm
theorem pe_sub {l r : PySem.Expr} {a b : Value} (p : Pev M A env g dr os h tk l a t) (p' : Pev M A env g dr os h t r b t') {pos : Pos} {Q : Value → Shared → Prop} (q : wpAny M A (subscriptTail l r a b) Q E ⟨h, g, dr, t', os⟩) :
    wpAny M A (eval (.Subscript l r pos) env) Q E ⟨h, g, dr, tk, os⟩ := Subscript_ (p.run _ _ (p'.run _ _ q))
theorem pe_subL {l r : PySem.Expr} {a : Value} (p : Pev M A env g dr os h tk l a t) {pos : Pos} {Q : Value → Shared → Prop} (q : wpAny M A (eval r env) (fun b s₂ => wpAny M A (subscriptTail l r a b) Q E s₂) E ⟨h, g, dr, t, os⟩) :
    wpAny M A (eval (.Subscript l r pos) env) Q E ⟨h, g, dr, tk, os⟩ := Subscript_ (p.run _ _ q)
theorem pe_tuple {es : List PySem.Expr} {vs : List Value} (p : Pevs M A env g dr os h tk es vs t) {k : Nat} {pos : Pos} {Q : Value → Shared → Prop} (q : wpAny M A (newTuple vs) Q E ⟨h, g, dr, t, os⟩) : wpAny M A (eval (.Tuple es k pos) env) Q E ⟨h, g, dr, tk, os⟩ := Tuple_ (p.run _ _ _ q)
theorem pe_list {es : List PySem.Expr} {vs : List Value} (p : Pevs M A env g dr os h tk es vs t) {pos : Pos} {Q : Value → Shared → Prop} (q : wpAny M A (newList vs) Q E ⟨h, g, dr, t, os⟩) : wpAny M A (eval (.List es pos) env) Q E ⟨h, g, dr, tk, os⟩ := List_ (p.run _ _ _ q)
theorem pe_call {x : Str} {xp : Pos} {v : Value} (p : Pev M A env g dr os h tk (.Name x xp) v t) {args : List PySem.Expr} {pos : Pos} {Q : Value → Shared → Prop}
    (q : wpAny M A (callWith pos v [] (backTo pos (starEach args env)) []) Q E ⟨h, g, dr, t, os⟩) : wpAny M A (eval (.Call (.Name x xp) args [] pos) env) Q E ⟨h, g, dr, tk, os⟩ := Call_ (p.run _ _ q) rfl
theorem pe_cwB {es : List PySem.Expr} {vs : List Value} (p : Pevs M A env g dr os h tk es vs t) (hn : true = !es.isEmpty) {id : String} {pos : Pos} {Q : Value → Shared → Prop} (q : wpAny M A (call (.builtin id) vs) Q E ⟨h, g, dr, t, os⟩) :
    wpAny M A (callWith pos (.builtin id) [] (backTo pos (starEach es env)) []) Q E ⟨h, g, dr, tk, os⟩ := by
  cases es with
  | nil => cases hn
  | cons e rest =>
    have hp := p.pl
    rw [List.all_cons, Bool.and_eq_true] at hp
    exact callWith_method1 (p.run _ _ _ q) (star_plain hp.1.symm) (any_plain hp.2)
theorem pe_cwB1 {es : List PySem.Expr} {vs : List Value} (p : Pevs M A env g dr os h tk es vs t) (hn : true = !es.isEmpty) {id : String} {pos : Pos} {self : Value} {Q : Value → Shared → Prop} (q : wpAny M A (call (.builtin id) (self :: vs)) Q E ⟨h, g, dr, t, os⟩) :
    wpAny M A (callWith pos (.builtin id) [self] (backTo pos (starEach es env)) []) Q E ⟨h, g, dr, tk, os⟩ := by
  cases es with
  | nil => cases hn
  | cons e rest =>
    have hp := p.pl
    rw [List.all_cons, Bool.and_eq_true] at hp
    exact callWith_method1 (p.run _ _ _ q) (star_plain hp.1.symm) (any_plain hp.2)
theorem pe_cwT {es : List PySem.Expr} {vs : List Value} (p : Pevs M A env g dr os h tk es vs t) (hn : true = !es.isEmpty) {T : String} {pos : Pos} {Q : Value → Shared → Prop} (q : wpAny M A (call (.type T) vs) Q E ⟨h, g, dr, t, os⟩) :
    wpAny M A (callWith pos (.type T) [] (backTo pos (starEach es env)) []) Q E ⟨h, g, dr, tk, os⟩ := by
  cases es with
  | nil => cases hn
  | cons e rest =>
    have hp := p.pl
    rw [List.all_cons, Bool.and_eq_true] at hp
    exact callWith_type1 (p.run _ _ _ q) (star_plain hp.1.symm) (any_plain hp.2)
theorem pe_cwR {K : Frag} {h₀ : Heap} {L : Addr} {m : Str → Option Value} (X : K.In h₀) (F : Fr h₀ L h m) {es : List PySem.Expr} {vs : List Value} (p : Pevs M A env g dr os h tk es vs t) (hn : true = !es.isEmpty) {f : Value} (hk : keepIn K f = true) {pos : Pos} {Q : Value → Shared → Prop}
    (q : wpAny M A (call f vs) Q E ⟨h, g, dr, t, os⟩) : wpAny M A (callWith pos f [] (backTo pos (starEach es env)) []) Q E ⟨h, g, dr, tk, os⟩ := by
  cases es with
  | nil => cases hn
  | cons e rest =>
    have hp := p.pl
    rw [List.all_cons, Bool.and_eq_true] at hp
    exact callWith_K X hk (p.run _ _ _ ⟨X.keeps F.keep, q⟩) (star_plain hp.1.symm) (any_plain hp.2)
theorem pe_cwR1 {K : Frag} {h₀ : Heap} {L : Addr} {m : Str → Option Value} (X : K.In h₀) (F : Fr h₀ L h m) {es : List PySem.Expr} {vs : List Value} (p : Pevs M A env g dr os h tk es vs t) (hn : true = !es.isEmpty) {f : Value} (hk : keepIn K f = true) {pos : Pos} {self : Value} {Q : Value → Shared → Prop}
    (q : wpAny M A (call f (self :: vs)) Q E ⟨h, g, dr, t, os⟩) : wpAny M A (callWith pos f [self] (backTo pos (starEach es env)) []) Q E ⟨h, g, dr, tk, os⟩ := by
  cases es with
  | nil => cases hn
  | cons e rest =>
    have hp := p.pl
    rw [List.all_cons, Bool.and_eq_true] at hp
    exact callWith_K X hk (p.run _ _ _ ⟨X.keeps F.keep, q⟩) (star_plain hp.1.symm) (any_plain hp.2)
theorem pe_cwZ {K : Frag} {h₀ : Heap} {L : Addr} {m : Str → Option Value} (X : K.In h₀) (F : Fr h₀ L h m) {f : Value} (hk : keepIn K f = true) {pos : Pos} {Q : Value → Shared → Prop}
    (q : wpAny M A (call f []) Q E ⟨h, g, dr, tk, os⟩) : wpAny M A (callWith pos f [] (backTo pos (starEach [] env)) []) Q E ⟨h, g, dr, tk, os⟩ := callWith_K0 (s := ⟨h, g, dr, tk, os⟩) (X.keeps F.keep) hk q
theorem pe_cwZ1 {K : Frag} {h₀ : Heap} {L : Addr} {m : Str → Option Value} (X : K.In h₀) (F : Fr h₀ L h m) {f : Value} (hk : keepIn K f = true) {pos : Pos} {self : Value} {Q : Value → Shared → Prop}
    (q : wpAny M A (call f [self]) Q E ⟨h, g, dr, tk, os⟩) : wpAny M A (callWith pos f [self] (backTo pos (starEach [] env)) []) Q E ⟨h, g, dr, tk, os⟩ := callWith_K0 (s := ⟨h, g, dr, tk, os⟩) (X.keeps F.keep) hk q
end
/-- a dict's entries by its keys and its values -/
noncomputable def mkEs : List (Str × Int × Tok) → List Value → List DictEntry
  | (n, h, t) :: ks, v :: vs => ⟨h, .str n t, v⟩ :: mkEs ks vs
  | _, _ => []
/-- a store under a key that is there -/
noncomputable def PutK (name : Str) (v : Value) (es es' : List DictEntry) (n : Nat) : Prop := (∀ hs key, (putL name hs key v es, putN name es n) = (es', n)) ∧ (getL name es).isSome = true ∧ es'.length ≤ 1000
theorem pe_setA {prog : Program} {w : World} {A : Around} {h₀ : Heap} {L a : Addr} {cn : Str} {cs : Scope} {ccd : Value} {cl : List (Str × Addr)} {E : Value → Shared → Prop} {g : Array GenState} {dr : Drawn} {os : OsState} {K : Frag} (hk : ScopeKind.function = cs.kind) (X : K.In h₀) {h : Heap} {m : Str → Option Value} (F : Fr h₀ L h m) {news : Led} (N : News h₀ L h news)
    {x : Str} {b : Addr} (hv : some (Value.ref b) = m x) (hx : some NameKind.local = cs.names.lookup x) (hd : (x == ("__debug__" : Str)) = false) {C dx : Addr} {sl : Array (Option Value)} (h1 : (b, (⟨.ref C, some dx, .plain, sl⟩ : Obj)) ∈ news) {tk : Nat} {e : PySem.Expr} {v : Value} {t : Nat} (p : Pev (model prog w) A (envX cn cs L a ccd cl) g dr os h tk e v t)
    {es es' : List DictEntry} {n : Nat} (h2 : (dx, dictOf es n) ∈ news) {attr : Str} (hs : findIn K (.ref C) "__setattr__" = some (some (.builtin "object.__setattr__"))) (hp : plainOver K C = true) (ht : takerIn K C attr = some none) (hh : hasDictIn K C = true) (hput : PutK attr v es es' n) {news' : Led} (U : Upd dx (dictOf es n) (dictOf es' n) news news')
    {xp pos' pos : Pos} (hw : pure false = swapsWith e (some (.Attribute (.Name x xp) attr pos')) pos.line (envX cn cs L a ccd cl)) {Q : Flow → Shared → Prop} (q : ∀ h', Fr h₀ L h' m → News h₀ L h' news' → Q .next ⟨h', g, dr, t + 2, os⟩) :
    wpAny (model prog w) A (exec (.Assign [.Attribute (.Name x xp) attr pos'] e pos) (envX cn cs L a ccd cl)) Q E ⟨h, g, dr, tk, os⟩ :=
  pe_put p (pv_nm hk F hv hx hd) hw (set_dict (s := ⟨h, g, dr, t, os⟩) F X N (InstAt.of_news N h1 h2) rfl hs hp ht hh hput.2.1 (hput.1 _ _) U hput.2.2 q)
theorem pe_setV {prog : Program} {w : World} {A : Around} {h₀ : Heap} {L : Addr} {E : Value → Shared → Prop} {g : Array GenState} {dr : Drawn} {os : OsState} {K : Frag} (X : K.In h₀) {h : Heap} {m : Str → Option Value} (F : Fr h₀ L h m) {news : Led} (N : News h₀ L h news) {b C dx : Addr} {sl : Array (Option Value)} (h1 : (b, (⟨.ref C, some dx, .plain, sl⟩ : Obj)) ∈ news) {tk : Nat} {v : Value}
    {es es' : List DictEntry} {n : Nat} (h2 : (dx, dictOf es n) ∈ news) {attr : Str} (hs : findIn K (.ref C) "__setattr__" = some (some (.builtin "object.__setattr__"))) (hp : plainOver K C = true) (ht : takerIn K C attr = some none) (hh : hasDictIn K C = true) (hput : PutK attr v es es' n) {news' : Led} (U : Upd dx (dictOf es n) (dictOf es' n) news news')
    {Q : Unit → Shared → Prop} (q : ∀ h', Fr h₀ L h' m → News h₀ L h' news' → Q () ⟨h', g, dr, tk + 2, os⟩) : wpAny (model prog w) A (setAttr (.ref b) attr v) Q E ⟨h, g, dr, tk, os⟩ :=
  set_dict (s := ⟨h, g, dr, tk, os⟩) F X N (InstAt.of_news N h1 h2) rfl hs hp ht hh hput.2.1 (hput.1 _ _) U hput.2.2 q
local macro_rules | `(tactic| walk_at $s:str) => if ["callWith ref", "eval Name", "call type:list", "assign Tuple", "binaryOp Add ref ref", "call builtin:len", "subscriptTail", "call type:bytes", "binaryOp Add bytes bytes", "compareOp NotEq ref ref", "setItem ref str", "call builtin:sorted", "setAttr ref", "call builtin:list.append"].contains s.getString then `(tactic| k_extra $(Lean.Syntax.mkStrLit ("x " ++ s.getString))) else Lean.Macro.throwUnsupported
local macro_rules | `(tactic| k_all) => `(tactic| walk_at "apart")
local macro_rules | `(tactic| k_lt $h:ident) => `(tactic| (replace $h := allLt_of $h; (try dsimp only [AllLt] at $h:ident); (repeat (have _ := And.left $h; replace $h := And.right $h))))
theorem rows1 : True := by
  k_with "mem" => (first | exact List.Mem.head _ | assumption | (refine List.Mem.tail _ ?_; walk_at "mem") | (refine List.mem_append_left _ ?_; walk_at "mem") | (refine List.mem_append_right _ ?_; walk_at "mem"))
  k_with "sub" => (first | exact fun _ h => h | exact all_nil | (refine all_cons ?_ ?_; (walk_at "mem"); walk_at "sub") | (refine all_app ?_ ?_ <;> walk_at "sub") | (intro zp zh9; walk_at "mem"))
  k_with "below" => (first | assumption | (refine below_a (by first | (assumption))) | (refine below_al (by first | (assumption))) | (refine below_ar (by first | (assumption))) | (refine below_l (by first | (assumption))) | (refine below_r (by first | (assumption))))
  k_with "apart" => (first | assumption | (refine lt_ne ?_; walk_at "below") | (refine off_ne (by first | (assumption)) ?_; walk_at "mem") | (refine all_app ?_ ?_ <;> walk_at "apart") | exact all_nil | (refine all_cons ?_ ?_; (k_ne); walk_at "apart"))
  k_with "ne" => (first | exact all_nil | (refine lt_adr ?_; walk_at "below") | (refine adr_ne ?_; assumption) | (refine all_cons ?_ ?_; (first | assumption | (refine neN ?_; (try dsimp only); lia)); walk_at "ne"))
  k_with "off" => (((try simp only [List.map_cons, List.map_nil, List.nil_append, List.cons_append]); first | assumption | (refine off_tl (by first | (assumption))) | exact off_nil | exact off_nilL | (refine off_c ?_ ?_; (walk_at "ne"); walk_at "off") | (refine off_app ?_ ?_ <;> walk_at "off") | (refine off_a ?_ ?_; (walk_at "apart"); walk_at "off")))
  k_with "x eval Name" => ((k_here; k_dflt (first | (refine nmL (by first | (exact rfl)) (by first | (k_asm)) (by first | (exact rfl)) (by first | (exact rfl)) (by first | (decide)) ?_; k_whole) | (refine nmK (by first | (exact rfl)) (by first | (k_asm)) (by first | (k_asm)) (by first | (k_asm)) (by first | (k_is)) (by first | (exact rfl)) (by first | (decide)) ?_; k_whole) | (refine nmB (by first | (exact rfl)) (by first | (k_asm)) (by first | (k_asm)) (by first | (k_asm)) (by first | (k_is)) (by first | (boot_fast)) (by first | (decide)) (by first | (exact rfl)) (by first | (decide)) ?_; k_whole))))
  k_with "isList" => ((refine News.isList (by first | (k_asm)) (by first | (walk_at "mem"))))
  k_with "isTup" => ((refine News.isTup (by first | (k_asm)) (by first | (walk_at "mem"))))
  k_with "size" => (((try simp only [sizeLine_eq, List.size_toArray, List.length_append, List.length_cons, List.length_nil]); first | exact size0 (by assumption) (Nat.le_of_ble_eq_true rfl) | exact size1 (by assumption) (Nat.le_of_ble_eq_true rfl) | lia))
  k_with "x call type:list" => ((k_here; (with_reducible show wpAny _ _ (call (Value.type "list") [Value.ref _]) _ _ _); (with_unfolding_all refine list_copyK (by first | (k_asm)) (by first | (k_asm)) (by first | (walk_at "isList")) ?_ (by first | (walk_at "size")); k_whole); intro zD zc zh zF zN zl; (try k_lt zl); (try k_sweep)))
  k_with "x assign Tuple" => ((k_here; (with_reducible show wpAny _ _ (assign (Expr.Tuple _ _ _) _ (Value.ref _)) _ _ _); k_dflt (refine unpackN_ (by first | (k_asm)) (by first | (k_asm)) (by first | (walk_at "isTup")) (by first | (exact rfl)) (by first | (exact rfl)) (by first | (exact rfl)) ?_; k_whole); intro zh zF zN; (try k_sweep)))
  k_with "x call builtin:list.append" => ((k_here; (with_reducible show wpAny _ _ (call (Value.builtin "list.append") [Value.ref _, _]) _ _ _); k_dflt (refine append_L (by first | (k_asm)) (by first | (k_asm)) (by first | (k_upd)) ?_ (by first | (walk_at "size")); k_whole); intro zh zF zN; (try k_sweep)))
  k_with "x binaryOp Add ref ref" => ((k_here; (with_reducible show wpAny _ _ (binaryOp Operator.Add (Value.ref _) (Value.ref _)) _ _ _); k_dflt (refine add_LL (by first | (k_asm)) (by first | (k_asm)) (by first | (walk_at "isList")) (by first | (walk_at "isList")) ?_ (by first | (walk_at "size"))); intro zD zh zF zN zl; (try k_lt zl); (try k_sweep)))
  k_with "exec For" => ((k_here; (rename Fr _ _ _ _ => zlF); refine For_turns zlF ?_))
  k_with "x call builtin:len" => ((k_here; (with_reducible show wpAny _ _ (call (Value.builtin "len") [Value.ref _]) _ _ _); k_dflt (refine len_L (by first | (walk_at "isList")) (by first | (walk_at "size")) ?_); intro zt ztk; (try simp only [List.length_cons, List.length_nil])))
  k_with "x subscriptTail" => ((k_here; (with_reducible show wpAny _ _ (subscriptTail _ _ (Value.ref _) (Value.int _ _)) _ _ _); (with_unfolding_all refine item_L (by first | (walk_at "isList")) (by first | decide | lia) (by first | decide | lia) (by first | rfl | assumption) ?_ (by first | (with_unfolding_all rfl)); k_whole)))
  k_with "binds" => (((try dsimp only); repeat' (first | exact all_nil | (refine all_cons ?_ ?_; (first | exact rfl | assumption)))))
  k_with "room" => (first | exact room1 (by assumption) (Nat.le_of_ble_eq_true rfl) | exact room0 (by assumption) (Nat.le_of_ble_eq_true rfl) | ((try dsimp only [ktrTop, Around.deeper] at *); lia))
  k_with "use" => (((case B => k_asm); (case F => k_asm); (case X => k_asm); (case N => k_asm); (case S => walk_at "sub"); (case O => walk_at "off"); (case T => k_asm); (case K => exact rfl); (case D => walk_at "room"); (case U => walk_at "room")))
  k_with "compareOp NotIn" => ((k_here; (with_reducible show wpAny _ _ (compareOp CmpOp.NotIn (Value.str _ _) (Value.ref 77)) _ _ _); (with_unfolding_all refine notin_tuple_strs (by first | ((refine kun_topT (by first | (k_asm)) (by first | (k_asm)) (by first | (k_is))))) (by first | (kde_strs)) ?_)))
  k_with "x call type:bytes" => ((k_here; (with_reducible show wpAny _ _ (call (Value.type "bytes") [Value.bytes _ _]) _ _ _); refine call_bytes_bytes ?_))
  k_with "x call builtin:len" => ((k_here; (with_reducible show wpAny _ _ (call (Value.builtin "len") [Value.bytes (List.toArray _) _]) _ _ _); refine len_B (by first | (walk_at "size")) ?_; intro zt ztk))
  k_with "x binaryOp Add bytes bytes" => ((k_here; (with_reducible show wpAny _ _ (binaryOp Operator.Add (Value.bytes (List.toArray _) _) (Value.bytes (List.toArray _) _)) _ _ _); refine add_BB (by first | (walk_at "size")) ?_; intro zt ztk))
  k_with "x subscriptTail" => ((k_here; (with_reducible show wpAny _ _ (subscriptTail _ (PySem.Expr.Slice _ _ none _) (Value.bytes (List.toArray _) _) (Value.ref _)) _ _ _); (with_reducible rename Fr _ _ _ _ => zF); (with_reducible rename News _ _ _ _ => zN); (refine slice_B (s := ⟨_, _, _, _, _⟩) zF zN (by first | (constructor)) (by first | (constructor)) (by first | (walk_at "size")) ?_ (by first | (with_unfolding_all rfl)) (by first | ((intro _; with_unfolding_all rfl)))); intro _ _ _ zF zN; (try k_sweep)))
  trivial
theorem sw1 {M own : Led} {x : Addr × Obj} : ∀ p ∈ M ++ (x :: own), p ∈ x :: (M ++ own) := by walk_at "sub"
theorem sw11 {M own : Led} {x y : Addr × Obj} : ∀ p ∈ (y :: M) ++ (x :: own), p ∈ x :: y :: (M ++ own) := by walk_at "sub"
theorem sw21 {M own : Led} {x z y : Addr × Obj} : ∀ p ∈ (y :: M) ++ (x :: z :: own), p ∈ x :: z :: y :: (M ++ own) := by walk_at "sub"
theorem sw2 {M own : Led} {x y : Addr × Obj} : ∀ p ∈ M ++ (x :: y :: own), p ∈ x :: y :: (M ++ own) := by walk_at "sub"
theorem sw3 {M own : Led} {x y z : Addr × Obj} : ∀ p ∈ M ++ (x :: y :: z :: own), p ∈ x :: y :: z :: (M ++ own) := by walk_at "sub"
theorem sw4 {M own : Led} {x y z u : Addr × Obj} : ∀ p ∈ M ++ (x :: y :: z :: u :: own), p ∈ x :: y :: z :: u :: (M ++ own) := by walk_at "sub"
theorem swS1 {R own : Led} {t x d : Addr × Obj} : ∀ p ∈ (x :: d :: R) ++ (t :: own), p ∈ t :: x :: d :: (R ++ own) := by walk_at "sub"
theorem swS2 {R own : Led} {t u x d : Addr × Obj} : ∀ p ∈ (x :: d :: R) ++ (t :: u :: own), p ∈ t :: u :: x :: d :: (R ++ own) := by walk_at "sub"
theorem rows2 : True := by
  k_with "pv" => (first | (with_reducible exact pv_int) | (with_reducible exact pv_str) | (with_reducible exact pv_bool) | (with_reducible exact pv_none) | (refine pv_nm (by first | (exact rfl)) (by first | (k_asm)) (by first | (exact rfl)) (by first | (exact rfl)) (by first | (decide))) | (refine pv_K (by first | (exact rfl)) (by first | (k_asm)) (by first | (k_asm)) (by first | (k_asm)) (by first | (k_is)) (by first | (exact rfl)) (by first | (decide))) | (refine pv_B (by first | (exact rfl)) (by first | (k_asm)) (by first | (k_asm)) (by first | (k_asm)) (by first | (k_is)) (by first | (boot_fast)) (by first | (decide)) (by first | (exact rfl)) (by first | (decide))) | (refine pv_attr (by first | (exact rfl)) (by first | (k_asm)) (by first | (k_asm)) (by first | (k_asm)) (by first | (exact rfl)) (by first | (exact rfl)) (by first | (decide)) (by first | (k_mem)) (by first | (k_mem)) (by first | (k_is)) (by first | (k_is)) (by first | (k_is)) (by first | (k_is)) (by first | (k_get)) (by first | (exact rfl))))
  k_with "pvs" => (first | (with_reducible exact pvs_nil) | (refine pvs_cons (by first | (walk_at "pv")) (by first | (walk_at "pvs")) (by first | (exact rfl))))
  k_with "spliced" => ((k_here; k_dflt (refine pe_args (by first | (walk_at "pvs")) ?_; k_whole); (try dsimp only [List.nil_append, List.cons_append])))
  k_with "eval Tuple" => ((k_here; k_dflt (refine pe_tuple (by first | (walk_at "pvs")) ?_; k_whole)))
  k_with "eval List" => ((k_here; k_dflt (refine pe_list (by first | (walk_at "pvs")) ?_; k_whole)))
  k_with "eval Attribute" => ((k_here; k_dflt (refine pe_eval (by first | (walk_at "pv")) ?_; k_whole)))
  k_with "eval BinOp" => ((k_here; k_dflt (first | (refine pe_binop (by first | (walk_at "pv")) (by first | (walk_at "pv")) ?_; k_whole) | (refine pe_binopL (by first | (walk_at "pv")) ?_; k_whole))))
  k_with "eval Subscript" => ((k_here; k_dflt (first | (refine pe_sub (by first | (walk_at "pv")) (by first | (walk_at "pv")) ?_; k_whole) | (refine pe_subL (by first | (walk_at "pv")) ?_; k_whole))))
  k_with "eval Compare" => ((k_here; k_dflt (first | (refine pe_cmp (by first | (walk_at "pv")) (by first | (walk_at "pv")) (by first | (with_unfolding_all rfl)) ?_; k_whole) | (refine pe_cmpL (by first | (walk_at "pv")) (by first | (with_unfolding_all rfl)) ?_; k_whole))))
  k_with "isTrue Compare" => ((k_here; k_dflt (first | (refine pe_test (by first | (walk_at "pv")) (by first | (walk_at "pv")) (by first | (with_unfolding_all rfl)) ?_; k_whole) | (refine pe_testL (by first | (walk_at "pv")) (by first | (with_unfolding_all rfl)) ?_; k_whole))))
  k_with "isTrue" => ((k_here; k_dflt (first | (refine pe_truthN (by first | (walk_at "pv")) ?_; k_whole) | (refine pe_truthA (by first | (walk_at "pv")) ?_; k_whole))))
  k_with "exec Return some" => ((k_here; k_dflt (refine pe_ret (by first | (walk_at "pv")) ?_; k_whole)))
  k_with "exec Assign" => ((k_here; (with_reducible show wpAny _ _ (exec (Stmt.Assign [PySem.Expr.Attribute _ _ _] _ _) _) _ _ _); k_dflt (refine pe_put (by first | (walk_at "pv")) (by first | (walk_at "pv")) (by first | (exact rfl)) ?_; k_whole)))
  k_with "exec Assign" => ((k_here; (with_reducible show wpAny _ _ (exec (Stmt.Assign [PySem.Expr.Name _ _] _ _) _) _ _ _); k_dflt (refine pe_store (by first | (walk_at "pv")) (by first | (exact rfl)) ?_; k_whole)))
  k_with "eval Call Name" => ((k_here; k_dflt (refine pe_call (by first | (walk_at "pv")) ?_; k_whole)))
  k_with "callWith" => ((k_here; (with_reducible show wpAny _ _ (callWith _ (Value.builtin _) [] (backTo _ (starEach (_ :: _) _)) _) _ _ _); k_dflt (refine pe_cwB (by first | (walk_at "pvs")) (by first | (exact rfl)) ?_; k_whole)))
  k_with "callWith" => ((k_here; (with_reducible show wpAny _ _ (callWith _ (Value.builtin _) [_] (backTo _ (starEach (_ :: _) _)) _) _ _ _); k_dflt (refine pe_cwB1 (by first | (walk_at "pvs")) (by first | (exact rfl)) ?_; k_whole)))
  k_with "callWith" => ((k_here; (with_reducible show wpAny _ _ (callWith _ (Value.type _) [] (backTo _ (starEach (_ :: _) _)) _) _ _ _); k_dflt (refine pe_cwT (by first | (walk_at "pvs")) (by first | (exact rfl)) ?_; k_whole)))
  k_with "x callWith ref" => ((k_here; (with_reducible show wpAny _ _ (callWith _ (Value.ref _) [] (backTo _ (starEach (_ :: _) _)) _) _ _ _); k_dflt (refine pe_cwR (by first | (k_asm)) (by first | (k_asm)) (by first | (walk_at "pvs")) (by first | (exact rfl)) (by first | (k_is)) ?_; k_whole)))
  k_with "x callWith ref" => ((k_here; (with_reducible show wpAny _ _ (callWith _ (Value.ref _) [_] (backTo _ (starEach (_ :: _) _)) _) _ _ _); k_dflt (refine pe_cwR1 (by first | (k_asm)) (by first | (k_asm)) (by first | (walk_at "pvs")) (by first | (exact rfl)) (by first | (k_is)) ?_; k_whole)))
  k_with "x callWith ref" => ((k_here; (with_reducible show wpAny _ _ (callWith _ (Value.ref _) [] (backTo _ (starEach [] _)) _) _ _ _); k_dflt (refine pe_cwZ (by first | (k_asm)) (by first | (k_asm)) (by first | (k_is)) ?_; k_whole)))
  k_with "x callWith ref" => ((k_here; (with_reducible show wpAny _ _ (callWith _ (Value.ref _) [_] (backTo _ (starEach [] _)) _) _ _ _); k_dflt (refine pe_cwZ1 (by first | (k_asm)) (by first | (k_asm)) (by first | (k_is)) ?_; k_whole)))
  trivial
inductive cutJ (M : Led) (v : Value) (sp : List Sp) (lo hi : Int) (tlo thi : Tok) (i : Nat) (m : Str → Option Value) (C T : Led) : Prop
  | mk : ∀ f fs c found, C = (f, listOf (List.toArray fs) c) :: M → (∀ p ∈ M, p.1 ≠ f) → (sp.take i).foldl (cutStep lo hi) [] = found → found.length ≤ 2 * i → (∀ p ∈ [((Str.ofString "found" : Str), Value.ref f), (Str.ofString "low", .int lo tlo), (Str.ofString "high", .int hi thi), (Str.ofString "spans", v)], m p.1 = some p.2) → All2 (SpanV T) fs found → cutJ M v sp lo hi tlo thi i m C T
theorem cut_span_ok (w : World) (M own : Led) (v : Value) (sp : List Sp) (lo hi : Int) (tlo thi : Tok) (hv : ListV SpanV own v sp) (hsz : sp.length ≤ 100000) :
    Calls w 55 10 100 [v, .int lo tlo, .int hi thi] M own (fun r M' T => PLst SpanV M (cutSpan sp lo hi) T r M') := by
  intro prog mean mg mb dp un gd cn cs a ccd cl outer A₀ base h₀ L m s Q E B F X N off T hk hdp hun hret
  obtain ⟨l, n, vs, rfl, hl, hvs⟩ := hv
  have hl' := List.mem_append_right M hl
  have hlen := hvs.length
  refine wpAny_call ?_
  k_dflt ktr_enter
  k_steps
  rename Fr _ _ _ _ => F1
  rename News _ _ _ _ => N1
  refine iter_list (C₀ := _ :: M) (tl := own) (cutJ M (.ref l) sp lo hi tlo thi) (by rfl) hl F1 N1 (by walk_at "off") ?_ ?_ ?_
  · exact ⟨_, [], 0, _, rfl, by walk_at "apart", rfl, Nat.le_refl _, by walk_at "binds", .nil⟩
  · clear F1 N1
    rintro i v mm C Tt T1 h tk hi' hv htl hT1 hoffT hC ⟨f, fs, c, found, rfl, hMf, hst, hfl, hm, hfs⟩ F2 N2
    obtain ⟨p, hp, a', n', u1, u2, rfl, hmem⟩ := hvs.get hv
    have hst2 := (take_step hp (cutStep lo hi) []).trans (congrArg (cutStep lo hi · p) hst)
    have hmem2 := List.mem_append_right M (hT1 _ (htl _ hmem))
    have hf2 := hfs.length
    have F3 := fr_of _ F2 hm
    simp only [List.cons_append] at N2
    rw [← hC] at hoffT ⊢
    simp only [List.map_cons] at hoffT
    dsimp only at *
    clear F2 hC hst hm hmem
    have hsz2 : fs.length ≤ 200000 := by lia
    k_steps
    all_goals dsimp only [TurnPost]
    · have c1 : p.1 < pmin p.2 lo := by assumption
      have c2 : pmax p.1 hi < p.2 := by assumption
      refine TurnEnd.intro (_ :: M) (_ :: _ :: T1) (by k_asm) (news_sub (by k_asm) sw21) (by walk_at "sub") (by walk_at "off") (by exact rfl) ?_
      intro T3 s3 _
      refine ⟨f, _, _, found ++ [(p.1, pmin p.2 lo)] ++ [(pmax p.1 hi, p.2)], rfl, hMf, hst2.trans ?_, ?_, by walk_at "binds", ((spans_mono hfs (.trans (.of fun q hq => .tail _ (.tail _ (hT1 _ hq))) s3)).snoc ⟨_, _, _, _, rfl, s3 _ (.tail _ (.head _)) (.inl rfl)⟩).snoc ⟨_, _, _, _, rfl, s3 _ (.head _) (.inl rfl)⟩⟩
      · unfold cutStep; dsimp only; rw [if_pos c2, if_pos c1]
      · (try simp); lia
    · have c1 : p.1 < pmin p.2 lo := by assumption
      have c2 : ¬ pmax p.1 hi < p.2 := by assumption
      refine TurnEnd.intro (_ :: M) (_ :: T1) (by k_asm) (news_sub (by k_asm) sw11) (by walk_at "sub") (by walk_at "off") (by exact rfl) ?_
      intro T3 s3 _
      refine ⟨f, _, _, found ++ [(p.1, pmin p.2 lo)], rfl, hMf, hst2.trans ?_, ?_, by walk_at "binds", (spans_mono hfs (.trans (.of fun q hq => .tail _ (hT1 _ hq)) s3)).snoc ⟨_, _, _, _, rfl, s3 _ (.head _) (.inl rfl)⟩⟩
      · unfold cutStep; dsimp only; rw [if_neg c2, if_pos c1]
      · (try simp); lia
    · have c1 : ¬ p.1 < pmin p.2 lo := by assumption
      have c2 : pmax p.1 hi < p.2 := by assumption
      refine TurnEnd.intro (_ :: M) (_ :: T1) (by k_asm) (news_sub (by k_asm) sw11) (by walk_at "sub") (by walk_at "off") (by exact rfl) ?_
      intro T3 s3 _
      refine ⟨f, _, _, found ++ [(pmax p.1 hi, p.2)], rfl, hMf, hst2.trans ?_, ?_, by walk_at "binds", (spans_mono hfs (.trans (.of fun q hq => .tail _ (hT1 _ hq)) s3)).snoc ⟨_, _, _, _, rfl, s3 _ (.head _) (.inl rfl)⟩⟩
      · unfold cutStep; dsimp only; rw [if_pos c2, if_neg c1]
      · (try simp); lia
    · have c1 : ¬ p.1 < pmin p.2 lo := by assumption
      have c2 : ¬ pmax p.1 hi < p.2 := by assumption
      refine TurnEnd.intro (_ :: M) (T1) (by k_asm) (by k_asm) (by walk_at "sub") (by walk_at "off") (by exact rfl) ?_
      intro T3 s3 _
      refine ⟨f, _, _, found, rfl, hMf, hst2.trans ?_, ?_, by walk_at "binds", spans_mono hfs (.trans (.of fun q hq => hT1 _ hq) s3)⟩
      · unfold cutStep; dsimp only; rw [if_neg c2, if_neg c1]
      · (try simp); lia
  · clear F1 N1
    rintro mm C Tt h tk htl hoffT hC ⟨f, fs, c, found, rfl, hMf, hst, hfl, hm, hfs⟩ F2 N2
    rw [hlen, List.take_length] at hst
    have hf2 := hfs.length
    have F3 := fr_of _ F2 hm
    have hlT := List.mem_append_right M (htl _ hl)
    simp only [List.cons_append, envOf_locals] at N2 F3
    rw [← hC] at hoffT
    simp only [List.map_cons] at hoffT
    dsimp only at *
    clear F2 hC hm
    have hsz2 : fs.length ≤ 200000 := by lia
    k_steps
    · have c1 : lo < hi := by assumption
      refine hret _ M (_ :: Tt) _ _ (by k_asm) (news_sub (by k_asm) sw1) (fun q hq => .tail _ (htl _ hq)) (by walk_at "off") ⟨_, _, _, .head _, ?_⟩
      unfold cutSpan; rw [if_pos c1, hst]
      exact spans_mono hfs (.of fun q hq => .tail _ hq)
    · have c1 : ¬ lo < hi := by assumption
      refine hret _ M (_ :: _ :: Tt) _ _ (by k_asm) (news_sub (by k_asm) sw2) (fun q hq => .tail _ (.tail _ (htl _ hq))) (by walk_at "off") ⟨_, _, _, .head _, ?_⟩
      unfold cutSpan; rw [if_neg c1]
      exact spans_mono hvs (.of fun q hq => .tail _ (.tail _ (htl _ hq)))
inductive hasJ (M : Led) (sp : List Sp) (lo hi : Int) (tlo thi : Tok) (i : Nat) (m : Str → Option Value) (C _T : Led) : Prop
  | mk : C = M → (∀ p ∈ sp.take i, ¬ (p.1 ≤ lo ∧ hi ≤ p.2)) → (∀ p ∈ [((Str.ofString "low" : Str), Value.int lo tlo), (Str.ofString "high", .int hi thi)], m p.1 = some p.2) → hasJ M sp lo hi tlo thi i m C _T
theorem take_all {α : Type} {P : α → Prop} {xs : List α} {i : Nat} {x : α} (h : xs[i]? = some x) (k : ∀ p ∈ xs.take i, P p) (hx : P x) : ∀ p ∈ xs.take (i + 1), P p := by
  rw [List.take_add_one, h]
  intro p hp
  rcases List.mem_append.mp hp with hp | hp
  · exact k p hp
  · simp at hp; rw [hp]; exact hx
theorem has_span_ok (w : World) (M own : Led) (v : Value) (sp : List Sp) (lo hi : Int) (tlo thi : Tok) (hv : ListV SpanV own v sp) :
    Calls w 62 10 100 [v, .int lo tlo, .int hi thi] M own (fun r M' _ => PRd (.bool (hasSpan sp lo hi)) M r M') := by
  intro prog mean mg mb dp un gd cn cs a ccd cl outer A₀ base h₀ L m s Q E B F X N off T hk hdp hun hret
  obtain ⟨l, n, vs, rfl, hl, hvs⟩ := hv
  have hlen := hvs.length
  refine wpAny_call ?_
  k_dflt ktr_enter
  k_steps
  · have c1 : lo ≥ hi := by assumption
    refine hret _ M own _ _ (by k_asm) (by k_asm) (by walk_at "sub") off (.of ?_)
    unfold hasSpan; rw [if_pos c1]
  · have c1 : ¬ lo ≥ hi := by assumption
    rename Fr _ _ _ _ => F1
    rename News _ _ _ _ => N1
    refine iter_list (C₀ := M) (tl := own) (hasJ M sp lo hi tlo thi) (by rfl) hl F1 N1 off ?_ ?_ ?_
    · exact ⟨rfl, fun p hp => (by simp at hp), by walk_at "binds"⟩
    · clear F1 N1
      rintro i v mm C Tt T1 h tk hi' hv htl hT1 hoffT hC ⟨rfl, hno, hm⟩ F2 N2
      obtain ⟨p, hp, a', n', u1, u2, rfl, hmem⟩ := hvs.get hv
      have hmem2 := List.mem_append_right C (hT1 _ (htl _ hmem))
      have F3 := fr_of _ F2 hm
      dsimp only at *
      clear F2 hm hmem
      k_steps
      · have c1 : p.1 ≤ lo := by assumption
        have c2 : hi ≤ p.2 := by assumption
        dsimp only [TurnPost]
        k_steps
        refine hret _ C T1 _ _ (by k_asm) (by k_asm) (fun q hq => hT1 _ (htl _ hq)) hoffT (.of ?_)
        unfold hasSpan; rw [if_neg (by assumption)]
        have : (sp.any fun p => decide (p.1 ≤ lo) && decide (hi ≤ p.2)) = true := List.any_eq_true.mpr ⟨p, List.mem_of_getElem? hp, by simp [c1, c2]⟩
        rw [this]
      · have c2 : ¬ hi ≤ p.2 := by assumption
        dsimp only [TurnPost]
        refine TurnEnd.intro C T1 (by k_asm) (by k_asm) (by walk_at "sub") hoffT (by exact rfl) ?_
        intro T3 s3 _
        exact ⟨rfl, take_all hp hno (fun q => c2 q.2), by walk_at "binds"⟩
      · have c2 : ¬ p.1 ≤ lo := by assumption
        dsimp only [TurnPost]
        refine TurnEnd.intro C T1 (by k_asm) (by k_asm) (by walk_at "sub") hoffT (by exact rfl) ?_
        intro T3 s3 _
        exact ⟨rfl, take_all hp hno (fun q => c2 q.1), by walk_at "binds"⟩
    · clear F1 N1
      rintro mm C Tt h tk htl hoffT hC ⟨rfl, hno, hm⟩ F2 N2
      rw [hlen, List.take_length] at hno
      have F3 := fr_of _ F2 hm
      simp only [envOf_locals] at N2 F3
      dsimp only at *
      clear F2 hm
      k_steps
      refine hret _ C Tt _ _ (by k_asm) (by k_asm) (fun q hq => htl _ hq) hoffT (.of ?_)
      unfold hasSpan; rw [if_neg (by assumption)]
      have : (sp.any fun p => decide (p.1 ≤ lo) && decide (hi ≤ p.2)) = false := by
        rw [List.any_eq_false]
        intro p hp
        have := hno p hp
        simp only [Bool.and_eq_true, decide_eq_true_eq]
        exact this
      rw [this]
theorem first_span_ok (w : World) (M own : Led) (v : Value) (sp : List Sp) (most : Int) (tm : Tok) (hv : ListV SpanV own v sp) (hsz : sp.length ≤ 100000) :
    Calls w 69 10 100 [v, .int most tm] M own (fun r M' T => PMt M (match firstSpan sp most with | none => r = .none | some p => SpanV T r p) M') := by
  intro prog mean mg mb dp un gd cn cs a ccd cl outer A₀ base h₀ L m s Q E B F X N off T hk hdp hun hret
  obtain ⟨l, n, vs, rfl, hl, hvs⟩ := hv
  have hlen := hvs.length
  have hl' := List.mem_append_right M hl
  cases hvs with
  | nil =>
    refine wpAny_call ?_
    k_dflt ktr_enter
    k_steps
    all_goals first | (exfalso; simp at *; done) | skip
    exact hret _ M own _ _ (by k_asm) (by k_asm) (by walk_at "sub") off ⟨rfl⟩
  | @cons v0 p vs sp hp hvs =>
    obtain ⟨a', n', u1, u2, rfl, hmem⟩ := hp
    have hmem2 := List.mem_append_right M hmem
    simp only [List.length_cons] at hlen hsz
    refine wpAny_call ?_
    k_dflt ktr_enter
    k_steps
    · exfalso; omega
    · have c1 : most ≤ 0 := by assumption
      refine hret _ M own _ _ (by k_asm) (by k_asm) (by walk_at "sub") off ⟨?_⟩
      have e : firstSpan (p :: sp) most = none := by unfold firstSpan; dsimp only; rw [if_pos c1]
      rw [e]
    · have c1 : ¬ most ≤ 0 := by assumption
      refine hret _ M (_ :: own) _ _ (by k_asm) (news_sub (by k_asm) sw1) (by walk_at "sub") (by walk_at "off") ⟨?_⟩
      have e : firstSpan (p :: sp) most = some (p.1, pmin p.2 (p.1 + most)) := by unfold firstSpan; dsimp only; rw [if_neg c1]
      rw [e]
      exact ⟨_, _, _, _, rfl, .head _⟩
inductive addJ (M : Led) (sp : List Sp) (lo hi : Int) (i : Nat) (m : Str → Option Value) (C T : Led) : Prop
  | mk : ∀ f fs c t1 t2 st, C = (f, listOf (List.toArray fs) c) :: M → (∀ p ∈ M, p.1 ≠ f) → (sp.take i).foldl addStep ⟨[], false, lo, hi⟩ = st → st.found.length ≤ 2 * i → (∀ p ∈ [((Str.ofString "found" : Str), Value.ref f), (Str.ofString "is_put", .bool st.put), (Str.ofString "low", .int st.lo t1), (Str.ofString "high", .int st.hi t2)], m p.1 = some p.2) → All2 (SpanV T) fs st.found → addJ M sp lo hi i m C T
theorem add_span_ok (w : World) (M own : Led) (v : Value) (sp : List Sp) (lo hi : Int) (tlo thi : Tok) (hv : ListV SpanV own v sp) (hsz : sp.length ≤ 100000) :
    Calls w 48 10 100 [v, .int lo tlo, .int hi thi] M own (fun r M' T => PLst SpanV M (addSpan sp lo hi) T r M') := by
  intro prog mean mg mb dp un gd cn cs a ccd cl outer A₀ base h₀ L m s Q E B F X N off T hk hdp hun hret
  obtain ⟨l, n, vs, rfl, hl, hvs⟩ := hv
  have hl' := List.mem_append_right M hl
  have hlen := hvs.length
  refine wpAny_call ?_
  k_dflt ktr_enter
  k_steps
  · refine hret _ M (_ :: own) _ _ (by k_asm) (news_sub (by k_asm) sw1) (by walk_at "sub") (by walk_at "off") (.of ?_)
    unfold addSpan
    rw [if_pos (by assumption)]
    exact ⟨_, _, _, rfl, .head _, spans_mono hvs (.of fun p hp => .tail _ hp)⟩
  · rename Fr _ _ _ _ => F1
    rename News _ _ _ _ => N1
    refine iter_list (C₀ := _ :: M) (tl := _ :: own) (addJ M sp lo hi) (by rfl) (.tail _ hl) F1 (news_sub N1 sw11) (by walk_at "off") ?_ ?_ ?_
    · exact ⟨_, [], 0, tlo, thi, _, rfl, by walk_at "apart", rfl, Nat.le_refl _, by walk_at "binds", .nil⟩
    · clear F1 N1
      rintro i v mm C Tt T1 h tk hi' hv htl hT1 hoffT hC ⟨f, fs, c, t1, t2, ⟨found, put, lo2, hi2⟩, rfl, hMf, hst, hfl, hm, hfs⟩ F2 N2
      obtain ⟨p, hp, a', n', u1, u2, rfl, hmem⟩ := hvs.get hv
      have hst2 := (take_step hp addStep ⟨[], false, lo, hi⟩).trans (congrArg (addStep · p) hst)
      have hmem2 := List.mem_append_right M (hT1 _ (htl _ (.tail _ hmem)))
      have hf2 := hfs.length
      have F3 := fr_of _ F2 hm
      simp only [List.cons_append] at N2
      rw [← hC] at hoffT ⊢
      simp only [List.map_cons] at hoffT
      dsimp only at *
      clear F2 hC hst hm hmem
      have hsz2 : fs.length ≤ 200000 := by lia
      k_steps
      all_goals dsimp only [TurnPost]
      · refine TurnEnd.intro (_ :: M) (_ :: T1) (by k_asm) (news_sub (by k_asm) sw11) (by walk_at "sub") (by walk_at "off") (by exact rfl) ?_
        intro T3 s3 _
        refine ⟨f, _, _, _, _, ⟨found ++ [p], put, lo2, hi2⟩, rfl, hMf, hst2.trans ?_, ?_, by walk_at "binds", (spans_mono hfs (.trans (.of fun q hq => .tail _ (hT1 _ hq)) s3)).snoc ⟨_, _, _, _, rfl, s3 _ (.head _) (.inl rfl)⟩⟩
        · unfold addStep; simp [*]
        · simp; lia
      · refine TurnEnd.intro (_ :: M) (_ :: T1) (by k_asm) (news_sub (by k_asm) sw11) (by walk_at "sub") (by walk_at "off") (by exact rfl) ?_
        intro T3 s3 _
        refine ⟨f, _, _, _, _, ⟨found ++ [p], put, lo2, hi2⟩, rfl, hMf, hst2.trans ?_, ?_, by walk_at "binds", (spans_mono hfs (.trans (.of fun q hq => .tail _ (hT1 _ hq)) s3)).snoc ⟨_, _, _, _, rfl, s3 _ (.head _) (.inl rfl)⟩⟩
        · unfold addStep; simp [*]
        · simp; lia
      · refine TurnEnd.intro (_ :: M) (_ :: _ :: T1) (by k_asm) (news_sub (by k_asm) sw21) (by walk_at "sub") (by walk_at "off") (by exact rfl) ?_
        intro T3 s3 _
        refine ⟨f, _, _, _, _, ⟨found ++ [(lo2, hi2)] ++ [p], true, lo2, hi2⟩, rfl, hMf, hst2.trans ?_, ?_, by walk_at "binds", ((spans_mono hfs (.trans (.of fun q hq => .tail _ (.tail _ (hT1 _ hq))) s3)).snoc ⟨_, _, _, _, rfl, s3 _ (.tail _ (.head _)) (.inl rfl)⟩).snoc ⟨_, _, _, _, rfl, s3 _ (.head _) (.inl rfl)⟩⟩
        · unfold addStep; simp [*]
        · simp; lia
      · refine TurnEnd.intro (_ :: M) (_ :: T1) (by k_asm) (news_sub (by k_asm) sw11) (by walk_at "sub") (by walk_at "off") (by exact rfl) ?_
        intro T3 s3 _
        refine ⟨f, _, _, _, _, ⟨found, put, _, _⟩, rfl, hMf, hst2.trans ?_, ?_, by walk_at "binds", spans_mono hfs (.trans (.of fun q hq => .tail _ (hT1 _ hq)) s3)⟩
        · unfold addStep; simp [*]
        · simp; lia
    · clear F1 N1
      rintro mm C Tt h tk htl hoffT hC ⟨f, fs, c, t1, t2, ⟨found, put, lo2, hi2⟩, rfl, hMf, hst, hfl, hm, hfs⟩ F2 N2
      rw [hlen, List.take_length] at hst
      have hf2 := hfs.length
      have F3 := fr_of _ F2 hm
      simp only [List.cons_append, envOf_locals] at N2 F3
      rw [← hC] at hoffT
      simp only [List.map_cons] at hoffT
      dsimp only at *
      clear F2 hC hm
      have hsz2 : fs.length ≤ 200000 := by lia
      k_steps
      · refine hret _ M (_ :: Tt) _ _ (by k_asm) (news_sub (by k_asm) sw1) (fun q hq => .tail _ (htl _ (.tail _ hq))) (by walk_at "off") ⟨_, _, _, .head _, ?_⟩
        have e : addSpan sp lo hi = found := by unfold addSpan; rw [if_neg (by assumption), hst]; simp [*]
        rw [e]
        exact spans_mono hfs (.of fun q hq => .tail _ hq)
      · refine hret _ M (_ :: _ :: _ :: _ :: Tt) _ _ (by k_asm) (news_sub (by k_asm) sw4) (fun q hq => .tail _ (.tail _ (.tail _ (.tail _ (htl _ (.tail _ hq)))))) (by walk_at "off") ⟨_, _, _, .head _, ?_⟩
        have e : addSpan sp lo hi = found ++ [(lo2, hi2)] := by unfold addSpan; rw [if_neg (by assumption), hst]; simp [*]
        rw [e]
        exact (spans_mono hfs (.of fun q hq => .tail _ (.tail _ (.tail _ (.tail _ hq))))).snoc ⟨_, _, _, _, rfl, by walk_at "mem"⟩
inductive wosJ (M : Led) (sp others : List Sp) (i : Nat) (m : Str → Option Value) (C T : Led) : Prop
  | mk : C = M → ∀ v, (∀ p ∈ [((Str.ofString "found" : Str), v)], m p.1 = some p.2) → ListV SpanV T v ((others.take i).foldl (fun f p => cutSpan f p.1 p.2) sp) → wosJ M sp others i m C T
theorem cutStep_len (lo hi : Int) (found : List Sp) (p : Sp) : (cutStep lo hi found p).length ≤ found.length + 2 := by
  unfold cutStep; dsimp only; (repeat' split) <;> simp <;> lia
theorem cutSpan_len (sp : List Sp) (lo hi : Int) : (cutSpan sp lo hi).length ≤ 2 * sp.length := by
  have go : ∀ (l found : List Sp), (l.foldl (cutStep lo hi) found).length ≤ found.length + 2 * l.length := by
    intro l
    induction l with
    | nil => intro found; simp
    | cons p l ih =>
      intro found
      have h1 := ih (cutStep lo hi found p)
      have h2 := cutStep_len lo hi found p
      simp only [List.foldl_cons, List.length_cons]
      lia
  unfold cutSpan
  split
  · have := go sp []
    simp at this
    lia
  · lia
/-- every round of it is short -/
noncomputable def WosOk (sp others : List Sp) : Prop := ∀ i, ((others.take i).foldl (fun f p => cutSpan f p.1 p.2) sp).length ≤ 100000
theorem without_spans_ok (w : World) (M own : Led) (v v2 : Value) (sp others : List Sp) (hv : ListV SpanV own v sp) (hv2 : ListV SpanV own v2 others) (hok : WosOk sp others) :
    Calls w 76 30 300 [v, v2] M own (fun r M' T => PLst SpanV M (withoutSpans sp others) T r M') := by
  intro prog mean mg mb dp un gd cn cs a ccd cl outer A₀ base h₀ L m s Q E B F X N off T hk hdp hun hret
  obtain ⟨l, n, vs, rfl, hl, hvs⟩ := hv
  obtain ⟨l2, n2, vs2, rfl, hl2, hvs2⟩ := hv2
  have hlen := hvs.length
  have hlen2 := hvs2.length
  have hsz := hok 0
  simp only [List.take_zero, List.foldl_nil] at hsz
  have hl' := List.mem_append_right M hl
  refine wpAny_call ?_
  k_dflt ktr_enter
  k_steps
  rename Fr _ _ _ _ => F1
  rename News _ _ _ _ => N1
  refine iter_list (C₀ := M) (tl := _ :: own) (wosJ M sp others) (by rfl) (.tail _ hl2) F1 (news_sub N1 sw1) (by walk_at "off") ?_ ?_ ?_
  · exact ⟨rfl, _, by walk_at "binds", _, _, _, rfl, .head _, spans_mono hvs (.of fun q hq => .tail _ hq)⟩
  · clear F1 N1
    rintro i v mm C Tt T1 h tk hi' hv htl hT1 hoffT hC ⟨rfl, v9, hm, hf⟩ F2 N2
    obtain ⟨p, hp, a', n', u1, u2, rfl, hmem⟩ := hvs2.get hv
    have hmem2 := List.mem_append_right C (hT1 _ (htl _ (.tail _ hmem)))
    have F3 := fr_of _ F2 hm
    have hok2 := hok i
    have hst2 := take_step hp (fun f p => cutSpan f p.1 p.2) sp
    have hf2 := SpansV.mono hf (.of hT1)
    dsimp only at *
    clear F2 hm hmem hC hf
    k_steps
    try k_fold
    k_dflt (refine' use_call (cut_span_ok w C T1 v9 _ p.1 p.2 u1 u2 hf2 hok2) ?B ?F ?X ?N ?S ?O ?T ?K ?D ?U ?_)
    walk_at "use"
    rintro r M' T2 h2 tk2 F4 N4 hsub hoff2 ⟨lr, nr, vr, hmr, hvr⟩
    clear hf2 hok2 hmem2
    k_steps
    dsimp only [TurnPost]
    refine TurnEnd.intro C T2 (by k_asm) (by k_asm) hsub hoff2 (by exact rfl) ?_
    intro T3 s3 _
    exact ⟨rfl, _, by walk_at "binds", by rw [hst2]; exact SpansV.mono ⟨_, _, _, rfl, hmr, hvr⟩ s3⟩
  · clear F1 N1
    rintro mm C Tt h tk htl hoffT hC ⟨rfl, v9, hm, hf⟩ F2 N2
    rw [hlen2, List.take_length] at hf
    have F3 := fr_of _ F2 hm
    simp only [envOf_locals] at N2 F3
    dsimp only at *
    clear F2 hm
    k_steps
    exact hret _ C Tt _ _ (by k_asm) (by k_asm) (fun q hq => htl _ (.tail _ hq)) hoffT (.of hf)
structure K11 where
  h1 : Int
  h2 : Int
  h3 : Int
  h4 : Int
  h5 : Int
  h6 : Int
  h7 : Int
  h8 : Int
  h9 : Int
  h10 : Int
  h11 : Int
  t1 : Tok
  t2 : Tok
  t3 : Tok
  t4 : Tok
  t5 : Tok
  t6 : Tok
  t7 : Tok
  t8 : Tok
  t9 : Tok
  t10 : Tok
  t11 : Tok
noncomputable def keysS (k : K11) : List (Str × Int × Tok) := [(Str.ofString "limit", k.h1, k.t1), (Str.ofString "state", k.h2, k.t2), (Str.ofString "written", k.h3, k.t3), (Str.ofString "sent_to", k.h4, k.t4), (Str.ofString "acked", k.h5, k.t5), (Str.ofString "lost", k.h6, k.t6), (Str.ofString "is_finished", k.h7, k.t7), (Str.ofString "owes_end", k.h8, k.t8), (Str.ofString "is_end_acked", k.h9, k.t9), (Str.ofString "reset_code", k.h10, k.t10), (Str.ofString "owes_reset", k.h11, k.t11)]
noncomputable def keysR (k : K11) : List (Str × Int × Tok) := [(Str.ofString "limit", k.h1, k.t1), (Str.ofString "state", k.h2, k.t2), (Str.ofString "pieces", k.h3, k.t3), (Str.ofString "read_to", k.h4, k.t4), (Str.ofString "highest", k.h5, k.t5), (Str.ofString "final_size", k.h6, k.t6), (Str.ofString "reset_code", k.h7, k.t7), (Str.ofString "stop_code", k.h8, k.t8)]
noncomputable abbrev sndO (k : K11) (limit state written sent_to acked lost is_finished owes_end is_end_acked reset_code owes_reset : Value) : Obj := dictOf (mkEs (keysS k) [limit, state, written, sent_to, acked, lost, is_finished, owes_end, is_end_acked, reset_code, owes_reset]) 11
noncomputable abbrev rcvO (k : K11) (limit state pieces read_to highest final_size reset_code stop_code : Value) : Obj := dictOf (mkEs (keysR k) [limit, state, pieces, read_to, highest, final_size, reset_code, stop_code]) 8
theorem putS1 {k : K11} {a1 a2 a3 a4 a5 a6 a7 a8 a9 a10 a11 v : Value} : PutK (Str.ofString "limit") v (mkEs (keysS k) [a1, a2, a3, a4, a5, a6, a7, a8, a9, a10, a11]) (mkEs (keysS k) [v, a2, a3, a4, a5, a6, a7, a8, a9, a10, a11]) 11 := ⟨fun _ _ => rfl, rfl, Nat.le_of_ble_eq_true rfl⟩
theorem putS2 {k : K11} {a1 a2 a3 a4 a5 a6 a7 a8 a9 a10 a11 v : Value} : PutK (Str.ofString "state") v (mkEs (keysS k) [a1, a2, a3, a4, a5, a6, a7, a8, a9, a10, a11]) (mkEs (keysS k) [a1, v, a3, a4, a5, a6, a7, a8, a9, a10, a11]) 11 := ⟨fun _ _ => rfl, rfl, Nat.le_of_ble_eq_true rfl⟩
theorem putS3 {k : K11} {a1 a2 a3 a4 a5 a6 a7 a8 a9 a10 a11 v : Value} : PutK (Str.ofString "written") v (mkEs (keysS k) [a1, a2, a3, a4, a5, a6, a7, a8, a9, a10, a11]) (mkEs (keysS k) [a1, a2, v, a4, a5, a6, a7, a8, a9, a10, a11]) 11 := ⟨fun _ _ => rfl, rfl, Nat.le_of_ble_eq_true rfl⟩
theorem putS4 {k : K11} {a1 a2 a3 a4 a5 a6 a7 a8 a9 a10 a11 v : Value} : PutK (Str.ofString "sent_to") v (mkEs (keysS k) [a1, a2, a3, a4, a5, a6, a7, a8, a9, a10, a11]) (mkEs (keysS k) [a1, a2, a3, v, a5, a6, a7, a8, a9, a10, a11]) 11 := ⟨fun _ _ => rfl, rfl, Nat.le_of_ble_eq_true rfl⟩
theorem putS5 {k : K11} {a1 a2 a3 a4 a5 a6 a7 a8 a9 a10 a11 v : Value} : PutK (Str.ofString "acked") v (mkEs (keysS k) [a1, a2, a3, a4, a5, a6, a7, a8, a9, a10, a11]) (mkEs (keysS k) [a1, a2, a3, a4, v, a6, a7, a8, a9, a10, a11]) 11 := ⟨fun _ _ => rfl, rfl, Nat.le_of_ble_eq_true rfl⟩
theorem putS6 {k : K11} {a1 a2 a3 a4 a5 a6 a7 a8 a9 a10 a11 v : Value} : PutK (Str.ofString "lost") v (mkEs (keysS k) [a1, a2, a3, a4, a5, a6, a7, a8, a9, a10, a11]) (mkEs (keysS k) [a1, a2, a3, a4, a5, v, a7, a8, a9, a10, a11]) 11 := ⟨fun _ _ => rfl, rfl, Nat.le_of_ble_eq_true rfl⟩
theorem putS7 {k : K11} {a1 a2 a3 a4 a5 a6 a7 a8 a9 a10 a11 v : Value} : PutK (Str.ofString "is_finished") v (mkEs (keysS k) [a1, a2, a3, a4, a5, a6, a7, a8, a9, a10, a11]) (mkEs (keysS k) [a1, a2, a3, a4, a5, a6, v, a8, a9, a10, a11]) 11 := ⟨fun _ _ => rfl, rfl, Nat.le_of_ble_eq_true rfl⟩
theorem putS8 {k : K11} {a1 a2 a3 a4 a5 a6 a7 a8 a9 a10 a11 v : Value} : PutK (Str.ofString "owes_end") v (mkEs (keysS k) [a1, a2, a3, a4, a5, a6, a7, a8, a9, a10, a11]) (mkEs (keysS k) [a1, a2, a3, a4, a5, a6, a7, v, a9, a10, a11]) 11 := ⟨fun _ _ => rfl, rfl, Nat.le_of_ble_eq_true rfl⟩
theorem putS9 {k : K11} {a1 a2 a3 a4 a5 a6 a7 a8 a9 a10 a11 v : Value} : PutK (Str.ofString "is_end_acked") v (mkEs (keysS k) [a1, a2, a3, a4, a5, a6, a7, a8, a9, a10, a11]) (mkEs (keysS k) [a1, a2, a3, a4, a5, a6, a7, a8, v, a10, a11]) 11 := ⟨fun _ _ => rfl, rfl, Nat.le_of_ble_eq_true rfl⟩
theorem putS10 {k : K11} {a1 a2 a3 a4 a5 a6 a7 a8 a9 a10 a11 v : Value} : PutK (Str.ofString "reset_code") v (mkEs (keysS k) [a1, a2, a3, a4, a5, a6, a7, a8, a9, a10, a11]) (mkEs (keysS k) [a1, a2, a3, a4, a5, a6, a7, a8, a9, v, a11]) 11 := ⟨fun _ _ => rfl, rfl, Nat.le_of_ble_eq_true rfl⟩
theorem putS11 {k : K11} {a1 a2 a3 a4 a5 a6 a7 a8 a9 a10 a11 v : Value} : PutK (Str.ofString "owes_reset") v (mkEs (keysS k) [a1, a2, a3, a4, a5, a6, a7, a8, a9, a10, a11]) (mkEs (keysS k) [a1, a2, a3, a4, a5, a6, a7, a8, a9, a10, v]) 11 := ⟨fun _ _ => rfl, rfl, Nat.le_of_ble_eq_true rfl⟩
theorem putR1 {k : K11} {a1 a2 a3 a4 a5 a6 a7 a8 v : Value} : PutK (Str.ofString "limit") v (mkEs (keysR k) [a1, a2, a3, a4, a5, a6, a7, a8]) (mkEs (keysR k) [v, a2, a3, a4, a5, a6, a7, a8]) 8 := ⟨fun _ _ => rfl, rfl, Nat.le_of_ble_eq_true rfl⟩
theorem putR2 {k : K11} {a1 a2 a3 a4 a5 a6 a7 a8 v : Value} : PutK (Str.ofString "state") v (mkEs (keysR k) [a1, a2, a3, a4, a5, a6, a7, a8]) (mkEs (keysR k) [a1, v, a3, a4, a5, a6, a7, a8]) 8 := ⟨fun _ _ => rfl, rfl, Nat.le_of_ble_eq_true rfl⟩
theorem putR3 {k : K11} {a1 a2 a3 a4 a5 a6 a7 a8 v : Value} : PutK (Str.ofString "pieces") v (mkEs (keysR k) [a1, a2, a3, a4, a5, a6, a7, a8]) (mkEs (keysR k) [a1, a2, v, a4, a5, a6, a7, a8]) 8 := ⟨fun _ _ => rfl, rfl, Nat.le_of_ble_eq_true rfl⟩
theorem putR4 {k : K11} {a1 a2 a3 a4 a5 a6 a7 a8 v : Value} : PutK (Str.ofString "read_to") v (mkEs (keysR k) [a1, a2, a3, a4, a5, a6, a7, a8]) (mkEs (keysR k) [a1, a2, a3, v, a5, a6, a7, a8]) 8 := ⟨fun _ _ => rfl, rfl, Nat.le_of_ble_eq_true rfl⟩
theorem putR5 {k : K11} {a1 a2 a3 a4 a5 a6 a7 a8 v : Value} : PutK (Str.ofString "highest") v (mkEs (keysR k) [a1, a2, a3, a4, a5, a6, a7, a8]) (mkEs (keysR k) [a1, a2, a3, a4, v, a6, a7, a8]) 8 := ⟨fun _ _ => rfl, rfl, Nat.le_of_ble_eq_true rfl⟩
theorem putR6 {k : K11} {a1 a2 a3 a4 a5 a6 a7 a8 v : Value} : PutK (Str.ofString "final_size") v (mkEs (keysR k) [a1, a2, a3, a4, a5, a6, a7, a8]) (mkEs (keysR k) [a1, a2, a3, a4, a5, v, a7, a8]) 8 := ⟨fun _ _ => rfl, rfl, Nat.le_of_ble_eq_true rfl⟩
theorem putR7 {k : K11} {a1 a2 a3 a4 a5 a6 a7 a8 v : Value} : PutK (Str.ofString "reset_code") v (mkEs (keysR k) [a1, a2, a3, a4, a5, a6, a7, a8]) (mkEs (keysR k) [a1, a2, a3, a4, a5, a6, v, a8]) 8 := ⟨fun _ _ => rfl, rfl, Nat.le_of_ble_eq_true rfl⟩
theorem putR8 {k : K11} {a1 a2 a3 a4 a5 a6 a7 a8 v : Value} : PutK (Str.ofString "stop_code") v (mkEs (keysR k) [a1, a2, a3, a4, a5, a6, a7, a8]) (mkEs (keysR k) [a1, a2, a3, a4, a5, a6, a7, v]) 8 := ⟨fun _ _ => rfl, rfl, Nat.le_of_ble_eq_true rfl⟩
noncomputable def optV : Option Int → Tok → Value
  | none, _ => .none
  | some i, t => .int i t
/-- a tuple of an int and bytes -/
inductive PieceV (T : Led) (v : Value) (p : Pc) : Prop
  | mk : ∀ a n t1 t2, v = .ref a → (a, tupO [.int p.1 t1, .bytes p.2.toArray t2] n) ∈ T → PieceV T v p
theorem PieceV.mono {T T' : Led} {v : Value} {p : Pc} (h : PieceV T v p) (s : Sub T T') : PieceV T' v p := by
  obtain ⟨a, n, t1, t2, rfl, hm⟩ := h
  exact ⟨a, n, t1, t2, rfl, s _ hm (.inl rfl)⟩
theorem pieces_mono {T T' : Led} {vs : List Value} {xs : List Pc} (h : All2 (PieceV T) vs xs) (s : Sub T T') : All2 (PieceV T') vs xs := h.mono fun _ _ q => q.mono s
theorem PiecesV.mono {T T' : Led} {v : Value} {xs : List Pc} (h : ListV PieceV T v xs) (s : Sub T T') : ListV PieceV T' v xs := by
  obtain ⟨l, n, vs, rfl, hm, ha⟩ := h
  exact ⟨l, n, vs, rfl, s _ hm (.inr rfl), pieces_mono ha s⟩
noncomputable def MsgV (T : Led) (v : Value) : Msg → Prop
  | .reset c z => ∃ a n t0 t1 t2, v = .ref a ∧ (a, tupO [.str (Str.ofString "reset") t0, .int c t1, .int z t2] n) ∈ T
  | .data o d e => ∃ a n t0 t1 t2, v = .ref a ∧ (a, tupO [.str (Str.ofString "data") t0, .int o t1, .bytes d.toArray t2, .bool e] n) ∈ T
theorem MsgV.mono {T T' : Led} {v : Value} {p : Msg} (h : MsgV T v p) (s : Sub T T') : MsgV T' v p := by
  cases p with
  | reset c z =>
    obtain ⟨a, n, t0, t1, t2, rfl, hm⟩ := h
    exact ⟨a, n, t0, t1, t2, rfl, s _ hm (.inl rfl)⟩
  | data o d e =>
    obtain ⟨a, n, t0, t1, t2, rfl, hm⟩ := h
    exact ⟨a, n, t0, t1, t2, rfl, s _ hm (.inl rfl)⟩
theorem msgs_mono {T T' : Led} {vs : List Value} {xs : List Msg} (h : All2 (MsgV T) vs xs) (s : Sub T T') : All2 (MsgV T') vs xs := h.mono fun _ _ q => q.mono s

inductive SndR (T : Led) (s : Snd) : Obj → Prop
  | mk (k : K11) (tl te tw ts : Tok) (va vl : Addr) (tr : Tok) (h1 : ListV SpanV T (.ref va) s.acked) (h2 : ListV SpanV T (.ref vl) s.lost) : SndR T s (sndO k (.int s.limit tl) (.str s.st.str te) (.bytes s.written.toArray tw) (.int s.sentTo ts) (.ref va) (.ref vl) (.bool s.fin) (.bool s.oe) (.bool s.ea) (optV s.rc tr) (.bool s.orr))
noncomputable abbrev SndRep (T : Led) (o : Obj) (s : Snd) : Prop := SndR T s o
theorem SndRep.mono {T T' : Led} {o : Obj} {s : Snd} (h : SndRep T o s) (k : Sub T T') : SndRep T' o s := by
  obtain ⟨k1, tl, te, tw, ts, va, vl, tr, h1, h2⟩ := h
  exact ⟨k1, tl, te, tw, ts, va, vl, tr, SpansV.mono h1 k, SpansV.mono h2 k⟩
theorem SndR.mono {T T' : Led} {o : Obj} {s : Snd} (h : SndRep T o s) (k : Sub T T') : SndRep T' o s := SndRep.mono h k
inductive RcvR (T : Led) (r : Rcv) : Obj → Prop
  | mk (k : K11) (tl te : Tok) (vp : Addr) (tr th tf tc tp : Tok) (h : ListV PieceV T (.ref vp) r.pieces) : RcvR T r (rcvO k (.int r.limit tl) (.str r.st.str te) (.ref vp) (.int r.readTo tr) (.int r.highest th) (optV r.fs tf) (optV r.rc tc) (optV r.stop tp))
noncomputable abbrev RcvRep (T : Led) (o : Obj) (r : Rcv) : Prop := RcvR T r o
theorem RcvRep.mono {T T' : Led} {o : Obj} {r : Rcv} (h : RcvRep T o r) (k : Sub T T') : RcvRep T' o r := by
  obtain ⟨k1, tl, te, vp, tr, th, tf, tc, tp, h1⟩ := h
  exact ⟨k1, tl, te, vp, tr, th, tf, tc, tp, PiecesV.mono h1 k⟩
theorem RcvR.mono {T T' : Led} {o : Obj} {r : Rcv} (h : RcvRep T o r) (k : Sub T T') : RcvRep T' o r := RcvRep.mono h k
/-- the sender changed -/
inductive PSnd (x d : Addr) (R : Led) (v : Value) (f : Snd) (T : Led) : Value → Led → Prop
  | mk (o' : Obj) (h : SndRep T o' f) : PSnd x d R v f T v ((x, instObj 199 d) :: (d, o') :: R)
theorem PSnd.of {x d : Addr} {R : Led} {v r : Value} {f : Snd} {T : Led} {o' : Obj} (s' : Snd) (ev : r = v) (e : s' = f) (h : SndRep T o' s') : PSnd x d R v f T r ((x, instObj 199 d) :: (d, o') :: R) := by
  subst ev e; exact ⟨_, h⟩
inductive PSndP (x d : Addr) (R : Led) (P : Snd → Prop) (T : Led) : Led → Prop
  | mk (o' : Obj) (s' : Snd) (hp : P s') (h : SndRep T o' s') : PSndP x d R P T ((x, instObj 199 d) :: (d, o') :: R)
inductive PSndE (x d : Addr) (R : Led) (P : Prop) (f : Snd) (T : Led) : Led → Prop
  | mk (o' : Obj) (hp : P) (h : SndRep T o' f) : PSndE x d R P f T ((x, instObj 199 d) :: (d, o') :: R)
inductive PRcv (x d : Addr) (R : Led) (v : Value) (f : Rcv) (T : Led) : Value → Led → Prop
  | mk (o' : Obj) (h : RcvRep T o' f) : PRcv x d R v f T v ((x, instObj 309 d) :: (d, o') :: R)
theorem PRcv.of {x d : Addr} {R : Led} {v r : Value} {f : Rcv} {T : Led} {o' : Obj} (s' : Rcv) (ev : r = v) (e : s' = f) (h : RcvRep T o' s') : PRcv x d R v f T r ((x, instObj 309 d) :: (d, o') :: R) := by
  subst ev e; exact ⟨_, h⟩
inductive PRcvE (x d : Addr) (R : Led) (P : Prop) (f : Rcv) (T : Led) : Led → Prop
  | mk (o' : Obj) (hp : P) (h : RcvRep T o' f) : PRcvE x d R P f T ((x, instObj 309 d) :: (d, o') :: R)
theorem PRcvE.of {x d : Addr} {R : Led} {P : Prop} {f : Rcv} {T : Led} {o' : Obj} (s' : Rcv) (hp : P) (e : s' = f) (h : RcvRep T o' s') : PRcvE x d R P f T ((x, instObj 309 d) :: (d, o') :: R) := by
  subst e; exact ⟨_, hp, h⟩
theorem ss_inj {a b : SS} : (a.str = b.str) ↔ a = b := by cases a <;> cases b <;> simp [SS.str] <;> decide
theorem rs_inj {a b : RS} : (a.str = b.str) ↔ a = b := by cases a <;> cases b <;> simp [RS.str] <;> decide
theorem st_is {a b : SS} {x : Str} (h : (a.str == x) = true) (e : b.str = x := by rfl) : a = b := ss_inj.mp ((eq_of_beq h).trans e.symm)
theorem st_not {a b : SS} {x : Str} (h : (a.str == x) = false) (e : b.str = x := by rfl) : a ≠ b := fun q => by rw [q, e] at h; simp at h
theorem rs_is {a b : RS} {x : Str} (h : (a.str == x) = true) (e : b.str = x := by rfl) : a = b := rs_inj.mp ((eq_of_beq h).trans e.symm)
theorem rs_not {a b : RS} {x : Str} (h : (a.str == x) = false) (e : b.str = x := by rfl) : a ≠ b := fun q => by rw [q, e] at h; simp at h
theorem any_open (a : SS) : ([Str.ofString "ready", Str.ofString "send"].any fun x => x == a.str) = a.isOpen := by cases a <;> decide
theorem any_over (a : SS) : ([Str.ofString "data_recvd", Str.ofString "reset_recvd"].any fun x => x == a.str) = (a == .dataRecvd || a == .resetRecvd) := by cases a <;> decide
theorem any_sent (a : SS) : ([Str.ofString "send", Str.ofString "data_sent"].any fun x => x == a.str) = (a == .send || a == .dataSent) := by cases a <;> decide
theorem any_ropen (a : RS) : ([Str.ofString "recv", Str.ofString "size_known"].any fun x => x == a.str) = a.isOpen := by cases a <;> decide
theorem any_rread (a : RS) : ([Str.ofString "data_read", Str.ofString "reset_read"].any fun x => x == a.str) = (a == .dataRead || a == .resetRead) := by cases a <;> decide
theorem rows3 : True := by
  k_with "putK" => (with_reducible first | exact putS1 | exact putS2 | exact putS3 | exact putS4 | exact putS5 | exact putS6 | exact putS7 | exact putS8 | exact putS9 | exact putS10 | exact putS11 | exact putR1 | exact putR2 | exact putR3 | exact putR4 | exact putR5 | exact putR6 | exact putR7 | exact putR8)
  k_with "exec Assign" => ((k_here; (with_reducible show wpAny _ _ (exec (Stmt.Assign [PySem.Expr.Attribute (PySem.Expr.Name _ _) _ _] _ _) _) _ _ _); k_dflt (refine pe_setA (by first | (exact rfl)) (by first | (k_asm)) (by first | (k_asm)) (by first | (k_asm)) (by first | (exact rfl)) (by first | (exact rfl)) (by first | (decide)) (by first | (k_mem)) (by first | (walk_at "pv")) (by first | (k_mem)) (by first | (k_is)) (by first | (k_is)) (by first | (k_is)) (by first | (k_is)) (by first | (walk_at "putK")) (by first | (k_upd)) (by first | (exact rfl)) ?_; k_whole); intro zh zF zN; (try k_sweep)))
  k_with "x setAttr ref" => ((k_here; k_dflt (refine pe_setV (by first | (k_asm)) (by first | (k_asm)) (by first | (k_asm)) (by first | (k_mem)) (by first | (k_mem)) (by first | (k_is)) (by first | (k_is)) (by first | (k_is)) (by first | (k_is)) (by first | (walk_at "putK")) (by first | (k_upd)) ?_; k_whole); intro zh zF zN; (try k_sweep)))
  trivial
theorem snd_raise_limit (w : World) (x d : Addr) (R own : Led) (o : Obj) (s : Snd) (l : Int) (t : Tok) (hdx : @LT.lt Nat _ d x) (hR : ∀ p ∈ R, p.1 ≠ d) (hS : SndRep own o s) :
    Calls w 126 10 100 [.ref x, .int l t] ((x, instObj 199 d) :: (d, o) :: R) own (fun r M' T => PSnd x d R .none (s.raise l) T r M') := by
  intro prog mean mg mb dp un gd cn cs a ccd cl outer A₀ base h₀ L m s9 Q E B F X N off T hk hdp hun hret
  obtain ⟨k, tl, te, tw, ts, va, vl, tr, ha, hl⟩ := hS
  obtain ⟨limit, st, written, sentTo, acked, lost, fin, oe, ea, rc, orr⟩ := s
  simp only [List.cons_append, List.map_cons] at N off
  dsimp only at *
  refine wpAny_call ?_
  k_dflt ktr_enter
  k_steps
  refine hret _ ((x, instObj 199 d) :: (d, _) :: R) (own) _ _ (by k_asm) (by k_asm) (fun p hp => hp) off (.of (Snd.raise ⟨limit, st, written, sentTo, acked, lost, fin, oe, ea, rc, orr⟩ l) rfl rfl ⟨k, _, _, _, _, va, vl, tr, ha, hl⟩)
theorem snd_new_room (w : World) (x d : Addr) (R own : Led) (o : Obj) (s : Snd)  (hdx : @LT.lt Nat _ d x) (hR : ∀ p ∈ R, p.1 ≠ d) (hS : SndRep own o s) (hz : s.written.length ≤ 100000) :
    Calls w 133 10 100 [.ref x, .none] ((x, instObj 199 d) :: (d, o) :: R) own (fun r M' _ => PInt s.newRoom ((x, instObj 199 d) :: (d, o) :: R) r M') := by
  intro prog mean mg mb dp un gd cn cs a ccd cl outer A₀ base h₀ L m s9 Q E B F X N off T hk hdp hun hret
  obtain ⟨k, tl, te, tw, ts, va, vl, tr, ha, hl⟩ := hS
  obtain ⟨limit, st, written, sentTo, acked, lost, fin, oe, ea, rc, orr⟩ := s
  simp only [List.cons_append, List.map_cons] at N off
  dsimp only at *
  refine wpAny_call ?_
  k_dflt ktr_enter
  k_steps
  · have hq : st.isOpen = true := (any_open st).symm.trans (by assumption)
    have e : Snd.newRoom ⟨limit, st, written, sentTo, acked, lost, fin, oe, ea, rc, orr⟩ = pmax 0 (pmin written.length limit - sentTo) := by unfold Snd.newRoom; dsimp only; rw [if_pos hq]
    refine hret _ ((x, instObj 199 d) :: (d, _) :: R) (own) _ _ (by k_asm) (by k_asm) (fun p hp => hp) off (by rw [e]; exact ⟨_⟩)
  · have hq : st.isOpen = false := (any_open st).symm.trans (by assumption)
    have e : Snd.newRoom ⟨limit, st, written, sentTo, acked, lost, fin, oe, ea, rc, orr⟩ = 0 := by unfold Snd.newRoom; dsimp only; rw [if_neg (by rw [hq]; simp)]
    refine hret _ ((x, instObj 199 d) :: (d, _) :: R) (own) _ _ (by k_asm) (by k_asm) (fun p hp => hp) off (by rw [e]; exact ⟨_⟩)
theorem snd_next_reset (w : World) (x d : Addr) (R own : Led) (o : Obj) (s : Snd)  (hdx : @LT.lt Nat _ d x) (hR : ∀ p ∈ R, p.1 ≠ d) (hS : SndRep own o s) (hc : s.orr = true → ∃ c, s.rc = some c) :
    Calls w 161 10 100 [.ref x] ((x, instObj 199 d) :: (d, o) :: R) own (fun r M' T => PSndP x d R (fun s' => if s.orr then SpanV T r (s.rc.getD 0, s.sentTo) ∧ s' = s.resetTold else r = .none ∧ s' = s) T M') := by
  intro prog mean mg mb dp un gd cn cs a ccd cl outer A₀ base h₀ L m s9 Q E B F X N off T hk hdp hun hret
  obtain ⟨k, tl, te, tw, ts, va, vl, tr, ha, hl⟩ := hS
  obtain ⟨limit, st, written, sentTo, acked, lost, fin, oe, ea, rc, orr⟩ := s
  simp only [List.cons_append, List.map_cons] at N off
  dsimp only at *
  cases orr
  · refine wpAny_call ?_
    k_dflt ktr_enter
    k_steps
    refine hret _ ((x, instObj 199 d) :: (d, _) :: R) (own) _ _ (by k_asm) (by k_asm) (fun p hp => hp) off ⟨_, ⟨limit, st, written, sentTo, acked, lost, fin, oe, ea, rc, false⟩, ⟨rfl, rfl⟩, k, _, _, _, _, va, vl, tr, ha, hl⟩
  · obtain ⟨c, rfl⟩ := hc rfl
    dsimp only [optV] at N
    refine wpAny_call ?_
    k_dflt ktr_enter
    k_steps
    refine hret _ ((x, instObj 199 d) :: (d, _) :: R) (_ :: own) _ _ (by k_asm) (news_sub (by k_asm) swS1) (fun p hp => .tail _ (hp)) (by walk_at "off") ⟨_, ⟨limit, st, written, sentTo, acked, lost, fin, oe, ea, some c, false⟩, ⟨⟨_, _, _, _, rfl, .head _⟩, rfl⟩, k, _, _, _, _, va, vl, tr, SpansV.mono ha (.of (fun p hp => .tail _ (hp))), SpansV.mono hl (.of (fun p hp => .tail _ (hp)))⟩
theorem snd_on_reset_acked (w : World) (x d : Addr) (R own : Led) (o : Obj) (s : Snd)  (hdx : @LT.lt Nat _ d x) (hR : ∀ p ∈ R, p.1 ≠ d) (hS : SndRep own o s) :
    Calls w 182 10 100 [.ref x] ((x, instObj 199 d) :: (d, o) :: R) own (fun r M' T => PSnd x d R .none s.ackReset T r M') := by
  intro prog mean mg mb dp un gd cn cs a ccd cl outer A₀ base h₀ L m s9 Q E B F X N off T hk hdp hun hret
  obtain ⟨k, tl, te, tw, ts, va, vl, tr, ha, hl⟩ := hS
  obtain ⟨limit, st, written, sentTo, acked, lost, fin, oe, ea, rc, orr⟩ := s
  simp only [List.cons_append, List.map_cons] at N off
  dsimp only at *
  refine wpAny_call ?_
  k_dflt ktr_enter
  k_steps
  · have hq : st = .resetSent := st_is (by assumption)
    subst hq
    refine hret _ ((x, instObj 199 d) :: (d, _) :: R) (own) _ _ (by k_asm) (by k_asm) (fun p hp => hp) off (.of (Snd.ackReset ⟨limit, .resetSent, written, sentTo, acked, lost, fin, oe, ea, rc, orr⟩) rfl rfl ⟨k, _, _, _, _, va, vl, tr, ha, hl⟩)
  · have hq : st ≠ .resetSent := st_not (by assumption)
    refine hret _ ((x, instObj 199 d) :: (d, _) :: R) (own) _ _ (by k_asm) (by k_asm) (fun p hp => hp) off (.of ⟨limit, st, written, sentTo, acked, lost, fin, oe, ea, rc, false⟩ rfl (by simp [Snd.ackReset, hq]) ⟨k, _, _, _, _, va, vl, tr, ha, hl⟩)
theorem snd_on_reset_lost (w : World) (x d : Addr) (R own : Led) (o : Obj) (s : Snd)  (hdx : @LT.lt Nat _ d x) (hR : ∀ p ∈ R, p.1 ≠ d) (hS : SndRep own o s) :
    Calls w 189 10 100 [.ref x] ((x, instObj 199 d) :: (d, o) :: R) own (fun r M' T => PSnd x d R .none s.loseReset T r M') := by
  intro prog mean mg mb dp un gd cn cs a ccd cl outer A₀ base h₀ L m s9 Q E B F X N off T hk hdp hun hret
  obtain ⟨k, tl, te, tw, ts, va, vl, tr, ha, hl⟩ := hS
  obtain ⟨limit, st, written, sentTo, acked, lost, fin, oe, ea, rc, orr⟩ := s
  simp only [List.cons_append, List.map_cons] at N off
  dsimp only at *
  refine wpAny_call ?_
  k_dflt ktr_enter
  k_steps
  · have hq : st = .resetSent := st_is (by assumption)
    subst hq
    refine hret _ ((x, instObj 199 d) :: (d, _) :: R) (own) _ _ (by k_asm) (by k_asm) (fun p hp => hp) off (.of ⟨limit, .resetSent, written, sentTo, acked, lost, fin, oe, ea, rc, true⟩ rfl (by simp [Snd.loseReset]) ⟨k, _, _, _, _, va, vl, tr, ha, hl⟩)
  · have hq : st ≠ .resetSent := st_not (by assumption)
    refine hret _ ((x, instObj 199 d) :: (d, _) :: R) (own) _ _ (by k_asm) (by k_asm) (fun p hp => hp) off (.of ⟨limit, st, written, sentTo, acked, lost, fin, oe, ea, rc, orr⟩ rfl (by simp [Snd.loseReset, hq]) ⟨k, _, _, _, _, va, vl, tr, ha, hl⟩)
theorem snd_is_over (w : World) (x d : Addr) (R own : Led) (o : Obj) (s : Snd)  (hdx : @LT.lt Nat _ d x) (hR : ∀ p ∈ R, p.1 ≠ d) (hS : SndRep own o s) :
    Calls w 196 10 100 [.ref x] ((x, instObj 199 d) :: (d, o) :: R) own (fun r M' _ => PRd (.bool s.over) ((x, instObj 199 d) :: (d, o) :: R) r M') := by
  intro prog mean mg mb dp un gd cn cs a ccd cl outer A₀ base h₀ L m s9 Q E B F X N off T hk hdp hun hret
  obtain ⟨k, tl, te, tw, ts, va, vl, tr, ha, hl⟩ := hS
  obtain ⟨limit, st, written, sentTo, acked, lost, fin, oe, ea, rc, orr⟩ := s
  simp only [List.cons_append, List.map_cons] at N off
  dsimp only at *
  refine wpAny_call ?_
  k_dflt ktr_enter
  k_steps
  rw [any_over]
  refine hret _ ((x, instObj 199 d) :: (d, _) :: R) (_ :: own) _ _ (by k_asm) (news_sub (by k_asm) swS1) (fun p hp => .tail _ (hp)) (by walk_at "off") .mk
theorem snd_finish (w : World) (x d : Addr) (R own : Led) (o : Obj) (s : Snd)  (hdx : @LT.lt Nat _ d x) (hR : ∀ p ∈ R, p.1 ≠ d) (hS : SndRep own o s) (ho : s.st.isOpen = true) :
    Calls w 105 10 100 [.ref x] ((x, instObj 199 d) :: (d, o) :: R) own (fun r M' T => PSnd x d R .none s.finish T r M') := by
  intro prog mean mg mb dp un gd cn cs a ccd cl outer A₀ base h₀ L m s9 Q E B F X N off T hk hdp hun hret
  obtain ⟨k, tl, te, tw, ts, va, vl, tr, ha, hl⟩ := hS
  obtain ⟨limit, st, written, sentTo, acked, lost, fin, oe, ea, rc, orr⟩ := s
  simp only [List.cons_append, List.map_cons] at N off
  dsimp only at *
  have hn := (any_open st).trans ho
  cases fin
  · refine wpAny_call ?_
    k_dflt ktr_enter
    k_steps
    refine hret _ ((x, instObj 199 d) :: (d, _) :: R) (own) _ _ (by k_asm) (by k_asm) (fun p hp => hp) off (.of ⟨limit, st, written, sentTo, acked, lost, true, true, ea, rc, orr⟩ rfl rfl ⟨k, _, _, _, _, va, vl, tr, ha, hl⟩)
  · refine wpAny_call ?_
    k_dflt ktr_enter
    k_steps
    refine hret _ ((x, instObj 199 d) :: (d, _) :: R) (own) _ _ (by k_asm) (by k_asm) (fun p hp => hp) off (.of ⟨limit, st, written, sentTo, acked, lost, true, oe, ea, rc, orr⟩ rfl rfl ⟨k, _, _, _, _, va, vl, tr, ha, hl⟩)
theorem snd_write (w : World) (x d : Addr) (R own : Led) (o : Obj) (s : Snd) (b : By) (t : Tok) (hdx : @LT.lt Nat _ d x) (hR : ∀ p ∈ R, p.1 ≠ d) (hS : SndRep own o s) (ho : s.st.isOpen = true) (hf : s.fin = false) (hz : s.written.length + b.length ≤ 100000) :
    Calls w 98 10 100 [.ref x, .bytes b.toArray t] ((x, instObj 199 d) :: (d, o) :: R) own (fun r M' T => PSnd x d R .none (s.write b) T r M') := by
  intro prog mean mg mb dp un gd cn cs a ccd cl outer A₀ base h₀ L m s9 Q E B F X N off T hk hdp hun hret
  obtain ⟨k, tl, te, tw, ts, va, vl, tr, ha, hl⟩ := hS
  obtain ⟨limit, st, written, sentTo, acked, lost, fin, oe, ea, rc, orr⟩ := s
  simp only [List.cons_append, List.map_cons] at N off
  dsimp only at *
  have hn := (any_open st).trans ho
  refine wpAny_call ?_
  k_dflt ktr_enter
  k_steps
  refine hret _ ((x, instObj 199 d) :: (d, _) :: R) (own) _ _ (by k_asm) (by k_asm) (fun p hp => hp) off (.of ⟨limit, st, written ++ b, sentTo, acked, lost, fin, oe, ea, rc, orr⟩ rfl rfl ⟨k, _, _, _, _, va, vl, tr, ha, hl⟩)
theorem snd_reset (w : World) (x d : Addr) (R own : Led) (o : Obj) (s : Snd) (c : Int) (t : Tok) (hdx : @LT.lt Nat _ d x) (hR : ∀ p ∈ R, p.1 ≠ d) (hS : SndRep own o s) :
    Calls w 112 10 100 [.ref x, .int c t] ((x, instObj 199 d) :: (d, o) :: R) own (fun r M' T => PSnd x d R (.bool s.canReset) (s.reset c) T r M') := by
  intro prog mean mg mb dp un gd cn cs a ccd cl outer A₀ base h₀ L m s9 Q E B F X N off T hk hdp hun hret
  obtain ⟨k, tl, te, tw, ts, va, vl, tr, ha, hl⟩ := hS
  obtain ⟨limit, st, written, sentTo, acked, lost, fin, oe, ea, rc, orr⟩ := s
  simp only [List.cons_append, List.map_cons] at N off
  dsimp only at *
  refine wpAny_call ?_
  k_dflt ktr_enter
  k_steps
  · have hq : (st.isOpen || st == .dataSent) = true := by rw [(any_open st).symm.trans (by assumption)]; rfl
    have e1 : Snd.canReset ⟨limit, st, written, sentTo, acked, lost, fin, oe, ea, rc, orr⟩ = true := hq
    have e2 : Snd.reset ⟨limit, st, written, sentTo, acked, lost, fin, oe, ea, rc, orr⟩ c = ⟨limit, .resetSent, written, sentTo, acked, [], fin, false, ea, some c, true⟩ := by unfold Snd.reset; rw [if_pos e1]
    refine hret _ ((x, instObj 199 d) :: (d, _) :: R) (_ :: own) _ _ (by k_asm) (news_sub (by k_asm) swS1) (fun p hp => .tail _ (hp)) (by walk_at "off") (.of ⟨limit, .resetSent, written, sentTo, acked, [], fin, false, ea, some c, true⟩ (by rw [e1]) e2.symm ⟨k, _, _, _, _, va, _, t, SpansV.mono ha (.of (fun p hp => .tail _ (hp))), ⟨_, _, _, rfl, .head _, .nil⟩⟩)
  · have hq1 : st.isOpen = false := (any_open st).symm.trans (by assumption)
    have hq2 : (st == .dataSent) = false := by
      have h9 : (st.str != Str.ofString "data_sent") = true := by assumption
      exact beq_false_of_ne (st_not (by simpa [bne] using h9))
    have e1 : Snd.canReset ⟨limit, st, written, sentTo, acked, lost, fin, oe, ea, rc, orr⟩ = false := by unfold Snd.canReset; dsimp only; rw [hq1, hq2]; rfl
    have e2 : Snd.reset ⟨limit, st, written, sentTo, acked, lost, fin, oe, ea, rc, orr⟩ c = ⟨limit, st, written, sentTo, acked, lost, fin, oe, ea, rc, orr⟩ := by unfold Snd.reset; rw [if_neg (by rw [e1]; simp)]
    refine hret _ ((x, instObj 199 d) :: (d, _) :: R) (own) _ _ (by k_asm) (by k_asm) (fun p hp => hp) off (.of ⟨limit, st, written, sentTo, acked, lost, fin, oe, ea, rc, orr⟩ (by rw [e1]) e2.symm ⟨k, _, _, _, _, va, vl, tr, ha, hl⟩)
  · have hq : (st.isOpen || st == .dataSent) = true := by
      have h9 : (st.str != Str.ofString "data_sent") = false := by assumption
      have h8 : st = .dataSent := st_is (by simpa [bne] using h9)
      rw [h8]; rfl
    have e1 : Snd.canReset ⟨limit, st, written, sentTo, acked, lost, fin, oe, ea, rc, orr⟩ = true := hq
    have e2 : Snd.reset ⟨limit, st, written, sentTo, acked, lost, fin, oe, ea, rc, orr⟩ c = ⟨limit, .resetSent, written, sentTo, acked, [], fin, false, ea, some c, true⟩ := by unfold Snd.reset; rw [if_pos e1]
    refine hret _ ((x, instObj 199 d) :: (d, _) :: R) (_ :: own) _ _ (by k_asm) (news_sub (by k_asm) swS1) (fun p hp => .tail _ (hp)) (by walk_at "off") (.of ⟨limit, .resetSent, written, sentTo, acked, [], fin, false, ea, some c, true⟩ (by rw [e1]) e2.symm ⟨k, _, _, _, _, va, _, t, SpansV.mono ha (.of (fun p hp => .tail _ (hp))), ⟨_, _, _, rfl, .head _, .nil⟩⟩)
inductive ChunkV (T : Led) (v : Value) (c : Int × By × Bool) : Prop
  | mk : ∀ a n t1 t2, v = .ref a → (a, tupO [.int c.1 t1, .bytes c.2.1.toArray t2, .bool c.2.2] n) ∈ T → ChunkV T v c
theorem ChunkV.mono {T T' : Led} {v : Value} {c : Int × By × Bool} (h : ChunkV T v c) (s : Sub T T') : ChunkV T' v c := by
  obtain ⟨a, n, t1, t2, rfl, hm⟩ := h
  exact ⟨a, n, t1, t2, rfl, s _ hm (.inl rfl)⟩
theorem snd_next_chunk (w : World) (x d : Addr) (R own : Led) (o : Obj) (s : Snd) (most : Int) (tm : Tok) (hdx : @LT.lt Nat _ d x) (hR : ∀ p ∈ R, p.1 ≠ d) (hS : SndRep own o s)
    (hz : s.written.length ≤ 100000) (hz2 : s.lost.length ≤ 50000) (hlo : 0 ≤ (s.span most).1) (hhi : 0 ≤ (s.span most).2) :
    Calls w 154 30 300 [.ref x, .int most tm, .none] ((x, instObj 199 d) :: (d, o) :: R) own (fun r M' T => PSndP x d R (fun s' => if s.chunks most = true then ChunkV T r (s.chunkOf most) ∧ s' = s.chunked most else r = .none ∧ s' = s) T M') := by
  intro prog mean mg mb dp un gd cn cs a ccd cl outer A₀ base h₀ L m s9 Q E B F X N off T hk hdp hun hret
  obtain ⟨k, tl, te, tw, ts, va, vl, tr, ha, hl⟩ := id hS
  simp only [List.cons_append, List.map_cons] at N off
  by_cases hc : s.canReset = true
  · refine wpAny_call ?_
    k_dflt ktr_enter
    rename Fr _ _ _ _ => F1
    refine cut_at F1 own (x :: d :: R.map (·.1)) (fun m' C' _ => C' = (x, instObj 199 d) :: (d, sndO k (.int s.limit tl) (.str s.st.str te) (.bytes s.written.toArray tw) (.int s.sentTo ts) (.ref va) (.ref vl) (.bool s.fin) (.bool s.oe) (.bool s.ea) (optV s.rc tr) (.bool s.orr)) :: R ∧ ∀ p ∈ [((Str.ofString "self" : Str), Value.ref x), (Str.ofString "most", .int most tm), (Str.ofString "most_new", .none)], m' p.1 = some p.2) ?_ ?_
    · k_steps
      · exact cut_end (_ :: _ :: R) own (by k_asm) (by k_asm) (fun _ h => h) off ⟨rfl, by walk_at "binds"⟩
      · exfalso
        have h8 : s.st.isOpen = false := (any_open s.st).symm.trans (by assumption)
        have h9 : (s.st.str != Str.ofString "data_sent") = true := by assumption
        have h7 : s.st ≠ .dataSent := st_not (by simpa [bne] using h9)
        unfold Snd.canReset at hc
        rw [h8] at hc
        simp [h7] at hc
      · exact cut_end (_ :: _ :: R) own (by k_asm) (by k_asm) (fun _ h => h) off ⟨rfl, by walk_at "binds"⟩
    · clear F1 N
      rintro h2 tk2 mm C own hsub off ⟨hC, hm⟩ F2 N
      have htls := hsub
      subst hC
      simp only [List.cons_append] at N
      have F1 := fr_of _ F2 hm
      replace hS := hS.mono (.of hsub)
      replace ha := SpansV.mono ha (.of hsub)
      replace hl := SpansV.mono hl (.of hsub)
      clear F2 hm
      refine cut_at F1 own (x :: d :: R.map (·.1)) (fun m' C' T' => C' = (x, instObj 199 d) :: (d, sndO k (.int s.limit tl) (.str s.st.str te) (.bytes s.written.toArray tw) (.int s.sentTo ts) (.ref va) (.ref vl) (.bool s.fin) (.bool s.oe) (.bool s.ea) (optV s.rc tr) (.bool s.orr)) :: R ∧ ∃ v, (∀ p ∈ [((Str.ofString "self" : Str), Value.ref x), (Str.ofString "most", .int most tm), (Str.ofString "most_new", .none), (Str.ofString "span", v)], m' p.1 = some p.2) ∧ match firstSpan s.lost most with | none => v = .none | some p => SpanV T' v p) ?_ ?_
      · k_steps
        try k_fold
        k_dflt (refine' use_call (first_span_ok w ((x, instObj 199 d) :: (d, _) :: R) own (.ref vl) s.lost most tm hl (by lia)) ?B ?F ?X ?N ?S ?O ?T ?K ?D ?U ?_)
        walk_at "use"
        rintro r M' T2 h2 tk2 F4 N4 hsub2 hoff2 ⟨hr⟩
        k_steps
        exact cut_end _ T2 (by k_asm) (by k_asm) hsub2 hoff2 ⟨rfl, r, by walk_at "binds", hr⟩
      · clear F1 N
        rintro h2 tk2 mm C own2 hsub off2 ⟨hC, v, hm, hr⟩ F2 N
        replace htls := fun p hp => hsub p (htls p hp)
        subst hC
        simp only [List.cons_append] at N
        have F1 := fr_of _ F2 hm
        replace hS := hS.mono (.of hsub)
        replace ha := SpansV.mono ha (.of hsub)
        replace hl := SpansV.mono hl (.of hsub)
        clear F2 hm
        refine cut_at F1 own2 (x :: d :: R.map (·.1)) (fun m' C' T' => C' = (x, instObj 199 d) :: (d, sndO k (.int s.limit tl) (.str s.st.str te) (.bytes s.written.toArray tw) (.int s.sentTo ts) (.ref va) (.ref vl) (.bool s.fin) (.bool s.oe) (.bool s.ea) (optV s.rc tr) (.bool s.orr)) :: R ∧ ∃ v, (∀ p ∈ [((Str.ofString "self" : Str), (Value.ref x : Value)), ((Str.ofString "span" : Str), (v : Value))], m' p.1 = some p.2) ∧ SpanV T' v (s.span most)) ?_ ?_
        · cases hfs : firstSpan s.lost most with
          | none =>
            rw [hfs] at hr
            dsimp only at hr
            subst hr
            k_steps
            try k_fold
            k_dflt (refine' use_call (snd_new_room w x d R own2 _ s hdx hR hS hz) ?B ?F ?X ?N ?S ?O ?T ?K ?D ?U ?_)
            walk_at "use"
            rintro r M' T2 h2 tk2 F4 N4 hsub2 hoff2 ⟨t5⟩
            simp only [List.cons_append] at N4
            simp only [List.map_cons] at hoff2
            k_steps
            refine cut_end (_ :: _ :: R) (_ :: T2) (by k_asm) (news_sub (by k_asm) swS1) (fun p hp => .tail _ (hsub2 p hp)) (by walk_at "off") ⟨rfl, _, by walk_at "binds", ?_⟩
            have e : s.span most = (s.sentTo, s.sentTo + pmax 0 (pmin most s.newRoom)) := by unfold Snd.span; rw [hfs]
            rw [e]
            exact ⟨_, _, _, _, rfl, .head _⟩
          | some p =>
            rw [hfs] at hr
            dsimp only at hr
            have e : s.span most = p := by unfold Snd.span; rw [hfs]
            obtain ⟨a5, n5, t5, t6, rfl, hm5⟩ := hr
            k_steps
            refine cut_end (_ :: _ :: R) own2 (by k_asm) (by k_asm) (fun _ h => h) off2 ⟨rfl, _, by walk_at "binds", ?_⟩
            rw [e]
            exact ⟨_, _, _, _, rfl, hm5⟩
        · clear F1 N
          rintro h2 tk2 mm C own3 hsub off ⟨hC, v, hm, a5, n5, t5, t6, rfl, hm5⟩ F2 N
          replace htls := fun p hp => hsub p (htls p hp)
          subst hC
          simp only [List.cons_append] at N
          have F1 := fr_of _ F2 hm
          replace hS := hS.mono (.of hsub)
          replace ha := SpansV.mono ha (.of hsub)
          replace hl := SpansV.mono hl (.of hsub)
          clear F2 hm
          have hm5 := List.mem_append_right R hm5
          refine cut_at F1 own3 (x :: d :: R.map (·.1)) (fun m' C' T' => C' = (x, instObj 199 d) :: (d, sndO k (.int s.limit tl) (.str s.st.str te) (.bytes s.written.toArray tw) (.int s.sentTo ts) (.ref va) (.ref vl) (.bool s.fin) (.bool s.oe) (.bool s.ea) (optV s.rc tr) (.bool s.orr)) :: R ∧ ∃ t5 t6, (∀ p ∈ [((Str.ofString "self" : Str), (Value.ref x : Value)), ((Str.ofString "low" : Str), (.int (s.span most).1 t5 : Value)), ((Str.ofString "high" : Str), (.int (s.span most).2 t6 : Value))], m' p.1 = some p.2)) ?_ ?_
          · k_steps
            exact cut_end (_ :: _ :: R) own3 (by k_asm) (by k_asm) (fun _ h => h) off ⟨rfl, _, _, by walk_at "binds"⟩
          · clear F1 N
            rintro h2 tk2 mm C own4 hsub off ⟨hC, t5, t6, hm⟩ F2 N
            replace htls := fun p hp => hsub p (htls p hp)
            subst hC
            simp only [List.cons_append] at N
            have F1 := fr_of _ F2 hm
            replace hS := hS.mono (.of hsub)
            replace ha := SpansV.mono ha (.of hsub)
            replace hl := SpansV.mono hl (.of hsub)
            clear F2 hm
            generalize hsp : s.span most = sp at *
            obtain ⟨low, high⟩ := sp
            dsimp only at *
            refine cut_at F1 own4 (x :: d :: R.map (·.1)) (fun m' C' T' => C' = (x, instObj 199 d) :: (d, sndO k (.int s.limit tl) (.str s.st.str te) (.bytes s.written.toArray tw) (.int s.sentTo ts) (.ref va) (.ref vl) (.bool s.fin) (.bool s.oe) (.bool s.ea) (optV s.rc tr) (.bool s.orr)) :: R ∧ (∀ p ∈ [((Str.ofString "self" : Str), (Value.ref x : Value)), ((Str.ofString "low" : Str), (.int low t5 : Value)), ((Str.ofString "high" : Str), (.int high t6 : Value)), ((Str.ofString "is_end" : Str), (.bool (s.isEnd (low, high)) : Value))], m' p.1 = some p.2)) ?_ ?_
            · k_steps
              · have e : s.isEnd (low, high) = s.oe := by unfold Snd.isEnd; simp [*]
                exact cut_end (_ :: _ :: R) own4 (by k_asm) (by k_asm) (fun _ h => h) off ⟨rfl, by rw [e]; walk_at "binds"⟩
              · have e : s.isEnd (low, high) = decide (low < high) := by unfold Snd.isEnd; simp [*]
                exact cut_end (_ :: _ :: R) own4 (by k_asm) (by k_asm) (fun _ h => h) off ⟨rfl, by rw [e]; walk_at "binds"⟩
              · have e : s.isEnd (low, high) = (high == (s.written.length : Int)) := by unfold Snd.isEnd; simp [*]
                exact cut_end (_ :: _ :: R) own4 (by k_asm) (by k_asm) (fun _ h => h) off ⟨rfl, by rw [e]; walk_at "binds"⟩
              · have e : s.isEnd (low, high) = s.fin := by unfold Snd.isEnd; simp [*]
                exact cut_end (_ :: _ :: R) own4 (by k_asm) (by k_asm) (fun _ h => h) off ⟨rfl, by rw [e]; walk_at "binds"⟩
            · clear F1 N
              rintro h2 tk2 mm C own5 hsub off ⟨hC, hm⟩ F2 N
              replace htls := fun p hp => hsub p (htls p hp)
              subst hC
              simp only [List.cons_append] at N
              have F1 := fr_of _ F2 hm
              replace hS := hS.mono (.of hsub)
              replace ha := SpansV.mono ha (.of hsub)
              replace hl := SpansV.mono hl (.of hsub)
              clear F2 hm
              generalize hie : s.isEnd (low, high) = ie at *
              refine cut_at F1 own5 (x :: d :: R.map (·.1)) (fun m' C' T' => C' = (x, instObj 199 d) :: (d, sndO k (.int s.limit tl) (.str s.st.str te) (.bytes s.written.toArray tw) (.int s.sentTo ts) (.ref va) (.ref vl) (.bool s.fin) (.bool s.oe) (.bool s.ea) (optV s.rc tr) (.bool s.orr)) :: R ∧ (∀ p ∈ [((Str.ofString "self" : Str), (Value.ref x : Value)), ((Str.ofString "low" : Str), (.int low t5 : Value)), ((Str.ofString "high" : Str), (.int high t6 : Value)), ((Str.ofString "is_end" : Str), (.bool ie : Value))], m' p.1 = some p.2) ∧ s.chunks most = true) ?_ ?_
              · k_steps
                · have e : s.chunks most = true := by unfold Snd.chunks; rw [hsp, hie, hc]; simp [*]
                  exact cut_end (_ :: _ :: R) own5 (by k_asm) (by k_asm) (fun _ h => h) off ⟨rfl, by walk_at "binds", e⟩
                · have e : ¬ s.chunks most = true := by unfold Snd.chunks; rw [hsp, hie]; simp [*]
                  dsimp only
                  dsimp only [CutQ]
                  k_steps
                  refine hret _ ((x, instObj 199 d) :: (d, _) :: R) own5 _ _ (by k_asm) (by k_asm) htls off ⟨_, s, ?_, k, _, _, _, _, va, vl, tr, ha, hl⟩
                  rw [if_neg e]
                  exact ⟨rfl, rfl⟩
                · have e : s.chunks most = true := by unfold Snd.chunks; rw [hsp, hie, hc]; simp [*]
                  exact cut_end (_ :: _ :: R) own5 (by k_asm) (by k_asm) (fun _ h => h) off ⟨rfl, by walk_at "binds", e⟩
              · clear F1 N
                rintro h2 tk2 mm C own6 hsub off ⟨hC, hm, hch⟩ F2 N
                replace htls := fun p hp => hsub p (htls p hp)
                subst hC
                simp only [List.cons_append] at N
                have F1 := fr_of _ F2 hm
                replace hS := hS.mono (.of hsub)
                replace ha := SpansV.mono ha (.of hsub)
                replace hl := SpansV.mono hl (.of hsub)
                clear F2 hm
                k_steps
                try k_fold
                k_dflt (refine' use_call (cut_span_ok w ((x, instObj 199 d) :: (d, _) :: R) own6 (.ref vl) s.lost low high t5 t6 hl (by lia)) ?B ?F ?X ?N ?S ?O ?T ?K ?D ?U ?_)
                walk_at "use"
                rintro r M' T2 h2 tk2 F4 N4 hsub2 hoff2 ⟨l7, n7, vs7, hm7, hv7⟩
                simp only [List.cons_append] at N4
                simp only [List.map_cons] at hoff2
                have ec : s.chunkOf most = (low, pickL s.written (some low) (some high), ie) := by unfold Snd.chunkOf; rw [hsp, hie, pick_both hlo hhi]
                cases ie
                · k_steps
                  · have hq : s.st = .dataSent := st_is (by assumption)
                    have e : s.chunked most = { s with lost := cutSpan s.lost low high, sentTo := pmax s.sentTo high, oe := s.oe, st := .dataSent } := by unfold Snd.chunked; rw [hsp]; simp only [hie]; simp [*]
                    refine hret _ ((x, instObj 199 d) :: (d, _) :: R) (_ :: T2) _ _ (by k_asm) (news_sub (by k_asm) swS1) (fun p hp => .tail _ (hsub2 p (htls p hp))) (by walk_at "off") ⟨_, { s with lost := cutSpan s.lost low high, sentTo := pmax s.sentTo high, oe := s.oe, st := .dataSent }, ?_, k, _, _, _, _, va, l7, tr, SpansV.mono ha (.of fun p hp => .tail _ (hsub2 p hp)), ⟨_, _, _, rfl, .tail _ hm7, spans_mono hv7 (.of fun p hp => .tail _ hp)⟩⟩
                    rw [if_pos hch, ec, e]
                    exact ⟨⟨_, _, _, _, rfl, .head _⟩, rfl⟩
                  · have hq : s.st ≠ .dataSent := st_not (by assumption)
                    have e : s.chunked most = { s with lost := cutSpan s.lost low high, sentTo := pmax s.sentTo high, oe := s.oe, st := .send } := by unfold Snd.chunked; rw [hsp]; simp only [hie]; simp [*]
                    refine hret _ ((x, instObj 199 d) :: (d, _) :: R) (_ :: T2) _ _ (by k_asm) (news_sub (by k_asm) swS1) (fun p hp => .tail _ (hsub2 p (htls p hp))) (by walk_at "off") ⟨_, { s with lost := cutSpan s.lost low high, sentTo := pmax s.sentTo high, oe := s.oe, st := .send }, ?_, k, _, _, _, _, va, l7, tr, SpansV.mono ha (.of fun p hp => .tail _ (hsub2 p hp)), ⟨_, _, _, rfl, .tail _ hm7, spans_mono hv7 (.of fun p hp => .tail _ hp)⟩⟩
                    rw [if_pos hch, ec, e]
                    exact ⟨⟨_, _, _, _, rfl, .head _⟩, rfl⟩
                · k_steps
                  have e : s.chunked most = { s with lost := cutSpan s.lost low high, sentTo := pmax s.sentTo high, oe := false, st := .dataSent } := by unfold Snd.chunked; rw [hsp]; simp only [hie]; simp [*]
                  refine hret _ ((x, instObj 199 d) :: (d, _) :: R) (_ :: T2) _ _ (by k_asm) (news_sub (by k_asm) swS1) (fun p hp => .tail _ (hsub2 p (htls p hp))) (by walk_at "off") ⟨_, { s with lost := cutSpan s.lost low high, sentTo := pmax s.sentTo high, oe := false, st := .dataSent }, ?_, k, _, _, _, _, va, l7, tr, SpansV.mono ha (.of fun p hp => .tail _ (hsub2 p hp)), ⟨_, _, _, rfl, .tail _ hm7, spans_mono hv7 (.of fun p hp => .tail _ hp)⟩⟩
                  rw [if_pos hch, ec, e]
                  exact ⟨⟨_, _, _, _, rfl, .head _⟩, rfl⟩
  · have h8 : s.st.isOpen = false := by
      cases h : s.st.isOpen with
      | false => rfl
      | true => exfalso; apply hc; unfold Snd.canReset; rw [h]; rfl
    have h7 : s.st ≠ .dataSent := by
      intro h
      apply hc; unfold Snd.canReset; rw [h]; rfl
    have hn := (any_open s.st).trans h8
    have hn2 : (s.st.str != Str.ofString "data_sent") = true := by
      have := mt (ss_inj (a := s.st) (b := .dataSent)).mp h7
      simpa [bne, SS.str] using this
    refine wpAny_call ?_
    k_dflt ktr_enter
    k_steps
    have e : ¬ s.chunks most = true := by unfold Snd.chunks; rw [Bool.eq_false_iff.mpr hc]; simp
    refine hret _ ((x, instObj 199 d) :: (d, _) :: R) own _ _ (by k_asm) (by k_asm) (fun _ h => h) off ⟨_, s, ?_, k, _, _, _, _, va, vl, tr, ha, hl⟩
    rw [if_neg e]
    exact ⟨rfl, rfl⟩
theorem snd_on_acked (w : World) (x d : Addr) (R own : Led) (o : Obj) (s : Snd) (of sz : Int) (e : Bool) (t1 t2 : Tok) (hdx : @LT.lt Nat _ d x) (hR : ∀ p ∈ R, p.1 ≠ d) (hS : SndRep own o s)
    (hz : s.written.length ≤ 100000) (hz1 : s.acked.length ≤ 50000) (hz2 : s.lost.length ≤ 50000) :
    Calls w 168 30 300 [.ref x, .int of t1, .int sz t2, .bool e] ((x, instObj 199 d) :: (d, o) :: R) own (fun r M' T => PSnd x d R .none (s.ackData of sz e) T r M') := by
  intro prog mean mg mb dp un gd cn cs a ccd cl outer A₀ base h₀ L m s9 Q E B F X N off T hk hdp hun hret
  obtain ⟨k, tl, te, tw, ts, va, vl, tr, ha, hl⟩ := hS
  simp only [List.cons_append, List.map_cons] at N off
  refine wpAny_call ?_
  k_dflt ktr_enter
  k_steps
  try k_fold
  k_dflt (refine' use_call (add_span_ok w ((x, instObj 199 d) :: (d, _) :: R) own (.ref va) s.acked of (of + sz) _ _ ha (by lia)) ?B ?F ?X ?N ?S ?O ?T ?K ?D ?U ?_)
  walk_at "use"
  rintro r M' T2 h2 tk2 F4 N4 hsub off2 ⟨la, na, vsa, hma, hva⟩
  simp only [List.cons_append] at N4
  simp only [List.map_cons] at off2
  have ha2 : ListV SpanV T2 (.ref la) (addSpan s.acked of (of + sz)) := ⟨_, _, _, rfl, hma, hva⟩
  have hl2 := SpansV.mono hl (.of hsub)
  clear hma hva
  k_steps
  try k_fold
  k_dflt (refine' use_call (cut_span_ok w ((x, instObj 199 d) :: (d, _) :: R) T2 (.ref vl) s.lost of (of + sz) _ _ hl2 (by lia)) ?B ?F ?X ?N ?S ?O ?T ?K ?D ?U ?_)
  walk_at "use"
  rintro r M' T3 h3 tk3 F5 N5 hsub3 off3 ⟨ll, nl, vsl, hml, hvl⟩
  simp only [List.cons_append] at N5
  simp only [List.map_cons] at off3
  try (k_unfold; (try dsimp only))
  have ha3 := SpansV.mono ha2 (.of hsub3)
  have hl3 : ListV SpanV T3 (.ref ll) (cutSpan s.lost of (of + sz)) := ⟨_, _, _, rfl, hml, hvl⟩
  clear hml hvl ha2 hl2
  walk1
  walk1
  walk1
  rename Fr _ _ _ _ => F1
  refine cut_at F1 T3 (x :: d :: R.map (·.1)) (fun m' C' T' => C' = (x, instObj 199 d) :: (d, sndO k (.int s.limit tl) (.str s.st.str te) (.bytes s.written.toArray tw) (.int s.sentTo ts) (.ref la) (.ref ll) (.bool s.fin) (.bool (s.oe && !e)) (.bool (s.ea || e)) (optV s.rc tr) (.bool s.orr)) :: R ∧ (∀ p ∈ [((Str.ofString "self" : Str), Value.ref x)], m' p.1 = some p.2)) ?_ ?_
  · cases e
    · rw [Bool.not_false, Bool.and_true, Bool.or_false]
      k_steps
      exact cut_end (_ :: _ :: R) T3 (by k_asm) (by k_asm) (fun _ h => h) off3 ⟨rfl, by walk_at "binds"⟩
    · rw [Bool.not_true, Bool.and_false, Bool.or_true]
      k_steps
      exact cut_end (_ :: _ :: R) T3 (by k_asm) (by k_asm) (fun _ h => h) off3 ⟨rfl, by walk_at "binds"⟩
  · clear F1
    rintro h2 tk2 mm C T4 hsub4 off4 ⟨hC, hm⟩ F2 N2
    subst hC
    simp only [List.cons_append] at N2
    have F1 := fr_of _ F2 hm
    replace ha3 := SpansV.mono ha3 (.of hsub4)
    replace hl3 := SpansV.mono hl3 (.of hsub4)
    have hall : ∀ p ∈ own, p ∈ T4 := fun p hp => hsub4 p (hsub3 p (hsub p hp))
    generalize hea : (s.ea || e) = ea2 at *
    generalize hoe : (s.oe && !e) = oe2 at *
    clear F2 hm
    k_steps
    · have hq : s.st = .dataSent := st_is (by assumption)
      try k_fold
      k_dflt (refine' use_call (has_span_ok w ((x, instObj 199 d) :: (d, _) :: R) T4 (.ref la) (addSpan s.acked of (of + sz)) 0 (s.written.length : Int) _ _ ha3) ?B ?F ?X ?N ?S ?O ?T ?K ?D ?U ?_)
      walk_at "use"
      rintro r M' T5 h5 tk5 F6 N6 hsub5 off5 ⟨⟩
      simp only [List.cons_append] at N6
      simp only [List.map_cons] at off5
      replace ha3 := SpansV.mono ha3 (.of hsub5)
      replace hl3 := SpansV.mono hl3 (.of hsub5)
      generalize hb : hasSpan (addSpan s.acked of (of + sz)) 0 (s.written.length : Int) = b
      cases b
      · k_steps
        have e9 : s.ackData of sz e = ⟨s.limit, s.st, s.written, s.sentTo, addSpan s.acked of (of + sz), cutSpan s.lost of (of + sz), s.fin, oe2, ea2, s.rc, s.orr⟩ := by
          unfold Snd.ackData; rw [hea, hoe]; simp [*]
        refine hret _ ((x, instObj 199 d) :: (d, _) :: R) T5 _ _ (by k_asm) (by k_asm) (fun p hp => hsub5 p (hall p hp)) (by assumption) ⟨_, ?_⟩
        rw [e9]
        exact ⟨k, _, _, _, _, la, ll, tr, ha3, hl3⟩
      · k_steps
        have e9 : s.ackData of sz e = ⟨s.limit, .dataRecvd, s.written, s.sentTo, addSpan s.acked of (of + sz), cutSpan s.lost of (of + sz), s.fin, oe2, ea2, s.rc, s.orr⟩ := by
          unfold Snd.ackData; rw [hea, hoe]; simp [*]
        refine hret _ ((x, instObj 199 d) :: (d, _) :: R) T5 _ _ (by k_asm) (by k_asm) (fun p hp => hsub5 p (hall p hp)) (by assumption) ⟨_, ?_⟩
        rw [e9]
        exact ⟨k, _, _, _, _, la, ll, tr, ha3, hl3⟩
    · have hq : ea2 = false := by assumption
      have e9 : s.ackData of sz e = ⟨s.limit, s.st, s.written, s.sentTo, addSpan s.acked of (of + sz), cutSpan s.lost of (of + sz), s.fin, oe2, ea2, s.rc, s.orr⟩ := by
        unfold Snd.ackData; rw [hea, hoe]; simp [*]
      refine hret _ ((x, instObj 199 d) :: (d, _) :: R) T4 _ _ (by k_asm) (by k_asm) hall (by assumption) ⟨_, ?_⟩
      rw [e9]
      exact ⟨k, _, _, _, _, la, ll, tr, ha3, hl3⟩
    · have hq : s.st ≠ .dataSent := st_not (by assumption)
      have e9 : s.ackData of sz e = ⟨s.limit, s.st, s.written, s.sentTo, addSpan s.acked of (of + sz), cutSpan s.lost of (of + sz), s.fin, oe2, ea2, s.rc, s.orr⟩ := by
        unfold Snd.ackData; rw [hea, hoe]; simp [*]
      refine hret _ ((x, instObj 199 d) :: (d, _) :: R) T4 _ _ (by k_asm) (by k_asm) hall (by assumption) ⟨_, ?_⟩
      rw [e9]
      exact ⟨k, _, _, _, _, la, ll, tr, ha3, hl3⟩
inductive onlJ (x d : Addr) (k : K11) (s : Snd) (R : Led) (tl te tw ts : Tok) (va : Addr) (tr : Tok) (e : Bool) (ds : List Sp) (i : Nat) (m : Str → Option Value) (C T : Led) : Prop
  | mk : ∀ ll, C = (x, instObj 199 d) :: (d, sndO k (.int s.limit tl) (.str s.st.str te) (.bytes s.written.toArray tw) (.int s.sentTo ts) (.ref va) (.ref ll) (.bool s.fin) (.bool s.oe) (.bool s.ea) (optV s.rc tr) (.bool s.orr)) :: R → (∀ p ∈ [((Str.ofString "self" : Str), Value.ref x), (Str.ofString "is_end", .bool e)], m p.1 = some p.2) → ListV SpanV T (.ref ll) ((ds.take i).foldl (fun l p => addSpan l p.1 p.2) s.lost) → onlJ x d k s R tl te tw ts va tr e ds i m C T
inductive PSp (xs : List Sp) (v : Value) (T : Led) : Prop
  | mk (l n : Nat) (vs : List Value) (e : v = .ref l) (hm : (l, listOf vs.toArray n) ∈ T) (ha : All2 (SpanV T) vs xs) : PSp xs v T
theorem snd_on_lost (w : World) (x d : Addr) (R own : Led) (o : Obj) (s : Snd) (of sz : Int) (e : Bool) (t1 t2 : Tok) (hdx : @LT.lt Nat _ d x) (hR : ∀ p ∈ R, p.1 ≠ d) (hS : SndRep own o s)
    (hw : WosOk (if sz > 0 then [(of, of + sz)] else []) s.acked) (hf : ∀ i, (((withoutSpans (if sz > 0 then [(of, of + sz)] else []) s.acked).take i).foldl (fun l p => addSpan l p.1 p.2) s.lost).length ≤ 50000) :
    Calls w 175 60 600 [.ref x, .int of t1, .int sz t2, .bool e] ((x, instObj 199 d) :: (d, o) :: R) own (fun r M' T => PSnd x d R .none (s.loseData of sz e) T r M') := by
  intro prog mean mg mb dp un gd cn cs a ccd cl outer A₀ base h₀ L m s9 Q E B F X N off T hk hdp hun hret
  obtain ⟨k, tl, te, tw, ts, va, vl, tr, ha, hl⟩ := hS
  simp only [List.cons_append, List.map_cons] at N off
  refine wpAny_call ?_
  k_dflt ktr_enter
  repeat' (first | (k_unfold; (try dsimp only)) | (fail_if_success (with_reducible show wpAny _ _ (exec (Stmt.For _ _ _ _ _) _) _ _ _)); walk1)
  · rename Fr _ _ _ _ => F1
    rename News _ _ _ _ => N1
    have hq0 := (any_sent s.st).symm.trans (by assumption)
    k_here
    refine For_turns F1 ?_
    refine cut_eval F1 ((x, instObj 199 d) :: (d, sndO k (.int s.limit tl) (.str s.st.str te) (.bytes s.written.toArray tw) (.int s.sentTo ts) (.ref va) (.ref vl) (.bool s.fin) (.bool s.oe) (.bool s.ea) (optV s.rc tr) (.bool s.orr)) :: R) own (x :: d :: R.map (·.1)) (PSp (withoutSpans (if sz > 0 then [(of, of + sz)] else []) s.acked)) ?_ ?_
    · k_steps
      · have hv : ∀ l3 D2 t9, ListV SpanV ((l3, listOf [Value.ref D2].toArray 0) :: (D2, tupO [.int of t1, .int (of + sz) t9] 0) :: own) (.ref l3) (if sz > 0 then [(of, of + sz)] else []) := by
          intro l3 D2 t9
          rw [if_pos (by lia)]
          exact ⟨_, _, _, rfl, .head _, .cons ⟨_, _, _, _, rfl, .tail _ (.head _)⟩ .nil⟩
        k_dflt (refine' use_call (without_spans_ok w ((x, instObj 199 d) :: (d, _) :: R) _ (.ref _) (.ref va) _ s.acked (hv _ _ _) (SpansV.mono ha (.of (by walk_at "sub"))) hw) ?B ?F ?X ?N ?S ?O ?T ?K ?D ?U ?_)
        walk_at "use"
        rintro r M' T2 h5 tk5 F5 N5 hsub off5 ⟨lr, nr, vr, hmr, hvr⟩
        exact ev_end T2 F5 (by k_asm) (fun p hp => hsub p (.tail _ (.tail _ hp))) off5 ⟨lr, nr, vr, rfl, hmr, hvr⟩
      · have hv : ∀ l3, ListV SpanV ((l3, listOf ([] : List Value).toArray 0) :: own) (.ref l3) (if sz > 0 then [(of, of + sz)] else []) := by
          intro l3
          rw [if_neg (by lia)]
          exact ⟨_, _, _, rfl, .head _, .nil⟩
        k_dflt (refine' use_call (without_spans_ok w ((x, instObj 199 d) :: (d, _) :: R) _ (.ref _) (.ref va) _ s.acked (hv _) (SpansV.mono ha (.of (by walk_at "sub"))) hw) ?B ?F ?X ?N ?S ?O ?T ?K ?D ?U ?_)
        walk_at "use"
        rintro r M' T2 h5 tk5 F5 N5 hsub off5 ⟨lr, nr, vr, hmr, hvr⟩
        exact ev_end T2 F5 (by k_asm) (fun p hp => hsub p (.tail _ hp)) off5 ⟨lr, nr, vr, rfl, hmr, hvr⟩
    clear F1 N1
    rintro v0 h5 tk5 T2 ⟨lr, nr, vr, rfl, hmr, hvr⟩ hsubO off5 F5 N5
    simp only [List.cons_append] at N5
    have hlr := hvr.length
    replace ha := SpansV.mono ha (.of hsubO)
    replace hl := SpansV.mono hl (.of hsubO)
    generalize hds : withoutSpans (if sz > 0 then [(of, of + sz)] else []) s.acked = ds at *
    refine iter_list (C₀ := (x, instObj 199 d) :: (d, _) :: R) (tl := T2) (onlJ x d k s R tl te tw ts va tr e ds) (by rfl) hmr F5 N5 (by walk_at "off") ?_ ?_ ?_
    · exact ⟨vl, rfl, by walk_at "binds", hl⟩
    · clear F5 N5
      rintro i v mm C Tt T1 h tk hi' hv9 htl hT1 hoffT hC ⟨ll, rfl, hm, hlt⟩ F6 N6
      obtain ⟨p, hp, a', n', u1, u2, rfl, hmem⟩ := hvr.get hv9
      have hst2 := take_step hp (fun l p => addSpan l p.1 p.2) s.lost
      have hmem2 := List.mem_append_right R (hT1 _ (htl _ hmem))
      have F7 := fr_of _ F6 hm
      have hlt2 := SpansV.mono hlt (.of hT1)
      have hf2 := hf i
      simp only [List.cons_append] at N6
      simp only [List.map_cons] at hoffT
      dsimp only at *
      clear F6 hm hC hlt hmem
      k_steps
      try k_fold
      k_dflt (refine' use_call (add_span_ok w ((x, instObj 199 d) :: (d, _) :: R) T1 (.ref ll) _ p.1 p.2 u1 u2 hlt2 (by lia)) ?B ?F ?X ?N ?S ?O ?T ?K ?D ?U ?_)
      walk_at "use"
      rintro r M' T3 h8 tk8 F8 N8 hsub8 off8 ⟨l8, n8, vs8, hm8, hv8⟩
      simp only [List.cons_append] at N8
      simp only [List.map_cons] at off8
      k_steps
      dsimp only [TurnPost]
      refine TurnEnd.intro ((x, instObj 199 d) :: (d, _) :: R) T3 (by k_asm) (by k_asm) hsub8 off8 (by exact rfl) ?_
      intro T4 s4 _
      exact ⟨l8, rfl, by walk_at "binds", by rw [hst2]; exact SpansV.mono ⟨_, _, _, rfl, hm8, hv8⟩ s4⟩
    · clear F5 N5
      rintro mm C Tt h tk htl hoffT hC ⟨ll, rfl, hm, hlt⟩ F6 N6
      rw [hlr, List.take_length] at hlt
      have F7 := fr_of _ F6 hm
      simp only [List.cons_append, envOf_locals] at N6 F7
      simp only [List.map_cons] at hoffT
      dsimp only at *
      clear F6 hm
      have hq := hq0
      k_steps
      · have e9 : s.loseData of sz e = { s with lost := ds.foldl (fun l p => addSpan l p.1 p.2) s.lost, oe := s.oe } := by unfold Snd.loseData; rw [if_pos hq, hds]; simp [*]
        refine hret _ ((x, instObj 199 d) :: (d, _) :: R) Tt _ _ (by k_asm) (by k_asm) (fun p hp => htl p (hsubO p hp)) hoffT ⟨_, ?_⟩
        rw [e9]
        exact ⟨k, _, _, _, _, va, ll, tr, SpansV.mono ha (.of htl), hlt⟩
      · have e9 : s.loseData of sz e = { s with lost := ds.foldl (fun l p => addSpan l p.1 p.2) s.lost, oe := true } := by unfold Snd.loseData; rw [if_pos hq, hds]; simp [*]
        refine hret _ ((x, instObj 199 d) :: (d, _) :: R) Tt _ _ (by k_asm) (by k_asm) (fun p hp => htl p (hsubO p hp)) hoffT ⟨_, ?_⟩
        rw [e9]
        exact ⟨k, _, _, _, _, va, ll, tr, SpansV.mono ha (.of htl), hlt⟩
      · have e9 : s.loseData of sz e = { s with lost := ds.foldl (fun l p => addSpan l p.1 p.2) s.lost, oe := s.oe } := by unfold Snd.loseData; rw [if_pos hq, hds]; simp [*]
        refine hret _ ((x, instObj 199 d) :: (d, _) :: R) Tt _ _ (by k_asm) (by k_asm) (fun p hp => htl p (hsubO p hp)) hoffT ⟨_, ?_⟩
        rw [e9]
        exact ⟨k, _, _, _, _, va, ll, tr, SpansV.mono ha (.of htl), hlt⟩
  · have hq : (s.st == .send || s.st == .dataSent) = false := (any_sent s.st).symm.trans (by assumption)
    have e9 : s.loseData of sz e = s := by unfold Snd.loseData; rw [if_neg (by rw [hq]; simp)]
    refine hret _ ((x, instObj 199 d) :: (d, _) :: R) (_ :: own) _ _ (by k_asm) (news_sub (by k_asm) swS1) (fun p hp => .tail _ hp) (by walk_at "off") ⟨_, ?_⟩
    rw [e9]
    exact ⟨k, _, _, _, _, va, vl, tr, SpansV.mono ha (.of fun p hp => .tail _ hp), SpansV.mono hl (.of fun p hp => .tail _ hp)⟩
theorem snd_on_stop (w : World) (x d : Addr) (R own : Led) (o : Obj) (s : Snd) (c : Int) (t : Tok) (hdx : @LT.lt Nat _ d x) (hR : ∀ p ∈ R, p.1 ≠ d) (hS : SndRep own o s) :
    Calls w 119 20 200 [.ref x, .int c t] ((x, instObj 199 d) :: (d, o) :: R) own (fun r M' T => PSnd x d R (.bool s.canReset) (s.reset c) T r M') := by
  intro prog mean mg mb dp un gd cn cs a ccd cl outer A₀ base h₀ L m s9 Q E B F X N off T hk hdp hun hret
  have hS2 := hS
  obtain ⟨k, tl, te, tw, ts, va, vl, tr, ha, hl⟩ := hS2
  simp only [List.cons_append, List.map_cons] at N off
  refine wpAny_call ?_
  k_dflt ktr_enter
  k_steps
  try k_fold
  k_dflt (refine' use_call (snd_reset w x d R own _ s c t hdx hR hS) ?B ?F ?X ?N ?S ?O ?T ?K ?D ?U ?_)
  walk_at "use"
  rintro r M' T2 h2 tk2 F4 N4 hsub off2 ⟨o', hS'⟩
  simp only [List.cons_append] at N4
  simp only [List.map_cons] at off2
  k_steps
  exact hret _ ((x, instObj 199 d) :: (d, _) :: R) T2 _ _ (by k_asm) (by k_asm) hsub off2 ⟨o', hS'⟩
noncomputable def KasAll {α : Type} (n : Nat) (P : α → Prop) : KasT α → Prop
  | .ret a => P a
  | .ask i j k => i < n ∧ j < n ∧ ∀ b, KasAll n P (k b)
theorem KasAll.bind {α β : Type} {n : Nat} {P : α → Prop} {P' : β → Prop} {f : α → KasT β} (hf : ∀ a, P a → KasAll n P' (f a)) : ∀ (t : KasT α), KasAll n P t → KasAll n P' (t.bind f)
  | .ret a, h => hf a h
  | .ask _ _ k, h => ⟨h.1, h.2.1, fun b => KasAll.bind hf (k b) (h.2.2 b)⟩
theorem kas_all_wp {α : Type} {n : Nat} {P : α → Prop} {cmp : Nat → Nat → (Bool → Shared → Prop) → Shared → Prop} {R : Shared → Prop} {Q : α → Shared → Prop} (hc : ∀ i j, i < n → j < n → ∀ C s, R s → (∀ b s', R s' → C b s') → cmp i j C s) (hq : ∀ a s, P a → R s → Q a s) :
    ∀ (t : KasT α), KasAll n P t → ∀ s, R s → t.kasWp cmp Q s
  | .ret a, h, s, r => hq a s h r
  | .ask i j k, h, s, r => hc i j h.1 h.2.1 _ s r fun b s' r' => kas_all_wp hc hq (k b) (h.2.2 b) s' r'
noncomputable abbrev Good (n : Nat) (p : Array Nat) : Prop := p.Perm (List.toArray (List.range n))
theorem good_lt {n : Nat} {p : Array Nat} (h : Good n p) (hn : 0 < n) (k : Nat) : p.getD k 0 < n := by
  unfold Array.getD
  split
  · rename_i hk
    have hm : p[k] ∈ p := Array.getElem_mem hk
    have hm2 : p[k] ∈ List.toArray (List.range n) := h.mem_iff.mp hm
    simpa using hm2
  · exact hn
theorem good_rev {n : Nat} {p : Array Nat} (h : Good n p) (i j : Nat) : Good n (kas_rev p i j) := (mirror_perm _ _ _ _).trans h
section
variable {n : Nat} (hn : 0 < n)
include hn
theorem all_asc {p : Array Nat} (h : Good n p) : ∀ (f k : Nat), KasAll n (fun _ => True) (kas_asc p f k)
  | 0, _ => trivial
  | f + 1, k => ⟨good_lt h hn _, good_lt h hn _, fun b => by
    dsimp only
    split
    · trivial
    · exact all_asc h f (k + 1)⟩
theorem all_desc : ∀ (f : Nat) {p : Array Nat}, Good n p → ∀ (k q : Nat), KasAll n (fun r => Good n r.1) (kas_desc f p k q)
  | 0, _, h, _, _ => h
  | f + 1, p, h, k, q => ⟨good_lt h hn _, good_lt h hn _, fun b => by
    dsimp only
    split
    · split
      · exact all_desc f (good_rev h _ _) _ _
      · exact all_desc f h _ _
    · refine ⟨good_lt h hn _, good_lt h hn _, fun c => ?_⟩
      dsimp only
      split
      · exact h
      · exact all_desc f h _ _⟩
theorem all_tail3 {p : Array Nat} (h : Good n p) (k nrem : Nat) : KasAll n (fun r => Good n r.2) (kas_tail3 k nrem p) := by
  unfold kas_tail3
  refine KasAll.bind (P := fun _ => True) (fun m _ => ?_) _ (all_asc hn (good_rev h _ _) _ _)
  exact good_rev h _ _
theorem all_descPart {p : Array Nat} (h : Good n p) (k nrem : Nat) : KasAll n (fun r => Good n r.2) (kas_descPart k nrem p) := by
  unfold kas_descPart
  refine KasAll.bind (fun r hr => ?_) _ (all_desc hn _ h _ _)
  split
  · exact all_tail3 hn (good_rev hr _ _) _ _
  · exact all_tail3 hn hr _ _
theorem all_count {p : Array Nat} (h : Good n p) (nrem : Nat) : KasAll n (fun r => Good n r.2) (kas_count nrem p) := by
  unfold kas_count
  refine KasAll.bind (fun m _ => ?_) _ (all_asc hn h _ _)
  split
  · exact h
  · split
    · refine ⟨good_lt h hn _, good_lt h hn _, fun b => ?_⟩
      dsimp only
      split
      · exact h
      · exact all_descPart hn (good_rev h _ _) _ _
    · exact all_descPart hn h _ _
theorem all_place {p : Array Nat} (h : Good n p) (k : Nat) : ∀ (f l r : Nat), KasAll n (fun _ => True) (kas_place p k f l r)
  | 0, _, _ => trivial
  | f + 1, l, r => by
    unfold kas_place
    split
    · trivial
    · refine ⟨good_lt h hn _, good_lt h hn _, fun b => ?_⟩
      dsimp only
      split
      · exact all_place h k f _ _
      · exact all_place h k f _ _
theorem all_bin : ∀ (f : Nat) {p : Array Nat}, Good n p → ∀ k, KasAll n (Good n) (kas_bin f p k)
  | 0, _, h, _ => h
  | f + 1, p, h, k => by
    unfold kas_bin
    exact KasAll.bind (fun l _ => all_bin f ((bubble_perm _ _ _).trans h) _) _ (all_place hn h k _ _ _)
theorem all_sort : KasAll n (Good n) (kas_sort n) := by
  unfold kas_sort
  refine KasAll.bind (fun r hr => ?_) _ (all_count hn (Array.Perm.refl _) _)
  split
  · exact all_bin hn _ hr _
  · exact hr
end
section
variable {prog : Program} {w : World} {A : Around} {E : Value → Shared → Prop} {s : Shared} {h₀ : Heap} {L : Addr} {m : Str → Option Value} {news : Led} {vs : List Value} {ps : List Pc}
theorem pc_tups (N : News h₀ L s.heap news) : ∀ {vs : List Value} {ps : List Pc}, All2 (PieceV news) vs ps → ∃ fs : List Value, KatTups s.heap vs fs ∧ fs.length = vs.length ∧ ∀ v ∈ fs, ∃ i t, v = .int i t
  | _, _, .nil => ⟨[], .nil, rfl, fun _ h => nomatch h⟩
  | _, _, .cons a b => by
    obtain ⟨fs, h1, h2, h3⟩ := pc_tups N b
    obtain ⟨ad, n, t1, t2, rfl, hm⟩ := a
    refine ⟨_ :: fs, .cons (N _ hm).1 rfl rfl rfl h1, by simp [h2], fun v hv => ?_⟩
    rcases List.mem_cons.mp hv with rfl | hv
    · exact ⟨_, _, rfl⟩
    · exact h3 v hv
theorem All2.getD {α : Type} {R : Value → α → Prop} (d : α) {vs : List Value} {xs : List α} (h : All2 R vs xs) {i : Nat} (hi : i < vs.length) : R (vs.getD i Value.none) (xs.getD i d) := by
  obtain ⟨x, hx, hr⟩ := h.get (List.getElem?_eq_getElem hi)
  rw [List.getD_eq_getElem?_getD, List.getD_eq_getElem?_getD, hx, List.getElem?_eq_getElem hi]
  exact hr
theorem perm_getD {α : Type} (d : α) (xs : List α) {p : Array Nat} (h : Good xs.length p) : (p.toList.map fun i => xs.getD i d).Perm xs := by
  have h1 : p.toList.Perm (List.range xs.length) := by simpa using h.toList
  have h2 := h1.map fun i => xs.getD i d
  have h3 : (List.range xs.length).map (fun i => xs.getD i d) = xs := by
    apply List.ext_getElem?
    intro i
    by_cases hi : i < xs.length
    · simp [hi]
    · simp [hi]
  rwa [h3] at h2
theorem All2.ofMap {α : Type} {R : Value → α → Prop} {f : Nat → Value} {g : Nat → α} : ∀ (l : List Nat), (∀ i ∈ l, R (f i) (g i)) → All2 R (l.map f) (l.map g)
  | [], _ => .nil
  | i :: l, h => .cons (h i (.head _)) (All2.ofMap l fun j hj => h j (.tail _ hj))
theorem pc_ask (N : News h₀ L s.heap news) (ha : All2 (PieceV news) vs ps) (hd : (ps.map (·.1)).Nodup) {i j : Nat} (hi : i < vs.length) (hj : j < vs.length) {C : Bool → Shared → Prop} (hC : ∀ b, C b s) :
    kas_ask prog w A (tuples' true) vs i j C s := by
  unfold kas_ask
  obtain ⟨a, n, t1, t2, ea, hma⟩ := ha.getD (0, []) hi
  obtain ⟨b, k, u1, u2, eb, hmb⟩ := ha.getD (0, []) hj
  rw [ea, eb]
  refine kat_lt (N _ hma).1 rfl (N _ hmb).1 rfl ?_
  refine kat_cons ?_
  refine wpAny_eqBool_int ?_
  refine kat_go (fun he => ?_) (fun he => ?_)
  · refine kat_yes (kat_cons ?_)
    have hi' : i < ps.length := ha.length ▸ hi
    have hj' : j < ps.length := ha.length ▸ hj
    have hij : i = j := by
      have e1 : (ps.getD i (0, [])).1 = (ps.getD j (0, [])).1 := by simpa using he
      rw [List.getD_eq_getElem?_getD, List.getD_eq_getElem?_getD, List.getElem?_eq_getElem hi', List.getElem?_eq_getElem hj'] at e1
      simp only [Option.getD_some] at e1
      have := (List.getElem_inj (i := i) (j := j) (h₀ := by simpa using hi') (h₁ := by simpa using hj') hd).mp (by simpa using e1)
      exact this
    subst hij
    refine eqBool_bytes ?_
    rw [decide_eq_true rfl]
    exact kat_yes (kat_nil (hC _))
  · refine kat_no ?_
    exact oneLt_int (hC _)
theorem news_toks {s : Shared} {tk : Nat} : ({ s with toks := tk } : Shared).heap = s.heap := rfl
theorem sort1 {a : Addr} {n : Nat} {v : Value} {P : PySem.Fin → Shared → Prop} (F : Fr h₀ L s.heap m) (N : News h₀ L s.heap news) (ho : s.heap.get? a = some (seqObj "list" [v].toArray n)) (haL : a ≠ L) (ha0 : h₀.get? a = none) (hna : ∀ p ∈ news, p.1 ≠ a)
    (h : ∀ c h', Fr h₀ L h' m → News h₀ L h' ((a, listOf [v].toArray c) :: news) → P (.done (.ret .none)) { s with heap := h' }) :
    wpAny (model prog w) A (Builtin.«list.sort» ⟨[.ref a], []⟩) P E s := by
  have ha : a < s.heap.objs.size := Heap.lt_size ho
  have s1 := Heap.SameBut.update s.heap a (Obj.mapSeq fun _ => (#[] : Array Value))
  obtain ⟨e1, ho1⟩ : ∃ e1, (s.heap.update a (Obj.mapSeq fun _ => (#[] : Array Value))).get? a = some (seqObj "list" #[] e1) := ⟨_, get?_update_seq ho fun _ => #[]⟩
  have F3 : Fr h₀ L (((s.heap.update a (Obj.mapSeq fun _ => (#[] : Array Value))).push (seqObj "tuple" [v].toArray 0)).push (seqObj "list" #[] 0)) m := ((kas_fr F s1 haL ha0).push _).push _
  have N2 : News h₀ L (((s.heap.update a (Obj.mapSeq fun _ => (#[] : Array Value))).push (seqObj "tuple" [v].toArray 0)).push (seqObj "list" #[] 0)) news :=
    (kas_news N s1 hna).grown fun b x e => Heap.get?_push_of_some _ (Heap.get?_push_of_some _ e)
  have N3 : (((s.heap.update a (Obj.mapSeq fun _ => (#[] : Array Value))).push (seqObj "tuple" [v].toArray 0)).push (seqObj "list" #[] 0)).get? a = some (seqObj "list" #[] e1) := Heap.get?_push_of_some _ (Heap.get?_push_of_some _ ho1)
  rw [list_sort_plain]
  refine wpAny_bind (listItems_at ho rfl ?_)
  refine wpAny_bind (listUpdate_at ho rfl ?_ (by rw [List.size_toArray, sizeLine_eq]; simp) (Nat.zero_le _))
  refine wpAny_bind (seqEpoch_at ho1 rfl ?_)
  refine wpAny_bind (wpAny_newTuple ?_ (by show 1 ≤ _; rw [sizeLine_eq]; lia))
  refine wpAny_bind (wpAny_newList ?_ (Nat.zero_le _))
  refine wpAny_holding ?_
  show wpAny (model prog w) A _ P E { s with heap := ((s.heap.update a (Obj.mapSeq fun _ => (#[] : Array Value))).push (seqObj "tuple" [v].toArray 0)).push (seqObj "list" #[] 0) }
  dsimp only
  have hn2 : [v].toArray.size < 2 := by simp
  rw [if_pos hn2, if_pos hn2]
  refine wpAny_bind (wpAny_pure ?_)
  refine wpAny_bind (wpAny_pure ?_)
  dsimp only
  have hout : (arrOf (SortSt.mk' general' ([v].toArray.zip [v].toArray) #[] 7 none)).map (·.2) = [v].toArray := by
    show Array.map (fun x => x.2) ([v].toArray.zip [v].toArray) = _
    simp
  rw [hout]
  have s2 := Heap.SameBut.update (((s.heap.update a (Obj.mapSeq fun _ => (#[] : Array Value))).push (seqObj "tuple" [v].toArray 0)).push (seqObj "list" #[] 0)) a (Obj.mapSeq fun _ => [v].toArray)
  obtain ⟨c2, hc2⟩ : ∃ c2, ((((s.heap.update a (Obj.mapSeq fun _ => (#[] : Array Value))).push (seqObj "tuple" [v].toArray 0)).push (seqObj "list" #[] 0)).update a (Obj.mapSeq fun _ => [v].toArray)).get? a = some (seqObj "list" [v].toArray c2) := ⟨_, get?_update_seq N3 fun _ => [v].toArray⟩
  refine wpAny_bind (seqEpoch_at N3 rfl ?_)
  refine wpAny_bind (listUpdate_at N3 rfl ?_ (Nat.zero_le _) (by rw [List.size_toArray, sizeLine_eq]; simp))
  simp only [bne_self_eq_false, Bool.false_eq_true, if_false]
  refine wpAny_pure (h c2 _ (kas_fr F3 s2 haL ha0) fun p hp => ?_)
  rcases List.mem_cons.mp hp with rfl | hp
  · exact ⟨hc2, haL, ha0⟩
  · exact kas_news N2 s2 hna p hp
theorem sorted1 {l : Addr} {v : Value} {Q : Value → Shared → Prop} (F : Fr h₀ L s.heap m) (N : News h₀ L s.heap news) (hl : s.heap.IsList l [v].toArray)
    (h : ∀ D c h', Fr h₀ L h' m → News h₀ L h' ((D, listOf [v].toArray c) :: news) → (∀ q ∈ news, q.1 < D) → Q (.ref D) { s with heap := h' }) :
    wpAny (model prog w) A (call (.builtin "sorted") [.ref l]) Q E s := by
  refine Calls.call_function_entry kind_sorted plain_sorted entry_sorted (args_sorted1 _) ?_
  unfold Builtin.«sorted»
  refine wpAny_bind (m := checkCount "sorted" 1 1 _) (wpAny_pure ?_)
  refine wpAny_bind (collect_list hl ?_ (by rw [sizeLine_eq]; simp))
  refine wpAny_bind (wpAny_newList ?_ (by rw [sizeLine_eq]; simp))
  have hsz : ((s.heap.push (seqObj "list" #[] 0)).update s.heap.objs.size (Obj.mapSeq (· ++ [v].toArray))).objs.size = s.heap.objs.size + 1 := by
    rw [Heap.size_update, size_push']
  have hoL : (((s.heap.push (seqObj "list" #[] 0)).update s.heap.objs.size (Obj.mapSeq (· ++ [v].toArray))).push (seqObj "list" [v].toArray 0)).get? (s.heap.objs.size + 1) = some (seqObj "list" [v].toArray 0) := by
    rw [← hsz]; exact Heap.get?_push_size _ rfl
  have keep : ∀ b o, s.heap.get? b = some o → (((s.heap.push (seqObj "list" #[] 0)).update s.heap.objs.size (Obj.mapSeq (· ++ [v].toArray))).push (seqObj "list" [v].toArray 0)).get? b = some o := fun b o q => by
    have hlt : b < s.heap.objs.size := Heap.lt_size q
    rw [Heap.get?_push_ne _ _ _ (by rw [hsz]; exact Nat.ne_of_lt (Nat.lt_succ_of_lt hlt)), Heap.get?_update_ne _ _ _ _ (Nat.ne_of_lt hlt), Heap.get?_push_ne _ _ _ (Nat.ne_of_lt hlt)]
    exact q
  have hL : L < s.heap.objs.size := F.ns.lt
  show wpAny _ _ _ _ _ { s with heap := ((s.heap.push (seqObj "list" #[] 0)).update s.heap.objs.size (Obj.mapSeq (· ++ [v].toArray))).push (seqObj "list" [v].toArray 0) }
  rw [hsz]
  refine wpAny_bind (wpAny_holding (wpAny_call_entry slot_list_sort ⟨_, hoL, rfl⟩ entry_list_sort ?body (args_list_sort _)))
  case body =>
    refine sort1 (s := { s with heap := ((s.heap.push (seqObj "list" #[] 0)).update s.heap.objs.size (Obj.mapSeq (· ++ [v].toArray))).push (seqObj "list" [v].toArray 0) })
      (F.kept keep) (N.grown keep) hoL (Nat.ne_of_gt (Nat.lt_succ_of_lt hL)) (Heap.get?_none_of_le (Nat.le_trans F.above (Nat.le_succ_of_le (Nat.le_of_lt hL))))
      (fun p hp => Nat.ne_of_lt (Nat.lt_succ_of_lt (Heap.lt_size (N p hp).1))) fun c h' F' N' => ?_
    exact ⟨_, rfl, wpAny_pure ⟨_, rfl, h _ c h' F' N' fun q hq => Nat.lt_succ_of_lt (Heap.lt_size (N q hq).1)⟩⟩
theorem sorted_pieces {l : Addr} {T : Led} {Q : Value → Shared → Prop} (F : Fr h₀ L s.heap m) (N : News h₀ L s.heap news) (hl : s.heap.IsList l vs.toArray) (ha : All2 (PieceV T) vs ps) (hd : (ps.map (·.1)).Nodup) (hT : ∀ p ∈ T, p ∈ news) (h0 : 0 < vs.length) (h64 : vs.length < 64)
    (h : ∀ D c vs' ps' h' tk, Fr h₀ L h' m → News h₀ L h' ((D, listOf vs'.toArray c) :: news) → (∀ q ∈ news, q.1 < D) → All2 (PieceV T) vs' ps' → ps'.Perm ps → Q (.ref D) { s with heap := h', toks := tk }) :
    wpAny (model prog w) A (call (.builtin "sorted") [.ref l]) Q E s := by
  by_cases h1 : vs.length = 1
  · obtain ⟨v, rfl⟩ := List.length_eq_one_iff.mp h1
    exact sorted1 F N hl fun D c h' F' N' hb => h D c _ _ h' s.toks F' N' hb ha (.refl _)
  refine kat_sorted F N hl (by lia) h64 fun D e1 h' F' N' hb => ?_
  have N1 : News h₀ L h' T := fun p hp => N' p (.tail _ (hT p hp))
  obtain ⟨fs, ht, hfl, hfi⟩ := pc_tups (s := { s with heap := h' }) N1 ha
  refine kat_kind (T := .type "int") ht (by lia) (fun v hv => ?_) (by rfl) ?_
  · obtain ⟨i, t, rfl⟩ := hfi v hv
    exact Looks.of_pure rfl
  refine kas_all_wp (n := vs.length) (P := Good vs.length) (R := fun s' => s' = { s with heap := h' }) ?_ ?_ _ (all_sort h0) _ rfl
  · rintro i j hi hj C s' rfl hC
    exact pc_ask (s := { s with heap := h' }) N1 ha hd hi hj fun b => hC b _ rfl
  · rintro p s' hp rfl
    refine KasFin.intro F' N' (.head fun p hp => Nat.ne_of_lt (hb p hp)) fun h2 c F2 N2 => ?_
    refine h D c _ (p.toList.map fun i => ps.getD i (0, [])) h2 s.toks F2 N2 hb (All2.ofMap _ fun i hi => ?_) (perm_getD _ _ (ha.length ▸ hp))
    refine ha.getD _ ?_
    have : i ∈ p := by simpa using hi
    have := hp.mem_iff.mp this
    simpa using this
end
theorem sw5 {M own : Led} {x y z u v : Addr × Obj} : ∀ p ∈ M ++ (x :: y :: z :: u :: v :: own), p ∈ x :: y :: z :: u :: v :: (M ++ own) := by walk_at "sub"
theorem pickL_len {α : Type} (x : List α) (lo hi : Option Int) : (pickL x lo hi).length ≤ x.length := by
  unfold pickL
  rw [List.length_take, List.length_drop]
  omega
theorem pieceV_mk {T : Led} {a : Addr} {n : Nat} {i : Int} {d : By} {t1 t2 : Tok} (h : (a, tupO [.int i t1, .bytes d.toArray t2] n) ∈ T) : PieceV T (.ref a) (i, d) := ⟨a, n, t1, t2, rfl, h⟩
theorem rows4 : True := by
  k_with "size" => ((refine Nat.le_trans (Nat.add_le_add (pickL_len _ _ _) (Nat.le_refl _)) ?_; lia))
  k_with "x call builtin:sorted" => ((k_here; (with_reducible show wpAny _ _ (call (Value.builtin "sorted") [Value.ref _]) _ _ _); k_dflt (refine sorted_pieces (by first | (k_asm)) (by first | (k_asm)) (by first | (walk_at "isList")) (All2.snoc (pieces_mono (by first | (assumption)) (.of fun _ hp => .tail _ hp)) (pieceV_mk (.head _))) (by first | (assumption)) (by first | (walk_at "sub")) (by first | (walk_at "size")) (by first | (walk_at "size")) ?_); intro zD zc zvs zps zh ztk zF zN zl zhvs zhps; (try k_lt zl); (try k_sweep)))
  trivial
inductive pcJ (M : Led) (ps : List Pc) (o : Int) (d : By) (i : Nat) (m : Str → Option Value) (C T : Led) : Prop
  | mk : ∀ f fs c t1 t2 st, C = (f, listOf (List.toArray fs) c) :: M → (∀ p ∈ M, p.1 ≠ f) → (ps.take i).foldl pcStep ⟨[], o, d⟩ = st → (∀ p ∈ [((Str.ofString "found" : Str), Value.ref f), (Str.ofString "begin", .int st.begin t1), (Str.ofString "joined", .bytes st.joined.toArray t2)], m p.1 = some p.2) → All2 (PieceV T) fs st.found → pcJ M ps o d i m C T
/-- every round of it is short, and the starts are apart -/
noncomputable def PcOk (ps : List Pc) (o : Int) (d : By) : Prop :=
  (∀ p ∈ ps, p.2.length ≤ 1000) ∧ d.length ≤ 1000 ∧ (∀ i, ((ps.take i).foldl pcStep ⟨[], o, d⟩).joined.length ≤ 1000 ∧ ((ps.take i).foldl pcStep ⟨[], o, d⟩).found.length ≤ 50) ∧
    (((addPcs ps o d).found ++ [((addPcs ps o d).begin, (addPcs ps o d).joined)]).map (·.1)).Nodup
inductive PPcs (M : Led) (tgt : List Pc) (T : Led) : Value → Led → Prop
  | mk (l : Addr) (ps' : List Pc) (h : ListV PieceV T (.ref l) ps') (hp : ps'.Perm tgt) : PPcs M tgt T (.ref l) M
theorem add_piece_ok (w : World) (M own : Led) (v : Value) (ps : List Pc) (o : Int) (d : By) (t1 t2 : Tok) (hv : ListV PieceV own v ps) (hne : d ≠ []) (hsz : PcOk ps o d) :
    Calls w 210 10 100 [v, .int o t1, .bytes d.toArray t2] M own (fun r M' T => PPcs M ((addPcs ps o d).found ++ [((addPcs ps o d).begin, (addPcs ps o d).joined)]) T r M') := by
  intro prog mean mg mb dp un gd cn cs a ccd cl outer A₀ base h₀ L m s Q E B F X N off T hk hdp hun hret
  obtain ⟨l, n, vs, rfl, hl, hvs⟩ := hv
  obtain ⟨hz1, hz2, hz3, hz4⟩ := hsz
  have hl' := List.mem_append_right M hl
  have hlen := hvs.length
  have hd0 : 0 < d.length := List.length_pos_iff.mpr hne
  refine wpAny_call ?_
  k_dflt ktr_enter
  k_steps
  · exfalso; lia
  · rename Fr _ _ _ _ => F1
    rename News _ _ _ _ => N1
    refine iter_list (C₀ := _ :: M) (tl := _ :: own) (pcJ M ps o d) (by rfl) (.tail _ hl) F1 (news_sub N1 sw11) (by walk_at "off") ?_ ?_ ?_
    · exact ⟨_, [], 0, t1, t2, _, rfl, by walk_at "apart", rfl, by walk_at "binds", .nil⟩
    · clear F1 N1
      rintro i v mm C Tt T1 h tk hi' hv htl hT1 hoffT hC ⟨f, fs, c, u1, u2, ⟨found, bg, jn⟩, rfl, hMf, hst, hm, hfs⟩ F2 N2
      obtain ⟨p, hp, a', n', u3, u4, rfl, hmem⟩ := hvs.get hv
      have hzp := hz1 p (List.mem_of_getElem? hp)
      have hst2 := (take_step hp pcStep ⟨[], o, d⟩).trans (congrArg (pcStep · p) hst)
      have hz5 := hz3 i
      have hz6 := hz3 (i + 1)
      rw [hst] at hz5
      rw [hst2] at hz6
      have hmem2 := List.mem_append_right M (hT1 _ (htl _ (.tail _ hmem)))
      have hf2 := hfs.length
      have F3 := fr_of _ F2 hm
      simp only [List.cons_append] at N2
      rw [← hC] at hoffT ⊢
      simp only [List.map_cons] at hoffT
      dsimp only at *
      clear F2 hC hst hm hmem hz3
      have hsz2 : fs.length ≤ 200000 := by lia
      k_steps
      all_goals (try dsimp only [TurnPost])
      · refine TurnEnd.intro (_ :: M) (_ :: _ :: T1) (by k_asm) (news_sub (by k_asm) sw21) (by walk_at "sub") (by walk_at "off") (by exact rfl) ?_
        intro T3 s3 _
        refine ⟨f, _, _, _, _, ⟨found ++ [p], bg, jn⟩, rfl, hMf, hst2.trans ?_, by walk_at "binds", (pieces_mono hfs (.trans (.of fun q hq => .tail _ (.tail _ (hT1 _ hq))) s3)).snoc ⟨_, _, _, _, rfl, s3 _ (.head _) (.inl rfl)⟩⟩
        unfold pcStep; simp [*]
      · refine TurnEnd.intro (_ :: M) (_ :: _ :: T1) (by k_asm) (news_sub (by k_asm) sw21) (by walk_at "sub") (by walk_at "off") (by exact rfl) ?_
        intro T3 s3 _
        refine ⟨f, _, _, _, _, ⟨found ++ [p], bg, jn⟩, rfl, hMf, hst2.trans ?_, by walk_at "binds", (pieces_mono hfs (.trans (.of fun q hq => .tail _ (.tail _ (hT1 _ hq))) s3)).snoc ⟨_, _, _, _, rfl, s3 _ (.head _) (.inl rfl)⟩⟩
        unfold pcStep; simp [*]
      · have g1 : ¬ p.1 + (p.2.length : Int) < bg := by assumption
        have g2 : ¬ bg + (jn.length : Int) < p.1 := by assumption
        have e1 := pickL_len jn none (some (if p.1 - bg > 0 then p.1 - bg else 0))
        have e2 := pickL_len jn (some (p.1 + (p.2.length : Int) - bg)) none
        have e3 : pickL jn none (some (if p.1 - bg > 0 then p.1 - bg else 0)) = jn.take (pmax 0 (p.1 - bg)).toNat := by
          rw [pick_hi (by split <;> lia)]
          rfl
        have e4 : pickL jn (some (p.1 + (p.2.length : Int) - bg)) none = jn.drop (p.1 + (p.2.length : Int) - bg).toNat := pick_lo (by lia)
        have e5 : pcStep ⟨found, bg, jn⟩ p = ⟨found, pmin bg p.1, pickL jn none (some (if p.1 - bg > 0 then p.1 - bg else 0)) ++ p.2 ++ pickL jn (some (p.1 + (p.2.length : Int) - bg)) none⟩ := by
          unfold pcStep
          dsimp only
          rw [if_neg (by lia), e3, e4]
        clear e3 e4
        generalize pickL jn none (some (if p.1 - bg > 0 then p.1 - bg else 0)) = x1 at *
        generalize pickL jn (some (p.1 + (p.2.length : Int) - bg)) none = x2 at *
        have e6 : (x1 ++ p.2).length = x1.length + p.2.length := List.length_append
        k_steps
        dsimp only [TurnPost]
        refine TurnEnd.intro (_ :: M) (_ :: _ :: T1) (by k_asm) (news_sub (by k_asm) sw21) (by walk_at "sub") (by walk_at "off") (by exact rfl) ?_
        intro T3 s3 _
        exact ⟨f, _, _, _, _, _, rfl, hMf, hst2.trans e5, by walk_at "binds", (pieces_mono hfs (.trans (.of fun q hq => .tail _ (.tail _ (hT1 _ hq))) s3))⟩
    · clear F1 N1
      rintro mm C Tt h tk htl hoffT hC ⟨f, fs, c, u1, u2, ⟨found, bg, jn⟩, rfl, hMf, hst, hm, hfs⟩ F2 N2
      have hz5 := hz3 ps.length
      rw [hlen] at hst
      rw [hst] at hz5
      rw [List.take_length] at hst
      have hf2 := hfs.length
      have F3 := fr_of _ F2 hm
      simp only [List.cons_append, envOf_locals] at N2 F3
      rw [← hC] at hoffT
      simp only [List.map_cons] at hoffT
      have e9 : addPcs ps o d = ⟨found, bg, jn⟩ := hst
      rw [e9] at hz4
      rw [e9] at hret
      dsimp only at *
      clear F2 hC hm hz3
      have hsz2 : fs.length ≤ 200000 := by lia
      k_steps
      exact hret _ M (_ :: _ :: _ :: _ :: _ :: Tt) _ _ (by k_asm) (news_sub (by k_asm) sw5) (fun q hq => .tail _ (.tail _ (.tail _ (.tail _ (.tail _ (htl _ (.tail _ hq))))))) (by walk_at "off")
        ⟨_, _, ⟨_, _, _, rfl, .head _, pieces_mono (by assumption) (.of (by walk_at "sub"))⟩, by assumption⟩
inductive tkJ (M : Led) (ps : List Pc) (at_ : Int) (ta : Tok) (i : Nat) (m : Str → Option Value) (C T : Led) : Prop
  | mk : ∀ f fs c t2 st, C = (f, listOf (List.toArray fs) c) :: M → (∀ p ∈ M, p.1 ≠ f) → (ps.take i).foldl (takeStep at_) ([], []) = st → st.2.length ≤ i → (∀ p ∈ [((Str.ofString "left" : Str), Value.ref f), (Str.ofString "found", .bytes st.1.toArray t2), (Str.ofString "at", .int at_ ta)], m p.1 = some p.2) → All2 (PieceV T) fs st.2 → tkJ M ps at_ ta i m C T
inductive PTkn (M : Led) (b : By) (ps : List Pc) (T : Led) : Value → Led → Prop
  | mk (a : Addr) (n : Nat) (t : Tok) (l : Addr) (n' : Nat) (vs : List Value) (hm : (a, tupO [.bytes b.toArray t, .ref l] n) ∈ T) (hl : (l, listOf vs.toArray n') ∈ T) (hv : All2 (PieceV T) vs ps) : PTkn M b ps T (.ref a) M
theorem taken_from_ok (w : World) (M own : Led) (v : Value) (ps : List Pc) (at_ : Int) (ta : Tok) (hv : ListV PieceV own v ps) (hz1 : ∀ p ∈ ps, p.2.length ≤ 1000) (hz2 : ps.length ≤ 1000) :
    Calls w 217 10 100 [v, .int at_ ta] M own (fun r M' T => PTkn M (takenFrom ps at_).1 (takenFrom ps at_).2 T r M') := by
  intro prog mean mg mb dp un gd cn cs a ccd cl outer A₀ base h₀ L m s Q E B F X N off T hk hdp hun hret
  obtain ⟨l, n, vs, rfl, hl, hvs⟩ := hv
  have hl' := List.mem_append_right M hl
  have hlen := hvs.length
  refine wpAny_call ?_
  k_dflt ktr_enter
  k_steps
  · rename Fr _ _ _ _ => F1
    rename News _ _ _ _ => N1
    refine iter_list (C₀ := _ :: M) (tl := _ :: own) (tkJ M ps at_ ta) (by rfl) (.tail _ hl) F1 (news_sub N1 sw11) (by walk_at "off") ?_ ?_ ?_
    · exact ⟨_, [], 0, _, _, rfl, by walk_at "apart", rfl, Nat.le_refl _, by walk_at "binds", .nil⟩
    · clear F1 N1
      rintro i v mm C Tt T1 h tk hi' hv htl hT1 hoffT hC ⟨f, fs, c, u2, ⟨fd, lf⟩, rfl, hMf, hst, hfl, hm, hfs⟩ F2 N2
      obtain ⟨p, hp, a', n', u3, u4, rfl, hmem⟩ := hvs.get hv
      have hzp := hz1 p (List.mem_of_getElem? hp)
      have hst2 := (take_step hp (takeStep at_) ([], [])).trans (congrArg (takeStep at_ · p) hst)
      have hmem2 := List.mem_append_right M (hT1 _ (htl _ (.tail _ hmem)))
      have hf2 := hfs.length
      have F3 := fr_of _ F2 hm
      simp only [List.cons_append] at N2
      rw [← hC] at hoffT ⊢
      simp only [List.map_cons] at hoffT
      dsimp only at *
      clear F2 hC hst hm hmem
      have hsz2 : fs.length ≤ 200000 := by lia
      k_steps
      all_goals (try dsimp only [TurnPost])
      · have e3 : pickL p.2 (some (at_ - p.1)) none = p.2.drop (at_ - p.1).toNat := pick_lo (by lia)
        refine TurnEnd.intro (_ :: M) T1 (by k_asm) (by k_asm) (by walk_at "sub") (by walk_at "off") (by exact rfl) ?_
        intro T3 s3 _
        refine ⟨f, _, _, _, ⟨pickL p.2 (some (at_ - p.1)) none, lf⟩, rfl, hMf, hst2.trans ?_, by show lf.length ≤ _; lia, by walk_at "binds", (pieces_mono hfs (.trans (.of fun q hq => (hT1 _ hq)) s3))⟩
        unfold takeStep; dsimp only
        rw [if_pos (by lia), e3]
      · refine TurnEnd.intro (_ :: M) T1 (by k_asm) (by k_asm) (by walk_at "sub") (by walk_at "off") (by exact rfl) ?_
        intro T3 s3 _
        refine ⟨f, _, _, _, ⟨fd, lf⟩, rfl, hMf, hst2.trans ?_, by show lf.length ≤ _; lia, by walk_at "binds", (pieces_mono hfs (.trans (.of fun q hq => (hT1 _ hq)) s3))⟩
        unfold takeStep; dsimp only
        rw [if_neg (by lia), if_neg (by lia)]
      · refine TurnEnd.intro (_ :: M) (_ :: T1) (by k_asm) (news_sub (by k_asm) sw11) (by walk_at "sub") (by walk_at "off") (by exact rfl) ?_
        intro T3 s3 _
        refine ⟨f, _, _, _, ⟨fd, lf ++ [p]⟩, rfl, hMf, hst2.trans ?_, by simp; lia, by walk_at "binds", (pieces_mono hfs (.trans (.of fun q hq => .tail _ (hT1 _ hq)) s3)).snoc ⟨_, _, _, _, rfl, s3 _ (.head _) (.inl rfl)⟩⟩
        unfold takeStep; dsimp only
        rw [if_neg (by lia), if_pos (by lia)]
    · clear F1 N1
      rintro mm C Tt h tk htl hoffT hC ⟨f, fs, c, u2, ⟨fd, lf⟩, rfl, hMf, hst, hfl, hm, hfs⟩ F2 N2
      rw [hlen, List.take_length] at hst
      have hf2 := hfs.length
      have F3 := fr_of _ F2 hm
      simp only [List.cons_append, envOf_locals] at N2 F3
      rw [← hC] at hoffT
      simp only [List.map_cons] at hoffT
      have e9 : takenFrom ps at_ = (fd, lf) := hst
      rw [e9] at hret
      dsimp only at *
      clear F2 hC hm
      have hsz2 : fs.length ≤ 200000 := by lia
      k_steps
      exact hret _ M (_ :: _ :: Tt) _ _ (by k_asm) (news_sub (by k_asm) sw2) (fun q hq => .tail _ (.tail _ (htl _ (.tail _ hq)))) (by walk_at "off")
        ⟨_, _, _, _, _, _, .head _, .tail _ (.head _), pieces_mono hfs (.of (fun q hq => .tail _ (.tail _ hq)))⟩
theorem covP_ind {prog : Program} {w : World} {A : Around} {s : Shared} {h₀ : Heap} {L : Addr} {m : Str → Option Value} {env : Env} {elt : PySem.Expr} {x x₂ : Str} {scope : Scope} {cl : List (Str × Addr)} {S : Led → Prop} {P : Nat → Value → Prop} {Fin : List Value → Led → Prop} {n : Nat} {news : Led}
    (J : Nat → List Value → Led → Prop) (h0 : J 0 [] news)
    (turn : ∀ i ys nw, i < n → J i ys nw → ∀ v, P i v → ∃ (t : Addr) (ot : Obj) (v₁ v₂ : Value) (nt : Nat), v = .ref t ∧ (t, ot) ∈ nw ∧ ot.cls = .type "tuple" ∧ ot.data = .seq #[v₁, v₂] nt ∧
      ∀ I oI C oC D m₂ h tk (E' : Value → Shared → Prop), LCg.NsObj oC m₂ → m₂ x = some v₁ → m₂ x₂ = some v₂ → Fr h₀ L h m → News h₀ L h ((I, oI) :: (C, oC) :: (D, LCg.lst ys) :: nw) → LCg.Off3 I C D nw → ((@Ne Nat I C) ∧ (@Ne Nat I D) ∧ (@Ne Nat C D)) →
      wpAny (model prog w) A (eval elt (compEnvC scope cl C env)) (LCg.CompEnd h₀ L m { s with heap := h, toks := tk } I oI C oC D (LCg.lst ys) S (fun y nw' => J (i + 1) (ys ++ [y]) nw')) E' { s with heap := h, toks := tk })
    (fin : ∀ ys nw, J n ys nw → Fin ys nw) : LCp.CompRestP prog w A h₀ L m env elt x x₂ scope cl s S P Fin n 0 [] news := by
  have go : ∀ k i ys nw, i + k = n → J i ys nw → LCp.CompRestP prog w A h₀ L m env elt x x₂ scope cl s S P Fin k i ys nw := by
    intro k
    induction k with
    | zero =>
      intro i ys nw e j
      have : i = n := by lia
      subst this
      exact LCp.CompRestP.zero (fin _ _ j)
    | succ k ih =>
      intro i ys nw e j
      refine LCp.CompRestP.succ fun v hv => ?_
      obtain ⟨t, ot, v₁, v₂, nt, e1, e2, e3, e4, k2⟩ := turn i ys nw (by lia) j v hv
      refine ⟨t, ot, v₁, v₂, nt, e1, e2, e3, e4, fun I oI C oC D m₂ h tk E' a1 a2 a3 a4 a5 a6 a7 => wpAny_mono (k2 I oI C oC D m₂ h tk E' a1 a2 a3 a4 a5 a6 a7) (fun y s₂ c => ?_) fun _ _ e => e⟩
      obtain ⟨h', tk', nw', f1, f2, f3, f4, f5, f6⟩ := c
      exact ⟨h', tk', nw', f1, f2, f3, f4, f5, ih (i + 1) _ _ (by lia) f6⟩
  exact go n 0 [] news (by lia) h0
theorem rows5 : True := by
  k_with "SrcLP" => ((k_here; k_dflt (refine LCp.SrcLP.ledger (by first | (rfl)) (by first | (k_asm)) (by first | (k_asm)) (by first | (walk_at "mem")) (by first | (walk_at "size")) ?_; intro zg)))
  trivial
theorem swC {l : Led} {i c d x : Addr × Obj} : ∀ p ∈ i :: c :: d :: x :: l, p ∈ x :: i :: c :: d :: l := by walk_at "sub"
theorem off1_mem {D : Addr} : ∀ {l : Led}, LCg.Off1 D l → ∀ p ∈ l, p.1 ≠ D
  | [], _, _, h => nomatch h
  | _ :: _, x, p, h => by
    rcases List.mem_cons.mp h with rfl | h
    · exact x.1
    · exact off1_mem x.2 p h
theorem covered_ok (w : World) (M own : Led) (v : Value) (ps : List Pc) (hv : ListV PieceV own v ps) (hz1 : ∀ p ∈ ps, p.2.length ≤ 1000) (hz2 : ps.length ≤ 1000) :
    Calls w 222 10 100 [v] M own (fun r M' T => PLst SpanV M (coveredBy ps) T r M') := by
  intro prog mean mg mb dp un gd cn cs a ccd cl outer A₀ base h₀ L m s Q E B F X N off T hk hdp hun hret
  obtain ⟨l, n, vs, rfl, hl, hvs⟩ := hv
  have hl' := List.mem_append_right M hl
  have hlen := hvs.length
  refine wpAny_call ?_
  k_dflt ktr_enter
  k_steps
  refine covP_ind (fun i ys nw => ∃ T, nw = T ++ (M ++ own) ∧ OwnOff T (M.map (·.1)) ∧ All2 (SpanV (T ++ own)) ys ((coveredBy ps).take i)) ⟨[], rfl, off_nilL, .nil⟩ ?_ ?_
  · rintro i ys nw hi ⟨Tt, rfl, hoT, hys⟩ v hv
    obtain ⟨p, hp, a', n', u3, u4, rfl, hmem⟩ := hvs.get (i := i) (v := v) (by simpa using hv)
    have hzp := hz1 p (List.mem_of_getElem? hp)
    refine ⟨a', _, _, _, n', rfl, List.mem_append_right _ (List.mem_append_right _ hmem), rfl, rfl, ?_⟩
    intro I oI C oC D m₂ h tk E' hC hx hx2 F2 N2 o3 hne
    have hco : (coveredBy ps)[i]? = some (p.1, p.1 + (p.2.length : Int)) := by unfold coveredBy; rw [List.getElem?_map, hp]; rfl
    k_steps
    rename AllLt _ _ => hl1
    have hbl := allLt_mem hl1
    refine LCg.CompEnd.intro (by k_asm) (by k_asm) (_ :: (Tt ++ (M ++ own))) swC (LCg.Off3.of fun q hq => ?_) (.inr ⟨_, .tail _ (List.mem_append_right _ (List.mem_append_right _ hl)), rfl, _, rfl⟩) ⟨_ :: Tt, rfl, off_c (lt_adr fun q hq => hbl q (by walk_at "mem")) hoT, ?_⟩
    · rcases List.mem_cons.mp hq with rfl | hq
      · exact ⟨Nat.ne_of_gt (by assumption), Nat.ne_of_gt (by assumption), Nat.ne_of_gt (by assumption)⟩
      · exact o3.mem q hq
    · rw [List.take_add_one, hco]
      exact (spans_mono hys (.of fun q hq => .tail _ hq)).snoc ⟨_, _, _, _, rfl, .head _⟩
  · rintro ys nw ⟨Tt, rfl, hoT, hys⟩ D h tk F2 N2 o1
    have o2 := off1_mem o1
    have e1 : (coveredBy ps).take vs.toArray.size = coveredBy ps := List.take_of_length_le (by unfold coveredBy; simp [hlen])
    rw [e1] at hys
    k_steps
    refine hret _ M ((D, _) :: (Tt ++ own)) _ _ (by k_asm) (news_sub (by k_asm) (by walk_at "sub")) (fun q hq => .tail _ (List.mem_append_right _ hq)) (off_c (adr_ne fun q hq => o2 q (by walk_at "mem")) (off_app hoT off)) ⟨D, _, ys, .head _, spans_mono hys (.of fun q hq => .tail _ hq)⟩
theorem rcv_raise_limit (w : World) (x d : Addr) (R own : Led) (o : Obj) (s : Rcv) (l : Int) (t : Tok) (hdx : @LT.lt Nat _ d x) (hR : ∀ p ∈ R, p.1 ≠ d) (hS : RcvRep own o s) :
    Calls w 292 10 100 [.ref x, .int l t] ((x, instObj 309 d) :: (d, o) :: R) own (fun r M' T => PRcv x d R .none (s.raise l) T r M') := by
  intro prog mean mg mb dp un gd cn cs a ccd cl outer A₀ base h₀ L m s9 Q E B F X N off T hk hdp hun hret
  obtain ⟨k, tl, te, vp, tr, th, tf, tc, tp, hp⟩ := hS
  obtain ⟨limit, st, pieces, readTo, highest, fs, rc, stop⟩ := s
  simp only [List.cons_append, List.map_cons] at N off
  dsimp only at *
  refine wpAny_call ?_
  k_dflt ktr_enter
  k_steps
  refine hret _ ((x, instObj 309 d) :: (d, _) :: R) (own) _ _ (by k_asm) (by k_asm) (fun p hp => hp) off (.of (Rcv.raise ⟨limit, st, pieces, readTo, highest, fs, rc, stop⟩ l) rfl rfl ⟨k, _, _, vp, _, _, tf, tc, tp, hp⟩)
theorem optV_none {t : Tok} : optV Option.none t = Value.none := rfl
theorem optV_some {i : Int} {t : Tok} : optV (some i) t = Value.int i t := rfl
theorem rcv_is_over (w : World) (x d : Addr) (R own : Led) (o : Obj) (s : Rcv)  (hdx : @LT.lt Nat _ d x) (hR : ∀ p ∈ R, p.1 ≠ d) (hS : RcvRep own o s) :
    Calls w 306 10 100 [.ref x] ((x, instObj 309 d) :: (d, o) :: R) own (fun r M' _ => PRd (.bool s.over) ((x, instObj 309 d) :: (d, o) :: R) r M') := by
  intro prog mean mg mb dp un gd cn cs a ccd cl outer A₀ base h₀ L m s9 Q E B F X N off T hk hdp hun hret
  obtain ⟨k, tl, te, vp, tr, th, tf, tc, tp, hp⟩ := hS
  obtain ⟨limit, st, pieces, readTo, highest, fs, rc, stop⟩ := s
  simp only [List.cons_append, List.map_cons] at N off
  dsimp only at *
  cases stop <;> cases fs
  · simp only [optV_none, optV_some] at N
    refine wpAny_call ?_
    k_dflt ktr_enter
    k_steps
    · have hq := (any_rread st).symm.trans (by assumption)
      rw [any_rread]
      refine hret _ ((x, instObj 309 d) :: (d, _) :: R) (_ :: own) _ _ (by k_asm) (news_sub (by k_asm) swS1) (fun p hp => .tail _ hp) (by walk_at "off") (.of (by rw [hq]; simp [Rcv.over, hq]))
    · have hq := (any_rread st).symm.trans (by assumption)
      refine hret _ ((x, instObj 309 d) :: (d, _) :: R) (_ :: own) _ _ (by k_asm) (news_sub (by k_asm) swS1) (fun p hp => .tail _ hp) (by walk_at "off") (.of (by simp [Rcv.over, hq]))
  · simp only [optV_none, optV_some] at N
    refine wpAny_call ?_
    k_dflt ktr_enter
    k_steps
    · have hq := (any_rread st).symm.trans (by assumption)
      rw [any_rread]
      refine hret _ ((x, instObj 309 d) :: (d, _) :: R) (_ :: own) _ _ (by k_asm) (news_sub (by k_asm) swS1) (fun p hp => .tail _ hp) (by walk_at "off") (.of (by rw [hq]; simp [Rcv.over, hq]))
    · have hq := (any_rread st).symm.trans (by assumption)
      refine hret _ ((x, instObj 309 d) :: (d, _) :: R) (_ :: own) _ _ (by k_asm) (news_sub (by k_asm) swS1) (fun p hp => .tail _ hp) (by walk_at "off") (.of (by simp [Rcv.over, hq]))
  · simp only [optV_none, optV_some] at N
    refine wpAny_call ?_
    k_dflt ktr_enter
    k_steps
    · have hq := (any_rread st).symm.trans (by assumption)
      rw [any_rread]
      refine hret _ ((x, instObj 309 d) :: (d, _) :: R) (_ :: own) _ _ (by k_asm) (news_sub (by k_asm) swS1) (fun p hp => .tail _ hp) (by walk_at "off") (.of (by rw [hq]; simp [Rcv.over, hq]))
    · have hq := (any_rread st).symm.trans (by assumption)
      refine hret _ ((x, instObj 309 d) :: (d, _) :: R) (_ :: own) _ _ (by k_asm) (news_sub (by k_asm) swS1) (fun p hp => .tail _ hp) (by walk_at "off") (.of (by simp [Rcv.over, hq]))
  · simp only [optV_none, optV_some] at N
    refine wpAny_call ?_
    k_dflt ktr_enter
    k_steps
    · have hq := (any_rread st).symm.trans (by assumption)
      rw [any_rread]
      refine hret _ ((x, instObj 309 d) :: (d, _) :: R) (_ :: own) _ _ (by k_asm) (news_sub (by k_asm) swS1) (fun p hp => .tail _ hp) (by walk_at "off") (.of (by rw [hq]; simp [Rcv.over, hq]))
    · have hq := (any_rread st).symm.trans (by assumption)
      refine hret _ ((x, instObj 309 d) :: (d, _) :: R) (_ :: own) _ _ (by k_asm) (news_sub (by k_asm) swS1) (fun p hp => .tail _ hp) (by walk_at "off") (.of (by simp [Rcv.over, hq]))
theorem rcv_stop (w : World) (x d : Addr) (R own : Led) (o : Obj) (s : Rcv) (c : Int) (t : Tok) (hdx : @LT.lt Nat _ d x) (hR : ∀ p ∈ R, p.1 ≠ d) (hS : RcvRep own o s) :
    Calls w 285 10 100 [.ref x, .int c t] ((x, instObj 309 d) :: (d, o) :: R) own (fun r M' T => PRcv x d R (.bool s.canStop) (s.stopped c) T r M') := by
  intro prog mean mg mb dp un gd cn cs a ccd cl outer A₀ base h₀ L m s9 Q E B F X N off T hk hdp hun hret
  obtain ⟨k, tl, te, vp, tr, th, tf, tc, tp, hp⟩ := hS
  obtain ⟨limit, st, pieces, readTo, highest, fs, rc, stop⟩ := s
  simp only [List.cons_append, List.map_cons] at N off
  dsimp only at *
  rcases stop with _ | val
  · simp only [optV_none, optV_some] at N
    refine wpAny_call ?_
    k_dflt ktr_enter
    k_steps
    · have hq := (any_ropen st).symm.trans (by assumption)
      have e1 : Rcv.canStop ⟨limit, st, pieces, readTo, highest, fs, rc, Option.none⟩ = true := by simp [Rcv.canStop, hq]
      refine hret _ ((x, instObj 309 d) :: (d, _) :: R) (_ :: _ :: own) _ _ (by k_asm) (news_sub (by k_asm) swS2) (fun p hp => .tail _ (.tail _ hp)) (by walk_at "off") (.of ⟨limit, st, [], readTo, highest, fs, rc, some c⟩ (by rw [e1]) (by simp [Rcv.stopped, e1]) ⟨k, _, _, _, _, _, tf, tc, _, ⟨_, _, _, rfl, .head _, .nil⟩⟩)
    · have hq := (any_ropen st).symm.trans (by assumption)
      have e1 : Rcv.canStop ⟨limit, st, pieces, readTo, highest, fs, rc, Option.none⟩ = false := by simp [Rcv.canStop, hq]
      refine hret _ ((x, instObj 309 d) :: (d, _) :: R) (_ :: own) _ _ (by k_asm) (news_sub (by k_asm) swS1) (fun p hp => .tail _ hp) (by walk_at "off") (.of ⟨limit, st, pieces, readTo, highest, fs, rc, Option.none⟩ (by rw [e1]) (by simp [Rcv.stopped, e1]) ⟨k, _, _, vp, _, _, tf, tc, tp, PiecesV.mono hp (.of (fun p hp => .tail _ hp))⟩)
  · simp only [optV_none, optV_some] at N
    refine wpAny_call ?_
    k_dflt ktr_enter
    k_steps
    · have hq := (any_ropen st).symm.trans (by assumption)
      have e1 : Rcv.canStop ⟨limit, st, pieces, readTo, highest, fs, rc, some val⟩ = false := by simp [Rcv.canStop, hq]
      refine hret _ ((x, instObj 309 d) :: (d, _) :: R) (_ :: own) _ _ (by k_asm) (news_sub (by k_asm) swS1) (fun p hp => .tail _ hp) (by walk_at "off") (.of ⟨limit, st, pieces, readTo, highest, fs, rc, some val⟩ (by rw [e1]) (by simp [Rcv.stopped, e1]) ⟨k, _, _, vp, _, _, tf, tc, tp, PiecesV.mono hp (.of (fun p hp => .tail _ hp))⟩)
    · have hq := (any_ropen st).symm.trans (by assumption)
      have e1 : Rcv.canStop ⟨limit, st, pieces, readTo, highest, fs, rc, some val⟩ = false := by simp [Rcv.canStop, hq]
      refine hret _ ((x, instObj 309 d) :: (d, _) :: R) (_ :: own) _ _ (by k_asm) (news_sub (by k_asm) swS1) (fun p hp => .tail _ hp) (by walk_at "off") (.of ⟨limit, st, pieces, readTo, highest, fs, rc, some val⟩ (by rw [e1]) (by simp [Rcv.stopped, e1]) ⟨k, _, _, vp, _, _, tf, tc, tp, PiecesV.mono hp (.of (fun p hp => .tail _ hp))⟩)
theorem rcv_check_end (w : World) (x d : Addr) (R own : Led) (o : Obj) (s : Rcv) (e : Int) (f : Bool) (ft : Int) (t t2 : Tok) (hdx : @LT.lt Nat _ d x) (hR : ∀ p ∈ R, p.1 ≠ d) (hS : RcvRep own o s) (hc : s.checks e f) :
    Calls w 243 10 100 [.ref x, .int e t, .bool f, .int ft t2] ((x, instObj 309 d) :: (d, o) :: R) own (fun r M' _ => PRd .none ((x, instObj 309 d) :: (d, o) :: R) r M') := by
  intro prog mean mg mb dp un gd cn cs a ccd cl outer A₀ base h₀ L m s9 Q E B F X N off T hk hdp hun hret
  obtain ⟨k, tl, te, vp, tr, th, tf, tc, tp, hp⟩ := hS
  obtain ⟨limit, st, pieces, readTo, highest, fs, rc, stop⟩ := s
  simp only [List.cons_append, List.map_cons] at N off
  dsimp only at *
  obtain ⟨c1, c2, c3⟩ := hc
  dsimp only at c1 c2 c3
  cases fs <;> cases f
  · simp only [optV_none, optV_some] at N
    refine wpAny_call ?_
    k_dflt ktr_enter
    k_steps
    refine hret _ ((x, instObj 309 d) :: (d, _) :: R) own _ _ (by k_asm) (by k_asm) (fun p hp => hp) off .mk
  · have c4 := c2 rfl
    simp only [optV_none, optV_some] at N
    refine wpAny_call ?_
    k_dflt ktr_enter
    k_steps
    refine hret _ ((x, instObj 309 d) :: (d, _) :: R) own _ _ (by k_asm) (by k_asm) (fun p hp => hp) off .mk
  · have c5 := (c1 _ rfl).1
    simp only [optV_none, optV_some] at N
    refine wpAny_call ?_
    k_dflt ktr_enter
    k_steps
    refine hret _ ((x, instObj 309 d) :: (d, _) :: R) own _ _ (by k_asm) (by k_asm) (fun p hp => hp) off .mk
  · have c4 := c2 rfl
    have c5 := (c1 _ rfl).1
    have c6 := (c1 _ rfl).2 rfl
    simp only [optV_none, optV_some] at N
    refine wpAny_call ?_
    k_dflt ktr_enter
    k_steps
    · exfalso; lia
    · refine hret _ ((x, instObj 309 d) :: (d, _) :: R) own _ _ (by k_asm) (by k_asm) (fun p hp => hp) off .mk
theorem rcv_grown (w : World) (x d : Addr) (R own : Led) (o : Obj) (s : Rcv) (e : Int) (t : Tok) (hdx : @LT.lt Nat _ d x) (hR : ∀ p ∈ R, p.1 ≠ d) (hS : RcvRep own o s) :
    Calls w 250 10 100 [.ref x, .int e t] ((x, instObj 309 d) :: (d, o) :: R) own (fun r M' T => PRcvE x d R (∃ t', r = .int (pmax 0 (e - s.highest)) t') (s.grown e) T M') := by
  intro prog mean mg mb dp un gd cn cs a ccd cl outer A₀ base h₀ L m s9 Q E B F X N off T hk hdp hun hret
  obtain ⟨k, tl, te, vp, tr, th, tf, tc, tp, hp⟩ := hS
  obtain ⟨limit, st, pieces, readTo, highest, fs, rc, stop⟩ := s
  simp only [List.cons_append, List.map_cons] at N off
  dsimp only at *
  refine wpAny_call ?_
  k_dflt ktr_enter
  k_steps
  refine hret _ ((x, instObj 309 d) :: (d, _) :: R) (own) _ _ (by k_asm) (by k_asm) (fun p hp => hp) off (.of (Rcv.grown ⟨limit, st, pieces, readTo, highest, fs, rc, stop⟩ e) ⟨_, rfl⟩ rfl ⟨k, _, _, vp, _, _, tf, tc, tp, hp⟩)
theorem rcv_has_all (w : World) (x d : Addr) (R own : Led) (o : Obj) (s : Rcv) (z : Int) (hdx : @LT.lt Nat _ d x) (hR : ∀ p ∈ R, p.1 ≠ d) (hS : RcvRep own o s) (hz : s.fs = some z) (hz1 : ∀ p ∈ s.pieces, p.2.length ≤ 1000) (hz2 : s.pieces.length ≤ 1000) :
    Calls w 264 30 300 [.ref x] ((x, instObj 309 d) :: (d, o) :: R) own (fun r M' T => PRcv x d R (.bool s.hasAll) s T r M') := by
  intro prog mean mg mb dp un gd cn cs a ccd cl outer A₀ base h₀ L m s9 Q E B F X N off T hk hdp hun hret
  obtain ⟨k, tl, te, vp, tr, th, tf, tc, tp, hp⟩ := hS
  obtain ⟨limit, st, pieces, readTo, highest, fs, rc, stop⟩ := s
  simp only [List.cons_append, List.map_cons] at N off
  dsimp only at *
  rcases stop with _ | val
  · subst hz
    simp only [optV_none, optV_some] at N
    refine wpAny_call ?_
    k_dflt ktr_enter
    k_steps
    try k_fold
    k_dflt (refine' use_call (covered_ok w ((x, instObj 309 d) :: (d, _) :: R) own (.ref vp) pieces hp hz1 hz2) ?B ?F ?X ?N ?S ?O ?T ?K ?D ?U ?_)
    walk_at "use"
    rintro r M' T2 h2 tk2 F4 N4 hsub off2 ⟨lc, nc, vc, hmc, hvc⟩
    replace hp := PiecesV.mono hp (.of hsub)
    simp only [List.cons_append] at N4
    simp only [List.map_cons] at off2
    k_steps
    try k_fold
    k_dflt (refine' use_call (has_span_ok w ((x, instObj 309 d) :: (d, _) :: R) T2 (.ref lc) (coveredBy pieces) readTo z _ _ ⟨lc, nc, vc, rfl, hmc, hvc⟩) ?B ?F ?X ?N ?S ?O ?T ?K ?D ?U ?_)
    walk_at "use"
    rintro r M' T3 h3 tk3 F5 N5 hsub3 off3 ⟨⟩
    replace hp := PiecesV.mono hp (.of hsub3)
    simp only [List.cons_append] at N5
    simp only [List.map_cons] at off3
    k_steps
    exact hret _ ((x, instObj 309 d) :: (d, _) :: R) T3 _ _ (by k_asm) (by k_asm) (fun p hp => hsub3 p (hsub p hp)) off3 (.of ⟨limit, st, pieces, readTo, highest, some z, rc, Option.none⟩ rfl rfl ⟨k, _, _, vp, _, _, tf, tc, tp, hp⟩)
  · subst hz
    simp only [optV_none, optV_some] at N
    refine wpAny_call ?_
    k_dflt ktr_enter
    k_steps
    refine hret _ ((x, instObj 309 d) :: (d, _) :: R) (own) _ _ (by k_asm) (by k_asm) (fun p hp => hp) off (.of ⟨limit, st, pieces, readTo, highest, some z, rc, some val⟩ rfl rfl ⟨k, _, _, vp, _, _, tf, tc, tp, hp⟩)
theorem rcv_on_reset (w : World) (x d : Addr) (R own : Led) (o : Obj) (s : Rcv) (c z : Int) (t t2 : Tok) (hdx : @LT.lt Nat _ d x) (hR : ∀ p ∈ R, p.1 ≠ d) (hS : RcvRep own o s) (hc : s.checks z true) :
    Calls w 271 30 300 [.ref x, .int c t, .int z t2] ((x, instObj 309 d) :: (d, o) :: R) own (fun r M' T => PRcvE x d R (∃ t', r = .int (pmax 0 (z - s.highest)) t') (s.resetIn c z) T M') := by
  intro prog mean mg mb dp un gd cn cs a ccd cl outer A₀ base h₀ L m s9 Q E B F X N off T hk hdp hun hret
  obtain ⟨k, tl, te, vp, tr, th, tf, tc, tp, hp⟩ := hS
  obtain ⟨limit, st, pieces, readTo, highest, fs, rc, stop⟩ := s
  simp only [List.cons_append, List.map_cons] at N off
  dsimp only at *
  refine wpAny_call ?_
  k_dflt ktr_enter
  k_steps
  try k_fold
  k_dflt (refine' use_call (rcv_check_end w x d R own _ ⟨limit, st, pieces, readTo, highest, fs, rc, stop⟩ z true 4 t2 _ hdx hR ⟨k, _, _, vp, _, _, tf, tc, tp, hp⟩ hc) ?B ?F ?X ?N ?S ?O ?T ?K ?D ?U ?_)
  walk_at "use"
  rintro r M' T2 h2 tk2 F4 N4 hsub off2 ⟨⟩
  replace hp := PiecesV.mono hp (.of hsub)
  simp only [List.cons_append] at N4
  simp only [List.map_cons] at off2
  k_steps
  try k_fold
  k_dflt (refine' use_call (rcv_grown w x d R T2 _ ⟨limit, st, pieces, readTo, highest, fs, rc, stop⟩ z t2 hdx hR ⟨k, _, _, vp, _, _, tf, tc, tp, hp⟩) ?B ?F ?X ?N ?S ?O ?T ?K ?D ?U ?_)
  walk_at "use"
  rintro r M' T3 h3 tk3 F5 N5 hsub3 off3 ⟨o', ⟨t', rfl⟩, k', tl', te', vp', tr', th', tf', tc', tp', hp'⟩
  have hsubO : ∀ p ∈ own, p ∈ T3 := fun p hp => hsub3 p (hsub p hp)
  simp only [List.cons_append] at N5
  simp only [List.map_cons] at off3
  dsimp only [Rcv.grown] at *
  k_steps
  · have hq : st.isOpen = true := (any_ropen st).symm.trans (by assumption)
    refine hret _ ((x, instObj 309 d) :: (d, _) :: R) (_ :: _ :: T3) _ _ (by k_asm) (news_sub (by k_asm) swS2) (fun p hp => .tail _ (.tail _ (hsubO p hp))) (by walk_at "off") (.of ⟨limit, .resetRecvd, [], readTo, highest + pmax 0 (z - highest), some z, some c, stop⟩ ⟨_, rfl⟩ (by simp [Rcv.resetIn, Rcv.grown, hq]) ⟨k', _, _, _, _, _, _, _, tp', ⟨_, _, _, rfl, .head _, .nil⟩⟩)
  · have hq : st.isOpen = false := (any_ropen st).symm.trans (by assumption)
    refine hret _ ((x, instObj 309 d) :: (d, _) :: R) (_ :: T3) _ _ (by k_asm) (news_sub (by k_asm) swS1) (fun p hp => .tail _ (hsubO p hp)) (by walk_at "off") (.of ⟨limit, st, pieces, readTo, highest + pmax 0 (z - highest), some z, rc, stop⟩ ⟨_, rfl⟩ (by simp [Rcv.resetIn, Rcv.grown, hq]) ⟨k', _, _, vp', _, _, _, tc', tp', PiecesV.mono hp' (.of fun p hp => .tail _ hp)⟩)
theorem str_read (a : RS) : (a.str == Str.ofString "data_read") = (a == .dataRead) := by cases a <;> decide
theorem swS4 {R own : Led} {t u v z x d : Addr × Obj} : ∀ p ∈ (x :: d :: R) ++ (t :: u :: v :: z :: own), p ∈ t :: u :: v :: z :: x :: d :: (R ++ own) := by walk_at "sub"
theorem swS3 {R own : Led} {t u v x d : Addr × Obj} : ∀ p ∈ (x :: d :: R) ++ (t :: u :: v :: own), p ∈ t :: u :: v :: x :: d :: (R ++ own) := by walk_at "sub"
theorem takenFrom_len (ps : List Pc) (at_ : Int) (h : ∀ p ∈ ps, p.2.length ≤ 1000) : (takenFrom ps at_).1.length ≤ 1000 ∧ (takenFrom ps at_).2.length ≤ ps.length := by
  have go : ∀ (l : List Pc) (st : By × List Pc), (∀ p ∈ l, p.2.length ≤ 1000) → st.1.length ≤ 1000 → (l.foldl (takeStep at_) st).1.length ≤ 1000 ∧ (l.foldl (takeStep at_) st).2.length ≤ st.2.length + l.length := by
    intro l
    induction l with
    | nil => intro st _ h1; exact ⟨h1, by simp⟩
    | cons p l ih =>
      intro st hl h1
      have hp := hl p (.head _)
      have h2 : (takeStep at_ st p).1.length ≤ 1000 := by unfold takeStep; (repeat' split) <;> first | lia | (simp; done) | (simp; lia)
      have h3 : (takeStep at_ st p).2.length ≤ st.2.length + 1 := by unfold takeStep; (repeat' split) <;> first | lia | (simp; done) | (simp; lia)
      have := ih (takeStep at_ st p) (fun q hq => hl q (.tail _ hq)) h2
      simp only [List.foldl_cons, List.length_cons]
      lia
  have := go ps ([], []) h (by simp)
  simpa [takenFrom] using this
inductive TakV (T : Led) (v : Value) (b : By) (e : Bool) : Prop
  | mk (a : Addr) (n : Nat) (t' : Tok) (ev : v = .ref a) (hm : (a, tupO [.bytes b.toArray t', .bool e] n) ∈ T) : TakV T v b e
theorem rcv_read (w : World) (x d : Addr) (R own : Led) (o : Obj) (s : Rcv) (most : Int) (t : Tok) (hdx : @LT.lt Nat _ d x) (hR : ∀ p ∈ R, p.1 ≠ d) (hS : RcvRep own o s) (hm : 0 ≤ most) (hz1 : ∀ p ∈ s.pieces, p.2.length ≤ 1000) (hz2 : s.pieces.length ≤ 1000) :
    Calls w 278 30 300 [.ref x, .int most t] ((x, instObj 309 d) :: (d, o) :: R) own (fun r M' T => PRcvE x d R (TakV T r (s.read most).1 (s.read most).2.1) (s.read most).2.2 T M') := by
  intro prog mean mg mb dp un gd cn cs a ccd cl outer A₀ base h₀ L m s9 Q E B F X N off T hk hdp hun hret
  obtain ⟨k, tl, te, vp, tr, th, tf, tc, tp, hp⟩ := hS
  obtain ⟨limit, st, pieces, readTo, highest, fs, rc, stop⟩ := s
  simp only [List.cons_append, List.map_cons] at N off
  dsimp only at *
  refine wpAny_call ?_
  k_dflt ktr_enter
  k_steps
  · have hq : st = .resetRecvd := rs_is (by assumption)
    have e1 : Rcv.isReset ⟨limit, st, pieces, readTo, highest, fs, rc, stop⟩ = true := by simp [Rcv.isReset, hq]
    have e2 : Rcv.read ⟨limit, st, pieces, readTo, highest, fs, rc, stop⟩ most = ([], true, ⟨limit, .resetRead, pieces, readTo, highest, fs, rc, stop⟩) := by unfold Rcv.read; rw [if_pos e1]; rfl
    rw [e2] at hret
    refine hret _ ((x, instObj 309 d) :: (d, _) :: R) (_ :: own) _ _ (by k_asm) (news_sub (by k_asm) swS1) (fun p hp => .tail _ hp) (by walk_at "off") (.of ⟨limit, .resetRead, pieces, readTo, highest, fs, rc, stop⟩ ⟨_, _, _, rfl, .head _⟩ rfl ⟨k, _, _, vp, _, _, tf, tc, tp, PiecesV.mono hp (.of (fun p hp => .tail _ hp))⟩)
  · have hq : st = .resetRead := rs_is (by assumption)
    have e1 : Rcv.isReset ⟨limit, st, pieces, readTo, highest, fs, rc, stop⟩ = true := by simp [Rcv.isReset, hq]
    have e2 : Rcv.read ⟨limit, st, pieces, readTo, highest, fs, rc, stop⟩ most = ([], true, ⟨limit, .resetRead, pieces, readTo, highest, fs, rc, stop⟩) := by unfold Rcv.read; rw [if_pos e1]; rfl
    rw [e2] at hret
    refine hret _ ((x, instObj 309 d) :: (d, _) :: R) (_ :: own) _ _ (by k_asm) (news_sub (by k_asm) swS1) (fun p hp => .tail _ hp) (by walk_at "off") (.of ⟨limit, st, pieces, readTo, highest, fs, rc, stop⟩ ⟨_, _, _, rfl, .head _⟩ (by rw [hq]) ⟨k, _, _, vp, _, _, tf, tc, tp, PiecesV.mono hp (.of (fun p hp => .tail _ hp))⟩)
  · have n1 : st ≠ .resetRecvd := rs_not (x := Str.ofString "reset_recvd") (by assumption)
    have n2 : st ≠ .resetRead := rs_not (x := Str.ofString "reset_read") (by assumption)
    have e1 : Rcv.isReset ⟨limit, st, pieces, readTo, highest, fs, rc, stop⟩ = false := by simp [Rcv.isReset, n1, n2]
    obtain ⟨z1, z2⟩ := takenFrom_len pieces readTo hz1
    try k_fold
    k_dflt (refine' use_call (taken_from_ok w ((x, instObj 309 d) :: (d, _) :: R) own (.ref vp) pieces readTo tr hp hz1 hz2) ?B ?F ?X ?N ?S ?O ?T ?K ?D ?U ?_)
    walk_at "use"
    rintro r M' T2 h2 tk2 F4 N4 hsub off2 ⟨a2, n2', t2, l2, nn, vn, hm2, hml, hvl⟩
    have hll := hvl.length
    simp only [List.cons_append] at N4
    simp only [List.map_cons] at off2
    have hm3 := List.mem_append_right R hm2
    have hml3 := List.mem_append_right R hml
    have hcut : Rcv.cut ⟨limit, st, pieces, readTo, highest, fs, rc, stop⟩ most = if ((takenFrom pieces readTo).1.length : Int) > most then ((takenFrom pieces readTo).1.take most.toNat, (readTo + most, (takenFrom pieces readTo).1.drop most.toNat) :: (takenFrom pieces readTo).2) else takenFrom pieces readTo := rfl
    generalize takenFrom pieces readTo = tk0 at *
    obtain ⟨fd, lf⟩ := tk0
    dsimp only at *
    (try (k_unfold; (try dsimp only)))
    iterate 30 (first | (with_reducible show wpAny _ _ (execs (Stmt.If _ _ _ _ :: _) _) _ _ _) | walk1)
    rename Fr _ _ _ _ => F1
    refine cut_at F1 T2 (x :: d :: R.map (·.1)) (fun m' C' T' => ∃ b ls l tb, C' = (x, instObj 309 d) :: (d, rcvO k (.int limit tl) (.str st.str te) (.ref vp) (.int readTo tr) (.int highest th) (optV fs tf) (optV rc tc) (optV stop tp)) :: R ∧ Rcv.cut ⟨limit, st, pieces, readTo, highest, fs, rc, stop⟩ most = (b, ls) ∧ b.length ≤ 1000 ∧ ListV PieceV T' (.ref l) ls ∧
      ∀ p ∈ [((Str.ofString "self" : Str), Value.ref x), (Str.ofString "found", .bytes b.toArray tb), (Str.ofString "left", .ref l)], m' p.1 = some p.2) ?_ ?_
    · k_steps
      · have e3 : pickL fd none (some most) = fd.take most.toNat := pick_hi hm
        have e4 : pickL fd (some most) none = fd.drop most.toNat := pick_lo hm
        have z3 : (fd.take most.toNat).length ≤ 1000 := Nat.le_trans (by rw [List.length_take]; exact Nat.min_le_right _ _) z1
        simp only [e3, e4] at *
        exact cut_end (_ :: _ :: R) (_ :: _ :: _ :: T2) (by k_asm) (news_sub (by k_asm) swS3) (fun _ h => .tail _ (.tail _ (.tail _ h))) (by walk_at "off") ⟨_, _, _, _, rfl, hcut.trans (if_pos (by assumption)), z3, ⟨_, _, _, rfl, .head _, .cons (pieceV_mk (.tail _ (.tail _ (.head _)))) (pieces_mono hvl (.of fun q hq => .tail _ (.tail _ (.tail _ hq))))⟩, by walk_at "binds"⟩
      · exact cut_end (_ :: _ :: R) T2 (by k_asm) (by k_asm) (fun _ h => h) off2 ⟨_, _, _, _, rfl, hcut.trans (if_neg (by assumption)), z1, ⟨_, _, _, rfl, hml, hvl⟩, by walk_at "binds"⟩
    · clear F1 hcut hm3 hml3 hm2 hml hvl hll z1 z2
      rintro h3 tk3 mm C T3 hsub3 off3 ⟨b, ls, l, tb, hC, hcut, hb, hl, hm⟩ F2 N2
      subst hC
      have F3 := fr_of _ F2 hm
      simp only [List.cons_append] at N2
      clear F2 hm
      iterate 60 (first | (with_reducible show wpAny _ _ (execs (Stmt.If _ _ _ _ :: _) _) _ _ _) | walk1)
      rename Fr _ _ _ _ => F1
      refine cut_at F1 T3 (x :: d :: R.map (·.1)) (fun m' C' T' => ∃ tx ty, C' = (x, instObj 309 d) :: (d, rcvO k (.int limit tl) (.str (if st == .dataRecvd && decide (fs = some (readTo + (b.length : Int))) then RS.dataRead else st).str tx) (.ref l) (.int (readTo + (b.length : Int)) ty) (.int highest th) (optV fs tf) (optV rc tc) (optV stop tp)) :: R ∧
        ∀ p ∈ [((Str.ofString "self" : Str), Value.ref x), (Str.ofString "found", .bytes b.toArray tb)], m' p.1 = some p.2) ?_ ?_
      · rcases fs with _ | fz
        · simp only [optV_none, optV_some] at *
          k_steps
          all_goals exact cut_end (_ :: _ :: R) T3 (by k_asm) (by k_asm) (fun _ h => h) off3 ⟨_, _, by rw [if_neg (by simp)], by walk_at "binds"⟩
        · simp only [optV_none, optV_some] at *
          k_steps
          · have q1 : st = .dataRecvd := rs_is (x := Str.ofString "data_recvd") (by assumption)
            exact cut_end (_ :: _ :: R) T3 (by k_asm) (by k_asm) (fun _ h => h) off3 ⟨_, _, by rw [if_pos (by rw [q1]; simp; lia)]; rfl, by walk_at "binds"⟩
          · exact cut_end (_ :: _ :: R) T3 (by k_asm) (by k_asm) (fun _ h => h) off3 ⟨_, _, by rw [if_neg (by simp; lia)], by walk_at "binds"⟩
          · have q1 : st ≠ .dataRecvd := rs_not (x := Str.ofString "data_recvd") (by assumption)
            exact cut_end (_ :: _ :: R) T3 (by k_asm) (by k_asm) (fun _ h => h) off3 ⟨_, _, by rw [if_neg (by simp [q1])], by walk_at "binds"⟩
      · clear F1
        rintro h4 tk4 mm C T4 hsub4 off4 ⟨tx, ty, hC, hm⟩ F2 N5
        subst hC
        have F4 := fr_of _ F2 hm
        simp only [List.cons_append] at N5
        clear F2 hm
        have e6 : Rcv.readData ⟨limit, st, pieces, readTo, highest, fs, rc, stop⟩ most = ⟨limit, if st == .dataRecvd && decide (fs = some (readTo + (b.length : Int))) then .dataRead else st, ls, readTo + (b.length : Int), highest, fs, rc, stop⟩ := by unfold Rcv.readData; rw [hcut]
        have e5 : Rcv.read ⟨limit, st, pieces, readTo, highest, fs, rc, stop⟩ most = (b, (Rcv.readData ⟨limit, st, pieces, readTo, highest, fs, rc, stop⟩ most).st == .dataRead, Rcv.readData ⟨limit, st, pieces, readTo, highest, fs, rc, stop⟩ most) := by unfold Rcv.read; rw [if_neg (by rw [e1]; simp), hcut]
        rw [e6] at e5
        rw [e5] at hret
        generalize (if st == .dataRecvd && decide (fs = some (readTo + (b.length : Int))) then RS.dataRead else st) = st2 at *
        k_steps
        exact hret _ ((x, instObj 309 d) :: (d, _) :: R) (_ :: T4) _ _ (by k_asm) (news_sub (by k_asm) swS1) (fun q hq => .tail _ (hsub4 _ (hsub3 _ (hsub _ hq)))) (by walk_at "off") ⟨_, ⟨_, _, _, rfl, by rw [← str_read]; exact .head _⟩, k, _, _, _, _, _, tf, tc, tp, PiecesV.mono hl (.of fun q hq => .tail _ (hsub4 _ hq))⟩
noncomputable def joinPcs (ps : List Pc) (o : Int) (d : By) : List Pc := (addPcs ps o d).found ++ [((addPcs ps o d).begin, (addPcs ps o d).joined)]
/-- where a frame's octets go, and which of them -/
noncomputable def Rcv.at_ (r : Rcv) (o : Int) : Int := pmax o r.readTo
noncomputable def Rcv.rest (r : Rcv) (o : Int) (d : By) : By := d.drop (pmax 0 (r.readTo - o)).toNat
/-- may the frame be kept -/
noncomputable def Rcv.keeps (r : Rcv) (o : Int) (d : By) : Bool := r.st.isOpen && r.stop.isNone && decide (o + (d.length : Int) > r.readTo)
noncomputable def Rcv.putIn (r : Rcv) (o : Int) (d : By) (ps' : List Pc) : Prop :=
  if r.keeps o d = true ∧ r.rest o d ≠ [] then ps'.Perm (joinPcs r.pieces (r.at_ o) (r.rest o d)) else ps' = r.pieces
noncomputable def Rcv.known (r : Rcv) (o : Int) (d : By) (e : Bool) : Rcv := { r.grown (o + (d.length : Int)) with fs := if e then some (o + (d.length : Int)) else r.fs }
noncomputable def Rcv.streamed (r : Rcv) (o : Int) (d : By) (e : Bool) (ps' : List Pc) : Rcv :=
  let r1 := { r.known o d e with pieces := ps' }
  if r.st.isOpen then (if r1.fs.isSome then { r1 with st := if r1.hasAll then .dataRecvd else .sizeKnown } else r1) else r1
inductive PLR (M : Led) (ps : List Pc) (T : Led) : Value → Led → Prop
  | mk (l : Addr) (h : ListV PieceV T (.ref l) ps) : PLR M ps T (.ref l) M
inductive PStr (x d : Addr) (R : Led) (i : Int) (P : List Pc → Prop) (f : List Pc → Rcv) (T : Led) : Value → Led → Prop
  | mk (o' : Obj) (ps' : List Pc) (t' : Tok) (hp : P ps') (h : RcvRep T o' (f ps')) : PStr x d R i P f T (.int i t') ((x, instObj 309 d) :: (d, o') :: R)
theorem add_piece_nil (w : World) (M own : Led) (v : Value) (ps : List Pc) (o : Int) (t1 t2 : Tok) (hv : ListV PieceV own v ps) (hz : ps.length ≤ 1000) :
    Calls w 210 10 100 [v, .int o t1, .bytes ([] : By).toArray t2] M own (fun r M' T => PLR M ps T r M') := by
  intro prog mean mg mb dp un gd cn cs a ccd cl outer A₀ base h₀ L m s Q E B F X N off T hk hdp hun hret
  obtain ⟨l, n, vs, rfl, hl, hvs⟩ := hv
  have hl' := List.mem_append_right M hl
  have hlen := hvs.length
  refine wpAny_call ?_
  k_dflt ktr_enter
  k_steps
  · exact hret _ M (_ :: own) _ _ (by k_asm) (news_sub (by k_asm) sw1) (fun p hp => .tail _ hp) (by walk_at "off") ⟨_, _, _, _, rfl, .head _, pieces_mono hvs (.of fun p hp => .tail _ hp)⟩
theorem rcv_on_stream (w : World) (x d : Addr) (R own : Led) (o : Obj) (s : Rcv) (of : Int) (dt : By) (e : Bool) (t1 t2 : Tok) (hdx : @LT.lt Nat _ d x) (hR : ∀ p ∈ R, p.1 ≠ d) (hS : RcvRep own o s)
    (hc : s.checks (of + (dt.length : Int)) e) (hz : dt.length ≤ 1000) (hz2 : s.pieces.length ≤ 1000) (hpc : s.keeps of dt = true → s.rest of dt ≠ [] → PcOk s.pieces (s.at_ of) (s.rest of dt)) (hps : ∀ ps', s.putIn of dt ps' → (∀ p ∈ ps', p.2.length ≤ 1000) ∧ ps'.length ≤ 1000) :
    Calls w 257 50 600 [.ref x, .int of t1, .bytes dt.toArray t2, .bool e] ((x, instObj 309 d) :: (d, o) :: R) own (fun r M' T => PStr x d R (pmax 0 (of + (dt.length : Int) - s.highest)) (s.putIn of dt) (s.streamed of dt e) T r M') := by
  intro prog mean mg mb dp un gd cn cs a ccd cl outer A₀ base h₀ L m s9 Q E B F X N off T hk hdp hun hret
  obtain ⟨k, tl, te, vp, tr, th, tf, tc, tp, hp⟩ := hS
  obtain ⟨limit, st, pieces, readTo, highest, fs, rc, stop⟩ := s
  simp only [List.cons_append, List.map_cons] at N off
  dsimp only at *
  refine wpAny_call ?_
  k_dflt ktr_enter
  k_steps
  try k_fold
  k_dflt (refine' use_call (rcv_check_end w x d R own _ ⟨limit, st, pieces, readTo, highest, fs, rc, stop⟩ (of + (dt.length : Int)) e 8 _ _ hdx hR ⟨k, _, _, vp, _, _, tf, tc, tp, hp⟩ hc) ?B ?F ?X ?N ?S ?O ?T ?K ?D ?U ?_)
  walk_at "use"
  rintro r M' T2 h2 tk2 F4 N4 hsub off2 ⟨⟩
  replace hp := PiecesV.mono hp (.of hsub)
  simp only [List.cons_append] at N4
  simp only [List.map_cons] at off2
  k_steps
  try k_fold
  k_dflt (refine' use_call (rcv_grown w x d R T2 _ ⟨limit, st, pieces, readTo, highest, fs, rc, stop⟩ (of + (dt.length : Int)) _ hdx hR ⟨k, _, _, vp, _, _, tf, tc, tp, hp⟩) ?B ?F ?X ?N ?S ?O ?T ?K ?D ?U ?_)
  walk_at "use"
  rintro r M' T3 h3 tk3 F5 N5 hsub3 off3 ⟨o', ⟨t', rfl⟩, k', tl', te', vp', tr', th', tf', tc', tp', hp'⟩
  have hsubO : ∀ p ∈ own, p ∈ T3 := fun p hp => hsub3 p (hsub p hp)
  simp only [List.cons_append] at N5
  simp only [List.map_cons] at off3
  try (k_unfold; (try dsimp only))
  dsimp only [Rcv.grown] at *
  clear hp F4 N4
  iterate 4 (first | (with_reducible show wpAny _ _ (execs _ _) _ _ _) | walk1)
  rename Fr _ _ _ _ => F1
  refine cut_at F1 T3 (x :: d :: R.map (·.1)) (fun m' C' T' => ∃ tf2 te9, C' = (x, instObj 309 d) :: (d, rcvO k' (.int limit tl') (.str st.str te') (.ref vp') (.int readTo tr') (.int (highest + pmax 0 (of + (dt.length : Int) - highest)) th') (optV (if e then some (of + (dt.length : Int)) else fs) tf2) (optV rc tc') (optV stop tp')) :: R ∧
    (∀ p ∈ [((Str.ofString "self" : Str), Value.ref x), (Str.ofString "offset", .int of t1), (Str.ofString "data", .bytes dt.toArray t2), (Str.ofString "end", .int (of + (dt.length : Int)) te9), (Str.ofString "more", .int (pmax 0 (of + (dt.length : Int) - highest)) t')], m' p.1 = some p.2)) ?_ ?_
  · cases e
    · k_steps
      exact cut_end (_ :: _ :: R) T3 (by k_asm) (by k_asm) (fun _ h => h) off3 ⟨tf', _, rfl, by walk_at "binds"⟩
    · k_steps
      exact cut_end (_ :: _ :: R) T3 (by k_asm) (by k_asm) (fun _ h => h) off3 ⟨_, _, rfl, by walk_at "binds"⟩
  · clear F1
    rintro h6 tk6 mm C T4 hsub4 off4 ⟨tf2, te9, hC, hm⟩ F2 N2
    subst hC
    simp only [List.cons_append] at N2
    have F1 := fr_of _ F2 hm
    replace hp' := PiecesV.mono hp' (.of hsub4)
    have hall : ∀ p ∈ own, p ∈ T4 := fun p hp => hsub4 p (hsubO p hp)
    have eK : Rcv.known ⟨limit, st, pieces, readTo, highest, fs, rc, stop⟩ of dt e = ⟨limit, st, pieces, readTo, highest + pmax 0 (of + (dt.length : Int) - highest), if e then some (of + (dt.length : Int)) else fs, rc, stop⟩ := rfl
    have eS := fun ps' => show Rcv.streamed ⟨limit, st, pieces, readTo, highest, fs, rc, stop⟩ of dt e ps' = _ from rfl
    generalize hfs2 : (if e = true then some (of + (dt.length : Int)) else fs) = fs2 at *
    generalize hhi : highest + pmax 0 (of + (dt.length : Int) - highest) = hi2 at *
    clear F2 hm
    refine cut_at F1 T4 (x :: d :: R.map (·.1)) (fun m' C' T' => st.isOpen = true ∧ C' = (x, instObj 309 d) :: (d, rcvO k' (.int limit tl') (.str st.str te') (.ref vp') (.int readTo tr') (.int hi2 th') (optV fs2 tf2) (optV rc tc') (optV stop tp')) :: R ∧ (∀ p ∈ [((Str.ofString "self" : Str), Value.ref x), (Str.ofString "offset", .int of t1), (Str.ofString "data", .bytes dt.toArray t2), (Str.ofString "end", .int (of + (dt.length : Int)) te9), (Str.ofString "more", .int (pmax 0 (of + (dt.length : Int) - highest)) t')], m' p.1 = some p.2)) ?_ ?_
    · k_steps
      · have hq := (any_ropen st).symm.trans (by assumption)
        exact cut_end (_ :: _ :: R) (_ :: T4) (by k_asm) (news_sub (by k_asm) swS1) (fun _ h => .tail _ h) (by walk_at "off") ⟨hq, rfl, by walk_at "binds"⟩
      · dsimp only
        dsimp only [CutQ]
        k_steps
        have hq := (any_ropen st).symm.trans (by assumption)
        have e7 : Rcv.streamed ⟨limit, st, pieces, readTo, highest, fs, rc, stop⟩ of dt e pieces = ⟨limit, st, pieces, readTo, hi2, fs2, rc, stop⟩ := by unfold Rcv.streamed; rw [eK, if_neg (by rw [hq]; simp)]
        refine hret _ ((x, instObj 309 d) :: (d, _) :: R) (_ :: T4) _ _ (by k_asm) (news_sub (by k_asm) swS1) (fun p hp => .tail _ (hall p hp)) (by walk_at "off") ⟨_, pieces, _, ?_, ?_⟩
        · unfold Rcv.putIn Rcv.keeps
          dsimp only
          rw [if_neg (by rw [hq]; simp)]
        · rw [e7]
          exact ⟨k', _, _, vp', _, _, tf2, tc', tp', PiecesV.mono hp' (.of fun p hp => .tail _ hp)⟩
    · clear F1
      rintro h7 tk7 mm7 C T5 hsub5 off5 ⟨hop, hC, hm7⟩ F3 N3
      subst hC
      simp only [List.cons_append] at N3
      have F1 := fr_of _ F3 hm7
      replace hp' := PiecesV.mono hp' (.of hsub5)
      replace hall : ∀ p ∈ own, p ∈ T5 := fun p hp => hsub5 p (hall p hp)
      clear F3 hm7 N2
      refine cut_at F1 T5 (x :: d :: R.map (·.1)) (fun m' C' T' => ∃ vp2 ps', Rcv.putIn ⟨limit, st, pieces, readTo, highest, fs, rc, stop⟩ of dt ps' ∧ ListV PieceV T' (.ref vp2) ps' ∧ C' = (x, instObj 309 d) :: (d, rcvO k' (.int limit tl') (.str st.str te') (.ref vp2) (.int readTo tr') (.int hi2 th') (optV fs2 tf2) (optV rc tc') (optV stop tp')) :: R ∧ (∀ p ∈ [((Str.ofString "self" : Str), Value.ref x), (Str.ofString "more", .int (pmax 0 (of + (dt.length : Int) - highest)) t')], m' p.1 = some p.2)) ?_ ?_
      · rcases stop with _ | sv
        · simp only [optV_none, optV_some] at *
          k_steps
          · have g1 : readTo < of + (dt.length : Int) := by assumption
            have e3 : pickL dt (some (if readTo - of > 0 then readTo - of else 0)) none = Rcv.rest ⟨limit, st, pieces, readTo, highest, fs, rc, Option.none⟩ of dt := pick_lo (by split <;> lia)
            have hk : Rcv.keeps ⟨limit, st, pieces, readTo, highest, fs, rc, Option.none⟩ of dt = true := by simp [Rcv.keeps, hop]; lia
            have hpt := fun ps' => show Rcv.putIn ⟨limit, st, pieces, readTo, highest, fs, rc, Option.none⟩ of dt ps' = _ from rfl
            rw [e3]
            change wpAny _ _ (call _ [_, Value.int (Rcv.at_ ⟨limit, st, pieces, readTo, highest, fs, rc, Option.none⟩ of) _, _]) _ _ _
            by_cases hne : Rcv.rest ⟨limit, st, pieces, readTo, highest, fs, rc, Option.none⟩ of dt = []
            · have hpi : Rcv.putIn ⟨limit, st, pieces, readTo, highest, fs, rc, Option.none⟩ of dt pieces := by unfold Rcv.putIn; rw [if_neg (fun q => q.2 hne)]
              rw [hne]
              try k_fold
              k_dflt (refine' use_call (add_piece_nil w ((x, instObj 309 d) :: (d, _) :: R) T5 (.ref vp') pieces _ _ _ hp' hz2) ?B ?F ?X ?N ?S ?O ?T ?K ?D ?U ?_)
              walk_at "use"
              rintro r M' T6 h8 tk8 F6 N6 hsub6 off6 ⟨l6, hl6⟩
              simp only [List.cons_append] at N6
              simp only [List.map_cons] at off6
              k_steps
              exact cut_end (_ :: _ :: R) T6 (by k_asm) (by k_asm) hsub6 off6 ⟨l6, pieces, hpi, hl6, rfl, by walk_at "binds"⟩
            · k_dflt (refine' use_call (add_piece_ok w ((x, instObj 309 d) :: (d, _) :: R) T5 (.ref vp') pieces _ _ _ _ hp' hne (hpc hk hne)) ?B ?F ?X ?N ?S ?O ?T ?K ?D ?U ?_)
              walk_at "use"
              rintro r M' T6 h8 tk8 F6 N6 hsub6 off6 ⟨l6, ps6, hl6, hpm⟩
              have hpi : Rcv.putIn ⟨limit, st, pieces, readTo, highest, fs, rc, Option.none⟩ of dt ps6 := by unfold Rcv.putIn; rw [if_pos ⟨hk, hne⟩]; exact hpm
              simp only [List.cons_append] at N6
              simp only [List.map_cons] at off6
              k_steps
              exact cut_end (_ :: _ :: R) T6 (by k_asm) (by k_asm) hsub6 off6 ⟨l6, ps6, hpi, hl6, rfl, by walk_at "binds"⟩
          · have hk : Rcv.keeps ⟨limit, st, pieces, readTo, highest, fs, rc, Option.none⟩ of dt = false := by simp [Rcv.keeps, hop]; lia
            have hpi : Rcv.putIn ⟨limit, st, pieces, readTo, highest, fs, rc, Option.none⟩ of dt pieces := by unfold Rcv.putIn; rw [hk, if_neg (by simp)]
            exact cut_end (_ :: _ :: R) T5 (by k_asm) (by k_asm) (fun _ h => h) off5 ⟨vp', pieces, hpi, hp', rfl, by walk_at "binds"⟩
        · have hk : Rcv.keeps ⟨limit, st, pieces, readTo, highest, fs, rc, some sv⟩ of dt = false := by simp [Rcv.keeps]
          have hpi : Rcv.putIn ⟨limit, st, pieces, readTo, highest, fs, rc, some sv⟩ of dt pieces := by unfold Rcv.putIn; rw [hk, if_neg (by simp)]
          simp only [optV_none, optV_some] at *
          k_steps
          exact cut_end (_ :: _ :: R) T5 (by k_asm) (by k_asm) (fun _ h => h) off5 ⟨vp', pieces, hpi, hp', rfl, by walk_at "binds"⟩
      · clear F1
        rintro h9 tk9 mm9 C T7 hsub7 off7 ⟨vp2, ps2, hput, hp2, hC, hm9⟩ F4 N4
        subst hC
        simp only [List.cons_append] at N4
        have F1 := fr_of _ F4 hm9
        replace hall : ∀ p ∈ own, p ∈ T7 := fun p hp => hsub7 p (hall p hp)
        obtain ⟨w1, w2⟩ := hps ps2 hput
        clear F4 hm9 N3
        rcases fs2 with _ | z
        · simp only [optV_none, optV_some] at *
          k_steps
          have e7 : Rcv.streamed ⟨limit, st, pieces, readTo, highest, fs, rc, stop⟩ of dt e ps2 = ⟨limit, st, ps2, readTo, hi2, Option.none, rc, stop⟩ := by unfold Rcv.streamed; rw [eK, if_pos hop]; simp
          refine hret _ ((x, instObj 309 d) :: (d, _) :: R) T7 _ _ (by k_asm) (by k_asm) hall off7 ⟨_, ps2, _, hput, ?_⟩
          rw [e7]
          exact ⟨k', _, _, vp2, _, _, tf2, tc', tp', hp2⟩
        · simp only [optV_none, optV_some] at *
          k_steps
          try k_fold
          k_dflt (refine' use_call (rcv_has_all w x d R T7 _ ⟨limit, .sizeKnown, ps2, readTo, hi2, some z, rc, stop⟩ z hdx hR ⟨k', _, _, vp2, _, _, tf2, tc', tp', hp2⟩ rfl w1 w2) ?B ?F ?X ?N ?S ?O ?T ?K ?D ?U ?_)
          walk_at "use"
          rintro r M' T8 h8 tk8 F8 N8 hsub8 off8 ⟨o9, k9, tl9, te9', vp9, tr9, th9, tf9, tc9, tp9, hp9⟩
          simp only [List.cons_append] at N8
          simp only [List.map_cons] at off8
          dsimp only at *
          replace hall : ∀ p ∈ own, p ∈ T8 := fun p hp => hsub8 p (hall p hp)
          simp only [optV_none, optV_some] at *
          have e8 : Rcv.streamed ⟨limit, st, pieces, readTo, highest, fs, rc, stop⟩ of dt e ps2 = ⟨limit, if Rcv.hasAll ⟨limit, .sizeKnown, ps2, readTo, hi2, some z, rc, stop⟩ then .dataRecvd else .sizeKnown, ps2, readTo, hi2, some z, rc, stop⟩ := by unfold Rcv.streamed; rw [eK, if_pos hop]; simp [Rcv.hasAll]
          generalize Rcv.hasAll ⟨limit, .sizeKnown, ps2, readTo, hi2, some z, rc, stop⟩ = b at *
          cases b
          · k_steps
            refine hret _ ((x, instObj 309 d) :: (d, _) :: R) T8 _ _ (by k_asm) (by k_asm) hall off8 ⟨_, ps2, _, hput, ?_⟩
            rw [e8]
            exact ⟨k9, _, _, vp9, _, _, tf9, tc9, tp9, hp9⟩
          · k_steps
            refine hret _ ((x, instObj 309 d) :: (d, _) :: R) T8 _ _ (by k_asm) (by k_asm) hall off8 ⟨_, ps2, _, hput, ?_⟩
            rw [e8]
            exact ⟨k9, _, _, vp9, _, _, tf9, tc9, tp9, hp9⟩
inductive PNew (cls : Addr) (M own : Led) (Rep : Led → Obj → Prop) (T : Led) : Value → Led → Prop
  | mk (x d : Addr) (o : Obj) (h1 : @LT.lt Nat _ d x) (h2 : ∀ p ∈ M ++ own, p.1 < d) (h3 : OwnOff T [x, d]) (h : Rep T o) : PNew cls M own Rep T (.ref x) ((x, instObj cls d) :: (d, o) :: M)
theorem new_sender (w : World) (M own : Led) (room : Int) (t : Tok) :
    Calls w 199 15 150 [.int room t] M own (fun r M' T => PNew 199 M own (fun T o => SndRep T o (Snd.init room)) T r M') := by
  intro prog mean mg mb dp un gd cn cs a ccd cl outer A₀ base h₀ L m s9 Q E B F X N off T hk hdp hun hret
  k_dflt (refine' call_cls ?k1 ?k2 ?k3 ?k4 ?k5 ?k6 ?_; (case k1 => k_asm); (case k2 => k_asm); (case k3 => k_asm); (case k4 => k_is); (case k5 => k_is); (case k6 => k_is); k_whole; intro x' d' h' F' N' l1 l2; (try k_lt l1); (try k_lt2 l2); (try k_sweep); ktr_enter)
  have hbl := allLt_mem l1
  k_steps
  refine hret _ ((x', instObj 199 d') :: (d', _) :: M) (_ :: _ :: own) _ _ (by k_asm) (news_sub (by k_asm) swS2) (fun p hp => .tail _ (.tail _ (hp))) (by walk_at "off") ⟨x', d', _, l2, hbl, ?_, ⟨_, _, _, _, _, _, _, _, _, _, _, _, _, _, _, _, _, _, _, _, _, _⟩, _, _, _, _, _, _, 0, ⟨_, _, _, rfl, .tail _ (.head _), .nil⟩, ⟨_, _, _, rfl, .head _, .nil⟩⟩
  have hown : ∀ p ∈ own, p.1 ≠ x' ∧ p.1 ≠ d' := fun p hp => ⟨Nat.ne_of_lt (Nat.lt_trans (hbl p (List.mem_append_right _ hp)) l2), Nat.ne_of_lt (hbl p (List.mem_append_right _ hp))⟩
  intro p hp b hb e
  simp only [List.mem_cons, List.not_mem_nil, or_false] at hp hb
  rcases hp with rfl | rfl | hp
  · rcases hb with rfl | rfl <;> exact Nat.ne_of_gt (by lia) e
  · rcases hb with rfl | rfl <;> exact Nat.ne_of_gt (by lia) e
  · rcases hb with rfl | rfl
    · exact (hown p hp).1 e
    · exact (hown p hp).2 e
theorem new_reader (w : World) (M own : Led) (room : Int) (t : Tok) :
    Calls w 309 15 150 [.int room t] M own (fun r M' T => PNew 309 M own (fun T o => RcvRep T o (Rcv.init room)) T r M') := by
  intro prog mean mg mb dp un gd cn cs a ccd cl outer A₀ base h₀ L m s9 Q E B F X N off T hk hdp hun hret
  k_dflt (refine' call_cls ?k1 ?k2 ?k3 ?k4 ?k5 ?k6 ?_; (case k1 => k_asm); (case k2 => k_asm); (case k3 => k_asm); (case k4 => k_is); (case k5 => k_is); (case k6 => k_is); k_whole; intro x' d' h' F' N' l1 l2; (try k_lt l1); (try k_lt2 l2); (try k_sweep); ktr_enter)
  have hbl := allLt_mem l1
  k_steps
  refine hret _ ((x', instObj 309 d') :: (d', _) :: M) (_ :: own) _ _ (by k_asm) (news_sub (by k_asm) swS1) (fun p hp => .tail _ (hp)) (by walk_at "off") ⟨x', d', _, l2, hbl, ?_, ⟨_, _, _, _, _, _, _, _, 0, 0, 0, _, _, _, _, _, _, _, _, 0, 0, 0⟩, _, _, _, _, _, 0, 0, 0, ⟨_, _, _, rfl, .head _, .nil⟩⟩
  have hown : ∀ p ∈ own, p.1 ≠ x' ∧ p.1 ≠ d' := fun p hp => ⟨Nat.ne_of_lt (Nat.lt_trans (hbl p (List.mem_append_right _ hp)) l2), Nat.ne_of_lt (hbl p (List.mem_append_right _ hp))⟩
  intro p hp b hb e
  simp only [List.mem_cons, List.not_mem_nil, or_false] at hp hb
  rcases hp with rfl | hp
  · rcases hb with rfl | rfl <;> exact Nat.ne_of_gt (by lia) e
  · rcases hb with rfl | rfl
    · exact (hown p hp).1 e
    · exact (hown p hp).2 e
noncomputable def IntV (v : Value) (i : Int) : Prop := ∃ t, v = .int i t
inductive PoolRep (T : Led) (o : Obj) (ns : List Int) (n : Nat) : Prop
  | mk : ∀ l c vs c2 t, o = listOf [Value.ref l, .int (n : Int) t].toArray c → (l, listOf vs.toArray c2) ∈ T → All2 IntV vs ns → PoolRep T o ns n
theorem PoolRep.mono {T T' : Led} {o : Obj} {ns : List Int} {n : Nat} (h : PoolRep T o ns n) (s : Sub T T') : PoolRep T' o ns n := by
  obtain ⟨l, c, vs, c2, t, e, hm, ha⟩ := h
  exact ⟨l, c, vs, c2, t, e, s _ hm (.inr rfl), ha⟩
inductive PNum (pl : Addr) (R : Led) (wide : Int) (ns : List Int) (n : Nat) (T : Led) : Value → Led → Prop
  | mk (o' : Obj) (v : Int) (t' : Tok) (h1 : 0 ≤ v) (h2 : v < wide) (h : PoolRep T o' ns n) : PNum pl R wide ns n T (.int v t') ((pl, o') :: R)
theorem law_number_ok (w : World) (pl : Addr) (R own : Led) (o : Obj) (ns : List Int) (n : Nat) (wide : Int) (t : Tok) (hR : ∀ p ∈ R, p.1 ≠ pl) (hP : PoolRep own o ns n) (hw : 0 < wide) (hz : ns.length ≤ 1000) (hn : n ≤ 1000) :
    Calls w 320 10 100 [.ref pl, .int wide t] ((pl, o) :: R) own (fun r M' T => PNum pl R wide ns (n + 1) T r M') := by
  intro prog mean mg mb dp un gd cn cs a ccd cl outer A₀ base h₀ L m s9 Q E B F X N off T hk hdp hun hret
  obtain ⟨l, c, vs, c2, t2, rfl, hm, ha⟩ := hP
  have hm2 := List.mem_append_right R hm
  have hlen := ha.length
  simp only [List.cons_append, List.map_cons] at N off
  refine wpAny_call ?_
  k_dflt ktr_enter
  k_steps
  · have hn2 : n < vs.length := by lia
    obtain ⟨i, hi, ti, hv⟩ := ha.get (List.getElem?_eq_getElem hn2)
    have hv2 := (List.getElem?_eq_getElem hn2).trans (congrArg some hv)
    refine item_L (News.isList (by assumption) (.tail _ hm2)) (by lia) (by lia) (by simpa using hv2) ?_
    k_steps
    refine hret _ ((pl, _) :: R) own _ _ (by k_asm) (by k_asm) (fun p hp => hp) off ⟨_, _, _, Int.fmod_nonneg_of_pos _ hw, Int.fmod_lt_of_pos _ hw, l, _, vs, c2, _, congrArg (fun z => listOf [Value.ref l, .int z _].toArray _) (by lia), hm, ha⟩
  · refine hret _ ((pl, _) :: R) own _ _ (by k_asm) (by k_asm) (fun p hp => hp) off ⟨_, _, _, Int.fmod_nonneg_of_pos _ hw, Int.fmod_lt_of_pos _ hw, l, _, vs, c2, _, congrArg (fun z => listOf [Value.ref l, .int z _].toArray _) (by lia), hm, ha⟩
/-- a dict with texts as keys, whatever the program -/
noncomputable def IsD (w : World) (o : Obj) (kvs : List (Str × Value)) : Prop := ∀ prog : Program, o.IsDictOf (PySem.strKind prog w) kvs
theorem pairs_any {prog prog' : Program} {w : World} : ∀ {es : List DictEntry} {kvs : List (Str × Value)}, Pairs (PySem.strKind prog w) es kvs → Pairs (PySem.strKind prog' w) es kvs
  | _, _, .nil => .nil
  | _, _, .cons a b c => .cons a b (pairs_any c)
theorem IsD.of {prog : Program} {w : World} {o : Obj} {kvs : List (Str × Value)} (h : o.IsDictOf (PySem.strKind prog w) kvs) : IsD w o kvs := fun prog' => by
  obtain ⟨es, ep, h1, h2, h3, h4, h5⟩ := h
  exact ⟨es, ep, h1, h2, h3, pairs_any h4, h5⟩
structure WdT where
  t1 : Tok
  t2 : Tok
  t3 : Tok
/-- what stands in the world's dict -/
noncomputable abbrev wdL (x1 x2 fl : Addr) (room : Int) (wr rd : By) (t : WdT) : List (Str × Value) :=
  [(Str.ofString "sender", .ref x1), (Str.ofString "reader", .ref x2), (Str.ofString "room", .int room t.t1), (Str.ofString "flying", .ref fl), (Str.ofString "written", .bytes wr.toArray t.t2), (Str.ofString "read", .bytes rd.toArray t.t3)]
theorem wd_item {prog : Program} {w : World} {A : Around} {E : Value → Shared → Prop} {s : Shared} {h₀ : Heap} {L d : Addr} {news : Led} {o : Obj} {kvs : List (Str × Value)} {k : Str} {t : Tok} {v : Value} {value slice : PySem.Expr} {Q : Value → Shared → Prop} (N : News h₀ L s.heap news) (hp : (d, o) ∈ news) (hd : IsD w o kvs) (hl : valueAt kvs k = some v) (h : ∀ tk, Q v { s with toks := tk })
    (hs : subscripted slice false (.ref d) (.str k t) = operate [.ref d, .str k t] (getItem (.ref d) (.str k t)) := by with_unfolding_all rfl) (hg : ∀ r, letTemporaryGo value (.ref d) r = pure () := by intro _; with_unfolding_all rfl) :
    wpAny (model prog w) A (subscriptTail value slice (.ref d) (.str k t)) Q E s := kda_item N hp (hd prog) (strKind_is _ _ _ _) hl (h _) hs hg
theorem tup_item {prog : Program} {w : World} {A : Around} {E : Value → Shared → Prop} {s : Shared} {value slice : PySem.Expr} {a : Addr} {l : List Value} {k : Int} {u : Tok} {x : Value} {Q : Value → Shared → Prop} (ht : IsTup s.heap a l.toArray) (h0 : 0 ≤ k) (hhi : k < 2 ^ 63) (hx : l[k.toNat]? = some x) (h : Q x s)
    (hs : subscripted slice false (.ref a) (.int k u) = operate [.ref a, .int k u] (getItem (.ref a) (.int k u)) := by with_unfolding_all rfl) (hg : ∀ r, letTemporaryGo value (.ref a) r = pure () := by intro _; with_unfolding_all rfl) :
    wpAny (model prog w) A (subscriptTail value slice (.ref a) (.int k u)) Q E s := by
  have hlt : k.toNat < l.length := by
    rcases Nat.lt_or_ge k.toNat l.length with h | h
    · exact h
    · rw [List.getElem?_eq_none h] at hx; cases hx
  exact item_tupleL ht (by omega) hhi (seqIndex_of h0 (by omega)) hx h hs hg
section
variable {x1 x2 fl : Addr} {room : Int} {wr rd : By} {t : WdT}
theorem val_sender : valueAt (wdL x1 x2 fl room wr rd t) (Str.ofString "sender") = some (.ref x1) := rfl
theorem val_reader : valueAt (wdL x1 x2 fl room wr rd t) (Str.ofString "reader") = some (.ref x2) := rfl
theorem val_room : valueAt (wdL x1 x2 fl room wr rd t) (Str.ofString "room") = some (.int room t.t1) := rfl
theorem val_flying : valueAt (wdL x1 x2 fl room wr rd t) (Str.ofString "flying") = some (.ref fl) := rfl
theorem val_written : valueAt (wdL x1 x2 fl room wr rd t) (Str.ofString "written") = some (.bytes wr.toArray t.t2) := rfl
theorem val_read : valueAt (wdL x1 x2 fl room wr rd t) (Str.ofString "read") = some (.bytes rd.toArray t.t3) := rfl
end
theorem rows6 : True := by
  k_with_none
  k_with "mem" => (first | exact List.Mem.head _ | assumption | (refine List.Mem.tail _ ?_; walk_at "mem") | (refine List.mem_append_left _ ?_; walk_at "mem") | (refine List.mem_append_right _ ?_; walk_at "mem"))
  k_with "sub" => (first | exact fun _ h => h | exact all_nil | (refine all_cons ?_ ?_; (walk_at "mem"); walk_at "sub") | (refine all_app ?_ ?_ <;> walk_at "sub") | (intro zp zh9; walk_at "mem"))
  k_with "below" => (first | assumption | (refine below_a (by first | (assumption))) | (refine below_al (by first | (assumption))) | (refine below_ar (by first | (assumption))) | (refine below_l (by first | (assumption))) | (refine below_r (by first | (assumption))))
  k_with "apart" => (first | assumption | (refine lt_ne ?_; walk_at "below") | (refine off_ne (by first | (assumption)) ?_; walk_at "mem") | (refine all_app ?_ ?_ <;> walk_at "apart") | exact all_nil | (refine all_cons ?_ ?_; (k_ne); walk_at "apart"))
  k_with "ne" => (first | exact all_nil | (refine lt_adr ?_; walk_at "below") | (refine adr_ne ?_; assumption) | (refine all_cons ?_ ?_; (first | assumption | (refine neN ?_; (try dsimp only); lia)); walk_at "ne"))
  k_with "off" => (((try simp only [List.map_cons, List.map_nil, List.nil_append, List.cons_append]); first | assumption | (refine off_tl (by first | (assumption))) | exact off_nil | exact off_nilL | (refine off_c ?_ ?_; (walk_at "ne"); walk_at "off") | (refine off_app ?_ ?_ <;> walk_at "off") | (refine off_a ?_ ?_; (walk_at "apart"); walk_at "off")))
  k_with "x eval Name" => ((k_here; k_dflt (first | (refine nmL (by first | (exact rfl)) (by first | (k_asm)) (by first | (exact rfl)) (by first | (exact rfl)) (by first | (decide)) ?_; k_whole) | (refine nmK (by first | (exact rfl)) (by first | (k_asm)) (by first | (k_asm)) (by first | (k_asm)) (by first | (k_is)) (by first | (exact rfl)) (by first | (decide)) ?_; k_whole) | (refine nmB (by first | (exact rfl)) (by first | (k_asm)) (by first | (k_asm)) (by first | (k_asm)) (by first | (k_is)) (by first | (boot_fast)) (by first | (decide)) (by first | (exact rfl)) (by first | (decide)) ?_; k_whole))))
  k_with "isList" => ((refine News.isList (by first | (k_asm)) (by first | (walk_at "mem"))))
  k_with "isTup" => ((refine News.isTup (by first | (k_asm)) (by first | (walk_at "mem"))))
  k_with "size" => (((try simp only [sizeLine_eq, List.size_toArray, List.length_append, List.length_cons, List.length_nil]); first | exact size0 (by assumption) (Nat.le_of_ble_eq_true rfl) | exact size1 (by assumption) (Nat.le_of_ble_eq_true rfl) | lia))
  k_with "x call type:list" => ((k_here; (with_reducible show wpAny _ _ (call (Value.type "list") [Value.ref _]) _ _ _); (with_unfolding_all refine list_copyK (by first | (k_asm)) (by first | (k_asm)) (by first | (walk_at "isList")) ?_ (by first | (walk_at "size")); k_whole); intro zD zc zh zF zN zl; (try k_lt zl); (try k_sweep)))
  k_with "x assign Tuple" => ((k_here; (with_reducible show wpAny _ _ (assign (Expr.Tuple _ _ _) _ (Value.ref _)) _ _ _); k_dflt (refine unpackN_ (by first | (k_asm)) (by first | (k_asm)) (by first | (walk_at "isTup")) (by first | (exact rfl)) (by first | (exact rfl)) (by first | (exact rfl)) ?_; k_whole); intro zh zF zN; (try k_sweep)))
  k_with "x call builtin:list.append" => ((k_here; (with_reducible show wpAny _ _ (call (Value.builtin "list.append") [Value.ref _, _]) _ _ _); k_dflt (refine append_L (by first | (k_asm)) (by first | (k_asm)) (by first | (k_upd)) ?_ (by first | (walk_at "size")); k_whole); intro zh zF zN; (try k_sweep)))
  k_with "x binaryOp Add ref ref" => ((k_here; (with_reducible show wpAny _ _ (binaryOp Operator.Add (Value.ref _) (Value.ref _)) _ _ _); k_dflt (refine add_LL (by first | (k_asm)) (by first | (k_asm)) (by first | (walk_at "isList")) (by first | (walk_at "isList")) ?_ (by first | (walk_at "size"))); intro zD zh zF zN zl; (try k_lt zl); (try k_sweep)))
  k_with "exec For" => ((k_here; (rename Fr _ _ _ _ => zlF); refine For_turns zlF ?_))
  k_with "x call builtin:len" => ((k_here; (with_reducible show wpAny _ _ (call (Value.builtin "len") [Value.ref _]) _ _ _); k_dflt (refine len_L (by first | (walk_at "isList")) (by first | (walk_at "size")) ?_); intro zt ztk; (try simp only [List.length_cons, List.length_nil])))
  k_with "x subscriptTail" => ((k_here; (with_reducible show wpAny _ _ (subscriptTail _ _ (Value.ref _) (Value.int _ _)) _ _ _); (with_unfolding_all refine item_L (by first | (walk_at "isList")) (by first | decide | lia) (by first | decide | lia) (by first | rfl | assumption) ?_ (by first | (with_unfolding_all rfl)); k_whole)))
  k_with "binds" => (((try dsimp only); repeat' (first | exact all_nil | (refine all_cons ?_ ?_; (first | exact rfl | assumption)))))
  k_with "room" => (first | exact room1 (by assumption) (Nat.le_of_ble_eq_true rfl) | exact room0 (by assumption) (Nat.le_of_ble_eq_true rfl) | ((try dsimp only [ktrTop, Around.deeper] at *); lia))
  k_with "use" => (((case B => k_asm); (case F => k_asm); (case X => k_asm); (case N => k_asm); (case S => walk_at "sub"); (case O => walk_at "off"); (case T => k_asm); (case K => exact rfl); (case D => walk_at "room"); (case U => walk_at "room")))
  k_with "compareOp NotIn" => ((k_here; (with_reducible show wpAny _ _ (compareOp CmpOp.NotIn (Value.str _ _) (Value.ref 77)) _ _ _); (with_unfolding_all refine notin_tuple_strs (by first | ((refine kun_topT (by first | (k_asm)) (by first | (k_asm)) (by first | (k_is))))) (by first | (kde_strs)) ?_)))
  k_with "x call type:bytes" => ((k_here; (with_reducible show wpAny _ _ (call (Value.type "bytes") [Value.bytes _ _]) _ _ _); refine call_bytes_bytes ?_))
  k_with "x call builtin:len" => ((k_here; (with_reducible show wpAny _ _ (call (Value.builtin "len") [Value.bytes (List.toArray _) _]) _ _ _); refine len_B (by first | (walk_at "size")) ?_; intro zt ztk))
  k_with "x binaryOp Add bytes bytes" => ((k_here; (with_reducible show wpAny _ _ (binaryOp Operator.Add (Value.bytes (List.toArray _) _) (Value.bytes (List.toArray _) _)) _ _ _); refine add_BB (by first | (walk_at "size")) ?_; intro zt ztk))
  k_with "x subscriptTail" => ((k_here; (with_reducible show wpAny _ _ (subscriptTail _ (PySem.Expr.Slice _ _ none _) (Value.bytes (List.toArray _) _) (Value.ref _)) _ _ _); (with_reducible rename Fr _ _ _ _ => zF); (with_reducible rename News _ _ _ _ => zN); (refine slice_B (s := ⟨_, _, _, _, _⟩) zF zN (by first | (constructor)) (by first | (constructor)) (by first | (walk_at "size")) ?_ (by first | (with_unfolding_all rfl)) (by first | ((intro _; with_unfolding_all rfl)))); intro _ _ _ zF zN; (try k_sweep)))
  k_with "pv" => (first | (with_reducible exact pv_int) | (with_reducible exact pv_str) | (with_reducible exact pv_bool) | (with_reducible exact pv_none) | (refine pv_nm (by first | (exact rfl)) (by first | (k_asm)) (by first | (exact rfl)) (by first | (exact rfl)) (by first | (decide))) | (refine pv_K (by first | (exact rfl)) (by first | (k_asm)) (by first | (k_asm)) (by first | (k_asm)) (by first | (k_is)) (by first | (exact rfl)) (by first | (decide))) | (refine pv_B (by first | (exact rfl)) (by first | (k_asm)) (by first | (k_asm)) (by first | (k_asm)) (by first | (k_is)) (by first | (boot_fast)) (by first | (decide)) (by first | (exact rfl)) (by first | (decide))) | (refine pv_attr (by first | (exact rfl)) (by first | (k_asm)) (by first | (k_asm)) (by first | (k_asm)) (by first | (exact rfl)) (by first | (exact rfl)) (by first | (decide)) (by first | (k_mem)) (by first | (k_mem)) (by first | (k_is)) (by first | (k_is)) (by first | (k_is)) (by first | (k_is)) (by first | (k_get)) (by first | (exact rfl))))
  k_with "pvs" => (first | (with_reducible exact pvs_nil) | (refine pvs_cons (by first | (walk_at "pv")) (by first | (walk_at "pvs")) (by first | (exact rfl))))
  k_with "spliced" => ((k_here; k_dflt (refine pe_args (by first | (walk_at "pvs")) ?_; k_whole); (try dsimp only [List.nil_append, List.cons_append])))
  k_with "eval Tuple" => ((k_here; k_dflt (refine pe_tuple (by first | (walk_at "pvs")) ?_; k_whole)))
  k_with "eval List" => ((k_here; k_dflt (refine pe_list (by first | (walk_at "pvs")) ?_; k_whole)))
  k_with "eval Attribute" => ((k_here; k_dflt (refine pe_eval (by first | (walk_at "pv")) ?_; k_whole)))
  k_with "eval BinOp" => ((k_here; k_dflt (first | (refine pe_binop (by first | (walk_at "pv")) (by first | (walk_at "pv")) ?_; k_whole) | (refine pe_binopL (by first | (walk_at "pv")) ?_; k_whole))))
  k_with "eval Subscript" => ((k_here; k_dflt (first | (refine pe_sub (by first | (walk_at "pv")) (by first | (walk_at "pv")) ?_; k_whole) | (refine pe_subL (by first | (walk_at "pv")) ?_; k_whole))))
  k_with "eval Compare" => ((k_here; k_dflt (first | (refine pe_cmp (by first | (walk_at "pv")) (by first | (walk_at "pv")) (by first | (with_unfolding_all rfl)) ?_; k_whole) | (refine pe_cmpL (by first | (walk_at "pv")) (by first | (with_unfolding_all rfl)) ?_; k_whole))))
  k_with "isTrue Compare" => ((k_here; k_dflt (first | (refine pe_test (by first | (walk_at "pv")) (by first | (walk_at "pv")) (by first | (with_unfolding_all rfl)) ?_; k_whole) | (refine pe_testL (by first | (walk_at "pv")) (by first | (with_unfolding_all rfl)) ?_; k_whole))))
  k_with "isTrue" => ((k_here; k_dflt (first | (refine pe_truthN (by first | (walk_at "pv")) ?_; k_whole) | (refine pe_truthA (by first | (walk_at "pv")) ?_; k_whole))))
  k_with "exec Return some" => ((k_here; k_dflt (refine pe_ret (by first | (walk_at "pv")) ?_; k_whole)))
  k_with "exec Assign" => ((k_here; (with_reducible show wpAny _ _ (exec (Stmt.Assign [PySem.Expr.Attribute _ _ _] _ _) _) _ _ _); k_dflt (refine pe_put (by first | (walk_at "pv")) (by first | (walk_at "pv")) (by first | (exact rfl)) ?_; k_whole)))
  k_with "exec Assign" => ((k_here; (with_reducible show wpAny _ _ (exec (Stmt.Assign [PySem.Expr.Name _ _] _ _) _) _ _ _); k_dflt (refine pe_store (by first | (walk_at "pv")) (by first | (exact rfl)) ?_; k_whole)))
  k_with "eval Call Name" => ((k_here; k_dflt (refine pe_call (by first | (walk_at "pv")) ?_; k_whole)))
  k_with "callWith" => ((k_here; (with_reducible show wpAny _ _ (callWith _ (Value.builtin _) [] (backTo _ (starEach (_ :: _) _)) _) _ _ _); k_dflt (refine pe_cwB (by first | (walk_at "pvs")) (by first | (exact rfl)) ?_; k_whole)))
  k_with "callWith" => ((k_here; (with_reducible show wpAny _ _ (callWith _ (Value.builtin _) [_] (backTo _ (starEach (_ :: _) _)) _) _ _ _); k_dflt (refine pe_cwB1 (by first | (walk_at "pvs")) (by first | (exact rfl)) ?_; k_whole)))
  k_with "callWith" => ((k_here; (with_reducible show wpAny _ _ (callWith _ (Value.type _) [] (backTo _ (starEach (_ :: _) _)) _) _ _ _); k_dflt (refine pe_cwT (by first | (walk_at "pvs")) (by first | (exact rfl)) ?_; k_whole)))
  k_with "x callWith ref" => ((k_here; (with_reducible show wpAny _ _ (callWith _ (Value.ref _) [] (backTo _ (starEach (_ :: _) _)) _) _ _ _); k_dflt (refine pe_cwR (by first | (k_asm)) (by first | (k_asm)) (by first | (walk_at "pvs")) (by first | (exact rfl)) (by first | (k_is)) ?_; k_whole)))
  k_with "x callWith ref" => ((k_here; (with_reducible show wpAny _ _ (callWith _ (Value.ref _) [_] (backTo _ (starEach (_ :: _) _)) _) _ _ _); k_dflt (refine pe_cwR1 (by first | (k_asm)) (by first | (k_asm)) (by first | (walk_at "pvs")) (by first | (exact rfl)) (by first | (k_is)) ?_; k_whole)))
  k_with "x callWith ref" => ((k_here; (with_reducible show wpAny _ _ (callWith _ (Value.ref _) [] (backTo _ (starEach [] _)) _) _ _ _); k_dflt (refine pe_cwZ (by first | (k_asm)) (by first | (k_asm)) (by first | (k_is)) ?_; k_whole)))
  k_with "x callWith ref" => ((k_here; (with_reducible show wpAny _ _ (callWith _ (Value.ref _) [_] (backTo _ (starEach [] _)) _) _ _ _); k_dflt (refine pe_cwZ1 (by first | (k_asm)) (by first | (k_asm)) (by first | (k_is)) ?_; k_whole)))
  k_with "putK" => (with_reducible first | exact putS1 | exact putS2 | exact putS3 | exact putS4 | exact putS5 | exact putS6 | exact putS7 | exact putS8 | exact putS9 | exact putS10 | exact putS11 | exact putR1 | exact putR2 | exact putR3 | exact putR4 | exact putR5 | exact putR6 | exact putR7 | exact putR8)
  k_with "exec Assign" => ((k_here; (with_reducible show wpAny _ _ (exec (Stmt.Assign [PySem.Expr.Attribute (PySem.Expr.Name _ _) _ _] _ _) _) _ _ _); k_dflt (refine pe_setA (by first | (exact rfl)) (by first | (k_asm)) (by first | (k_asm)) (by first | (k_asm)) (by first | (exact rfl)) (by first | (exact rfl)) (by first | (decide)) (by first | (k_mem)) (by first | (walk_at "pv")) (by first | (k_mem)) (by first | (k_is)) (by first | (k_is)) (by first | (k_is)) (by first | (k_is)) (by first | (walk_at "putK")) (by first | (k_upd)) (by first | (exact rfl)) ?_; k_whole); intro zh zF zN; (try k_sweep)))
  k_with "x setAttr ref" => ((k_here; k_dflt (refine pe_setV (by first | (k_asm)) (by first | (k_asm)) (by first | (k_asm)) (by first | (k_mem)) (by first | (k_mem)) (by first | (k_is)) (by first | (k_is)) (by first | (k_is)) (by first | (k_is)) (by first | (walk_at "putK")) (by first | (k_upd)) ?_; k_whole); intro zh zF zN; (try k_sweep)))
  k_with "x subscriptTail" => ((k_here; (with_reducible show wpAny _ _ (subscriptTail _ _ (Value.ref _) (Value.str _ _)) _ _ _); k_dflt (refine wd_item (by first | (k_asm)) (by first | (walk_at "mem")) (by first | (with_reducible assumption)) (by first | (with_reducible exact val_sender) | (with_reducible exact val_reader) | (with_reducible exact val_room) | (with_reducible exact val_flying) | (with_reducible exact val_written) | (with_reducible exact val_read)) ?_); intro ztk))
  k_with "x subscriptTail" => ((k_here; (with_reducible show wpAny _ _ (subscriptTail _ _ (Value.ref _) (Value.int _ _)) _ _ _); k_dflt (refine tup_item (by first | (walk_at "isTup")) (by first | (decide)) (by first | (decide)) (by first | (rfl)) ?_)))
  k_with "off" => (first | ((try simp only [List.map_cons, List.map_nil, List.nil_append, List.cons_append]); first | assumption | (refine off_sub (by first | (assumption)) (by first | (walk_at "sub")) (by first | (walk_at "sub"))) | (refine off_tl (by first | (assumption))) | exact off_nil | exact off_nilL | (refine off_c ?_ ?_; (walk_at "ne"); walk_at "off") | (refine off_app ?_ ?_ <;> walk_at "off") | (refine off_a ?_ ?_; (walk_at "apart"); walk_at "off")))
  k_with "apart7" => (first | walk_at "apC" | exact all_nil | assumption | (refine all_cons ?_ ?_; (dsimp only; first | exact Nat.ne_of_lt (by lia) | exact Nat.ne_of_gt (by lia)); walk_at "apart7"))
  trivial
noncomputable def LostOk (s : Snd) (o n : Int) : Prop :=
  WosOk (if n > 0 then [(o, o + n)] else []) s.acked ∧ ∀ i, (((withoutSpans (if n > 0 then [(o, o + n)] else []) s.acked).take i).foldl (fun l p => addSpan l p.1 p.2) s.lost).length ≤ 50000
noncomputable def Snd.lose (s : Snd) : Msg → Snd
  | .reset _ _ => s.loseReset
  | .data of b e => s.loseData of b.length e
theorem law_lost_ok (w : World) (x d wd x2 fl : Addr) (R own : Led) (o wo : Obj) (s : Snd) (v : Value) (ms : Msg) (room : Int) (wr rd : By) (t : WdT) (hdx : @LT.lt Nat _ d x) (hR : ∀ p ∈ R, p.1 ≠ d) (hS : SndRep own o s) (hw : (wd, wo) ∈ R) (hD : IsD w wo (wdL x x2 fl room wr rd t)) (hv : MsgV own v ms) (hok : ∀ of b e, ms = .data of b e → b.length ≤ 1000 ∧ LostOk s of b.length) :
    Calls w 334 80 800 [.ref wd, v] ((x, instObj 199 d) :: (d, o) :: R) own (fun r M' T => PSnd x d R .none (s.lose ms) T r M') := by
  intro prog mean mg mb dp un gd cn cs a ccd cl outer A₀ base h₀ L m s9 Q E B F X N off T hk hdp hun hret
  obtain ⟨k, tl, te, tw, ts, va, vl, tr, ha, hl⟩ := id hS
  simp only [List.cons_append, List.map_cons] at N off
  cases ms with
  | reset c z =>
    obtain ⟨a5, n5, t0, t1, t2, rfl, hm5⟩ := hv
    have hm6 := List.mem_append_right R hm5
    refine wpAny_call ?_
    k_dflt ktr_enter
    k_steps
    try k_fold
    k_dflt (refine' use_call (snd_on_reset_lost w x d R own _ s hdx hR hS) ?B ?F ?X ?N ?S ?O ?T ?K ?D ?U ?_)
    walk_at "use"
    rintro r M' T2 h2 tk2 F4 N4 hsub off2 ⟨o', hS'⟩
    simp only [List.cons_append] at N4
    simp only [List.map_cons] at off2
    k_steps
    exact hret _ ((x, instObj 199 d) :: (d, _) :: R) T2 _ _ (by k_asm) (by k_asm) hsub off2 ⟨o', hS'⟩
  | data of b e =>
    obtain ⟨hz, hok2⟩ := hok _ _ _ rfl
    obtain ⟨a5, n5, t0, t1, t2, rfl, hm5⟩ := hv
    have hm6 := List.mem_append_right R hm5
    refine wpAny_call ?_
    k_dflt ktr_enter
    k_steps
    try k_fold
    k_dflt (refine' use_call (snd_on_lost w x d R own _ s of b.length e _ _ hdx hR hS hok2.1 hok2.2) ?B ?F ?X ?N ?S ?O ?T ?K ?D ?U ?_)
    walk_at "use"
    rintro r M' T2 h2 tk2 F4 N4 hsub off2 ⟨o', hS'⟩
    simp only [List.cons_append] at N4
    simp only [List.map_cons] at off2
    k_steps
    exact hret _ ((x, instObj 199 d) :: (d, _) :: R) T2 _ _ (by k_asm) (by k_asm) hsub off2 ⟨o', hS'⟩
noncomputable def Handed2 (ms : Msg) (s : Snd) (r : Rcv) (s' : Snd) (r' : Rcv) : Prop := match ms with
  | .reset c z => r' = r.resetIn c z ∧ s' = s.ackReset
  | .data o d e => ∃ ps', r.putIn o d ps' ∧ r' = r.streamed o d e ps' ∧ s' = s.ackData o d.length e
noncomputable def HandOk (ms : Msg) (s : Snd) (r : Rcv) : Prop := match ms with
  | .reset _ z => r.checks z true
  | .data of dt e => r.checks (of + (dt.length : Int)) e ∧ dt.length ≤ 1000 ∧ r.pieces.length ≤ 1000 ∧ (r.keeps of dt = true → r.rest of dt ≠ [] → PcOk r.pieces (r.at_ of) (r.rest of dt)) ∧
      (∀ ps', r.putIn of dt ps' → (∀ p ∈ ps', p.2.length ≤ 1000) ∧ ps'.length ≤ 1000) ∧ s.written.length ≤ 100000 ∧ s.acked.length ≤ 50000 ∧ s.lost.length ≤ 50000
inductive PHan (x d x2 d2 : Addr) (R : Led) (P : Snd → Rcv → Prop) (T : Led) : Value → Led → Prop
  | mk (o' o2' : Obj) (s' : Snd) (r' : Rcv) (hp : P s' r') (h1 : SndRep T o' s') (h2 : RcvRep T o2' r') : PHan x d x2 d2 R P T .none ((x, instObj 199 d) :: (d, o') :: (x2, instObj 309 d2) :: (d2, o2') :: R)
theorem law_handed_ok (w : World) (x d x2 d2 wd fl : Addr) (R own : Led) (o o2 wo : Obj) (s : Snd) (rv : Rcv) (v : Value) (ms : Msg) (room : Int) (wr rd : By) (t : WdT) (hdx : @LT.lt Nat _ d x) (hxd : @LT.lt Nat _ x d2) (hdx2 : @LT.lt Nat _ d2 x2) (hR : ∀ p ∈ R, p.1 ≠ d) (hR2 : ∀ p ∈ R, p.1 ≠ d2)
    (hS : SndRep own o s) (hV : RcvRep own o2 rv) (hw : (wd, wo) ∈ R) (hD : IsD w wo (wdL x x2 fl room wr rd t)) (hv : MsgV own v ms) (hok : HandOk ms s rv) :
    Calls w 327 80 900 [.ref wd, v] ((x, instObj 199 d) :: (d, o) :: (x2, instObj 309 d2) :: (d2, o2) :: R) own (fun r M' T => PHan x d x2 d2 R (Handed2 ms s rv) T r M') := by
  intro prog mean mg mb dp un gd cn cs a ccd cl outer A₀ base h₀ L m s9 Q E B F X N off T hk hdp hun hret
  obtain ⟨k, tl, te, tw, ts, va, vl, tr, ha, hl⟩ := id hS
  obtain ⟨k2, tl2, te2, vp2, tr2, th2, tf2, tc2, tp2, hp2⟩ := id hV
  simp only [List.cons_append, List.map_cons] at N off
  have hRa : ∀ p ∈ ((x, instObj 199 d) :: (d, sndO k (.int s.limit tl) (.str s.st.str te) (.bytes s.written.toArray tw) (.int s.sentTo ts) (.ref va) (.ref vl) (.bool s.fin) (.bool s.oe) (.bool s.ea) (optV s.rc tr) (.bool s.orr)) :: R), p.1 ≠ d2 :=
    List.forall_mem_cons.mpr ⟨by simp only; exact Nat.ne_of_lt hxd, List.forall_mem_cons.mpr ⟨by simp only; exact Nat.ne_of_lt (by lia), hR2⟩⟩
  have hRb : ∀ o2' : Obj, ∀ p ∈ ((x2, instObj 309 d2) :: (d2, o2') :: R), p.1 ≠ d :=
    fun o2' => List.forall_mem_cons.mpr ⟨by simp only; exact Nat.ne_of_gt (by lia), List.forall_mem_cons.mpr ⟨by simp only; exact Nat.ne_of_gt (by lia), hR⟩⟩
  cases ms with
  | reset c z =>
    obtain ⟨a5, n5, t0, t1, t2, rfl, hm5⟩ := hv
    have hm6 := List.mem_append_right R hm5
    refine wpAny_call ?_
    k_dflt ktr_enter
    k_steps
    try k_fold
    k_dflt (refine' use_call (rcv_on_reset w x2 d2 ((x, instObj 199 d) :: (d, _) :: R) own _ rv c z _ _ hdx2 hRa hV hok) ?B ?F ?X ?N ?S ?O ?T ?K ?D ?U ?_)
    walk_at "use"
    rintro r M' T2 h2 tk2 F4 N4 hsub off2 ⟨o2', ⟨t', rfl⟩, hV'⟩
    simp only [List.cons_append] at N4
    simp only [List.map_cons] at off2
    k_steps
    try k_fold
    k_dflt (refine' use_call (snd_on_reset_acked w x d ((x2, instObj 309 d2) :: (d2, o2') :: R) T2 _ s hdx (hRb _) (hS.mono (.of hsub))) ?B ?F ?X ?N ?S ?O ?T ?K ?D ?U ?_)
    walk_at "use"
    rintro r M' T3 h3 tk3 F5 N5 hsub3 off3 ⟨o', hS'⟩
    simp only [List.cons_append] at N5
    simp only [List.map_cons] at off3
    k_steps
    exact hret _ ((x, instObj 199 d) :: (d, o') :: (x2, instObj 309 d2) :: (d2, o2') :: R) T3 _ _ (by k_asm) (by k_asm) (fun p hp => hsub3 p (hsub p hp)) (by walk_at "off") ⟨o', o2', _, _, ⟨rfl, rfl⟩, hS', hV'.mono (.of hsub3)⟩
  | data of b e =>
    obtain ⟨hc, hz, hz2, hpc, hps, hz3, hz4, hz5⟩ := hok
    obtain ⟨a5, n5, t0, t1, t2, rfl, hm5⟩ := hv
    have hm6 := List.mem_append_right R hm5
    refine wpAny_call ?_
    k_dflt ktr_enter
    k_steps
    try k_fold
    k_dflt (refine' use_call (rcv_on_stream w x2 d2 ((x, instObj 199 d) :: (d, _) :: R) own _ rv of b e _ _ hdx2 hRa hV hc hz hz2 hpc hps) ?B ?F ?X ?N ?S ?O ?T ?K ?D ?U ?_)
    walk_at "use"
    rintro r M' T2 h2 tk2 F4 N4 hsub off2 ⟨o2', ps', t', hput, hV'⟩
    simp only [List.cons_append] at N4
    simp only [List.map_cons] at off2
    replace hm6 := List.mem_append_right R (hsub _ hm5)
    k_steps
    try k_fold
    k_dflt (refine' use_call (snd_on_acked w x d ((x2, instObj 309 d2) :: (d2, o2') :: R) T2 _ s of b.length e _ _ hdx (hRb _) (hS.mono (.of hsub)) hz3 hz4 hz5) ?B ?F ?X ?N ?S ?O ?T ?K ?D ?U ?_)
    walk_at "use"
    rintro r M' T3 h3 tk3 F5 N5 hsub3 off3 ⟨o', hS'⟩
    simp only [List.cons_append] at N5
    simp only [List.map_cons] at off3
    k_steps
    exact hret _ ((x, instObj 199 d) :: (d, o') :: (x2, instObj 309 d2) :: (d2, o2') :: R) T3 _ _ (by k_asm) (by k_asm) (fun p hp => hsub3 p (hsub p hp)) (by walk_at "off") ⟨o', o2', _, _, ⟨ps', hput, rfl, rfl⟩, hS', hV'.mono (.of hsub3)⟩
noncomputable def Snd.owed (s : Snd) (most : Int) : Option Msg × Snd :=
  if s.orr then (some (.reset (s.rc.getD 0) s.sentTo), s.resetTold)
  else if s.chunks most then (some (.data (s.chunkOf most).1 (s.chunkOf most).2.1 (s.chunkOf most).2.2), s.chunked most)
  else (none, s)
noncomputable def MsgOV (T : Led) (v : Value) : Option Msg → Prop
  | none => v = .none
  | some m => MsgV T v m
theorem law_owed_ok (w : World) (x d x2 wd fl : Addr) (R own : Led) (o wo : Obj) (s : Snd) (most : Int) (tm : Tok) (room : Int) (wr rd : By) (t : WdT) (hdx : @LT.lt Nat _ d x) (hR : ∀ p ∈ R, p.1 ≠ d)
    (hS : SndRep own o s) (hw : (wd, wo) ∈ R) (hD : IsD w wo (wdL x x2 fl room wr rd t)) (hc : s.orr = true → ∃ c, s.rc = some c) (hz : s.written.length ≤ 100000) (hz2 : s.lost.length ≤ 50000) (hlo : 0 ≤ (s.span most).1) (hhi : 0 ≤ (s.span most).2) :
    Calls w 341 60 600 [.ref wd, .int most tm] ((x, instObj 199 d) :: (d, o) :: R) own (fun r M' T => PSndE x d R (MsgOV T r (s.owed most).1) (s.owed most).2 T M') := by
  intro prog mean mg mb dp un gd cn cs a ccd cl outer A₀ base h₀ L m s9 Q E B F X N off T hk hdp hun hret
  obtain ⟨k, tl, te, tw, ts, va, vl, tr, ha, hl⟩ := id hS
  simp only [List.cons_append, List.map_cons] at N off
  refine wpAny_call ?_
  k_dflt ktr_enter
  k_steps
  try k_fold
  k_dflt (refine' use_call (snd_next_reset w x d R own _ s hdx hR hS hc) ?B ?F ?X ?N ?S ?O ?T ?K ?D ?U ?_)
  walk_at "use"
  rintro r M' T2 h2 tk2 F4 N4 hsub off2 ⟨o', s', hr, hS'⟩
  simp only [List.cons_append] at N4
  simp only [List.map_cons] at off2
  try (k_unfold; (try dsimp only))
  by_cases ho : s.orr = true
  · rw [if_pos ho] at hr
    obtain ⟨⟨a5, n5, t5, t6, rfl, hm5⟩, rfl⟩ := hr
    have hm6 := List.mem_append_right R hm5
    have eo : s.owed most = (some (.reset (s.rc.getD 0) s.sentTo), s.resetTold) := by unfold Snd.owed; rw [if_pos ho]
    rw [eo] at hret
    k_steps
    exact hret _ ((x, instObj 199 d) :: (d, o') :: R) (_ :: T2) _ _ (by k_asm) (news_sub (by k_asm) swS1) (fun p hp => .tail _ (hsub p hp)) (by walk_at "off") ⟨o', ⟨_, _, _, _, _, rfl, .head _⟩, hS'.mono (.of fun p hp => .tail _ hp)⟩
  · rw [if_neg ho] at hr
    obtain ⟨rfl, rfl⟩ := hr
    obtain ⟨k, tl, te, tw, ts, va, vl, tr, ha, hl⟩ := id hS'
    k_steps
    try k_fold
    k_dflt (refine' use_call (snd_next_chunk w x d R T2 _ s' most tm hdx hR hS' hz hz2 hlo hhi) ?B ?F ?X ?N ?S ?O ?T ?K ?D ?U ?_)
    walk_at "use"
    rintro r M' T3 h3 tk3 F5 N5 hsub3 off3 ⟨o3, s3, hr3, hS3⟩
    simp only [List.cons_append] at N5
    simp only [List.map_cons] at off3
    try (k_unfold; (try dsimp only))
    by_cases hch : s'.chunks most = true
    · rw [if_pos hch] at hr3
      obtain ⟨⟨a5, n5, t5, t6, rfl, hm5⟩, rfl⟩ := hr3
      have hm6 := List.mem_append_right R hm5
      have eo : s'.owed most = (some (.data (s'.chunkOf most).1 (s'.chunkOf most).2.1 (s'.chunkOf most).2.2), s'.chunked most) := by unfold Snd.owed; rw [if_neg ho, if_pos hch]
      rw [eo] at hret
      k_steps
      exact hret _ ((x, instObj 199 d) :: (d, o3) :: R) (_ :: T3) _ _ (by k_asm) (news_sub (by k_asm) swS1) (fun p hp => .tail _ (hsub3 p (hsub p hp))) (by walk_at "off") ⟨o3, ⟨_, _, _, _, _, rfl, .head _⟩, hS3.mono (.of fun p hp => .tail _ hp)⟩
    · rw [if_neg hch] at hr3
      obtain ⟨rfl, rfl⟩ := hr3
      have eo : s3.owed most = (none, s3) := by unfold Snd.owed; rw [if_neg ho, if_neg hch]
      rw [eo] at hret
      k_steps
      exact hret _ ((x, instObj 199 d) :: (d, o3) :: R) T3 _ _ (by k_asm) (by k_asm) (fun p hp => hsub3 p (hsub p hp)) off3 ⟨o3, rfl, hS3⟩
section
variable {prog : Program} {w : World} {A : Around} {E : Value → Shared → Prop} {s : Shared} {h₀ : Heap} {L d x1 x2 fl : Addr} {m : Str → Option Value} {news : Led} {g : Obj → Led} {o : Obj} {room : Int} {wr rd b : By} {t : WdT} {tk t' : Tok} {Q : Unit → Shared → Prop}
theorem wd_set_read (F : Fr h₀ L s.heap m) (N : News h₀ L s.heap news) (U : UpdF d o news g) (hD : IsD w o (wdL x1 x2 fl room wr rd t))
    (h : ∀ h' o' tk', Fr h₀ L h' m → News h₀ L h' (g o') → IsD w o' (wdL x1 x2 fl room wr b ⟨t.t1, t.t2, t'⟩) → Q () { s with heap := h', toks := tk' }) :
    wpAny (model prog w) A (setItem (.ref d) (.str (Str.ofString "read") tk) (.bytes b.toArray t')) Q E s :=
  kda_set F N U (hD prog) (strKind_is _ _ _ _) (by rw [sizeLine_eq]; exact Nat.le_of_ble_eq_true rfl) fun h' o' F' N' hd' => h h' o' _ F' N' (IsD.of (prog := prog) hd')
theorem wd_set_written (F : Fr h₀ L s.heap m) (N : News h₀ L s.heap news) (U : UpdF d o news g) (hD : IsD w o (wdL x1 x2 fl room wr rd t))
    (h : ∀ h' o' tk', Fr h₀ L h' m → News h₀ L h' (g o') → IsD w o' (wdL x1 x2 fl room b rd ⟨t.t1, t', t.t3⟩) → Q () { s with heap := h', toks := tk' }) :
    wpAny (model prog w) A (setItem (.ref d) (.str (Str.ofString "written") tk) (.bytes b.toArray t')) Q E s :=
  kda_set F N U (hD prog) (strKind_is _ _ _ _) (by rw [sizeLine_eq]; exact Nat.le_of_ble_eq_true rfl) fun h' o' F' N' hd' => h h' o' _ F' N' (IsD.of (prog := prog) hd')
end
theorem rows7 : True := by
  k_with "x setItem ref str" => ((k_here; first | ((with_reducible show wpAny _ _ (setItem (Value.ref _) (Value.str (Str.ofString "read") _) (Value.bytes (List.toArray _) _)) _ _ _); k_dflt (refine wd_set_read (by first | (k_asm)) (by first | (k_asm)) (by first | (k_updF)) (by first | (assumption)) ?_; k_whole); intro zh zo ztk zF zN zhd; (try dsimp only at zN)) | ((with_reducible show wpAny _ _ (setItem (Value.ref _) (Value.str (Str.ofString "written") _) (Value.bytes (List.toArray _) _)) _ _ _); k_dflt (refine wd_set_written (by first | (k_asm)) (by first | (k_asm)) (by first | (k_updF)) (by first | (assumption)) ?_; k_whole); intro zh zo ztk zF zN zhd; (try dsimp only at zN))))
  trivial
/-- what _law_read finds right -/
noncomputable def ReadOk (most : Int) (s : Snd) (r : Rcv) (wr rd : By) : Prop :=
  (r.read most).1 = (wr.drop rd.length).take (r.read most).1.length ∧ ((r.read most).1.length : Int) ≤ most ∧
    (r.read most).2.1 = ((r.read most).2.2.st == .dataRead || (r.read most).2.2.st == .resetRead) ∧ ((r.read most).2.1 = true → (rd ++ (r.read most).1 = wr ∧ s.fin = true) ∨ (r.read most).2.2.rc.isSome = true)
inductive PRdL (w : World) (x d x2 d2 wd fl : Addr) (R : Led) (room : Int) (wr rd : By) (s : Snd) (r : Rcv) (T : Led) : Value → Led → Prop
  | mk (o' o2' wo' : Obj) (t' : WdT) (h1 : SndRep T o' s) (h2 : RcvRep T o2' r) (h3 : IsD w wo' (wdL x x2 fl room wr rd t')) : PRdL w x d x2 d2 wd fl R room wr rd s r T (.bool true) ((x, instObj 199 d) :: (d, o') :: (x2, instObj 309 d2) :: (d2, o2') :: (wd, wo') :: R)
theorem law_read_ok (w : World) (x d x2 d2 wd fl : Addr) (R own : Led) (o o2 wo : Obj) (s : Snd) (rv : Rcv) (most : Int) (tm : Tok) (room : Int) (wr rd : By) (t : WdT) (hwd : @LT.lt Nat _ wd d) (hdx : @LT.lt Nat _ d x) (hxd : @LT.lt Nat _ x d2) (hdx2 : @LT.lt Nat _ d2 x2) (hR : ∀ p ∈ R, p.1 ≠ d) (hR2 : ∀ p ∈ R, p.1 ≠ d2) (hR3 : ∀ p ∈ R, p.1 ≠ wd)
    (hS : SndRep own o s) (hV : RcvRep own o2 rv) (hD : IsD w wo (wdL x x2 fl room wr rd t)) (hm : 0 ≤ most) (hm2 : most ≤ 1000) (hz1 : ∀ p ∈ rv.pieces, p.2.length ≤ 1000) (hz2 : rv.pieces.length ≤ 1000) (hz3 : wr.length ≤ 1000) (hz4 : rd.length ≤ 1000) (hok : ReadOk most s rv wr rd) :
    Calls w 348 80 900 [.ref wd, .int most tm] ((x, instObj 199 d) :: (d, o) :: (x2, instObj 309 d2) :: (d2, o2) :: (wd, wo) :: R) own (fun r M' T => PRdL w x d x2 d2 wd fl R room wr (rd ++ (rv.read most).1) (s.raise ((rv.read most).2.2.readTo + room)) ((rv.read most).2.2.raise ((rv.read most).2.2.readTo + room)) T r M') := by
  intro prog mean mg mb dp un gd cn cs a ccd cl outer A₀ base h₀ L m s9 Q E B F X N off T hk hdp hun hret
  obtain ⟨k, tl, te, tw, ts, va, vl, tr, ha, hl⟩ := id hS
  obtain ⟨k2, tl2, te2, vp2, tr2, th2, tf2, tc2, tp2, hp2⟩ := id hV
  simp only [List.cons_append, List.map_cons] at N off
  obtain ⟨ok1, ok2, ok3, ok4⟩ := hok
  refine wpAny_call ?_
  k_dflt ktr_enter
  k_steps
  try k_fold
  k_dflt (refine' use_call (rcv_read w x2 d2 ((x, instObj 199 d) :: (d, _) :: (wd, wo) :: R) own _ rv most _ hdx2 (by walk_at "apart7") hV hm hz1 hz2) ?B ?F ?X ?N ?S ?O ?T ?K ?D ?U ?_)
  walk_at "use"
  generalize rv.read most = rr at *
  obtain ⟨told, over, limit', st', pieces', readTo', hi', fs', rc', stop'⟩ := rr
  dsimp only at *
  rintro r M' T2 h2 tk2 F4 N4 hsub off2 ⟨o2', ⟨a5, n5, t5, rfl, hm5⟩, hV'⟩
  simp only [List.cons_append] at N4
  simp only [List.map_cons] at off2
  have hm6 := List.mem_append_right R hm5
  have htl : told.length ≤ 1000 := by lia
  obtain ⟨k2, tl2, te2, vp2, tr2, th2, tf2, tc2, tp2, hp2⟩ := id hV'
  have hpk : pickL wr (some (rd.length : Int)) (some ((rd.length : Int) + (told.length : Int))) = told := by
    rw [pick_both (by lia) (by lia), show ((rd.length : Int) + (told.length : Int)).toNat - (rd.length : Int).toNat = told.length by lia, show (rd.length : Int).toNat = rd.length by lia]
    exact ok1.symm
  k_steps
  · rename ((List.toArray told).toList != _) = true => hbad
    rw [hpk] at hbad
    simp at hbad
  try k_fold
  k_dflt (refine' use_call (rcv_raise_limit w x2 d2 ((x, instObj 199 d) :: (d, _) :: (wd, _) :: R) T2 _ _ (readTo' + room) _ hdx2 (by walk_at "apart7") hV') ?B ?F ?X ?N ?S ?O ?T ?K ?D ?U ?_)
  walk_at "use"
  rintro r M' T3 h3 tk3 F5 N5 hsub3 off3 ⟨o3', hV3⟩
  simp only [List.cons_append] at N5
  simp only [List.map_cons] at off3
  dsimp only [Rcv.raise] at hV3
  obtain ⟨k3, tl3, te3, vp3, tr3, th3, tf3, tc3, tp3, hp3⟩ := id hV3
  dsimp only at N5
  k_steps
  try k_fold
  k_dflt (refine' use_call (snd_raise_limit w x d ((x2, instObj 309 d2) :: (d2, _) :: (wd, _) :: R) T3 _ s (readTo' + room) _ hdx (by walk_at "apart7") (hS.mono (.of fun p hp => hsub3 p (hsub p hp)))) ?B ?F ?X ?N ?S ?O ?T ?K ?D ?U ?_)
  walk_at "use"
  rintro r M' T4 h4 tk4 F6 N6 hsub4 off4 ⟨o4', hS4⟩
  simp only [List.cons_append] at N6
  simp only [List.map_cons] at off4
  try (k_unfold; (try dsimp only))
  dsimp only [Snd.raise] at hS4
  obtain ⟨k4, tl4, te4, tw4, ts4, va4, vl4, tr4, ha4, hl4⟩ := id hS4
  dsimp only at N6
  have hst : ([Str.ofString "data_read", Str.ofString "reset_read"].any fun x => x == st'.str) = over := by rw [any_rread]; exact ok3.symm
  clear ok3
  (try (k_unfold; (try dsimp only)))
  iterate 20 (first | (with_reducible show wpAny _ _ (execs (Stmt.Assign _ _ _ :: _) _) _ _ _) | walk1)
  rename Fr _ _ _ _ => F1
  rename IsD _ _ _ => hD'
  refine cut_at F1 T4 (x :: d :: x2 :: d2 :: wd :: R.map (·.1)) (fun m' C' _ => C' = (x, instObj 199 d) :: (d, sndO k4 (.int (pmax s.limit (readTo' + room)) tl4) (.str s.st.str te4) (.bytes s.written.toArray tw4) (.int s.sentTo ts4) (.ref va4) (.ref vl4) (.bool s.fin) (.bool s.oe) (.bool s.ea) (optV s.rc tr4) (.bool s.orr)) :: (x2, instObj 309 d2) :: (d2, rcvO k3 (.int (pmax limit' (readTo' + room)) tl3) (.str st'.str te3) (.ref vp3) (.int readTo' tr3) (.int hi' th3) (optV fs' tf3) (optV rc' tc3) (optV stop' tp3)) :: (wd, zo) :: R ∧
    ∀ p ∈ [((Str.ofString "reader" : Str), Value.ref x2), (Str.ofString "is_over", .bool over), (Str.ofString "is_all", .bool (((List.toArray (rd ++ told)).toList == (List.toArray wr).toList) && s.fin))], m' p.1 = some p.2) ?_ ?_
  · k_steps
    · rename (_ == _) = true => hc
      exact cut_end (_ :: _ :: _ :: _ :: _ :: R) T4 (by k_asm) (by k_asm) (fun _ h => h) off4 ⟨rfl, by rw [hc, Bool.true_and]; walk_at "binds"⟩
    · rename (_ == _) = false => hc
      exact cut_end (_ :: _ :: _ :: _ :: _ :: R) T4 (by k_asm) (by k_asm) (fun _ h => h) off4 ⟨rfl, by rw [show (((List.toArray (rd ++ told)).toList == (List.toArray wr).toList) && s.fin) = ((List.toArray (rd ++ told)).toList == (List.toArray wr).toList) from by rw [hc]; rfl]; walk_at "binds"⟩
  · rintro h7 tk7 mm C T5 hsub5 off5 ⟨hC, hm⟩ F2 N7
    subst hC
    have F3 := fr_of _ F2 hm
    simp only [List.cons_append] at N7
    clear F2 hm F1
    have ok5 : over = true → (((List.toArray (rd ++ told)).toList == (List.toArray wr).toList) && s.fin) = false → rc'.isSome = true := fun ho hB => by
      rcases ok4 ho with ⟨a, b⟩ | q
      · rw [a, b] at hB; simp at hB
      · exact q
    generalize (((List.toArray (rd ++ told)).toList == (List.toArray wr).toList) && s.fin) = B at *
    clear ok4
    clear ok1 ok2 hpk
    have fin : ∀ (b : Bool) h' tk', Fr h₀ L h' m → News h₀ L h' ((x, instObj 199 d) :: (d, sndO k4 (.int (pmax s.limit (readTo' + room)) tl4) (.str s.st.str te4) (.bytes s.written.toArray tw4) (.int s.sentTo ts4) (.ref va4) (.ref vl4) (.bool s.fin) (.bool s.oe) (.bool s.ea) (optV s.rc tr4) (.bool s.orr)) ::
        (x2, instObj 309 d2) :: (d2, rcvO k3 (.int (pmax limit' (readTo' + room)) tl3) (.str st'.str te3) (.ref vp3) (.int readTo' tr3) (.int hi' th3) (optV fs' tf3) (optV rc' tc3) (optV stop' tp3)) :: (wd, zo) :: (R ++ T5)) → b = true → Q (.bool b) { s9 with heap := h', toks := tk' } := by
      rintro b h' tk' F' N' rfl
      exact hret _ ((x, instObj 199 d) :: (d, _) :: (x2, instObj 309 d2) :: (d2, _) :: (wd, zo) :: R) T5 _ _ F' N' (fun p hp => hsub5 p (hsub4 p (hsub3 p (hsub p hp)))) off5 ⟨_, _, _, _, hS4.mono (.of hsub5), hV3.mono (.of fun p hp => hsub5 p (hsub4 p hp)), hD'⟩
    clear hret
    cases over
    · k_steps
      all_goals exact fin _ _ _ (by assumption) (news_sub (by assumption) (by walk_at "sub")) (by first | rfl | (rw [hst]; rfl))
    · cases B
      · rcases rc' with _ | cv
        · cases ok5 rfl rfl
        · simp only [optV_some] at *
          k_steps
          all_goals exact fin _ _ _ (by assumption) (news_sub (by assumption) (by walk_at "sub")) (by first | rfl | (rw [hst]; rfl))
      · k_steps
        all_goals exact fin _ _ _ (by assumption) (news_sub (by assumption) (by walk_at "sub")) (by first | rfl | (rw [hst]; rfl))
section
open PySem.SeqAt PySem.MeetsSeq PySem.AutoSeq1
theorem remove_loop_at (l : Addr) (items : Array Value) (n : Nat) (x : Value) (e : Value → Bool) (j : Nat) (hj : j < items.size) (hit : e items[j] = true) (k : Nat) (hs1 : items.size ≤ sizeLine) :
    ∀ i : Nat, j - i = k → i ≤ j → (∀ m (hm : m < items.size), i ≤ m → m < j → e items[m] = false) → Meets (Builtin.«list.remove.loop» ⟨[.ref l, x, rawInt i], []⟩)
      (fun A R s => s.heap.get? l = some { cls := .type "list", dict := none, data := .seq items n, slots := #[] } ∧ (∀ y, y ∈ items → EqAt A.in1 s y x (e y)) ∧ R (.ok (.ret .none)) { s with heap := s.heap.update l (Obj.mapSeq fun xs => xs.eraseIdxIfInBounds j) }) := by
  induction k with
  | zero =>
    intro i hk hij hno prog w A R s h
    obtain ⟨hp, g, d, tk, os⟩ := s; obtain ⟨hl, he, h⟩ := h
    have hij' : i = j := by omega
    subst hij'
    wp_walk using wpAny_loadPart' hl
    have hi : items[((i : Nat) : Int).toNat]? = some items[i] := by simp [hj]
    rw [hi]
    refine wpAny_bind (he _ (Array.getElem_mem hj) prog w _ _ ?_)
    rw [hit]
    have hz' : (items.eraseIdxIfInBounds i).size ≤ sizeLine + 1 := Nat.le_trans (size_erased items _) (Nat.le_succ_of_le hs1)
    wp_walk using (wpAny_updateSeq hl rfl (hz := hs1) (_hz' := hz')), wpAny_loadPart' hl
    simpa using h
  | succ k ih =>
    intro i hk hij hno prog w A R s h
    obtain ⟨hp, g, d, tk, os⟩ := s; obtain ⟨hl, he, h⟩ := h
    have hlt : i < items.size := by omega
    wp_walk using wpAny_loadPart' hl
    have hi : items[((i : Nat) : Int).toNat]? = some items[i] := by simp [hlt]
    have hc : ((i : Int) + 1) = ((i + 1 : Nat) : Int) := by push_cast; rfl
    rw [hi]
    refine wpAny_bind (he _ (Array.getElem_mem hlt) prog w _ _ ?_)
    rw [hno i hlt (Nat.le_refl _) (by omega)]
    wp_walk
    rw [hc]
    exact ⟨plainId_quiet plain_remove_loop _, codeAny_builtin entry_remove_loop (by
      rw [Around.under_plainId plain_remove_loop _]
      exact ih (i + 1) (by omega) (by omega) (fun m hm h1 h2 => hno m hm (by omega) h2) prog w A R _ ⟨hl, he, h⟩)⟩
theorem list_remove_at (l : Addr) (items : Array Value) (n : Nat) (x : Value) (e : Value → Bool) (j : Nat) (hj : j < items.size)
    (hit : e items[j] = true) (hno : ∀ m (hm : m < items.size), m < j → e items[m] = false) (hs1 : items.size ≤ sizeLine) :
    Meets (Builtin.«list.remove» ⟨[.ref l, x], []⟩)
      (fun A R s => s.heap.get? l = some { cls := .type "list", dict := none, data := .seq items n, slots := #[] } ∧ (∀ y, y ∈ items → EqAt A.in1 s y x (e y)) ∧ R (.ok (.ret .none)) { s with heap := s.heap.update l (Obj.mapSeq fun xs => xs.eraseIdxIfInBounds j) }) := by
  intro prog w A R s h
  obtain ⟨hp, g, d, tk, os⟩ := s; obtain ⟨hl, he, h⟩ := h
  wp_walk using wpAny_loadPart' hl
  exact ⟨plainId_quiet plain_remove_loop _, codeAny_builtin entry_remove_loop (by
    rw [Around.under_plainId plain_remove_loop _]
    exact remove_loop_at l items n x e j hj hit _ hs1 0 rfl (Nat.zero_le _) (fun m hm _ h2 => hno m hm h2) prog w A R _ ⟨hl, he, h⟩)⟩
end
section
open PySem.SeqAt
variable {prog : Program} {w : World} {A : Around} {E : Value → Shared → Prop} {s : Shared} {h₀ : Heap} {L D : Addr} {m : Str → Option Value} {news news' : Led} {vs ws : List Value} {n n2 : Nat}
theorem erase_toArray (vs : List Value) (j : Nat) : vs.toArray.eraseIdxIfInBounds j = (vs.eraseIdx j).toArray := by
  apply Array.toList_inj.mp
  rw [Array.toList_eraseIdxIfInBounds]
theorem remove_T {x : Value} {Q : Value → Shared → Prop} (e : Value → Bool) (j : Nat) (F : Fr h₀ L s.heap m) (N : News h₀ L s.heap news) (hj : j < vs.length) (hit : e vs[j] = true) (hno : ∀ i (hi : i < vs.length), i < j → e vs[i] = false) (he : ∀ y, y ∈ vs → EqAt A.in1 s y x (e y))
    (U : Upd D (listOf vs.toArray n) (listOf (vs.eraseIdx j).toArray (n + 1)) news news') (hz : vs.length ≤ 1000) (h : ∀ h', Fr h₀ L h' m → News h₀ L h' news' → Q .none { s with heap := h' }) :
    wpAny (model prog w) A (call (.builtin "list.remove") [.ref D, x]) Q E s := by
  obtain ⟨pre, post, rfl, rfl, a, c⟩ := U.split
  have z := N (D, listOf vs.toArray n) (List.mem_append.mpr (.inr (.head _)))
  refine call_meets PySem.F.slot_list_remove ⟨_, z.1, rfl⟩ PySem.F.entry_list_remove (PySem.F.args_list_remove_2 _ _)
    (list_remove_at D vs.toArray n x e j (by simpa using hj) (by simpa using hit) (fun i hi hlt => by simpa using hno i (by simpa using hi) hlt) (by rw [List.size_toArray, sizeLine_eq]; lia))
    ⟨z.1, fun y hy => ?_, h _ (F.change (Heap.SameBut.update ..) z.2.1 z.2.2) (kl_turn _ N a c (erase_toArray _ _) ?_)⟩
  · exact he y (by simpa using hy)
  · rw [List.size_toArray, List.size_toArray, List.length_eraseIdx_of_lt hj]
    lia
theorem pop_T {i : Int} {u : Tok} {y : Value} {Q : Value → Shared → Prop} (F : Fr h₀ L s.heap m) (N : News h₀ L s.heap news) (h0 : 0 ≤ i) (hy : vs[i.toNat]? = some y)
    (U : Upd D (listOf vs.toArray n) (listOf (vs.eraseIdx i.toNat).toArray (n + 1)) news news') (hz : vs.length ≤ 1000) (h : ∀ h', Fr h₀ L h' m → News h₀ L h' news' → Q y { s with heap := h' }) :
    wpAny (model prog w) A (call (.builtin "list.pop") [.ref D, .int i u]) Q E s := by
  obtain ⟨pre, post, rfl, rfl, a, c⟩ := U.split
  have z := N (D, listOf vs.toArray n) (List.mem_append.mpr (.inr (.head _)))
  have hlt : i.toNat < vs.length := by
    rcases Nat.lt_or_ge i.toNat vs.length with h | h
    · exact h
    · rw [List.getElem?_eq_none h] at hy; cases hy
  refine call_meets PySem.F.slot_list_pop ⟨_, z.1, rfl⟩ PySem.F.entry_list_pop (PySem.F.args_list_pop_2 _ _) (PySem.MeetsSeq.list_pop_at D _ n i u i.toNat y ?_ (seqIndex_of h0 (by rw [List.size_toArray]; lia)) (by simpa using hy) (by rw [List.size_toArray, sizeLine_eq]; lia))
    ⟨z.1, h _ (F.change (Heap.SameBut.update ..) z.2.1 z.2.2) (kl_turn _ N a c (erase_toArray _ _) ?_)⟩
  · unfold Builtin.List.listFitsIndex
    simp; lia
  · rw [List.size_toArray, List.size_toArray, List.length_eraseIdx_of_lt hlt]
    lia
theorem extend_T {b : Addr} {x : Value} {Q : Value → Shared → Prop} (F : Fr h₀ L s.heap m) (N : News h₀ L s.heap news) (hb : (b, listOf [x].toArray n2) ∈ news)
    (U : Upd D (listOf vs.toArray n) (listOf (vs ++ [x]).toArray (n + 1)) news news') (hz : vs.length ≤ 1000) (h : ∀ h', Fr h₀ L h' m → News h₀ L h' news' → Q .none { s with heap := h' }) :
    wpAny (model prog w) A (call (.builtin "list.extend") [.ref D, .ref b]) Q E s :=
  kl_extend F N hb (l := vs ++ [x]) (by simp) (by simp) U (by simp [Builtin.List.listTooLong, sizeLine_eq]; intro _; lia) (by rw [sizeLine_eq]; simp; lia) (by rw [sizeLine_eq]; simp; lia) h
theorem extend_nil_T {b : Addr} {Q : Value → Shared → Prop} (F : Fr h₀ L s.heap m) (N : News h₀ L s.heap news) (hb : (b, listOf ([] : List Value).toArray n2) ∈ news)
    (U : Upd D (listOf vs.toArray n) (listOf vs.toArray n) news news') (hz : vs.length ≤ 1000) (h : ∀ h', Fr h₀ L h' m → News h₀ L h' news' → Q .none { s with heap := h' }) :
    wpAny (model prog w) A (call (.builtin "list.extend") [.ref D, .ref b]) Q E s :=
  kxn_extend F N hb rfl U (by simp [Builtin.List.listTooLong, sizeLine_eq]; intro _; lia) (by rw [sizeLine_eq]; simp; lia) (by rw [sizeLine_eq]; simp; lia) h
theorem ne_nil_T {l b : Addr} {b' : Bool} {Q : Value → Shared → Prop} (hl : s.heap.IsList l vs.toArray) (hb : s.heap.IsList b ([] : List Value).toArray) (hu : A.units < cLine) (he : decide (vs ≠ []) = b') (h : Q (.bool b') s) :
    wpAny (model prog w) A (compareOp .NotEq (.ref l) (.ref b)) Q E s := by
  subst he
  cases vs with
  | nil =>
    refine RcNeAt.lists (e := fun _ => true) hl hb rfl hu (fun j h1 _ => absurd h1 (by simp)) prog w E Q ?_
    simpa using h
  | cons v r =>
    refine RcNeAt.lists_lengths hl hb (by simp) hu prog w E Q ?_
    simpa using h
end
section
open PySem.SeqAt PySem.MeetsSeq PySem.MeetsSeq2 PySem.MeetsSeq3 PySem.SeqRoads2
open PySem.AutoSeq1 (wpAny_loadPart')
/-- == of two tuples: a place is looked at only where all ahead of it are equal -/
theorem tuple_eq_first (l b : Addr) (items items2 : Array Value) (n n2 : Nat) (dd dd2 : Option Addr) (sl sl2 : Array (Option Value)) (e : Nat → Bool) :
    Meets (Builtin.«tuple.__eq__» ⟨[.ref l, .ref b], []⟩)
      (fun A R s => s.heap.get? l = some { cls := .type "tuple", dict := dd, data := .seq items n, slots := sl } ∧ s.heap.get? b = some { cls := .type "tuple", dict := dd2, data := .seq items2 n2, slots := sl2 } ∧
        (∀ j (h1 : j < items.size) (h2 : j < items2.size), (∀ k, k < j → e k = true) → EqAt A.in1 s items[j] items2[j] (e j)) ∧
        R (.ok (.ret (.bool ((List.range (min items.size items2.size)).all e && items.size == items2.size)))) s) :=
  .of_wp fun prog w A R s h => by
    obtain ⟨hp, g, d, tk, os⟩ := s; obtain ⟨hl, hb, he, h⟩ := h
    have f2 := AutoSeq1.sub_tuple_tuple
    have hZ : (items.toList.zip items2.toList).length = min items.size items2.size := by simp
    wp_walk using wpAny_loadPart' hl, wpAny_loadPart' hb, wpAny_forIn_list _ (fun rest b s' => b.1 = none ∧ s' = ⟨hp, g, d, tk, os⟩ ∧ ∃ i, rest = (items.toList.zip items2.toList).drop i ∧ (∀ k, k < i → e k = true) ∧
      R (.ok (.ret (.bool (((List.range (min items.size items2.size)).drop i).all e && items.size == items2.size)))) ⟨hp, g, d, tk, os⟩) _
    case turn =>
      rintro ⟨y, x⟩ rest b s' ⟨hb', rfl, i, hz, hk, hR⟩
      have hlt : i < (items.toList.zip items2.toList).length := by
        rcases Nat.lt_or_ge i (items.toList.zip items2.toList).length with h' | h'
        · exact h'
        · rw [List.drop_of_length_le h'] at hz; cases hz
      have hm : i < min items.size items2.size := hZ ▸ hlt
      have h1 : i < items.size := Nat.lt_of_lt_of_le hm (Nat.min_le_left _ _)
      have h2 : i < items2.size := Nat.lt_of_lt_of_le hm (Nat.min_le_right _ _)
      rw [List.drop_eq_getElem_cons hlt] at hz
      injection hz with hyx hrest
      have hy : y = items[i] := by have := congrArg Prod.fst hyx; simpa using this
      have hx : x = items2[i] := by have := congrArg Prod.snd hyx; simpa using this
      subst hy hx
      have hd : (List.range (min items.size items2.size)).drop i = i :: (List.range (min items.size items2.size)).drop (i + 1) := by simp [List.drop_eq_getElem_cons, hm]
      rw [hd, List.all_cons] at hR
      refine wpAny_bind (he i h1 h2 hk prog w _ _ ?_)
      cases hy : e i with
      | true =>
        rw [hy] at hR
        wp_walk
        exact ⟨rfl, rfl, i + 1, hrest, (fun k hk' => by rcases Nat.lt_succ_iff_lt_or_eq.mp hk' with h | rfl; exact hk k h; exact hy), by simpa using hR⟩
      | false =>
        rw [hy] at hR
        wp_walk
        exact ⟨_, rfl, by simpa using hR⟩
    case fin =>
      rintro ⟨b1, b2⟩ s' ⟨hb', rfl, i, hz, hk, hR⟩
      simp only at hb'
      subst hb'
      have hge : min items.size items2.size ≤ i := by
        rcases Nat.lt_or_ge i (items.toList.zip items2.toList).length with h' | h'
        · rw [List.drop_eq_getElem_cons h'] at hz; cases hz
        · exact hZ ▸ h'
      rw [List.drop_of_length_le (by simpa using hge)] at hR
      wp_walk
      exact ⟨_, rfl, by simpa [Builtin.Tuple.tupleCompareSizes] using hR⟩
    case h =>
      exact ⟨rfl, rfl, 0, rfl, (fun k hk => absurd hk (Nat.not_lt_zero _)), by simpa using h⟩
theorem RcAt.tuples_first {A : Around} {s : Shared} {l b : Addr} {items items2 : Array Value} {e : Nat → Bool} (hl : s.heap.IsTuple l items) (hb : s.heap.IsTuple b items2) (hu : A.units < cLine)
    (he : ∀ j (h1 : j < items.size) (h2 : j < items2.size), (∀ k, k < j → e k = true) → EqAt A.in1 s items[j] items2[j] (e j)) : RcAt A s (.ref l) (.ref b) ((List.range (min items.size items2.size)).all e && items.size == items2.size) := fun prog w E Q h => by
  obtain ⟨⟨cls, dd, data, sl⟩, ho, hc, n, hd⟩ := id hl
  obtain ⟨⟨cls2, dd2, data2, sl2⟩, ho2, hc2, n2, hd2⟩ := id hb
  simp only at hc hd hc2 hd2
  subst hc hd hc2 hd2
  exact richCompare_meets_room (op := .Eq) ⟨_, ho, rfl⟩ ⟨_, ho2, rfl⟩ F.slot_tuple_eq F.entry_tuple_eq (F.args_tuple_eq_2 _ _) (tuple_eq_first l b items items2 n n2 dd dd2 sl sl2 e)
    ⟨ho, ho2, he, show Value.bool ((List.range (min items.size items2.size)).all e && items.size == items2.size) ≠ Value.notImplemented ∧ Q (.bool ((List.range (min items.size items2.size)).all e && items.size == items2.size)) s from ⟨(fun x => nomatch x), h⟩⟩ hu
theorem EqAt.bytes_bytes {A : Around} {s : Shared} (a b : Array UInt8) (t u : Tok) : EqAt A s (.bytes a t) (.bytes b u) (a.toList == b.toList) := fun prog w E Q h => by
  unfold eqBool
  refine wpAny_holding ?_
  refine wpAny_ite_split (fun hab => ?_) (fun _ => ?_)
  · have e : a = b := by have := eq_of_beq hab; injection this
    subst e
    exact wpAny_bind (wpAny_rule (wpAny_pure (by simpa using h)))
  · exact wpAny_bind (eq_bytes (wpAny_truthy_bool h))
/-- == of two messages of the ledger -/
theorem msg_eqAt {A : Around} {s : Shared} {h₀ : Heap} {L : Addr} {l T : Led} {v v' : Value} {a b : Msg} (N : News h₀ L s.heap l) (hT : ∀ p ∈ T, p ∈ l) (h1 : MsgV T v a) (h2 : MsgV T v' b) (hu : A.units < cLine) : EqAt A s v v' (decide (a = b)) := by
  have same : ∀ {p : Addr} {xs ys : List Value} {n n' : Nat}, (p, tupO xs n) ∈ T → (p, tupO ys n') ∈ T → xs = ys := fun ha hb => by
    have e := (N _ (hT _ ha)).1.symm.trans (N _ (hT _ hb)).1
    injection e with e
    have e2 := congrArg Obj.data e
    simp only [Data.seq.injEq] at e2
    simpa using e2.1
  have tup : ∀ {p : Addr} {xs : List Value} {n : Nat}, (p, tupO xs n) ∈ T → s.heap.IsTuple p xs.toArray := fun ha => ⟨_, (N _ (hT _ ha)).1, rfl, _, rfl⟩
  cases a with
  | reset c z =>
    obtain ⟨p, n, t0, t1, t2, rfl, hm⟩ := h1
    cases b with
    | reset c' z' =>
      obtain ⟨p', n', t0', t1', t2', rfl, hm'⟩ := h2
      by_cases e : p = p'
      · subst e
        have q := same hm hm'
        have e1 : c = c' ∧ z = z' := ⟨by have := congrArg (·[1]?) q; simp at this; exact this.1, by have := congrArg (·[2]?) q; simp at this; exact this.1⟩
        rw [e1.1, e1.2, decide_eq_true rfl]
        exact EqAt.same _
      · have q := RcAt.tuples_first (A := A) (e := fun j => match j with | 0 => true | 1 => c == c' | _ => z == z') (tup hm) (tup hm') hu (fun j h1 h2 hk => ?_)
        · have e2 : ((List.range (min (#[Value.str (Str.ofString "reset") t0, .int c t1, .int z t2] : Array Value).size (#[Value.str (Str.ofString "reset") t0', .int c' t1', .int z' t2'] : Array Value).size)).all (fun j => match j with | 0 => true | 1 => c == c' | _ => z == z')) = decide (Msg.reset c z = Msg.reset c' z') := by
            show ([0, 1, 2].all _) = _
            by_cases e1 : c = c' <;> by_cases e3 : z = z' <;> simp [e1, e3]
          have q' : RcAt A s (.ref p) (.ref p') (decide (Msg.reset c z = Msg.reset c' z')) := by
            rw [← e2]; simpa using q
          exact EqAt.of_refs e q'
        · match j, h1 with
          | 0, _ => simpa using EqAt.str_str (A := A.in1) (s := s) (Str.ofString "reset") t0 (Str.ofString "reset") t0'
          | 1, _ => exact EqAt.int_int _ _ _ _
          | 2, _ => exact EqAt.int_int _ _ _ _
          | j + 3, h => exact absurd h (by simp)
    | data o d f =>
      obtain ⟨p', n', t0', t1', t2', rfl, hm'⟩ := h2
      have e : p ≠ p' := by
        rintro rfl
        have q := congrArg List.length (same hm hm')
        simp at q
      have q := RcAt.tuples_first (A := A) (e := fun _ => false) (tup hm) (tup hm') hu (fun j h1 h2 hk => ?_)
      · have q' : RcAt A s (.ref p) (.ref p') (decide (Msg.reset c z = Msg.data o d f)) := by simpa using q
        exact EqAt.of_refs e q'
      · match j, h1 with
        | 0, _ => exact EqAt.str_str (A := A.in1) (s := s) (Str.ofString "reset") t0 (Str.ofString "data") t0'
        | j + 1, _ => exact absurd (hk 0 (Nat.zero_lt_succ _)) (by simp)
  | data o d f =>
    obtain ⟨p, n, t0, t1, t2, rfl, hm⟩ := h1
    cases b with
    | reset c z =>
      obtain ⟨p', n', t0', t1', t2', rfl, hm'⟩ := h2
      have e : p ≠ p' := by
        rintro rfl
        have q := congrArg List.length (same hm hm')
        simp at q
      have q := RcAt.tuples_first (A := A) (e := fun _ => false) (tup hm) (tup hm') hu (fun j h1 h2 hk => ?_)
      · have q' : RcAt A s (.ref p) (.ref p') (decide (Msg.data o d f = Msg.reset c z)) := by simpa using q
        exact EqAt.of_refs e q'
      · match j, h1 with
        | 0, _ => exact EqAt.str_str (A := A.in1) (s := s) (Str.ofString "data") t0 (Str.ofString "reset") t0'
        | j + 1, _ => exact absurd (hk 0 (Nat.zero_lt_succ _)) (by simp)
    | data o' d' f' =>
      obtain ⟨p', n', t0', t1', t2', rfl, hm'⟩ := h2
      by_cases e : p = p'
      · subst e
        have q := same hm hm'
        have e1 : o = o' := by have := congrArg (·[1]?) q; simp at this; exact this.1
        have e2 : d = d' := by have := congrArg (·[2]?) q; simp at this; exact this.1
        have e3 : f = f' := by have := congrArg (·[3]?) q; simp at this; exact this
        rw [e1, e2, e3, decide_eq_true rfl]
        exact EqAt.same _
      · have q := RcAt.tuples_first (A := A) (e := fun j => match j with | 0 => true | 1 => o == o' | 2 => d.toArray.toList == d'.toArray.toList | _ => f == f') (tup hm) (tup hm') hu (fun j h1 h2 hk => ?_)
        · have e2 : ((List.range 4).all (fun j => match j with | 0 => true | 1 => o == o' | 2 => d.toArray.toList == d'.toArray.toList | _ => f == f')) = decide (Msg.data o d f = Msg.data o' d' f') := by
            show ([0, 1, 2, 3].all _) = _
            by_cases e1 : o = o' <;> by_cases e3 : d = d' <;> by_cases e4 : f = f' <;> simp [e1, e3, e4]
          have q' : RcAt A s (.ref p) (.ref p') (decide (Msg.data o d f = Msg.data o' d' f')) := by
            rw [← e2]; simpa using q
          exact EqAt.of_refs e q'
        · match j, h1 with
          | 0, _ => simpa using EqAt.str_str (A := A.in1) (s := s) (Str.ofString "data") t0 (Str.ofString "data") t0'
          | 1, _ => exact EqAt.int_int _ _ _ _
          | 2, _ => exact EqAt.bytes_bytes _ _ _ _
          | 3, _ => exact EqAt.bool_bool _ _
          | j + 4, h => exact absurd h (by simp)
end
structure Wd where
  snd : Snd
  rcv : Rcv
  room : Int
  fly : List Msg
  written : By
  read : By
noncomputable def Wd.init (room : Int) : Wd := ⟨Snd.init room, Rcv.init room, room, [], [], []⟩
/-- what _law_read makes -/
noncomputable def Wd.readIt (most : Int) (w : Wd) : Wd :=
  { w with read := w.read ++ (w.rcv.read most).1, rcv := (w.rcv.read most).2.2.raise ((w.rcv.read most).2.2.readTo + w.room), snd := w.snd.raise ((w.rcv.read most).2.2.readTo + w.room) }
/-- one deed of the law -/
inductive Step : Wd → Wd → Prop
  | write (w : Wd) (b : By) (e : Bool) : w.snd.st.isOpen = true → w.snd.fin = false → 1 ≤ b.length → b.length ≤ 5 → Step w { w with snd := if e then (w.snd.write b).finish else w.snd.write b, written := w.written ++ b }
  | read (w : Wd) (most : Int) : 0 ≤ most → most ≤ 4 → Step w (w.readIt most)
  | reset (w : Wd) : Step w { w with snd := w.snd.reset 7 }
  | stop (w : Wd) : w.rcv.canStop = true → Step w { w with rcv := w.rcv.stopped 5, snd := w.snd.reset 5 }
  | idle (w : Wd) : Step w w
  | hand (w : Wd) (i : Nat) (ms : Msg) (fly : List Msg) (s : Snd) (r : Rcv) : w.fly[i]? = some ms → (fly = w.fly ∨ ∃ j, w.fly[j]? = some ms ∧ fly = w.fly.eraseIdx j) → Handed2 ms w.snd w.rcv s r → Step w { w with fly := fly, snd := s, rcv := r }
  | lose (w : Wd) (i : Nat) (ms : Msg) : w.fly[i]? = some ms → Step w { w with fly := w.fly.eraseIdx i, snd := w.snd.lose ms }
  | owed (w : Wd) (most : Int) : 1 ≤ most → most ≤ 5 → Step w { w with fly := w.fly ++ (w.snd.owed most).1.toList, snd := (w.snd.owed most).2 }
/-- all that the walk asks of a world ahead of a deed -/
structure Ready (w : Wd) : Prop where
  wl : w.written.length ≤ 900
  sw : w.snd.written.length ≤ 900
  rl : w.read.length ≤ 900
  fl : w.fly.length ≤ 900
  pl : w.rcv.pieces.length ≤ 1000
  pd : ∀ p ∈ w.rcv.pieces, p.2.length ≤ 1000
  ll : w.snd.lost.length ≤ 50000
  al : w.snd.acked.length ≤ 50000
  orr : w.snd.orr = true → ∃ c, w.snd.rc = some c
  lo : ∀ most, 1 ≤ most → 0 ≤ (w.snd.span most).1
  hi : ∀ most, 1 ≤ most → 0 ≤ (w.snd.span most).2
  rd : ∀ most, 0 ≤ most → ReadOk most w.snd w.rcv w.written w.read
  hand : ∀ ms ∈ w.fly, HandOk ms w.snd w.rcv
  lost : ∀ o b e, Msg.data o b e ∈ w.fly → b.length ≤ 1000 ∧ LostOk w.snd o b.length
structure Cells where
  pl : Addr
  wd : Addr
  d : Addr
  x : Addr
  d2 : Addr
  x2 : Addr
  fl : Addr
structure Cells.Ok (c : Cells) : Prop where
  a1 : @LT.lt Nat _ c.pl c.wd
  a2 : @LT.lt Nat _ c.wd c.d
  a3 : @LT.lt Nat _ c.d c.x
  a4 : @LT.lt Nat _ c.x c.d2
  a5 : @LT.lt Nat _ c.d2 c.x2
  a6 : @LT.lt Nat _ c.x2 c.fl
/-- the ledger bears the world -/
inductive WRep (w : World) (c : Cells) (M T : Led) (W : Wd) (ns : List Int) (n : Nat) : Prop
  | mk : ∀ o o2 wo vs k po t, M = (c.x, instObj 199 c.d) :: (c.d, o) :: (c.x2, instObj 309 c.d2) :: (c.d2, o2) :: (c.wd, wo) :: (c.fl, listOf vs.toArray k) :: (c.pl, po) :: [] → SndRep T o W.snd → RcvRep T o2 W.rcv → IsD w wo (wdL c.x c.x2 c.fl W.room W.written W.read t) → All2 (MsgV T) vs W.fly → PoolRep T po ns n → WRep w c M T W ns n
theorem msg_unique {s : Shared} {h₀ : Heap} {L : Addr} {l T : Led} {v : Value} {a b : Msg} (N : News h₀ L s.heap l) (hT : ∀ p ∈ T, p ∈ l) (h1 : MsgV T v a) (h2 : MsgV T v b) : a = b := by
  have same : ∀ {p : Addr} {xs ys : List Value} {n n' : Nat}, (p, tupO xs n) ∈ T → (p, tupO ys n') ∈ T → xs = ys := fun ha hb => by
    have e := (N _ (hT _ ha)).1.symm.trans (N _ (hT _ hb)).1
    injection e with e
    have e2 := congrArg Obj.data e
    simp only [Data.seq.injEq] at e2
    simpa using e2.1
  cases a with
  | reset c z =>
    obtain ⟨p, n, t0, t1, t2, rfl, hm⟩ := h1
    cases b with
    | reset c' z' =>
      obtain ⟨p', n', t0', t1', t2', e, hm'⟩ := h2
      cases e
      have q := same hm hm'
      have e1 : c = c' := by have := congrArg (·[1]?) q; simp at this; exact this.1
      have e2 : z = z' := by have := congrArg (·[2]?) q; simp at this; exact this.1
      rw [e1, e2]
    | data o d f =>
      obtain ⟨p', n', t0', t1', t2', e, hm'⟩ := h2
      cases e
      have q := congrArg List.length (same hm hm')
      simp at q
  | data o d f =>
    obtain ⟨p, n, t0, t1, t2, rfl, hm⟩ := h1
    cases b with
    | reset c' z' =>
      obtain ⟨p', n', t0', t1', t2', e, hm'⟩ := h2
      cases e
      have q := congrArg List.length (same hm hm')
      simp at q
    | data o' d' f' =>
      obtain ⟨p', n', t0', t1', t2', e, hm'⟩ := h2
      cases e
      have q := same hm hm'
      have e1 : o = o' := by have := congrArg (·[1]?) q; simp at this; exact this.1
      have e2 : d = d' := by have := congrArg (·[2]?) q; simp at this; exact this.1
      have e3 : f = f' := by have := congrArg (·[3]?) q; simp at this; exact this
      rw [e1, e2, e3]
theorem All2.erase {α : Type} {R : Value → α → Prop} : ∀ {vs : List Value} {xs : List α}, All2 R vs xs → ∀ j, All2 R (vs.eraseIdx j) (xs.eraseIdx j)
  | _, _, .nil, _ => .nil
  | _, _, .cons _ b, 0 => b
  | _, _, .cons a b, j + 1 => .cons a (b.erase j)
open Classical in
/-- flying.remove(message), the ledger in hand -/
theorem remove_msg {prog : Program} {w : World} {A : Around} {E : Value → Shared → Prop} {s : Shared} {h₀ : Heap} {L D : Addr} {m : Str → Option Value} {news T : Led} {vs : List Value} {n : Nat} {fly : List Msg} {ms : Msg} {v : Value} {i : Nat} {g : Obj → Led} {Q : Value → Shared → Prop}
    (F : Fr h₀ L s.heap m) (N : News h₀ L s.heap news) (hT : ∀ p ∈ T, p ∈ news) (hf : All2 (MsgV T) vs fly) (hi : vs[i]? = some v) (hv : MsgV T v ms) (U : UpdF D (listOf vs.toArray n) news g) (hz : vs.length ≤ 1000) (hu : A.units + 4 < cLine)
    (h : ∀ h' j, Fr h₀ L h' m → News h₀ L h' (g (listOf (vs.eraseIdx j).toArray (n + 1))) → fly[j]? = some ms → Q .none { s with heap := h' }) : wpAny (model prog w) A (call (.builtin "list.remove") [.ref D, v]) Q E s := by
  have hmem : v ∈ vs := List.mem_of_getElem? hi
  have hlt : vs.findIdx (fun y => decide (MsgV T y ms)) < vs.length := List.findIdx_lt_length_of_exists ⟨v, hmem, decide_eq_true hv⟩
  have hU : ∀ o', Upd D (listOf vs.toArray n) o' news (g o') := by
    obtain ⟨pre, post, rfl, hg, a, b⟩ := U.split
    intro o'
    rw [hg]
    clear N hT F U hg h
    induction pre with
    | nil => exact .head b
    | cons p r ih => exact .tail (a p (.head _)) (ih (fun q hq => a q (.tail _ hq)))
  refine remove_T (fun y => decide (MsgV T y ms)) (vs.findIdx (fun y => decide (MsgV T y ms))) F N hlt (List.findIdx_getElem (w := hlt)) (fun i hi' hl => by simpa using List.not_of_lt_findIdx hl) (fun y hy => ?_) (hU _) hz fun h' F' N' => h h' _ F' N' ?_
  · obtain ⟨k, hk⟩ := List.getElem?_of_mem hy
    obtain ⟨a, ha, hya⟩ := hf.get hk
    have q := msg_eqAt (A := A.in1) (s := s) N hT hya hv (by rw [units_in1]; omega)
    by_cases e : a = ms
    · rw [decide_eq_true (p := MsgV T y ms) (e ▸ hya), ← decide_eq_true e]; exact q
    · have : ¬ MsgV T y ms := fun z => e (msg_unique N hT hya z)
      rw [decide_eq_false this, ← decide_eq_false e]; exact q
  · obtain ⟨a, ha, hya⟩ := hf.get (List.getElem?_eq_getElem hlt)
    have q : MsgV T vs[vs.findIdx (fun y => decide (MsgV T y ms))] ms := of_decide_eq_true (List.findIdx_getElem (w := hlt))
    rw [ha, msg_unique N hT hya q]
theorem comp_ind {prog : Program} {w : World} {A : Around} {s : Shared} {h₀ : Heap} {L : Addr} {m : Str → Option Value} {env : Env} {elt : PySem.Expr} {x : Str} {scope : Scope} {cl : List (Str × Addr)} {S : Led → Prop} {P : Nat → Value → Prop} {Fin : List Value → Led → Prop} {n : Nat} {news : Led}
    (J : Nat → List Value → Led → Prop) (h0 : J 0 [] news)
    (turn : ∀ i ys nw, i < n → J i ys nw → ∀ v, P i v →
      ∀ I oI C oC D m₂ h tk (E' : Value → Shared → Prop), LCg.NsObj oC m₂ → m₂ x = some v → Fr h₀ L h m → News h₀ L h ((I, oI) :: (C, oC) :: (D, LCg.lst ys) :: nw) → LCg.Off3 I C D nw → ((@Ne Nat I C) ∧ (@Ne Nat I D) ∧ (@Ne Nat C D)) →
      wpAny (model prog w) A (eval elt (compEnvC scope cl C env)) (LCg.CompEnd h₀ L m { s with heap := h, toks := tk } I oI C oC D (LCg.lst ys) S (fun y nw' => J (i + 1) (ys ++ [y]) nw')) E' { s with heap := h, toks := tk })
    (fin : ∀ ys nw, J n ys nw → Fin ys nw) : LCg.CompRest prog w A h₀ L m env elt x scope cl s S P Fin n 0 [] news := by
  have go : ∀ k i ys nw, i + k = n → J i ys nw → LCg.CompRest prog w A h₀ L m env elt x scope cl s S P Fin k i ys nw := by
    intro k
    induction k with
    | zero =>
      intro i ys nw e j
      have : i = n := by lia
      subst this
      exact LCg.CompRest.zero (fin _ _ j)
    | succ k ih =>
      intro i ys nw e j
      refine LCg.CompRest.succ fun v I oI C oC D m₂ h tk E' hv a1 a2 a3 a4 a5 a6 => wpAny_mono (turn i ys nw (by lia) j v hv I oI C oC D m₂ h tk E' a1 a2 a3 a4 a5 a6) (fun y s₂ c => ?_) fun _ _ e => e
      obtain ⟨h', tk', nw', f1, f2, f3, f4, f5, f6⟩ := c
      exact ⟨h', tk', nw', f1, f2, f3, f4, f5, ih (i + 1) _ _ (by lia) f6⟩
  exact go n 0 [] news (by lia) h0
theorem intsAre_snoc {vs : List Value} {ns : List Int} {i : Int} {t : Tok} (h : IntsAre vs ns) : IntsAre (vs ++ [.int i t]) (ns ++ [i]) := by
  induction h with
  | nil => exact .cons _ _ .nil
  | cons a b _ ih => exact .cons a b ih
noncomputable def octs (n k : Nat) : List Int := (List.range k).map fun (j : Nat) => 97 + Int.fmod ((n : Int) + ((j : Nat) : Int)) 26
theorem octs_succ (n k : Nat) : octs n (k + 1) = octs n k ++ [97 + Int.fmod ((n : Int) + (k : Int)) 26] := by
  unfold octs; rw [List.range_succ, List.map_append]; rfl
theorem octs_byte (n k : Nat) : ∀ i ∈ octs n k, 0 ≤ i ∧ i < 256 := by
  intro i hi
  obtain ⟨j, _, rfl⟩ := List.mem_map.mp hi
  have h1 := Int.fmod_nonneg_of_pos ((n : Int) + (j : Int)) (show (0 : Int) < 26 by decide)
  have h2 := Int.fmod_lt_of_pos ((n : Int) + (j : Int)) (show (0 : Int) < 26 by decide)
  constructor <;> omega
theorem octs_len (n k : Nat) : (octs n k).length = k := by unfold octs; simp
theorem Cells.Ok.l1 {c : Cells} (h : c.Ok) : @LT.lt Nat _ c.pl c.d := Nat.lt_trans h.a1 h.a2
theorem Cells.Ok.l2 {c : Cells} (h : c.Ok) : @LT.lt Nat _ c.pl c.x := Nat.lt_trans h.l1 h.a3
theorem Cells.Ok.l3 {c : Cells} (h : c.Ok) : @LT.lt Nat _ c.pl c.d2 := Nat.lt_trans h.l2 h.a4
theorem Cells.Ok.l4 {c : Cells} (h : c.Ok) : @LT.lt Nat _ c.pl c.x2 := Nat.lt_trans h.l3 h.a5
theorem Cells.Ok.l5 {c : Cells} (h : c.Ok) : @LT.lt Nat _ c.pl c.fl := Nat.lt_trans h.l4 h.a6
theorem Cells.Ok.m1 {c : Cells} (h : c.Ok) : @LT.lt Nat _ c.wd c.x := Nat.lt_trans h.a2 h.a3
theorem Cells.Ok.m2 {c : Cells} (h : c.Ok) : @LT.lt Nat _ c.wd c.d2 := Nat.lt_trans h.m1 h.a4
theorem Cells.Ok.m3 {c : Cells} (h : c.Ok) : @LT.lt Nat _ c.wd c.x2 := Nat.lt_trans h.m2 h.a5
theorem Cells.Ok.m4 {c : Cells} (h : c.Ok) : @LT.lt Nat _ c.wd c.fl := Nat.lt_trans h.m3 h.a6
theorem Cells.Ok.n1 {c : Cells} (h : c.Ok) : @LT.lt Nat _ c.d c.d2 := Nat.lt_trans h.a3 h.a4
theorem Cells.Ok.n2 {c : Cells} (h : c.Ok) : @LT.lt Nat _ c.d c.x2 := Nat.lt_trans h.n1 h.a5
theorem Cells.Ok.n3 {c : Cells} (h : c.Ok) : @LT.lt Nat _ c.d c.fl := Nat.lt_trans h.n2 h.a6
theorem Cells.Ok.p1 {c : Cells} (h : c.Ok) : @LT.lt Nat _ c.x c.x2 := Nat.lt_trans h.a4 h.a5
theorem Cells.Ok.p2 {c : Cells} (h : c.Ok) : @LT.lt Nat _ c.x c.fl := Nat.lt_trans h.p1 h.a6
theorem Cells.Ok.q1 {c : Cells} (h : c.Ok) : @LT.lt Nat _ c.d2 c.fl := Nat.lt_trans h.a5 h.a6
theorem all1 {P : Addr × Obj → Prop} {a : Addr × Obj} {l : Led} (h : P a) (k : ∀ p ∈ l, P p) : ∀ p ∈ a :: l, P p := List.forall_mem_cons.mpr ⟨h, k⟩
theorem all0 {P : Addr × Obj → Prop} : ∀ p ∈ ([] : Led), P p := List.forall_mem_nil _
/-- the other cells apart from one -/
theorem apN {c : Cells} (h : c.Ok) {o o2 wo f : Obj} : ∀ q ∈ [(c.x, instObj 199 c.d), (c.d, o), (c.x2, instObj 309 c.d2), (c.d2, o2), (c.wd, wo), (c.fl, f)], q.1 ≠ c.pl :=
  all1 (Nat.ne_of_gt h.l2) (all1 (Nat.ne_of_gt h.l1) (all1 (Nat.ne_of_gt h.l4) (all1 (Nat.ne_of_gt h.l3) (all1 (Nat.ne_of_gt h.a1) (all1 (Nat.ne_of_gt h.l5) all0)))))
theorem apS {c : Cells} (h : c.Ok) {o2 wo f p : Obj} : ∀ q ∈ [(c.x2, instObj 309 c.d2), (c.d2, o2), (c.wd, wo), (c.fl, f), (c.pl, p)], q.1 ≠ c.d :=
  all1 (Nat.ne_of_gt h.n2) (all1 (Nat.ne_of_gt h.n1) (all1 (Nat.ne_of_lt h.a2) (all1 (Nat.ne_of_gt h.n3) (all1 (Nat.ne_of_lt h.l1) all0))))
theorem apR {c : Cells} (h : c.Ok) {o wo f p : Obj} : ∀ q ∈ [(c.x, instObj 199 c.d), (c.d, o), (c.wd, wo), (c.fl, f), (c.pl, p)], q.1 ≠ c.d2 :=
  all1 (Nat.ne_of_lt h.a4) (all1 (Nat.ne_of_lt h.n1) (all1 (Nat.ne_of_lt h.m2) (all1 (Nat.ne_of_gt h.q1) (all1 (Nat.ne_of_lt h.l3) all0))))
theorem apW {c : Cells} (h : c.Ok) {f p : Obj} : ∀ q ∈ [(c.fl, f), (c.pl, p)], q.1 ≠ c.wd := all1 (Nat.ne_of_gt h.m4) (all1 (Nat.ne_of_lt h.a1) all0)
theorem apS3 {c : Cells} (h : c.Ok) {f p : Obj} : ∀ q ∈ [(c.fl, f), (c.pl, p)], q.1 ≠ c.d := all1 (Nat.ne_of_gt h.n3) (all1 (Nat.ne_of_lt h.l1) all0)
theorem apR3 {c : Cells} (h : c.Ok) {f p : Obj} : ∀ q ∈ [(c.fl, f), (c.pl, p)], q.1 ≠ c.d2 := all1 (Nat.ne_of_gt h.q1) (all1 (Nat.ne_of_lt h.l3) all0)
theorem apS2 {c : Cells} (h : c.Ok) {wo f p : Obj} : ∀ q ∈ [(c.wd, wo), (c.fl, f), (c.pl, p)], q.1 ≠ c.d := all1 (Nat.ne_of_lt h.a2) (apS3 h)
theorem apR2 {c : Cells} (h : c.Ok) {wo f p : Obj} : ∀ q ∈ [(c.wd, wo), (c.fl, f), (c.pl, p)], q.1 ≠ c.d2 := all1 (Nat.ne_of_lt h.m2) (apR3 h)
theorem apS4 {c : Cells} (h : c.Ok) {p : Obj} : ∀ q ∈ [(c.pl, p)], q.1 ≠ c.d := all1 (Nat.ne_of_lt h.l1) all0
theorem apR4 {c : Cells} (h : c.Ok) {p : Obj} : ∀ q ∈ [(c.pl, p)], q.1 ≠ c.d2 := all1 (Nat.ne_of_lt h.l3) all0
theorem apW4 {c : Cells} (h : c.Ok) {p : Obj} : ∀ q ∈ [(c.pl, p)], q.1 ≠ c.wd := all1 (Nat.ne_of_lt h.a1) all0
theorem apS5 {c : Cells} (h : c.Ok) {wo p : Obj} : ∀ q ∈ [(c.wd, wo), (c.pl, p)], q.1 ≠ c.d := all1 (Nat.ne_of_lt h.a2) (apS4 h)
theorem apR5 {c : Cells} (h : c.Ok) {wo p : Obj} : ∀ q ∈ [(c.wd, wo), (c.pl, p)], q.1 ≠ c.d2 := all1 (Nat.ne_of_lt h.m2) (apR4 h)
theorem apS6 {c : Cells} (h : c.Ok) {o2 wo p : Obj} : ∀ q ∈ [(c.x2, instObj 309 c.d2), (c.d2, o2), (c.wd, wo), (c.pl, p)], q.1 ≠ c.d := all1 (Nat.ne_of_gt h.n2) (all1 (Nat.ne_of_gt h.n1) (apS5 h))
theorem apR6 {c : Cells} (h : c.Ok) {o wo p : Obj} : ∀ q ∈ [(c.x, instObj 199 c.d), (c.d, o), (c.wd, wo), (c.pl, p)], q.1 ≠ c.d2 := all1 (Nat.ne_of_lt h.a4) (all1 (Nat.ne_of_lt h.n1) (apR5 h))
theorem ap_tl {a : Addr × Obj} {l : Led} {d : Addr} (h : ∀ q ∈ a :: l, q.1 ≠ d) : ∀ q ∈ l, q.1 ≠ d := fun q hq => h q (.tail _ hq)
/-- the value of a test, what it leaves -/
noncomputable def IfQ (h₀ : Heap) (L : Addr) (m : Str → Option Value) (C tl : Led) (adr : List Addr) (g : Array GenState) (dr : Drawn) (os : OsState) (B b : Bool) (s' : Shared) : Prop :=
  b = B ∧ ∃ h' tk T', s' = ⟨h', g, dr, tk, os⟩ ∧ Fr h₀ L h' m ∧ News h₀ L h' (C ++ T') ∧ (∀ p ∈ tl, p ∈ T') ∧ OwnOff T' adr
theorem if_end {h₀ : Heap} {L : Addr} {m : Str → Option Value} {C tl : Led} {adr : List Addr} {g : Array GenState} {dr : Drawn} {os : OsState} {B b : Bool} {h' : Heap} {tk : Nat} (T' : Led) (F : Fr h₀ L h' m) (N : News h₀ L h' (C ++ T')) (a : ∀ p ∈ tl, p ∈ T') (o : OwnOff T' adr) (e : b = B) : IfQ h₀ L m C tl adr g dr os B b ⟨h', g, dr, tk, os⟩ :=
  ⟨e, h', tk, T', rfl, F, N, a, o⟩
section
variable {M : Model} {A : Around} {E : Value → Shared → Prop} {env : Env} {test : PySem.Expr} {body orelse : List Stmt} {pos : Pos} {Q : Flow → Shared → Prop} {g : Array GenState} {dr : Drawn} {os : OsState} {h : Heap} {tk₀ : Nat}
theorem if_at {h₀ : Heap} {L : Addr} {m : Str → Option Value} (F : Fr h₀ L h m) (C tl : Led) (adr : List Addr) (B : Bool)
    (h1 : wpAny M A (isTrue test env (eval test env)) (IfQ h₀ L m C tl adr g dr os B) E ⟨h, g, dr, tk₀, os⟩)
    (h2 : B = true → ∀ h' tk T', (∀ p ∈ tl, p ∈ T') → OwnOff T' adr → Fr h₀ L h' m → News h₀ L h' (C ++ T') → wpAny M A (execs body env) Q E ⟨h', g, dr, tk, os⟩)
    (h3 : B = false → ∀ h' tk T', (∀ p ∈ tl, p ∈ T') → OwnOff T' adr → Fr h₀ L h' m → News h₀ L h' (C ++ T') → wpAny M A (execs orelse env) Q E ⟨h', g, dr, tk, os⟩) :
    wpAny M A (exec (.If test body orelse pos) env) Q E ⟨h, g, dr, tk₀, os⟩ := by
  refine wpAny_If (wpAny_mono h1 (fun b s' h => ?_) fun _ _ e => e)
  obtain ⟨rfl, h', tk, T', rfl, F', N', a, o⟩ := h
  cases b with
  | true => exact h2 rfl h' tk T' a o F' N'
  | false => exact h3 rfl h' tk T' a o F' N'
/-- a test that makes nothing -/
noncomputable def IfP (h : Heap) (g : Array GenState) (dr : Drawn) (os : OsState) (B b : Bool) (s' : Shared) : Prop := b = B ∧ ∃ tk, s' = ⟨h, g, dr, tk, os⟩
theorem ifp_end {B b : Bool} {tk : Nat} (e : b = B) : IfP h g dr os B b ⟨h, g, dr, tk, os⟩ := ⟨e, tk, rfl⟩
theorem if_pure (B : Bool) (h1 : wpAny M A (isTrue test env (eval test env)) (IfP h g dr os B) E ⟨h, g, dr, tk₀, os⟩)
    (h2 : B = true → ∀ tk, wpAny M A (execs body env) Q E ⟨h, g, dr, tk, os⟩) (h3 : B = false → ∀ tk, wpAny M A (execs orelse env) Q E ⟨h, g, dr, tk, os⟩) :
    wpAny M A (exec (.If test body orelse pos) env) Q E ⟨h, g, dr, tk₀, os⟩ := by
  refine wpAny_If (wpAny_mono h1 (fun b s' h => ?_) fun _ _ e => e)
  obtain ⟨rfl, tk, rfl⟩ := h
  cases b with
  | true => exact h2 rfl tk
  | false => exact h3 rfl tk
end
theorem execs_one {M : Model} {A : Around} {E : Value → Shared → Prop} {s : Shared} {env : Env} {st : Stmt} {Q : Flow → Shared → Prop} (h : wpAny M A (exec st env) Q E s) : wpAny M A (execs [st] env) Q E s :=
  wpAny_execs_cons (wpAny_mono h (fun f s' q => by cases f <;> first | exact q | exact wpAny_execs_nil q) fun _ _ e => e)
theorem ite_and {p : Prop} [Decidable p] {b : Bool} (h : (if p then b else false) = true) : p ∧ b = true := by
  by_cases q : p
  · rw [if_pos q] at h; exact ⟨q, h⟩
  · rw [if_neg q] at h; cases h
theorem ifT {p : Prop} [Decidable p] {b : Bool} (h : p) (k : b = true) : true = (if p then b else false) := by rw [if_pos h, k]
theorem ifF {p : Prop} [Decidable p] {b : Bool} (h : p) (k : b = false) : false = (if p then b else false) := by rw [if_pos h, k]
theorem ifN {p : Prop} [Decidable p] {b : Bool} (h : ¬ p) : false = (if p then b else false) := by rw [if_neg h]
theorem ifN' {c b : Bool} (h : c = false) : false = (if c = true then b else false) := by rw [h]; rfl
theorem rows8 : True := by
  k_with "x compareOp NotEq ref ref" => ((k_here; (with_reducible show wpAny _ _ (compareOp CmpOp.NotEq (Value.ref _) (Value.ref _)) _ _ _); k_dflt (refine ne_nil_T (b' := true) (by first | (walk_at "isList")) (by first | (walk_at "isList")) (by first | (ktr_units)) (by first | (exact decide_eq_true (by assumption))) ?_)))
  k_with "x compareOp NotEq ref ref" => ((k_here; (with_reducible show wpAny _ _ (compareOp CmpOp.NotEq (Value.ref _) (Value.ref _)) _ _ _); k_dflt (refine ne_nil_T (b' := false) (by first | (walk_at "isList")) (by first | (walk_at "isList")) (by first | (ktr_units)) (by first | (exact decide_eq_false (not_not_intro (by assumption)))) ?_)))
  k_with "x eval Name" => ((k_here; (with_reducible show wpAny _ _ (eval (PySem.Expr.Name (Str.ofString "world") _) _) _ _ _); k_dflt (refine nameX_C (by first | (k_asm)) (by first | (rfl)) (by first | (walk_at "mem")) (by first | (assumption)) ?_ (by first | (rfl)) (by first | (rfl)); k_whole)))
  k_with "subscriptTail Name BinOp ref int" => ((k_here; (with_reducible show wpAny _ _ (subscriptTail _ _ (Value.ref _) (Value.int _ _)) _ _ _); (with_unfolding_all refine item_L (by first | (walk_at "isList")) (by first | decide | lia) (by first | decide | lia) (by first | rfl | assumption) ?_ (by first | (with_unfolding_all rfl)); k_whole)))
  k_with "x eval Name" => ((k_here; (with_reducible show wpAny _ _ (eval (PySem.Expr.Name (Str.ofString "world") _) (compEnvC _ _ _ _)) _ _ _); k_dflt (refine lcf_cell (by first | (k_asm)) (by first | (rfl)) (by first | (walk_at "mem")) (by first | (assumption)) ?_ (by first | (rfl)) (by first | (rfl)); k_whole)))
  k_with "x call type:bytes" => ((k_here; (with_reducible show wpAny _ _ (call (Value.type "bytes") [Value.ref _]) _ _ _); k_dflt (refine bytes_K (by first | (k_asm)) (by first | (k_asm)) (by first | (walk_at "isList")) (by first | (assumption)) (by first | (exact octs_byte _ _)) (by first | ((rw [IntsAre.length (by assumption), octs_len, sizeLine_eq]; lia))) (by first | (with_unfolding_all rfl)) ?_); intro zh zt zk zF zN zhB))
  k_with "pv" => ((refine pv_C (by first | (exact rfl)) (by first | (k_asm)) (by first | (exact rfl)) (by first | (walk_at "mem")) (by first | (assumption)) (by first | (exact rfl)) (by first | (decide))))
  k_with "x compareOp NotEq ref ref" => ((k_here; (with_reducible show wpAny _ _ (compareOp CmpOp.NotEq (Value.ref _) (Value.ref _)) _ _ _); k_dflt (refine ne_nil_T (by first | (walk_at "isList")) (by first | (walk_at "isList")) (by first | (ktr_units)) (by first | (exact rfl)) ?_)))
  k_with "B" => (first | exact ifN (by assumption) | exact ifT (by assumption) (by assumption) | exact ifF (by assumption) (by assumption) | exact ifT (by assumption) (decide_eq_true (by assumption)) | exact ifF (by assumption) (decide_eq_false (by assumption)))
  trivial
section
local macro_rules | `(tactic| k_ne) => `(tactic| (refine neN ?_; (try dsimp only); first | assumption | lia))
inductive PStp (w : World) (c : Cells) (W : Wd) (ns : List Int) (n : Nat) (M' T : Led) : Value → Prop
  | mk (W' : Wd) (h1 : Step W W') (h2 : WRep w c M' T W' ns n) : PStp w c W ns n M' T (.bool true)
theorem law_step_ok (w : World) (c : Cells) (hc : c.Ok) (M own : Led) (W : Wd) (ns : List Int) (n : Nat) (hW : WRep w c M own W ns n) (hr : Ready W) (hz : ns.length ≤ 1000) (hn : n ≤ 900) :
    Calls w 353 120 1500 [.ref c.pl, .ref c.wd] M own (fun r M' T => PStp w c W ns (n + 2) M' T r) := by
  intro prog mean mg mb dp un gd cn cs a ccd cl outer A₀ base h₀ L m s9 Q E B F X N off T hk hdp hun hret
  obtain ⟨pl, wd, d, x, d2, x2, fl⟩ := c
  obtain ⟨o, o2, wo, vs, kk, po, t, rfl, hS, hV, hD, hfl, hP⟩ := hW
  dsimp only at hD
  simp only [List.cons_append, List.nil_append, List.map_cons, List.map_nil] at N off
  refine wpAny_call ?_
  refine' code_defC ?k1 ?k2 ?k3 ?k4 ?k5 ?kA ?kF ?kK ?k6 ?k7 ?k8 ?k9 ?kB ?kD ?_ ?c2 ?c3 ?c4
  case kA => exact rfl
  case kF => exact rfl
  case kK => assumption
  case k1 => k_asm
  case k2 => k_asm
  case k3 => k_asm
  case k4 => k_asm
  case k5 => k_asm
  case k6 => k_is
  case k7 => k_is
  case k8 => ktr_room
  case k9 => exact BindsTo.of_eq rfl
  case kB => exact rfl
  case kD => decide +kernel
  case c2 => exact rfl
  case c3 => exact rfl
  case c4 => exact rfl
  k_whole
  intro g' L' h' tk' cells' FG' F' N' Y' B' X' T' l1
  k_lt l1
  obtain ⟨oc, hE', dc⟩ := CellsAre.one Y'
  subst hE'
  clear Y'
  simp only [List.cons_append, List.nil_append] at N'
  replace dc : oc.data = .cell (some (.ref wd)) := dc
  dsimp only
  try k_fold
  have hown0 : ∀ p ∈ own, p ∈ (L' + 1, oc) :: own := fun p hp => .tail _ hp
  replace off : OwnOff ((L' + 1, oc) :: own) [x, d, x2, d2, wd, fl, pl] := by walk_at "off"
  have hcm : (L' + 1, oc) ∈ (L' + 1, oc) :: own := .head _
  replace N' := news_sub (l' := [(x, instObj 199 d), (d, o), (x2, instObj 309 d2), (d2, o2), (wd, wo), (fl, listOf vs.toArray kk), (pl, po)] ++ ((L' + 1, oc) :: own)) N' (by walk_at "sub")
  replace hP := hP.mono (.of hown0)
  replace hS := hS.mono (.of hown0)
  replace hV := hV.mono (.of hown0)
  replace hfl := msgs_mono hfl (.of hown0)
  generalize (L' + 1, oc) :: own = T1 at *
  clear l1
  refine cut_at F' T1 [x, d, x2, d2, wd, fl, pl] (fun m' C' T' => ∃ po form more tf tm, C' = [(x, instObj 199 d), (d, o), (x2, instObj 309 d2), (d2, o2), (wd, wo), (fl, listOf vs.toArray kk), (pl, po)] ∧
      0 ≤ more ∧ more < 5 ∧ PoolRep T' po ns (n + 2) ∧ ∀ p ∈ [((Str.ofString "pool" : Str), Value.ref pl), (Str.ofString "form", .int form tf), (Str.ofString "more", .int more tm), (Str.ofString "sender", .ref x), (Str.ofString "flying", .ref fl)], m' p.1 = some p.2) ?_ ?_
  · simp only [List.cons_append, List.nil_append] at N'
    k_steps
    try k_fold
    k_dflt (refine' use_call (law_number_ok w pl ((x, instObj 199 d) :: (d, _) :: (x2, instObj 309 d2) :: (d2, _) :: (wd, wo) :: (fl, _) :: []) T1 po ns n 8 _ (apN hc) hP (by decide) hz (by lia)) ?B ?F ?X ?N ?S ?O ?T ?K ?D ?U ?_)
    walk_at "use"
    rintro r M' T2 h2 tk2 F4 N4 hsub off2 ⟨po2, form, tf, f1, f2, hP2⟩
    simp only [List.cons_append, List.nil_append] at N4
    simp only [List.map_cons, List.map_nil] at off2
    replace hcm := hsub _ hcm
    k_steps
    try k_fold
    k_dflt (refine' use_call (law_number_ok w pl ((x, instObj 199 d) :: (d, _) :: (x2, instObj 309 d2) :: (d2, _) :: (wd, wo) :: (fl, _) :: []) T2 po2 ns (n + 1) 5 _ (apN hc) hP2 (by decide) hz (by lia)) ?B ?F ?X ?N ?S ?O ?T ?K ?D ?U ?_)
    walk_at "use"
    rintro r M' T3 h3 tk3 F5 N5 hsub3 off3 ⟨po3, more, tm, m1, m2, hP3⟩
    simp only [List.cons_append, List.nil_append] at N5
    simp only [List.map_cons, List.map_nil] at off3
    replace hcm := hsub3 _ hcm
    k_steps
    exact cut_end (_ :: _ :: _ :: _ :: _ :: _ :: _ :: []) T3 (by k_asm) (news_sub (by k_asm) (by walk_at "sub")) (fun p hp => hsub3 p (hsub p hp)) (by walk_at "off") ⟨_, _, _, _, _, rfl, m1, m2, hP3, by walk_at "binds"⟩
  clear F' N' hP off
  rintro h2 tk2 mm C T2 hsub2 off2 ⟨po2, form, more, tf, tm, rfl, m1, m2, hP, hm⟩ F2 N2
  have F1 := fr_of _ F2 hm
  clear F2 hm
  replace hcm := hsub2 _ hcm
  replace hown0 : ∀ p ∈ own, p ∈ T2 := fun p hp => hsub2 p (hown0 p hp)
  replace hS := hS.mono (.of hsub2)
  replace hV := hV.mono (.of hsub2)
  replace hfl := msgs_mono hfl (.of hsub2)
  clear hsub2
  refine cut_at F1 T2 [x, d, x2, d2, wd, fl, pl] (fun m' C' T' => C' = [(x, instObj 199 d), (d, o), (x2, instObj 309 d2), (d2, o2), (wd, wo), (fl, listOf vs.toArray kk), (pl, po2)] ∧
      ∀ p ∈ [((Str.ofString "form" : Str), Value.int form tf), (Str.ofString "more", .int more tm), (Str.ofString "sender", .ref x), (Str.ofString "flying", .ref fl), (Str.ofString "is_open", .bool (W.snd.st.isOpen && !W.snd.fin))], m' p.1 = some p.2) ?_ ?_
  · simp only [List.cons_append, List.nil_append] at N2
    obtain ⟨k, tl, te, tw, ts, va, vl, tr, ha, hl⟩ := hS
    k_steps
    · rename (List.any _ _) = true => hq
      rw [any_open] at hq
      exact cut_end (_ :: _ :: _ :: _ :: _ :: _ :: _ :: []) T2 (by k_asm) (news_sub (by k_asm) (by walk_at "sub")) (fun p hp => hp) off2 ⟨rfl, by rw [hq, Bool.true_and]; walk_at "binds"⟩
    · rename (List.any _ _) = false => hq
      rw [any_open] at hq
      exact cut_end (_ :: _ :: _ :: _ :: _ :: _ :: _ :: []) T2 (by k_asm) (news_sub (by k_asm) (by walk_at "sub")) (fun p hp => hp) off2 ⟨rfl, by rw [show (W.snd.st.isOpen && !W.snd.fin) = ([Str.ofString "ready", Str.ofString "send"].any fun x => x == W.snd.st.str) from by rw [any_open, hq]; rfl]; walk_at "binds"⟩
  clear F1 N2
  rintro h3 tk3 mm C T3 hsub2 off3 ⟨rfl, hm⟩ F2 N2
  have F1 := fr_of _ F2 hm
  clear F2 hm
  replace hcm := hsub2 _ hcm
  replace hown0 : ∀ p ∈ own, p ∈ T3 := fun p hp => hsub2 p (hown0 p hp)
  replace hS := hS.mono (.of hsub2)
  replace hV := hV.mono (.of hsub2)
  replace hfl := msgs_mono hfl (.of hsub2)
  replace hP := hP.mono (.of hsub2)
  clear hsub2 off2
  generalize hio : (W.snd.st.isOpen && !W.snd.fin) = io at *
  obtain ⟨hwl, hsw, hrl, hfll, hpl, hpd, hll, hal, horr, hlo, hhi, hrd, hhand, hlost⟩ := hr
  have hvl := hfl.length
  have hvz : vs.length ≤ 900 := by lia
  refine cut_at F1 T3 [x, d, x2, d2, wd, fl, pl] (fun _ C' T' => ∃ W', Step W W' ∧ WRep w ⟨pl, wd, d, x, d2, x2, fl⟩ C' T' W' ns (n + 2)) ?_ ?_
  case' refine_2 =>
    clear F1 N2
    rintro h4 tk4 mm C T4 hsub4 off4 ⟨W', hst, hW⟩ F2 N2
    k_steps
    exact hret _ C T4 _ _ (by k_asm) (by k_asm) (fun p hp => hsub4 p (hown0 p hp)) off4 ⟨W', hst, hW⟩
  try k_fold
  -- a write
  refine if_pure (if form < 2 then io else false) ?_ ?_ ?_
  · k_steps
    all_goals exact ifp_end (by walk_at "B")
  · intro hB tk4
    obtain ⟨-, rfl⟩ := ite_and hB
    clear hB
    obtain ⟨hop, hfin⟩ : W.snd.st.isOpen = true ∧ W.snd.fin = false := by simpa using hio
    have hmn : ((more + 1).toNat : Int) = more + 1 := by lia
    obtain ⟨k, tl, te, tw, ts, va, vl, tr, ha, hl⟩ := id hS
    iterate 13 walk1
    rename IsRange _ _ _ _ _ _ _ _ => R'
    rename News _ _ _ _ => NR
    k_dflt (refine' LCg.CompSrc.range (n := (more + 1).toNat) ?hh ?F ?N R' ?sm ?n ?z ?_; (case hh => rfl); (case F => k_asm); (case N => exact NR); (case sm => exact small_one (by lia) (by lia) (by lia) (by lia)); (case n => rw [rangeSize_one]; split <;> lia); (case z => rw [sizeLine_eq]; lia))
    intro g5
    refine comp_ind (fun i ys nw => nw = _ ∧ IntsAre ys (octs W.written.length i)) ⟨rfl, .nil⟩ ?turn ?fin
    case turn =>
      rintro i ys nw hi ⟨rfl, hys⟩ v ⟨tv, rfl⟩ I oI C oC D m₂ h tk E' hC hx F2 N2 o3 hne
      k_steps
      exact LCg.CompEnd.intro (by k_asm) (by k_asm) _ (fun p hp => hp) o3 trivial ⟨rfl, by rw [octs_succ]; simp only [Int.zero_add]; exact intsAre_snoc hys⟩
    case fin =>
      rintro ys nw ⟨rfl, hys⟩ D h tk F2 N2 o1
      have o2 := off1_mem o1
      iterate 2 walk1
      have hbl : ((octs W.written.length (more + 1).toNat).map fun n => n.toNat.toUInt8).length = (more + 1).toNat := by rw [List.length_map, octs_len]
      generalize ((octs W.written.length (more + 1).toNat).map fun n => n.toNat.toUInt8) = b at *
      have hb1 : 1 ≤ b.length := by lia
      have hb5 : b.length ≤ 5 := by lia
      clear hys o1 o2 hmn hbl
      k_steps
      try k_fold
      k_dflt (refine' use_call (snd_write w x d [(x2, instObj 309 d2), (d2, _), (wd, _), (fl, _), (pl, po2)] T3 _ W.snd b _ hc.a3 (apS hc) hS hop hfin (by lia)) ?B ?F ?X ?N ?S ?O ?T ?K ?D ?U ?_)
      walk_at "use"
      rintro r M' T4 h4 tk4 F5 N5 hsub4 off4 ⟨o', hS'⟩
      simp only [List.cons_append, List.nil_append] at N5
      simp only [List.map_cons, List.map_nil] at off4
      replace hcm := hsub4 _ hcm
      replace hV := hV.mono (.of hsub4)
      replace hP := hP.mono (.of hsub4)
      replace hfl := msgs_mono hfl (.of hsub4)
      have w1 : @Ne Nat x wd := Nat.ne_of_gt hc.m1
      have w2 : @Ne Nat d wd := Nat.ne_of_gt hc.a2
      have w3 : @Ne Nat x2 wd := Nat.ne_of_gt hc.m3
      have w4 : @Ne Nat d2 wd := Nat.ne_of_gt hc.m2
      have w5 : @Ne Nat fl wd := Nat.ne_of_gt hc.m4
      have w6 : @Ne Nat pl wd := Nat.ne_of_lt hc.a1
      (try (k_unfold; (try dsimp only)))
      iterate 40 (first | (with_reducible show wpAny _ _ (exec (Stmt.If _ _ _ _) _) _ _ _) | walk1)
      rename IsD _ _ _ => hD'
      rename_i wo' _ _ _ _
      refine if_pure (if form = 1 then decide (more > 2) else false) ?_ ?_ ?_
      · k_steps
        all_goals exact ifp_end (by walk_at "B")
      · rintro - tk5
        obtain ⟨k5, tl5, te5, tw5, ts5, va5, vl5, tr5, ha5, hl5⟩ := id hS'
        k_steps
        try k_fold
        k_dflt (refine' use_call (snd_finish w x d [(x2, instObj 309 d2), (d2, _), (wd, _), (fl, _), (pl, po2)] T4 _ (W.snd.write b) hc.a3 (apS hc) hS' hop) ?B ?F ?X ?N ?S ?O ?T ?K ?D ?U ?_)
        walk_at "use"
        rintro r M' T5 h5 tk5 F6 N6 hsub5 off5 ⟨o5', hS5⟩
        simp only [List.cons_append, List.nil_append] at N6
        simp only [List.map_cons, List.map_nil] at off5
        k_steps
        exact cut_end (_ :: _ :: _ :: _ :: _ :: _ :: _ :: []) T5 (by k_asm) (by k_asm) (fun p hp => hsub5 p (hsub4 p hp)) off5 ⟨_, .write W b true hop hfin hb1 hb5, o5', _, _, vs, kk, po2, _, rfl, hS5, hV.mono (.of hsub5), hD', msgs_mono hfl (.of hsub5), hP.mono (.of hsub5)⟩
      · rintro - tk5
        k_steps
        exact cut_end (_ :: _ :: _ :: _ :: _ :: _ :: _ :: []) T4 (by k_asm) (by k_asm) hsub4 off4 ⟨_, .write W b false hop hfin hb1 hb5, _, _, _, vs, kk, po2, _, rfl, hS', hV, hD', hfl, hP⟩
  rintro - tk4
  refine execs_one ?_
  -- a read
  refine if_pure (form == 5) ?_ ?_ ?_
  · k_steps
    exact ifp_end rfl
  · rintro - tk5
    k_steps
    try k_fold
    k_dflt (refine' use_call (law_read_ok w x d x2 d2 wd fl [(fl, _), (pl, po2)] T3 _ _ wo W.snd W.rcv more tm W.room W.written W.read t hc.a2 hc.a3 hc.a4 hc.a5 (apS3 hc) (apR3 hc) (apW hc) hS hV hD m1 (by lia) hpd hpl (by lia) (by lia) (hrd more m1)) ?B ?F ?X ?N ?S ?O ?T ?K ?D ?U ?_)
    walk_at "use"
    rintro r M' T4 h4 tk4 F5 N5 hsub4 off4 ⟨o', o2', wo', t', hS', hV', hD'⟩
    simp only [List.cons_append, List.nil_append] at N5
    simp only [List.map_cons, List.map_nil] at off4
    k_steps
    dsimp only [CutQ]
    k_steps
    exact hret _ (_ :: _ :: _ :: _ :: _ :: _ :: _ :: []) T4 _ _ (by k_asm) (by k_asm) (fun p hp => hsub4 p (hown0 p hp)) off4 ⟨_, .read W more m1 (by lia), o', o2', wo', vs, kk, po2, t', rfl, hS', hV', hD', msgs_mono hfl (.of hsub4), hP.mono (.of hsub4)⟩
  clear hret
  rintro - tk5
  refine execs_one ?_
  -- a reset
  refine if_pure (if form = 6 then decide (more = 0) else false) ?_ ?_ ?_
  · k_steps
    all_goals exact ifp_end (by walk_at "B")
  · rintro - tk6
    obtain ⟨k, tl, te, tw, ts, va, vl, tr, ha, hl⟩ := id hS
    k_steps
    try k_fold
    k_dflt (refine' use_call (snd_reset w x d [(x2, instObj 309 d2), (d2, _), (wd, _), (fl, _), (pl, po2)] T3 _ W.snd 7 _ hc.a3 (apS hc) hS) ?B ?F ?X ?N ?S ?O ?T ?K ?D ?U ?_)
    walk_at "use"
    rintro r M' T4 h4 tk4 F5 N5 hsub4 off4 ⟨o', hS'⟩
    simp only [List.cons_append, List.nil_append] at N5
    simp only [List.map_cons, List.map_nil] at off4
    k_steps
    exact cut_end (_ :: _ :: _ :: _ :: _ :: _ :: _ :: []) T4 (by k_asm) (by k_asm) hsub4 off4 ⟨_, .reset W, o', _, wo, vs, kk, po2, t, rfl, hS', hV.mono (.of hsub4), hD, msgs_mono hfl (.of hsub4), hP.mono (.of hsub4)⟩
  rintro - tk6
  refine execs_one ?_
  -- a stop
  refine if_pure (if form = 7 then decide (more = 0) else false) ?_ ?_ ?_
  · k_steps
    all_goals exact ifp_end (by walk_at "B")
  · rintro - tk7
    obtain ⟨k, tl, te, tw, ts, va, vl, tr, ha, hl⟩ := id hS
    obtain ⟨k2, tl2, te2, vp2, tr2, th2, tf2, tc2, tp2, hp2⟩ := id hV
    k_steps
    try k_fold
    k_dflt (refine' use_call (rcv_stop w x2 d2 [(x, instObj 199 d), (d, _), (wd, _), (fl, _), (pl, po2)] T3 _ W.rcv 5 _ hc.a5 (apR hc) hV) ?B ?F ?X ?N ?S ?O ?T ?K ?D ?U ?_)
    walk_at "use"
    rintro r M' T4 h4 tk4 F5 N5 hsub4 off4 ⟨o2', hV'⟩
    simp only [List.cons_append, List.nil_append] at N5
    simp only [List.map_cons, List.map_nil] at off4
    replace hcm := hsub4 _ hcm
    by_cases hcs : W.rcv.canStop = true
    · rw [hcs]
      k_steps
      try k_fold
      k_dflt (refine' use_call (snd_on_stop w x d [(x2, instObj 309 d2), (d2, _), (wd, _), (fl, _), (pl, po2)] T4 _ W.snd 5 _ hc.a3 (apS hc) (hS.mono (.of hsub4))) ?B ?F ?X ?N ?S ?O ?T ?K ?D ?U ?_)
      walk_at "use"
      rintro r M' T5 h5 tk5 F6 N6 hsub5 off5 ⟨o', hS'⟩
      simp only [List.cons_append, List.nil_append] at N6
      simp only [List.map_cons, List.map_nil] at off5
      k_steps
      exact cut_end (_ :: _ :: _ :: _ :: _ :: _ :: _ :: []) T5 (by k_asm) (by k_asm) (fun p hp => hsub5 p (hsub4 p hp)) (by walk_at "off") ⟨_, .stop W hcs, o', o2', wo, vs, kk, po2, t, rfl, hS', hV'.mono (.of hsub5), hD, msgs_mono hfl (.of fun p hp => hsub5 p (hsub4 p hp)), hP.mono (.of fun p hp => hsub5 p (hsub4 p hp))⟩
    · have e9 : W.rcv.stopped 5 = W.rcv := by unfold Rcv.stopped; rw [if_neg hcs]
      rw [e9] at hV'
      rw [Bool.eq_false_iff.mpr hcs]
      k_steps
      exact cut_end (_ :: _ :: _ :: _ :: _ :: _ :: _ :: []) T4 (by k_asm) (news_sub (by k_asm) (by walk_at "sub")) hsub4 (by walk_at "off") ⟨_, .idle W, _, o2', wo, vs, kk, po2, t, rfl, hS.mono (.of hsub4), hV', hD, msgs_mono hfl (.of hsub4), hP.mono (.of hsub4)⟩
  rintro - tk7
  refine execs_one ?_
  have b1 : @Ne Nat x fl := Nat.ne_of_lt hc.p2
  have b2 : @Ne Nat d fl := Nat.ne_of_lt hc.n3
  have b3 : @Ne Nat x2 fl := Nat.ne_of_lt hc.a6
  have b4 : @Ne Nat d2 fl := Nat.ne_of_lt hc.q1
  have b5 : @Ne Nat wd fl := Nat.ne_of_lt hc.m4
  have b6 : @Ne Nat pl fl := Nat.ne_of_lt hc.l5
  have hidx : vs ≠ [] → 0 ≤ Int.fmod more (vs.length : Int) ∧ Int.fmod more (vs.length : Int) < (vs.length : Int) := fun hne => by
    have hv1 : 0 < (vs.length : Int) := by
      have := List.length_pos_iff.mpr hne
      lia
    exact ⟨Int.fmod_nonneg_of_pos _ hv1, Int.fmod_lt_of_pos _ hv1⟩
  -- a message handed
  refine if_at F1 [(x, instObj 199 d), (d, o), (x2, instObj 309 d2), (d2, o2), (wd, wo), (fl, listOf vs.toArray kk), (pl, po2)] T3 [x, d, x2, d2, wd, fl, pl] (if form = 3 then decide (vs ≠ []) else false) ?_ ?_ ?_
  · simp only [List.cons_append, List.nil_append] at N2
    k_steps
    all_goals first | exact if_end T3 (by k_asm) (by k_asm) (fun _ h => h) off3 (by walk_at "B") | (refine if_end ((_, listOf ([] : List Value).toArray 0) :: T3) (by k_asm) (news_sub (by k_asm) (by walk_at "sub")) (fun _ h => .tail _ h) (off_c ?_ off3) ?_; (walk_at "ne"); (walk_at "B"))
  · clear F1 N2
    rintro hB h4 tk8 T4 hsub4 off4 F1 N2
    replace hcm := hsub4 _ hcm
    replace hS := hS.mono (.of hsub4)
    replace hV := hV.mono (.of hsub4)
    replace hfl := msgs_mono hfl (.of hsub4)
    replace hP := hP.mono (.of hsub4)
    obtain ⟨-, hB⟩ := ite_and hB
    have hne := of_decide_eq_true hB
    clear hB
    obtain ⟨hi0, hi1⟩ := hidx hne
    have hlt : (Int.fmod more (vs.length : Int)).toNat < vs.length := by lia
    obtain ⟨v, hv⟩ : ∃ v, vs[(Int.fmod more (vs.length : Int)).toNat]? = some v := ⟨_, List.getElem?_eq_getElem hlt⟩
    obtain ⟨ms, hms, hmv⟩ := hfl.get hv
    have hmem := List.mem_of_getElem? hms
    simp only [List.cons_append, List.nil_append] at N2
    iterate 40 (first | (with_reducible show wpAny _ _ (execs (Stmt.If _ _ _ _ :: _) _) _ _ _) | walk1)
    rename Fr _ _ _ _ => F9
    refine cut_at F9 T4 [x, d, x2, d2, wd, fl, pl] (fun m' C' T' => ∃ vs' kk' fly', C' = [(x, instObj 199 d), (d, o), (x2, instObj 309 d2), (d2, o2), (wd, wo), (fl, listOf vs'.toArray kk'), (pl, po2)] ∧ (fly' = W.fly ∨ ∃ j, W.fly[j]? = some ms ∧ fly' = W.fly.eraseIdx j) ∧ All2 (MsgV T') vs' fly' ∧ ∀ p ∈ [((Str.ofString "message" : Str), v)], m' p.1 = some p.2) ?_ ?_
    · k_steps
      · k_dflt (refine' remove_msg (T := T4) ?F ?N ?S hfl hv hmv ?U (by lia) ?W ?_; (case F => k_asm); (case N => k_asm); (case S => walk_at "sub"); (case U => k_updF); (case W => (have hcL9 := cLine_is; (try simp only [units_in1, units_deeper, Around.mark_units, units_caller]); (try dsimp only [ktrTop]); lia)))
        intro h' j F' N' hj
        try dsimp only at N'
        k_steps
        exact cut_end (_ :: _ :: _ :: _ :: _ :: _ :: _ :: []) T4 (by k_asm) (by k_asm) (fun _ h => h) off4 ⟨vs.eraseIdx j, kk + 1, _, rfl, .inr ⟨j, hj, rfl⟩, hfl.erase j, by walk_at "binds"⟩
      · exact cut_end (_ :: _ :: _ :: _ :: _ :: _ :: _ :: []) T4 (by k_asm) (by k_asm) (fun _ h => h) off4 ⟨vs, kk, _, rfl, .inl rfl, hfl, by walk_at "binds"⟩
    · clear F9 hfl
      rintro h5 tk9 mm9 C T5 hsub5 off5 ⟨vs', kk', fly', rfl, hor, hfl, hm9⟩ F2 N2
      have F1 := fr_of _ F2 hm9
      simp only [List.cons_append, List.nil_append] at N2
      clear F2 hm9
      replace hcm := hsub5 _ hcm
      k_steps
      try k_fold
      k_dflt (refine' use_call (law_handed_ok w x d x2 d2 wd fl [(wd, wo), (fl, _), (pl, po2)] T5 _ _ wo W.snd W.rcv v ms W.room W.written W.read t hc.a3 hc.a4 hc.a5 (apS2 hc) (apR2 hc) (hS.mono (.of hsub5)) (hV.mono (.of hsub5)) (.head _) hD (hmv.mono (.of hsub5)) (hhand ms hmem)) ?B ?F ?X ?N ?S ?O ?T ?K ?D ?U ?_)
      walk_at "use"
      rintro r M' T6 h6 tk6 F5 N5 hsub6 off6 ⟨o', o2', s', r', hH, hS', hV'⟩
      simp only [List.cons_append, List.nil_append] at N5
      simp only [List.map_cons, List.map_nil] at off6
      k_steps
      exact cut_end (_ :: _ :: _ :: _ :: _ :: _ :: _ :: []) T6 (by k_asm) (by k_asm) (fun p hp => hsub6 p (hsub5 p (hsub4 p hp))) off6 ⟨_, .hand W _ ms fly' s' r' hms hor hH, o', o2', wo, vs', kk', po2, t, rfl, hS', hV', hD, msgs_mono hfl (.of hsub6), hP.mono (.of fun p hp => hsub6 p (hsub5 p hp))⟩
  clear F1 N2
  rintro - h4 tk8 T4 hsub4 off4 F1 N2
  refine execs_one ?_
  replace hcm := hsub4 _ hcm
  replace hS := hS.mono (.of hsub4)
  replace hV := hV.mono (.of hsub4)
  replace hfl := msgs_mono hfl (.of hsub4)
  replace hP := hP.mono (.of hsub4)
  -- a message lost
  refine if_at F1 [(x, instObj 199 d), (d, o), (x2, instObj 309 d2), (d2, o2), (wd, wo), (fl, listOf vs.toArray kk), (pl, po2)] T4 [x, d, x2, d2, wd, fl, pl] (if form = 4 then decide (vs ≠ []) else false) ?_ ?_ ?_
  · simp only [List.cons_append, List.nil_append] at N2
    k_steps
    all_goals first | exact if_end T4 (by k_asm) (by k_asm) (fun _ h => h) off4 (by walk_at "B") | (refine if_end ((_, listOf ([] : List Value).toArray 0) :: T4) (by k_asm) (news_sub (by k_asm) (by walk_at "sub")) (fun _ h => .tail _ h) (off_c ?_ off4) ?_; (walk_at "ne"); (walk_at "B"))
  · clear F1 N2
    rintro hB h5 tk9 T5 hsub5 off5 F1 N2
    replace hcm := hsub5 _ hcm
    replace hS := hS.mono (.of hsub5)
    replace hV := hV.mono (.of hsub5)
    replace hfl := msgs_mono hfl (.of hsub5)
    replace hP := hP.mono (.of hsub5)
    obtain ⟨-, hB⟩ := ite_and hB
    have hne := of_decide_eq_true hB
    clear hB
    obtain ⟨hi0, hi1⟩ := hidx hne
    have hlt : (Int.fmod more (vs.length : Int)).toNat < vs.length := by lia
    obtain ⟨v, hv⟩ : ∃ v, vs[(Int.fmod more (vs.length : Int)).toNat]? = some v := ⟨_, List.getElem?_eq_getElem hlt⟩
    obtain ⟨ms, hms, hmv⟩ := hfl.get hv
    have hmem := List.mem_of_getElem? hms
    simp only [List.cons_append, List.nil_append] at N2
    k_steps
    k_dflt (refine' pop_T (D := fl) ?F ?N hi0 hv ?U (by lia) ?_; (case F => k_asm); (case N => k_asm); (case U => k_upd))
    intro h' F' N'
    k_steps
    try k_fold
    k_dflt (refine' use_call (law_lost_ok w x d wd x2 fl [(x2, instObj 309 d2), (d2, _), (wd, wo), (fl, _), (pl, po2)] T5 _ wo W.snd v ms W.room W.written W.read t hc.a3 (apS hc) hS (.tail _ (.tail _ (.head _))) hD hmv (fun of b e q => hlost of b e (q ▸ hmem))) ?B ?F ?X ?N ?S ?O ?T ?K ?D ?U ?_)
    walk_at "use"
    rintro r M' T6 h6 tk6 F5 N5 hsub6 off6 ⟨o', hS'⟩
    simp only [List.cons_append, List.nil_append] at N5
    simp only [List.map_cons, List.map_nil] at off6
    k_steps
    exact cut_end (_ :: _ :: _ :: _ :: _ :: _ :: _ :: []) T6 (by k_asm) (by k_asm) (fun p hp => hsub6 p (hsub5 p (hsub4 p hp))) off6 ⟨_, .lose W _ ms hms, o', _, wo, _, kk + 1, po2, t, rfl, hS', hV.mono (.of hsub6), hD, msgs_mono (hfl.erase _) (.of hsub6), hP.mono (.of hsub6)⟩
  clear F1 N2
  rintro - h5 tk9 T5 hsub5 off5 F1 N2
  replace hcm := hsub5 _ hcm
  replace hS := hS.mono (.of hsub5)
  replace hV := hV.mono (.of hsub5)
  replace hfl := msgs_mono hfl (.of hsub5)
  replace hP := hP.mono (.of hsub5)
  simp only [List.cons_append, List.nil_append] at N2
  -- what is owed
  k_steps
  try k_fold
  k_dflt (refine' use_call (law_owed_ok w x d x2 wd fl [(x2, instObj 309 d2), (d2, _), (wd, wo), (fl, _), (pl, po2)] T5 _ wo W.snd (1 + more) _ W.room W.written W.read t hc.a3 (apS hc) hS (.tail _ (.tail _ (.head _))) hD horr (by lia) hll (hlo _ (by lia)) (hhi _ (by lia))) ?B ?F ?X ?N ?S ?O ?T ?K ?D ?U ?_)
  walk_at "use"
  rintro r M' T6 h6 tk6 F5 N5 hsub6 off6 ⟨o', hov, hS'⟩
  simp only [List.cons_append, List.nil_append] at N5
  simp only [List.map_cons, List.map_nil] at off6
  have hvz' : vs.length ≤ 1000 := by lia
  have hst := Step.owed W (1 + more) (by lia) (by lia)
  have hsubA : ∀ p ∈ T3, p ∈ T6 := fun p hp => hsub6 p (hsub5 p (hsub4 p hp))
  replace hV := hV.mono (.of hsub6)
  replace hfl := msgs_mono hfl (.of hsub6)
  replace hP := hP.mono (.of hsub6)
  revert hov hS' hst
  rcases (W.snd.owed (1 + more)) with ⟨_ | mo, s'⟩
  · intro hov hS' hst
    dsimp only [MsgOV] at hov hS' hst
    subst hov
    (try (k_unfold; (try dsimp only)))
    iterate 40 (first | (with_reducible show wpAny _ _ (call (Value.builtin "list.extend") _) _ _ _) | walk1)
    k_dflt (refine' extend_nil_T (D := fl) ?F ?N ?M ?U hvz' ?_; (case F => k_asm); (case N => k_asm); (case M => walk_at "mem"); (case U => k_upd))
    intro h' F' N'
    try dsimp only at N'
    k_steps
    exact cut_end (_ :: _ :: _ :: _ :: _ :: _ :: _ :: []) T6 (by k_asm) (news_sub (by k_asm) (by walk_at "sub")) hsubA off6 ⟨_, hst, o', _, wo, vs, kk, po2, t, rfl, hS', hV, hD, by simpa using hfl, hP⟩
  · intro hov hS' hst
    dsimp only [MsgOV] at hov hS' hst
    obtain ⟨av, rfl⟩ : ∃ av, r = .ref av := by cases mo <;> obtain ⟨av, _, _, _, _, rfl, _⟩ := hov <;> exact ⟨av, rfl⟩
    (try (k_unfold; (try dsimp only)))
    iterate 40 (first | (with_reducible show wpAny _ _ (call (Value.builtin "list.extend") _) _ _ _) | walk1)
    k_dflt (refine' extend_T (D := fl) ?F ?N ?M ?U hvz' ?_; (case F => k_asm); (case N => k_asm); (case M => walk_at "mem"); (case U => k_upd))
    intro h' F' N'
    try dsimp only at N'
    k_steps
    exact cut_end (_ :: _ :: _ :: _ :: _ :: _ :: _ :: []) T6 (by k_asm) (news_sub (by k_asm) (by walk_at "sub")) hsubA off6 ⟨_, hst, o', _, wo, vs ++ [.ref av], kk + 1, po2, t, rfl, hS', hV, hD, hfl.append (.cons hov .nil), hP⟩
end
/-- ahead of the last turns: an end is written -/
noncomputable def Snd.ended (s : Snd) : Snd := if s.st.isOpen then s.finish else s
/-- all that was under way is lost -/
noncomputable def Wd.lostTo (W : Wd) (i : Nat) : Wd := { W with snd := (W.fly.take i).foldl Snd.lose W.snd.ended }
/-- what a turn of the last loop does to both ends ahead of its read -/
noncomputable def Sent3 (W : Wd) (s : Snd) (r : Rcv) : Prop := match (W.snd.owed 9).1 with
  | none => s = (W.snd.owed 9).2 ∧ r = W.rcv
  | some ms => Handed2 ms (W.snd.owed 9).2 W.rcv s r
noncomputable def Step3 (W W' : Wd) : Prop := ∃ s r, Sent3 W s r ∧ W' = Wd.readIt 99 { W with snd := s, rcv := r }
structure Ready3 (W : Wd) : Prop where
  orr : W.snd.orr = true → ∃ c, W.snd.rc = some c
  sw : W.snd.written.length ≤ 900
  ll : W.snd.lost.length ≤ 50000
  lo : 0 ≤ (W.snd.span 9).1
  hi : 0 ≤ (W.snd.span 9).2
  hand : ∀ ms, (W.snd.owed 9).1 = some ms → HandOk ms (W.snd.owed 9).2 W.rcv
  wl : W.written.length ≤ 900
  rl : W.read.length ≤ 900
  read : ∀ s r, Sent3 W s r → (∀ p ∈ r.pieces, p.2.length ≤ 1000) ∧ r.pieces.length ≤ 1000 ∧ ReadOk 99 s r W.written W.read
structure End3 (W : Wd) : Prop where
  so : W.snd.over = true
  ro : W.rcv.over = true
  ow : (W.snd.owed 9).1 = none
  fin : (W.rcv.st = .dataRead ∧ W.rcv.rc = none ∧ W.read = W.written) ∨ (W.snd.st = .resetRecvd ∧ W.rcv.st = .resetRead ∧ ∃ c, W.rcv.rc = some c ∧ W.snd.rc = some c)
/-- x lies in one of the spans -/
noncomputable def covS (sp : List Sp) (x : Int) : Prop := ∃ p ∈ sp, p.1 ≤ x ∧ x < p.2
theorem covS_nil (x : Int) : ¬ covS [] x := fun ⟨_, h, _⟩ => nomatch h
theorem covS_cons {p : Sp} {l : List Sp} {x : Int} : covS (p :: l) x ↔ (p.1 ≤ x ∧ x < p.2) ∨ covS l x := by
  unfold covS; simp only [List.mem_cons, exists_eq_or_imp]
theorem covS_append {l k : List Sp} {x : Int} : covS (l ++ k) x ↔ covS l x ∨ covS k x := by
  unfold covS; simp only [List.mem_append, or_and_right, exists_or]
/-- in order, none empty, none touching the next; b the end ahead of it -/
noncomputable def Nm : Int → List Sp → Prop
  | _, [] => True
  | b, p :: l => b < p.1 ∧ p.1 < p.2 ∧ Nm p.2 l
theorem Nm.mono : ∀ {l : List Sp} {b b' : Int}, Nm b l → b' ≤ b → Nm b' l
  | [], _, _, _, _ => trivial
  | p :: l, b, b', ⟨h1, h2, h3⟩, h => ⟨by omega, h2, h3⟩
theorem Nm.low : ∀ {l : List Sp} {b : Int}, Nm b l → ∀ p ∈ l, b < p.1 ∧ p.1 < p.2
  | [], _, _, _, h => nomatch h
  | q :: l, b, ⟨h1, h2, h3⟩, p, h => by
    rcases List.mem_cons.mp h with rfl | h
    · exact ⟨h1, h2⟩
    · have := Nm.low h3 p h
      exact ⟨by omega, this.2⟩
theorem Nm.apart : ∀ {l : List Sp} {b : Int}, Nm b l → ∀ p ∈ l, ∀ q ∈ l, p = q ∨ p.2 < q.1 ∨ q.2 < p.1
  | [], _, _, _, h, _, _ => nomatch h
  | r :: l, b, ⟨h1, h2, h3⟩, p, hp, q, hq => by
    rcases List.mem_cons.mp hp with e1 | hp'
    · rcases List.mem_cons.mp hq with e2 | hq'
      · exact .inl (e1.trans e2.symm)
      · subst e1; exact .inr (.inl (Nm.low h3 q hq').1)
    · rcases List.mem_cons.mp hq with e2 | hq'
      · subst e2; exact .inr (.inr (Nm.low h3 p hp').1)
      · exact Nm.apart h3 p hp' q hq'
theorem Nm.cov_lo {l : List Sp} {b x : Int} (h : Nm b l) (c : covS l x) : b < x := by
  obtain ⟨p, hp, h1, h2⟩ := c
  have := (h.low p hp).1
  omega
theorem Nm.len : ∀ {l : List Sp} {b hi : Int}, Nm b l → (∀ x, covS l x → x < hi) → b ≤ hi → (l.length : Int) ≤ hi - b
  | [], _, _, _, _, _ => by simp; omega
  | p :: l, b, hi, ⟨h1, h2, h3⟩, c, h => by
    have e1 := c (p.2 - 1) (covS_cons.mpr (.inl ⟨by omega, by omega⟩))
    have := Nm.len (hi := hi) h3 (fun x hx => c x (covS_cons.mpr (.inr hx))) (by omega)
    simp only [List.length_cons]
    omega
/-- add_span, put by recursion -/
noncomputable def addRec (lo hi : Int) : List Sp → List Sp
  | [] => [(lo, hi)]
  | p :: l => if p.2 < lo then p :: addRec lo hi l else if hi < p.1 then (lo, hi) :: p :: l else addRec (if p.1 < lo then p.1 else lo) (if p.2 > hi then p.2 else hi) l
theorem add_put : ∀ (l : List Sp) (b : Int) (found : List Sp) (lo hi : Int), Nm b l → hi ≤ b → lo ≤ hi → l.foldl addStep ⟨found, true, lo, hi⟩ = ⟨found ++ l, true, lo, hi⟩
  | [], _, found, _, _, _, _, _ => by simp
  | p :: l, b, found, lo, hi, ⟨h1, h2, h3⟩, hb, hl => by
    have e : addStep ⟨found, true, lo, hi⟩ p = ⟨found ++ [p], true, lo, hi⟩ := by
      unfold addStep; dsimp only
      rw [if_neg (by omega), if_pos (by omega)]; rfl
    rw [List.foldl_cons, e, add_put l p.2 _ lo hi h3 (by omega) hl]
    simp
theorem add_rec : ∀ (l : List Sp) (b : Int) (found : List Sp) (lo hi : Int), Nm b l → lo < hi →
    (let st := l.foldl addStep ⟨found, false, lo, hi⟩; if st.put then st.found else st.found ++ [(st.lo, st.hi)]) = found ++ addRec lo hi l
  | [], _, found, _, _, _, _ => by simp [addRec]
  | p :: l, b, found, lo, hi, ⟨h1, h2, h3⟩, hl => by
    rw [List.foldl_cons]
    unfold addRec
    by_cases c1 : p.2 < lo
    · have e : addStep ⟨found, false, lo, hi⟩ p = ⟨found ++ [p], false, lo, hi⟩ := by unfold addStep; dsimp only; rw [if_pos c1]
      rw [e, add_rec l p.2 _ lo hi h3 hl, if_pos c1]
      simp
    · rw [if_neg c1]
      by_cases c2 : hi < p.1
      · have e : addStep ⟨found, false, lo, hi⟩ p = ⟨found ++ [(lo, hi)] ++ [p], true, lo, hi⟩ := by unfold addStep; dsimp only; rw [if_neg c1, if_pos c2]; rfl
        rw [e, add_put l p.2 _ lo hi h3 (by omega) (by omega), if_pos c2]
        simp
      · have e : addStep ⟨found, false, lo, hi⟩ p = ⟨found, false, if p.1 < lo then p.1 else lo, if p.2 > hi then p.2 else hi⟩ := by unfold addStep; dsimp only; rw [if_neg c1, if_neg c2]
        rw [e, if_neg c2]
        exact add_rec l p.2 found _ _ h3 (by split <;> split <;> omega)
theorem addRec_nm : ∀ (l : List Sp) (b lo hi : Int), Nm b l → b < lo → lo < hi → Nm b (addRec lo hi l)
  | [], _, _, _, _, h1, h2 => ⟨h1, h2, trivial⟩
  | p :: l, b, lo, hi, ⟨h1, h2, h3⟩, k1, k2 => by
    unfold addRec
    split
    · exact ⟨h1, h2, addRec_nm l p.2 lo hi h3 (by omega) k2⟩
    · split
      · exact ⟨k1, k2, by omega, h2, h3⟩
      · exact addRec_nm l b _ _ (h3.mono (by omega)) (by split <;> omega) (by split <;> split <;> omega)
theorem addRec_cov : ∀ (l : List Sp) (b lo hi x : Int), Nm b l → lo < hi → (covS (addRec lo hi l) x ↔ covS l x ∨ (lo ≤ x ∧ x < hi))
  | [], _, _, _, x, _, _ => by
    unfold addRec
    rw [covS_cons]
    exact ⟨fun h => h.elim .inr fun h => absurd h (covS_nil _), fun h => h.elim (fun h => absurd h (covS_nil _)) .inl⟩
  | p :: l, b, lo, hi, x, ⟨h1, h2, h3⟩, k2 => by
    unfold addRec
    split
    · rw [covS_cons, covS_cons, addRec_cov l p.2 lo hi x h3 k2, or_assoc]
    · split
      · rw [covS_cons (p := (lo, hi))]
        exact or_comm
      · rw [addRec_cov l p.2 _ _ x h3 (by split <;> split <;> omega), covS_cons]
        have : (((if p.1 < lo then p.1 else lo) ≤ x ∧ x < if p.2 > hi then p.2 else hi)) ↔ ((p.1 ≤ x ∧ x < p.2) ∨ (lo ≤ x ∧ x < hi)) := by split <;> split <;> omega
        rw [this]
        constructor
        · rintro (h | h | h)
          · exact .inl (.inr h)
          · exact .inl (.inl h)
          · exact .inr h
        · rintro ((h | h) | h)
          · exact .inr (.inl h)
          · exact .inl h
          · exact .inr (.inr h)
theorem addSpan_eq {l : List Sp} {b lo hi : Int} (h : Nm b l) : addSpan l lo hi = if hi ≤ lo then l else addRec lo hi l := by
  unfold addSpan
  split
  · rfl
  · exact (add_rec l b [] lo hi h (by omega)).trans (List.nil_append _)
theorem addSpan_nm {l : List Sp} {b lo hi : Int} (h : Nm b l) (k : b < lo) : Nm b (addSpan l lo hi) := by
  rw [addSpan_eq h]
  split
  · exact h
  · exact addRec_nm l b lo hi h k (by omega)
theorem addSpan_cov {l : List Sp} {b lo hi : Int} (h : Nm b l) (x : Int) : covS (addSpan l lo hi) x ↔ covS l x ∨ (lo ≤ x ∧ x < hi) := by
  rw [addSpan_eq h]
  split
  · exact ⟨.inl, fun h => h.elim id fun h => by omega⟩
  · exact addRec_cov l b lo hi x h (by omega)
/-- one span less [lo, hi) -/
noncomputable def cut1 (lo hi : Int) (p : Sp) : List Sp := (if p.1 < pmin p.2 lo then [(p.1, pmin p.2 lo)] else []) ++ (if pmax p.1 hi < p.2 then [(pmax p.1 hi, p.2)] else [])
theorem cut_flat (lo hi : Int) : ∀ (l found : List Sp), l.foldl (cutStep lo hi) found = found ++ l.flatMap (cut1 lo hi)
  | [], found => by simp
  | p :: l, found => by
    rw [List.foldl_cons, cut_flat lo hi l, List.flatMap_cons]
    unfold cutStep cut1
    dsimp only
    split <;> split <;> simp
theorem cutSpan_eq (l : List Sp) (lo hi : Int) : cutSpan l lo hi = if lo < hi then l.flatMap (cut1 lo hi) else l := by
  unfold cutSpan; rw [cut_flat]; simp
theorem pmin_is (a b : Int) : pmin a b ≤ a ∧ pmin a b ≤ b ∧ (pmin a b = a ∨ pmin a b = b) := by unfold pmin; split <;> omega
theorem pmax_is (a b : Int) : a ≤ pmax a b ∧ b ≤ pmax a b ∧ (pmax a b = a ∨ pmax a b = b) := by unfold pmax; split <;> omega
theorem cut1_nm {lo hi b : Int} {p : Sp} {l : List Sp} (h : lo < hi) (h1 : b < p.1) (h2 : p.1 < p.2) (h3 : Nm p.2 l) : Nm b (cut1 lo hi p ++ l) := by
  have e1 := pmin_is p.2 lo
  have e2 := pmax_is p.1 hi
  unfold cut1
  generalize pmin p.2 lo = a at *
  generalize pmax p.1 hi = c at *
  split <;> split <;> simp only [List.nil_append, List.cons_append, List.append_nil, Nm]
  · exact ⟨h1, by assumption, by omega, by assumption, h3⟩
  · exact ⟨h1, by assumption, h3.mono (by omega)⟩
  · exact ⟨by omega, by assumption, h3⟩
  · exact h3.mono (by omega)
theorem cut_nm {lo hi : Int} (h : lo < hi) : ∀ {l : List Sp} {b : Int}, Nm b l → Nm b (l.flatMap (cut1 lo hi))
  | [], _, _ => trivial
  | p :: l, b, ⟨h1, h2, h3⟩ => by
    rw [List.flatMap_cons]
    exact cut1_nm h h1 h2 (cut_nm h h3)
theorem cut1_cov {lo hi x : Int} {p : Sp} : covS (cut1 lo hi p) x ↔ (p.1 ≤ x ∧ x < p.2) ∧ ¬ (lo ≤ x ∧ x < hi) := by
  unfold cut1
  rw [covS_append]
  have e1 : covS (if p.1 < pmin p.2 lo then [(p.1, pmin p.2 lo)] else []) x ↔ (p.1 ≤ x ∧ x < pmin p.2 lo) := by
    split
    · rw [covS_cons]; exact ⟨fun h => h.elim id fun h => absurd h (covS_nil _), .inl⟩
    · exact ⟨fun h => absurd h (covS_nil _), fun h => by omega⟩
  have e2 : covS (if pmax p.1 hi < p.2 then [(pmax p.1 hi, p.2)] else []) x ↔ (pmax p.1 hi ≤ x ∧ x < p.2) := by
    split
    · rw [covS_cons]; exact ⟨fun h => h.elim id fun h => absurd h (covS_nil _), .inl⟩
    · exact ⟨fun h => absurd h (covS_nil _), fun h => by omega⟩
  rw [e1, e2]
  unfold pmin pmax
  split <;> split <;> omega
theorem cut_cov {lo hi x : Int} : ∀ {l : List Sp}, covS (l.flatMap (cut1 lo hi)) x ↔ covS l x ∧ ¬ (lo ≤ x ∧ x < hi)
  | [] => ⟨fun h => absurd h (covS_nil _), fun h => absurd h.1 (covS_nil _)⟩
  | p :: l => by
    rw [List.flatMap_cons, covS_append, covS_cons, cut1_cov, cut_cov, or_and_right]
theorem cutSpan_nm {l : List Sp} {b lo hi : Int} (h : Nm b l) : Nm b (cutSpan l lo hi) := by
  rw [cutSpan_eq]
  split
  · exact cut_nm (by assumption) h
  · exact h
theorem cutSpan_cov {l : List Sp} {lo hi x : Int} : covS (cutSpan l lo hi) x ↔ covS l x ∧ ¬ (lo ≤ x ∧ x < hi) := by
  rw [cutSpan_eq]
  split
  · exact cut_cov
  · exact ⟨fun h => ⟨h, by omega⟩, fun h => h.1⟩
/-- what lies beyond is left as it is -/
theorem cut_same {lo hi : Int} : ∀ {l : List Sp} {b : Int}, Nm b l → hi ≤ b → lo < hi → l.flatMap (cut1 lo hi) = l
  | [], _, _, _, _ => rfl
  | p :: l, b, ⟨h1, h2, h3⟩, k, k2 => by
    rw [List.flatMap_cons, cut_same h3 (by omega) k2]
    have : cut1 lo hi p = [p] := by
      have e1 := pmin_is p.2 lo
      have e2 : pmax p.1 hi = p.1 := by unfold pmax; rw [if_neg (by omega)]
      unfold cut1
      rw [e2, if_neg (by omega), if_pos h2]
      rfl
    rw [this]; rfl
theorem cutSpan_head {p : Sp} {l : List Sp} {b : Int} (h : Nm b (p :: l)) : cutSpan (p :: l) p.1 p.2 = l := by
  obtain ⟨h1, h2, h3⟩ := h
  rw [cutSpan_eq, if_pos h2, List.flatMap_cons, cut_same h3 (Int.le_refl _) h2]
  have : cut1 p.1 p.2 p = [] := by
    unfold cut1 pmin pmax
    rw [if_neg (by split <;> omega), if_neg (by split <;> omega)]
    rfl
  rw [this]; rfl
theorem cutSpan_none {l : List Sp} {b lo hi : Int} (h : Nm b l) (k : hi ≤ b) : cutSpan l lo hi = l := by
  rw [cutSpan_eq]
  split
  · exact cut_same h k (by assumption)
  · rfl
theorem hasSpan_iff {l : List Sp} {lo hi : Int} (ap : ∀ p ∈ l, ∀ q ∈ l, p = q ∨ p.2 < q.1 ∨ q.2 < p.1) : hasSpan l lo hi = true ↔ ∀ x, lo ≤ x → x < hi → covS l x := by
  unfold hasSpan
  split
  · exact ⟨fun _ x h1 h2 => by omega, fun _ => rfl⟩
  · rw [List.any_eq_true]
    constructor
    · rintro ⟨p, hp, h⟩ x h1 h2
      simp only [Bool.and_eq_true, decide_eq_true_eq] at h
      exact ⟨p, hp, by omega, by omega⟩
    · intro h
      obtain ⟨p, hp, h1, h2⟩ := h lo (by omega) (by omega)
      refine ⟨p, hp, ?_⟩
      simp only [Bool.and_eq_true, decide_eq_true_eq]
      refine ⟨h1, ?_⟩
      rcases Int.lt_or_le p.2 hi with k | k
      · obtain ⟨q, hq, h3, h4⟩ := h p.2 (by omega) k
        rcases ap p hp q hq with rfl | e | e <;> omega
      · exact k
theorem withoutSpans_nm {b : Int} : ∀ (os l : List Sp), Nm b l → Nm b (withoutSpans l os)
  | [], _, h => h
  | o :: os, l, h => withoutSpans_nm os _ (cutSpan_nm h)
theorem withoutSpans_cov {x : Int} : ∀ (os l : List Sp), covS (withoutSpans l os) x ↔ covS l x ∧ ¬ covS os x
  | [], l => ⟨fun h => ⟨h, covS_nil _⟩, fun h => h.1⟩
  | o :: os, l => by
    have := withoutSpans_cov (x := x) os (cutSpan l o.1 o.2)
    rw [cutSpan_cov] at this
    rw [covS_cons, not_or, ← and_assoc]
    exact this
theorem addAll_nm {b : Int} : ∀ (ds l : List Sp), Nm b l → (∀ p ∈ ds, b < p.1) → Nm b (ds.foldl (fun l p => addSpan l p.1 p.2) l)
  | [], _, h, _ => h
  | o :: os, l, h, k => addAll_nm os _ (addSpan_nm h (k o (.head _))) fun p hp => k p (.tail _ hp)
theorem addAll_cov {b x : Int} : ∀ (ds l : List Sp), Nm b l → (∀ p ∈ ds, b < p.1) → (covS (ds.foldl (fun l p => addSpan l p.1 p.2) l) x ↔ covS l x ∨ covS ds x)
  | [], _, _, _ => ⟨.inl, fun h => h.elim id fun h => absurd h (covS_nil _)⟩
  | o :: os, l, h, k => by
    rw [List.foldl_cons, addAll_cov os _ (addSpan_nm h (k o (.head _))) fun p hp => k p (.tail _ hp), addSpan_cov h, covS_cons, or_assoc]
/-- d stands in wr at o -/
noncomputable def Sl (wr : By) (o : Int) (d : By) : Prop := 0 ≤ o ∧ ∀ i, i < d.length → wr[o.toNat + i]? = d[i]?
theorem Sl.nil {wr : By} {o : Int} (h : 0 ≤ o) : Sl wr o [] := ⟨h, fun i hi => absurd hi (Nat.not_lt_zero _)⟩
theorem Sl.more {wr b : By} {o : Int} {d : By} (h : Sl wr o d) : Sl (wr ++ b) o d := ⟨h.1, fun i hi => by
  have e := h.2 i hi
  have : o.toNat + i < wr.length := by
    rcases Nat.lt_or_ge (o.toNat + i) wr.length with k | k
    · exact k
    · rw [List.getElem?_eq_none k, List.getElem?_eq_getElem hi] at e; cases e
  rw [List.getElem?_append_left this]; exact e⟩
theorem Sl.take {wr : By} {o : Int} {d : By} (h : Sl wr o d) (n : Nat) : Sl wr o (d.take n) := ⟨h.1, fun i hi => by
  rw [List.length_take] at hi
  rw [h.2 i (by lia), List.getElem?_take_of_lt (by lia)]⟩
theorem Sl.drop {wr : By} {o : Int} {d : By} (h : Sl wr o d) {n : Nat} {o' : Int} (e : o' = o + n) : Sl wr o' (d.drop n) := by
  have := h.1
  refine ⟨by lia, fun i hi => ?_⟩
  rw [List.length_drop] at hi
  rw [List.getElem?_drop, ← h.2 (n + i) (by lia)]
  congr 1
  lia
theorem Sl.app {wr : By} {o o' : Int} {d d' : By} (h : Sl wr o d) (h' : Sl wr o' d') (e : o' = o + d.length) : Sl wr o (d ++ d') := by
  have := h.1
  refine ⟨h.1, fun i hi => ?_⟩
  rw [List.length_append] at hi
  rcases Nat.lt_or_ge i d.length with k | k
  · rw [List.getElem?_append_left k]; exact h.2 i k
  · rw [List.getElem?_append_right k, ← h'.2 (i - d.length) (by lia)]
    congr 1
    lia
theorem Sl.of {wr : By} {a b : Nat} (h : b ≤ wr.length) : Sl wr (a : Int) ((wr.drop a).take (b - a)) := by
  refine ⟨by omega, fun i hi => ?_⟩
  rw [List.length_take, List.length_drop] at hi
  rw [List.getElem?_take_of_lt (by omega), List.getElem?_drop]
  congr 1
theorem Sl.eq {wr : By} {o : Int} {d : By} (h : Sl wr o d) : d = (wr.drop o.toNat).take d.length := by
  apply List.ext_getElem?
  intro i
  rcases Nat.lt_or_ge i d.length with k | k
  · rw [List.getElem?_take_of_lt k, List.getElem?_drop]; exact (h.2 i k).symm
  · rw [List.getElem?_eq_none k, List.getElem?_eq_none (by rw [List.length_take]; lia)]

theorem nodup_len : ∀ (n : Nat) (l : List Nat), l.Nodup → (∀ x ∈ l, x < n) → l.length ≤ n
  | 0, [], _, _ => Nat.le_refl _
  | 0, x :: l, _, h => absurd (h x (.head _)) (Nat.not_lt_zero _)
  | n + 1, l, hd, h => by
    have h1 := nodup_len n (l.erase n) (hd.erase n) (fun x hx => by
      have h2 := h x (List.mem_of_mem_erase hx)
      have h3 : x ≠ n := (hd.mem_erase_iff.mp hx).1
      lia)
    rw [List.length_erase] at h1
    split at h1 <;> lia

noncomputable def covP (ps : List Pc) (x : Int) : Prop := ∃ p ∈ ps, p.1 ≤ x ∧ x < p.1 + (p.2.length : Int)
noncomputable def Gap (p q : Pc) : Prop := p.1 + (p.2.length : Int) < q.1 ∨ q.1 + (q.2.length : Int) < p.1
theorem Gap.symm {p q : Pc} (h : Gap p q) : Gap q p := Or.symm h
noncomputable def GoodP (wr : By) (lo hi : Int) (p : Pc) : Prop := p.2 ≠ [] ∧ lo ≤ p.1 ∧ p.1 + (p.2.length : Int) ≤ hi ∧ Sl wr p.1 p.2
structure PcsOk (wr : By) (lo hi : Int) (ps : List Pc) : Prop where
  gap : ps.Pairwise Gap
  good : ∀ p ∈ ps, GoodP wr lo hi p
theorem covP_cons {p : Pc} {l : List Pc} {x : Int} : covP (p :: l) x ↔ (p.1 ≤ x ∧ x < p.1 + (p.2.length : Int)) ∨ covP l x := by
  unfold covP; simp only [List.mem_cons, exists_eq_or_imp]
theorem covP_nil (x : Int) : ¬ covP [] x := fun ⟨_, h, _⟩ => nomatch h
theorem covP_append {l k : List Pc} {x : Int} : covP (l ++ k) x ↔ covP l x ∨ covP k x := by
  unfold covP; simp only [List.mem_append, or_and_right, exists_or]
theorem covP_perm {l k : List Pc} (h : l.Perm k) {x : Int} : covP l x ↔ covP k x := by
  unfold covP; exact ⟨fun ⟨p, a, b⟩ => ⟨p, h.mem_iff.mp a, b⟩, fun ⟨p, a, b⟩ => ⟨p, h.mem_iff.mpr a, b⟩⟩
theorem PcsOk.perm {wr : By} {lo hi : Int} {l k : List Pc} (h : PcsOk wr lo hi l) (p : k.Perm l) : PcsOk wr lo hi k :=
  ⟨(List.Perm.pairwise_iff (fun h => Gap.symm h) p).mpr h.gap, fun q hq => h.good q (p.mem_iff.mp hq)⟩
theorem GoodP.more {wr b : By} {lo hi hi' : Int} {p : Pc} (h : GoodP wr lo hi p) (k : hi ≤ hi') : GoodP (wr ++ b) lo hi' p := ⟨h.1, h.2.1, Int.le_trans h.2.2.1 k, h.2.2.2.more⟩
theorem GoodP.hi {wr : By} {lo hi hi' : Int} {p : Pc} (h : GoodP wr lo hi p) (k : hi ≤ hi') : GoodP wr lo hi' p := ⟨h.1, h.2.1, Int.le_trans h.2.2.1 k, h.2.2.2⟩
theorem GoodP.pos {wr : By} {lo hi : Int} {p : Pc} (h : GoodP wr lo hi p) : 0 < p.2.length := List.length_pos_iff.mpr h.1
theorem PcsOk.more {wr b : By} {lo hi : Int} {l : List Pc} (h : PcsOk wr lo hi l) : PcsOk (wr ++ b) lo hi l := ⟨h.gap, fun p hp => (h.good p hp).more (Int.le_refl _)⟩
theorem PcsOk.hi {wr : By} {lo hi hi' : Int} {l : List Pc} (h : PcsOk wr lo hi l) (k : hi ≤ hi') : PcsOk wr lo hi' l := ⟨h.gap, fun p hp => (h.good p hp).hi k⟩
theorem PcsOk.nil {wr : By} {lo hi : Int} : PcsOk wr lo hi [] := ⟨.nil, fun _ h => nomatch h⟩
theorem starts_nodup {wr : By} {lo hi : Int} {l : List Pc} (h : PcsOk wr lo hi l) : (l.map (·.1)).Nodup := by
  rw [List.Nodup, List.pairwise_map]
  exact h.gap.imp fun {a b} g => by unfold Gap at g; lia
theorem PcsOk.len {wr : By} {lo hi : Int} {l : List Pc} (h : PcsOk wr lo hi l) (k : lo ≤ hi) : (l.length : Int) ≤ hi - lo := by
  have h1 : (l.map fun p => (p.1 - lo).toNat).Nodup := by
    rw [List.Nodup, List.pairwise_map]
    exact (h.gap.imp_of_mem fun {a b} ha hb g => by
      have h1 := h.good a ha
      have h2 := h.good b hb
      have h3 := h1.pos
      have h4 := h2.pos
      have h5 := h1.2.1
      have h6 := h2.2.1
      unfold Gap at g
      omega)
  have h2 := nodup_len (hi - lo).toNat _ h1 (fun x hx => by
    obtain ⟨p, hp, rfl⟩ := List.mem_map.mp hx
    have h1 := h.good p hp
    have h3 := h1.pos
    have h5 := h1.2.1
    have h6 := h1.2.2.1
    omega)
  rw [List.length_map] at h2
  omega
theorem PcsOk.each {wr : By} {lo hi : Int} {l : List Pc} (h : PcsOk wr lo hi l) {p : Pc} (hp : p ∈ l) : (p.2.length : Int) ≤ hi - lo := by
  have h1 := h.good p hp
  have h5 := h1.2.1
  have h6 := h1.2.2.1
  lia
theorem PcsOk.apart {wr : By} {lo hi : Int} : ∀ {l : List Pc}, PcsOk wr lo hi l → ∀ p ∈ coveredBy l, ∀ q ∈ coveredBy l, p = q ∨ p.2 < q.1 ∨ q.2 < p.1 := by
  intro l h p hp q hq
  unfold coveredBy at hp hq
  obtain ⟨a, ha, rfl⟩ := List.mem_map.mp hp
  obtain ⟨b, hb, rfl⟩ := List.mem_map.mp hq
  by_cases e : a = b
  · left; rw [e]
  · right
    have := h.gap
    have go : ∀ {l : List Pc}, l.Pairwise Gap → ∀ a ∈ l, ∀ b ∈ l, a ≠ b → Gap a b := by
      intro l hl
      induction hl with
      | nil => intro a ha; nomatch ha
      | cons h1 _ ih =>
        intro a ha b hb ne
        rcases List.mem_cons.mp ha with e1 | ha'
        · rcases List.mem_cons.mp hb with e2 | hb'
          · exact absurd (e1.trans e2.symm) ne
          · rw [e1]; exact h1 b hb'
        · rcases List.mem_cons.mp hb with e2 | hb'
          · rw [e2]; exact (h1 a ha').symm
          · exact ih a ha' b hb' ne
    exact go this a ha b hb e
theorem cov_coveredBy {l : List Pc} {x : Int} : covS (coveredBy l) x ↔ covP l x := by
  unfold covS covP coveredBy
  constructor
  · rintro ⟨p, hp, h⟩
    obtain ⟨a, ha, rfl⟩ := List.mem_map.mp hp
    exact ⟨a, ha, h⟩
  · rintro ⟨p, hp, h⟩
    exact ⟨_, List.mem_map.mpr ⟨p, hp, rfl⟩, h⟩

/-- between the rounds of add_piece -/
structure PcInv (wr : By) (lo hi : Int) (st : AddPc) (l : List Pc) : Prop where
  fg : st.found.Pairwise Gap
  fo : ∀ p ∈ st.found, GoodP wr lo hi p
  fl : ∀ p ∈ st.found, ∀ q ∈ l, Gap p q
  fj : ∀ p ∈ st.found, Gap p (st.begin, st.joined)
  j : GoodP wr lo hi (st.begin, st.joined)
  lg : l.Pairwise Gap
  lo : ∀ p ∈ l, GoodP wr lo hi p
theorem pcStep_ok {wr : By} {lo hi : Int} {st : AddPc} {p : Pc} {l : List Pc} (h : PcInv wr lo hi st (p :: l)) :
    PcInv wr lo hi (pcStep st p) l ∧ ∀ x, (covP (pcStep st p).found x ∨ ((pcStep st p).begin ≤ x ∧ x < (pcStep st p).begin + ((pcStep st p).joined.length : Int))) ↔ (covP st.found x ∨ (st.begin ≤ x ∧ x < st.begin + (st.joined.length : Int)) ∨ (p.1 ≤ x ∧ x < p.1 + (p.2.length : Int))) := by
  obtain ⟨fg, fo, fl, fj, j, lg, lo'⟩ := h
  obtain ⟨found, b, jn⟩ := st
  obtain ⟨s, d⟩ := p
  dsimp only at fg fo fl fj j ⊢
  have gp := lo' _ (.head _)
  have lg' := (List.pairwise_cons.mp lg).2
  have lg1 := (List.pairwise_cons.mp lg).1
  unfold pcStep
  dsimp only
  split
  · rename_i c
    refine ⟨⟨?_, ?_, ?_, ?_, j, lg', fun q hq => lo' q (.tail _ hq)⟩, ?_⟩
    · dsimp only
      rw [List.pairwise_append]
      exact ⟨fg, List.pairwise_singleton _ _, fun a ha q hq => by rw [List.mem_singleton.mp hq]; exact fl a ha _ (.head _)⟩
    · intro q hq
      rcases List.mem_append.mp hq with hq | hq
      · exact fo q hq
      · rw [List.mem_singleton.mp hq]; exact gp
    · intro q hq r hr
      rcases List.mem_append.mp hq with hq | hq
      · exact fl q hq r (.tail _ hr)
      · rw [List.mem_singleton.mp hq]; exact lg1 r hr
    · intro q hq
      rcases List.mem_append.mp hq with hq | hq
      · exact fj q hq
      · rw [List.mem_singleton.mp hq]; exact c
    · intro x
      dsimp only
      rw [covP_append, covP_cons]
      constructor
      · rintro ((h | h | h) | h)
        · exact .inl h
        · exact .inr (.inr h)
        · exact absurd h (covP_nil _)
        · exact .inr (.inl h)
      · rintro (h | h | h)
        · exact .inl (.inl h)
        · exact .inr h
        · exact .inl (.inr (.inl h))
  · rename_i c
    obtain ⟨j1, j2, j3, j4⟩ := j
    obtain ⟨p1, p2, p3, p4⟩ := gp
    dsimp only at j1 j2 j3 j4 p1 p2 p3 p4 c
    have c1 : b ≤ s + (d.length : Int) := by lia
    have c2 : s ≤ b + (jn.length : Int) := by lia
    have m1 := pmin_is b s
    have m2 := pmax_is 0 (s - b)
    have hl1 : (jn.take (pmax 0 (s - b)).toNat).length = (pmax 0 (s - b)).toNat := by rw [List.length_take]; lia
    have hb : pmin b s + ((pmax 0 (s - b)).toNat : Int) = s := by unfold pmin pmax at *; split <;> split <;> lia
    have hlen : ((jn.take (pmax 0 (s - b)).toNat ++ d ++ jn.drop (s + (d.length : Int) - b).toNat).length : Int) = pmax (b + jn.length) (s + d.length) - pmin b s := by
      rw [List.length_append, List.length_append, hl1, List.length_drop]
      have := pmax_is (b + (jn.length : Int)) (s + (d.length : Int))
      lia
    have m3 := pmax_is (b + (jn.length : Int)) (s + (d.length : Int))
    have hgap : ∀ q ∈ found, Gap q (pmin b s, jn.take (pmax 0 (s - b)).toNat ++ d ++ jn.drop (s + (d.length : Int) - b).toNat) := by
      intro q hq
      have g1 := fl q hq _ (.head _)
      have g2 := fj q hq
      have g3 := (fo q hq).pos
      unfold Gap at g1 g2 ⊢
      dsimp only at g1 g2 ⊢
      rw [hlen]
      lia
    refine ⟨⟨fg, fo, fun q hq r hr => fl q hq r (.tail _ hr), hgap, ⟨?_, ?_, ?_, ?_⟩, lg', fun q hq => lo' q (.tail _ hq)⟩, ?_⟩
    · dsimp only
      intro e
      have := congrArg List.length e
      have := List.length_pos_iff.mpr p1
      rw [List.length_append, List.length_append, List.length_nil] at *
      lia
    · dsimp only
      lia
    · dsimp only
      rw [hlen]
      lia
    · dsimp only
      have := j4.1
      have := p4.1
      refine Sl.app (Sl.app ?_ p4 ?_) (j4.drop (n := (s + (d.length : Int) - b).toNat) (o' := s + d.length) (by lia)) ?_
      · rcases Int.lt_or_le s b with k | k
        · have e0 : pmax 0 (s - b) = 0 := by unfold pmax; rw [if_neg (by lia)]
          rw [e0]
          exact Sl.nil (by lia)
        · have e0 : pmin b s = b := by unfold pmin; rw [if_neg (by lia)]
          rw [e0]
          exact j4.take _
      · rw [hl1]; lia
      · rw [List.length_append, hl1]; lia
    · intro x
      dsimp only
      rw [hlen]
      constructor
      · rintro (h | h)
        · exact .inl h
        · right; lia
      · rintro (h | h)
        · exact .inl h
        · right; lia
theorem pc_fold {wr : By} {lo hi : Int} : ∀ (l : List Pc) (st : AddPc), PcInv wr lo hi st l → PcInv wr lo hi (l.foldl pcStep st) [] ∧ ∀ x, (covP (l.foldl pcStep st).found x ∨ ((l.foldl pcStep st).begin ≤ x ∧ x < (l.foldl pcStep st).begin + ((l.foldl pcStep st).joined.length : Int))) ↔ (covP st.found x ∨ (st.begin ≤ x ∧ x < st.begin + (st.joined.length : Int)) ∨ covP l x)
  | [], st, h => ⟨h, fun x => ⟨fun h => h.elim .inl fun h => .inr (.inl h), fun h => h.elim .inl fun h => h.elim .inr fun h => absurd h (covP_nil _)⟩⟩
  | p :: l, st, h => by
    have s := pcStep_ok h
    have r := pc_fold l (pcStep st p) s.1
    refine ⟨r.1, fun x => ?_⟩
    rw [List.foldl_cons, r.2 x, covP_cons, ← or_assoc, s.2 x]
    constructor
    · rintro ((h | h | h) | h)
      · exact .inl h
      · exact .inr (.inl h)
      · exact .inr (.inr (.inl h))
      · exact .inr (.inr (.inr h))
    · rintro (h | h | h | h)
      · exact .inl (.inl h)
      · exact .inl (.inr (.inl h))
      · exact .inl (.inr (.inr h))
      · exact .inr h
theorem PcInv.pcs {wr : By} {lo hi : Int} {st : AddPc} (h : PcInv wr lo hi st []) : PcsOk wr lo hi (st.found ++ [(st.begin, st.joined)]) := by
  refine ⟨?_, fun p hp => ?_⟩
  · rw [List.pairwise_append]
    exact ⟨h.fg, List.pairwise_singleton _ _, fun a ha q hq => by rw [List.mem_singleton.mp hq]; exact h.fj a ha⟩
  · rcases List.mem_append.mp hp with hp | hp
    · exact h.fo p hp
    · rw [List.mem_singleton.mp hp]; exact h.j
theorem PcsOk.inv {wr : By} {lo hi o : Int} {d : By} {l : List Pc} (h : PcsOk wr lo hi l) (g : GoodP wr lo hi (o, d)) : PcInv wr lo hi ⟨[], o, d⟩ l :=
  ⟨.nil, (fun _ h => nomatch h), (fun _ h => nomatch h), (fun _ h => nomatch h), g, h.gap, h.good⟩
theorem PcsOk.take {wr : By} {lo hi : Int} {l : List Pc} (h : PcsOk wr lo hi l) (n : Nat) : PcsOk wr lo hi (l.take n) := ⟨h.gap.sublist (List.take_sublist _ _), fun p hp => h.good p (List.mem_of_mem_take hp)⟩

/-- taken_from and the cut of read -/
theorem take_fold {at_ : Int} : ∀ (l : List Pc) (st : By × List Pc), (∀ p ∈ l, at_ ≤ p.1 ∧ p.2 ≠ []) →
    (l.foldl (takeStep at_) st).2 = st.2 ++ l.filter (fun p => decide (at_ < p.1)) ∧ (((l.foldl (takeStep at_) st).1 = st.1 ∧ ∀ p ∈ l, at_ < p.1) ∨ (∃ p ∈ l, p.1 = at_ ∧ (l.foldl (takeStep at_) st).1 = p.2))
  | [], st, _ => ⟨by simp, .inl ⟨rfl, fun _ h => nomatch h⟩⟩
  | p :: l, st, h => by
    obtain ⟨h1, h2⟩ := h p (.head _)
    have h3 := List.length_pos_iff.mpr h2
    rw [List.foldl_cons]
    rcases Int.lt_or_eq_of_le h1 with c | c
    · have e : takeStep at_ st p = (st.1, st.2 ++ [p]) := by unfold takeStep; rw [if_neg (by omega), if_pos (by omega)]
      rw [e]
      obtain ⟨r1, r2⟩ := take_fold l (st.1, st.2 ++ [p]) (fun q hq => h q (.tail _ hq))
      refine ⟨?_, ?_⟩
      · rw [r1, List.filter_cons, if_pos (decide_eq_true c)]; simp
      · rcases r2 with ⟨a, b⟩ | ⟨q, hq, a⟩
        · exact .inl ⟨a, fun q hq => by
            rcases List.mem_cons.mp hq with rfl | hq
            · exact c
            · exact b q hq⟩
        · exact .inr ⟨q, .tail _ hq, a⟩
    · have e : takeStep at_ st p = (p.2, st.2) := by unfold takeStep; rw [if_pos (by omega), c, Int.sub_self]; rfl
      rw [e]
      obtain ⟨r1, r2⟩ := take_fold l (p.2, st.2) (fun q hq => h q (.tail _ hq))
      refine ⟨?_, .inr ?_⟩
      · rw [r1, List.filter_cons, if_neg (by simp; omega)]
      · rcases r2 with ⟨a, b⟩ | ⟨q, hq, a⟩
        · exact ⟨p, .head _, c.symm, a⟩
        · exact ⟨q, .tail _ hq, a⟩
structure CutOk (wr : By) (lo hi most : Int) (ps : List Pc) (c : By × List Pc) : Prop where
  ok : PcsOk wr (lo + (c.1.length : Int)) hi c.2
  cov : ∀ x, covP ps x ↔ covP c.2 x ∨ (lo ≤ x ∧ x < lo + (c.1.length : Int))
  sl : Sl wr lo c.1
  le : (c.1.length : Int) ≤ most
  hh : lo + (c.1.length : Int) ≤ hi
  all : hi - lo ≤ most → ∀ p ∈ c.2, lo + (c.1.length : Int) < p.1
theorem cut_ok {wr : By} {hi most : Int} {r : Rcv} (h : PcsOk wr r.readTo hi r.pieces) (k : 0 ≤ r.readTo) (k2 : r.readTo ≤ hi) (hm : 0 ≤ most) : CutOk wr r.readTo hi most r.pieces (r.cut most) := by
  obtain ⟨r1, r2⟩ := take_fold (at_ := r.readTo) r.pieces ([], []) (fun p hp => ⟨(h.good p hp).2.1, (h.good p hp).1⟩)
  have hmem : ∀ {p : Pc}, p ∈ r.pieces.filter (fun p => decide (r.readTo < p.1)) → p ∈ r.pieces ∧ r.readTo < p.1 := fun hp => by
    rw [List.mem_filter] at hp; exact ⟨hp.1, of_decide_eq_true hp.2⟩
  have hg : (r.pieces.filter (fun p => decide (r.readTo < p.1))).Pairwise Gap := h.gap.sublist List.filter_sublist
  have key : CutOk wr r.readTo hi (hi - r.readTo) r.pieces (takenFrom r.pieces r.readTo) ∧ (∀ p ∈ (takenFrom r.pieces r.readTo).2, r.readTo + ((takenFrom r.pieces r.readTo).1.length : Int) < p.1) := by
    change CutOk wr r.readTo hi (hi - r.readTo) r.pieces (r.pieces.foldl (takeStep r.readTo) ([], [])) ∧ (∀ p ∈ (r.pieces.foldl (takeStep r.readTo) ([], [])).2, r.readTo + ((r.pieces.foldl (takeStep r.readTo) ([], [])).1.length : Int) < p.1)
    generalize r.pieces.foldl (takeStep r.readTo) ([], []) = c at r1 r2 ⊢
    obtain ⟨f, l⟩ := c
    dsimp only at r1 r2
    rw [List.nil_append] at r1
    subst r1
    rcases r2 with ⟨rfl, r2⟩ | ⟨p, hp, e, rfl⟩
    · refine ⟨⟨⟨hg, fun q hq => ?_⟩, fun x => ?_, Sl.nil k, by simp; lia, by simp; lia, fun _ q hq => ?_⟩, fun q hq => ?_⟩
      · obtain ⟨a, b, c, d⟩ := h.good q (hmem hq).1
        have := (hmem hq).2
        exact ⟨a, by simp; lia, c, d⟩
      · have e : r.pieces.filter (fun p => decide (r.readTo < p.1)) = r.pieces := List.filter_eq_self.mpr fun p hp => decide_eq_true (r2 p hp)
        dsimp only
        rw [e]
        exact ⟨.inl, fun h => h.elim id fun h => by simp at h; lia⟩
      · have := (hmem hq).2
        simp; lia
      · have := (hmem hq).2
        simp; lia
    · have gp := h.good p hp
      have hlt : ∀ q ∈ r.pieces.filter (fun p => decide (r.readTo < p.1)), r.readTo + (p.2.length : Int) < q.1 := fun q hq => by
        have m := hmem hq
        have ap := h.apart (p.1, p.1 + (p.2.length : Int)) (List.mem_map.mpr ⟨p, hp, rfl⟩) (q.1, q.1 + (q.2.length : Int)) (List.mem_map.mpr ⟨q, m.1, rfl⟩)
        have := (h.good q m.1).pos
        rcases ap with ap | ap | ap
        · have := congrArg Prod.fst ap
          dsimp only at this
          lia
        · dsimp only at ap; lia
        · dsimp only at ap; lia
      refine ⟨⟨⟨hg, fun q hq => ?_⟩, fun x => ?_, by rw [← e]; exact gp.2.2.2, ?_, ?_, fun _ q hq => hlt q hq⟩, hlt⟩
      · obtain ⟨a, b, c, d⟩ := h.good q (hmem hq).1
        have := hlt q hq
        exact ⟨a, by dsimp only; lia, c, d⟩
      · dsimp only
        constructor
        · rintro ⟨q, hq, a⟩
          by_cases c : r.readTo < q.1
          · exact .inl ⟨q, List.mem_filter.mpr ⟨hq, decide_eq_true c⟩, a⟩
          · right
            have m := (h.good q hq).2.1
            have ap := h.apart (p.1, p.1 + (p.2.length : Int)) (List.mem_map.mpr ⟨p, hp, rfl⟩) (q.1, q.1 + (q.2.length : Int)) (List.mem_map.mpr ⟨q, hq, rfl⟩)
            rcases ap with ap | ap | ap
            · have e1 := congrArg Prod.fst ap
              have e2 := congrArg Prod.snd ap
              dsimp only at e1 e2
              lia
            · dsimp only at ap; lia
            · dsimp only at ap; lia
        · rintro (⟨q, hq, a⟩ | a)
          · exact ⟨q, (hmem hq).1, a⟩
          · exact ⟨p, hp, by lia, by lia⟩
      · have := gp.2.2.1
        dsimp only; lia
      · have := gp.2.2.1
        dsimp only; lia
  obtain ⟨⟨ok, cov, sl, le, hh, _⟩, hlt⟩ := key
  unfold Rcv.cut
  dsimp only
  generalize takenFrom r.pieces r.readTo = t at *
  obtain ⟨f, l⟩ := t
  dsimp only at *
  split
  · rename_i c
    have hl : ((f.take most.toNat).length : Int) = most := by rw [List.length_take]; lia
    have hd : ((f.drop most.toNat).length : Int) = (f.length : Int) - most := by rw [List.length_drop]; lia
    refine ⟨⟨?_, ?_⟩, fun x => ?_, sl.take _, by dsimp only; lia, by dsimp only; lia, fun q => ?_⟩
    · refine List.pairwise_cons.mpr ⟨fun q hq => ?_, ok.gap⟩
      have := hlt q hq
      left
      dsimp only
      lia
    · dsimp only
      intro q hq
      rcases List.mem_cons.mp hq with rfl | hq
      · refine ⟨fun e => ?_, by dsimp only; lia, by dsimp only; lia, sl.drop (by lia)⟩
        dsimp only at e
        rw [e] at hd
        simp at hd
        lia
      · obtain ⟨a, b, c, d⟩ := ok.good q hq
        exact ⟨a, by lia, c, d⟩
    · rw [cov x, covP_cons]
      dsimp only
      constructor
      · rintro (h | h)
        · exact .inl (.inr h)
        · rcases Int.lt_or_le x (r.readTo + most) with k | k
          · right; lia
          · left; left; lia
      · rintro ((h | h) | h)
        · right; lia
        · exact .inl h
        · right; lia
    · lia
  · exact ⟨ok, cov, sl, by dsimp only; lia, hh, fun _ => hlt⟩
/-- what always holds of both ends and of what is under way -/
structure Core (s : Snd) (r : Rcv) (room : Int) (fly : List Msg) (rd : By) : Prop where
  room1 : 4 ≤ room
  room2 : room ≤ 9
  lim1 : s.limit = r.readTo + room
  lim2 : r.limit = r.readTo + room
  rt0 : 0 ≤ r.readTo
  rts : r.readTo ≤ s.sentTo
  rdq : rd = s.written.take r.readTo.toNat
  stl : s.sentTo ≤ (s.written.length : Int)
  slim : s.sentTo ≤ r.readTo + room
  hi : r.highest ≤ s.sentTo
  an : Nm (-1) s.acked
  ab : ∀ x, covS s.acked x → x < s.sentTo
  ln : Nm (-1) s.lost
  lb : ∀ x, covS s.lost x → x < s.sentTo
  la : ∀ x, covS s.lost x → ¬ covS s.acked x
  all : s.canReset = true → ∀ x, 0 ≤ x → x < s.sentTo → covS s.acked x ∨ covS s.lost x ∨ ∃ o d e, Msg.data o d e ∈ fly ∧ o ≤ x ∧ x < o + (d.length : Int)
  rdy : s.st = .ready → s.sentTo = 0
  fo : s.fin = true → s.st.isOpen = true → s.oe = true
  ds : s.st = .dataSent ∨ s.st = .dataRecvd → s.fin = true ∧ s.sentTo = (s.written.length : Int)
  de : s.st = .dataSent → s.ea = true ∨ s.oe = true ∨ ∃ o d, Msg.data o d true ∈ fly
  dn : s.st = .dataSent → s.ea = true → ¬ ∀ x, 0 ≤ x → x < s.sentTo → covS s.acked x
  eo : s.st.isOpen = true → s.ea = false
  ef : s.ea = true → r.fs.isSome = true
  md : ∀ o d e, Msg.data o d e ∈ fly → Sl s.written o d ∧ o + (d.length : Int) ≤ s.sentTo ∧ (e = true → s.fin = true ∧ s.st.isOpen = false ∧ o + (d.length : Int) = s.sentTo ∧ s.sentTo = (s.written.length : Int))
  mr : ∀ c z, Msg.reset c z ∈ fly → s.rc = some c ∧ z = s.sentTo ∧ (s.st = .resetSent ∨ s.st = .resetRecvd)
  rc1 : s.st = .resetSent ∨ s.st = .resetRecvd → s.rc.isSome = true
  ro : s.orr = true → s.st = .resetSent
  rm : s.st = .resetSent → s.orr = true ∨ ∃ c z, Msg.reset c z ∈ fly
  fsz : ∀ z, r.fs = some z → z = s.sentTo ∧ s.st.isOpen = false
  fse : r.st.isOpen = true → r.fs.isSome = true → s.fin = true ∧ s.sentTo = (s.written.length : Int)
  rrc : r.isReset = false → r.rc = none
  rrs : r.isReset = true → (∃ c, r.rc = some c ∧ s.rc = some c) ∧ s.st = .resetRecvd
  rr : s.st = .resetRecvd → r.st.isOpen = false
  stp : r.stop.isSome = true → r.pieces = [] ∧ (s.st = .resetSent ∨ s.st = .resetRecvd) ∧ r.st ≠ .dataRecvd ∧ r.st ≠ .dataRead
  dr : r.st = .dataRecvd ∨ r.st = .dataRead → r.fs = some s.sentTo ∧ s.sentTo = (s.written.length : Int) ∧ s.fin = true ∧ ∀ x, r.readTo ≤ x → x < s.sentTo → covP r.pieces x
  drd : r.st = .dataRead → r.readTo = s.sentTo
  sd : s.st = .dataRecvd → r.st = .dataRecvd ∨ r.st = .dataRead
  pcs : PcsOk s.written r.readTo s.sentTo r.pieces
  ack : r.isReset = false → r.stop = none → ∀ x, covS s.acked x ↔ (0 ≤ x ∧ x < r.readTo) ∨ covP r.pieces x
theorem core_init {room : Int} (h : 4 ≤ room) (h' : room ≤ 9) : Core (Snd.init room) (Rcv.init room) room [] [] where
  room1 := h
  room2 := h'
  lim1 := by simp [Snd.init, Rcv.init]
  lim2 := by simp [Rcv.init]
  rt0 := Int.le_refl _
  rts := Int.le_refl _
  rdq := rfl
  stl := Int.le_refl _
  slim := by simp [Snd.init, Rcv.init]; omega
  hi := Int.le_refl _
  an := trivial
  ab := fun x h => absurd h (covS_nil x)
  ln := trivial
  lb := fun x h => absurd h (covS_nil x)
  la := fun x h => absurd h (covS_nil x)
  all := fun _ x h1 h2 => by simp [Snd.init] at h2; omega
  rdy := fun _ => rfl
  fo := fun h => by cases h
  ds := fun h => by rcases h with h | h <;> cases h
  de := fun h => by cases h
  dn := fun h => by cases h
  eo := fun _ => rfl
  ef := fun h => by cases h
  md := fun _ _ _ h => nomatch h
  mr := fun _ _ h => nomatch h
  rc1 := fun h => by rcases h with h | h <;> cases h
  ro := fun h => by cases h
  rm := fun h => by cases h
  fsz := fun z h => by cases h
  fse := fun _ h => by cases h
  rrc := fun _ => rfl
  rrs := fun h => by cases h
  rr := fun h => by cases h
  stp := fun h => by cases h
  dr := fun h => by rcases h with h | h <;> cases h
  drd := fun h => by cases h
  sd := fun h => by cases h
  pcs := .nil
  ack := fun _ _ x => ⟨fun h => absurd h (covS_nil x), fun h => by
    rcases h with h | h
    · simp [Rcv.init] at h; omega
    · exact absurd h (covP_nil x)⟩

section
variable {s : Snd} {r : Rcv} {room : Int} {fly : List Msg} {rd : By}
theorem take_more {wr b : By} {n : Nat} (h : n ≤ wr.length) : (wr ++ b).take n = wr.take n := List.take_append_of_le_length h
theorem core_write (h : Core s r room fly rd) (b : By) (ho : s.st.isOpen = true) (hf : s.fin = false) : Core (s.write b) r room fly rd :=
  have hfs : r.fs = none := by
    cases e : r.fs with
    | none => rfl
    | some z => have := (h.fsz z e).2; rw [ho] at this; cases this
  { h with
    rdq := by
      have h1 := h.rdq
      have h2 := h.rts
      have h3 := h.stl
      have h4 := h.rt0
      show rd = (s.written ++ b).take _
      rw [take_more (by lia)]; exact h1
    stl := by
      have h3 := h.stl
      show s.sentTo ≤ ((s.written ++ b).length : Int)
      rw [List.length_append]; lia
    ds := fun q => by have := (h.ds q).1; rw [hf] at this; cases this
    md := fun o d e q => by
      obtain ⟨a, b', c⟩ := h.md o d e q
      exact ⟨a.more, b', fun e => by have := (c e).1; rw [hf] at this; cases this⟩
    fse := fun _ q => by rw [hfs] at q; cases q
    dr := fun q => by have := (h.dr q).1; rw [hfs] at this; cases this
    pcs := h.pcs.more }
theorem core_finish (h : Core s r room fly rd) (ho : s.st.isOpen = true) : Core s.finish r room fly rd := by
  unfold Snd.finish
  split
  · exact h
  · rename_i hf
    exact { h with
      fo := fun _ _ => rfl
      ds := fun q => by have := (h.ds q).1; exact absurd this hf
      de := fun q => .inr (.inl rfl)
      md := fun o d e q => by
        obtain ⟨a, b', c⟩ := h.md o d e q
        exact ⟨a, b', fun e => absurd (c e).1 hf⟩
      fse := fun a b => absurd (h.fse a b).1 hf
      dr := fun q => absurd (h.dr q).2.2.1 hf }
theorem open_cases {a : SS} (h : a.isOpen = true) : a = .ready ∨ a = .send := by cases a <;> simp_all [SS.isOpen]
theorem can_cases (h : s.canReset = true) : s.st = .ready ∨ s.st = .send ∨ s.st = .dataSent := by
  unfold Snd.canReset at h
  cases e : s.st <;> simp_all [SS.isOpen]
theorem not_reset (h : s.canReset = true) : s.st ≠ .resetSent ∧ s.st ≠ .resetRecvd := by
  rcases can_cases h with e | e | e <;> rw [e] <;> exact ⟨by decide, by decide⟩
theorem core_reset (h : Core s r room fly rd) (code : Int) : Core (s.reset code) r room fly rd := by
  unfold Snd.reset
  split
  · rename_i hc
    have hn := not_reset hc
    exact { h with
      ln := trivial
      lb := fun x h => absurd h (covS_nil x)
      la := fun x h => absurd h (covS_nil x)
      all := fun q => by cases q
      rdy := fun q => by cases q
      fo := fun _ q => by cases q
      ds := fun q => by rcases q with q | q <;> cases q
      de := fun q => by cases q
      dn := fun q => by cases q
      eo := fun q => by cases q
      md := fun o d e q => by
        obtain ⟨a, b, c⟩ := h.md o d e q
        exact ⟨a, b, fun e => ⟨(c e).1, rfl, (c e).2.2⟩⟩
      mr := fun c z q => by
        rcases (h.mr c z q).2.2 with e | e
        · exact absurd e hn.1
        · exact absurd e hn.2
      rc1 := fun _ => rfl
      ro := fun _ => rfl
      rm := fun _ => .inl rfl
      fsz := fun z q => ⟨(h.fsz z q).1, rfl⟩
      rrs := fun q => absurd (h.rrs q).2 hn.2
      rr := fun q => by cases q
      stp := fun q => by
        rcases (h.stp q).2.1 with e | e
        · exact absurd e hn.1
        · exact absurd e hn.2
      sd := fun q => by cases q }
  · exact h
theorem ropen {a : RS} (h : a.isOpen = true) : a = .recv ∨ a = .sizeKnown := by cases a <;> simp_all [RS.isOpen]
theorem core_stop (h : Core s r room fly rd) (code : Int) (hs : s.st = .resetSent ∨ s.st = .resetRecvd) (hc : r.canStop = true) : Core s (r.stopped code) room fly rd := by
  unfold Rcv.stopped
  rw [if_pos hc]
  have ho : r.st.isOpen = true := by unfold Rcv.canStop at hc; rw [Bool.and_eq_true] at hc; exact hc.1
  have hn : r.st ≠ .dataRecvd ∧ r.st ≠ .dataRead := by rcases ropen ho with e | e <;> rw [e] <;> exact ⟨by decide, by decide⟩
  exact { h with
    stp := fun _ => ⟨rfl, hs, hn⟩
    dr := fun q => q.elim (fun q => absurd q hn.1) (fun q => absurd q hn.2)
    pcs := .nil
    ack := fun _ q => by cases q }
/-- a stop read and passed on -/
theorem core_stop2 (h : Core s r room fly rd) (code : Int) (hc : r.canStop = true) : Core (s.reset code) (r.stopped code) room fly rd := by
  refine core_stop (core_reset h code) code ?_ hc
  unfold Snd.reset
  split
  · exact .inl rfl
  · rename_i hn
    have ho : r.st.isOpen = true := by unfold Rcv.canStop at hc; rw [Bool.and_eq_true] at hc; exact hc.1
    cases e : s.st with
    | ready => exact absurd (by unfold Snd.canReset; rw [e]; rfl) hn
    | send => exact absurd (by unfold Snd.canReset; rw [e]; rfl) hn
    | dataSent => exact absurd (by unfold Snd.canReset; rw [e]; rfl) hn
    | dataRecvd =>
      rcases h.sd e with q | q <;> rw [q] at ho <;> cases ho
    | resetSent => exact .inl rfl
    | resetRecvd => exact .inr rfl
/-- the code's messages under way: ms gone or not -/
structure Less (ms : Msg) (fly fly' : List Msg) : Prop where
  a : ∀ m ∈ fly, m = ms ∨ m ∈ fly'
  b : ∀ m ∈ fly', m ∈ fly
theorem less_self (ms : Msg) (fly : List Msg) : Less ms fly fly := ⟨fun _ h => .inr h, fun _ h => h⟩
theorem less_erase {ms : Msg} {fly : List Msg} {j : Nat} (h : fly[j]? = some ms) : Less ms fly (fly.eraseIdx j) := by
  have hj : j < fly.length := by
    rcases Nat.lt_or_ge j fly.length with k | k
    · exact k
    · rw [List.getElem?_eq_none k] at h; cases h
  have e : fly = fly.take j ++ ms :: fly.drop (j + 1) := by
    rw [List.getElem?_eq_getElem hj] at h
    injection h with h
    rw [← h, ← List.drop_eq_getElem_cons hj, List.take_append_drop]
  rw [List.eraseIdx_eq_take_drop_succ]
  refine ⟨fun m hm => ?_, fun m hm => ?_⟩
  · rw [e] at hm
    rcases List.mem_append.mp hm with q | q
    · exact .inr (List.mem_append_left _ q)
    · rcases List.mem_cons.mp q with q | q
      · exact .inl q
      · exact .inr (List.mem_append_right _ q)
  · rw [e]
    rcases List.mem_append.mp hm with q | q
    · exact List.mem_append_left _ q
    · exact List.mem_append_right _ (.tail _ q)
/-- what was lost -/
theorem core_loseReset {fly' : List Msg} {c z : Int} (h : Core s r room fly rd) (hl : Less (.reset c z) fly fly') : Core s.loseReset r room fly' rd :=
  { h with
    all := fun q x a b => by
      rcases h.all q x a b with e | e | ⟨o, d, f, e, k⟩
      · exact .inl e
      · exact .inr (.inl e)
      · rcases hl.a _ e with e | e
        · cases e
        · exact .inr (.inr ⟨o, d, f, e, k⟩)
    de := fun q => by
      rcases h.de q with e | e | ⟨o, d, e⟩
      · exact .inl e
      · exact .inr (.inl e)
      · rcases hl.a _ e with e | e
        · cases e
        · exact .inr (.inr ⟨o, d, e⟩)
    md := fun o d e q => h.md o d e (hl.b _ q)
    mr := fun c z q => h.mr c z (hl.b _ q)
    ro := fun q => by
      unfold Snd.loseReset at q ⊢
      dsimp only at q ⊢
      rw [Bool.or_eq_true] at q
      rcases q with q | q
      · exact h.ro q
      · exact eq_of_beq q
    rm := fun q => .inl (by
      unfold Snd.loseReset at q ⊢
      dsimp only at q ⊢
      rw [q]; simp) }
theorem lost_iff {s : Snd} (hn : Nm (-1) s.acked) (hl : Nm (-1) s.lost) {o : Int} (ho : 0 ≤ o) (n : Nat) (k : List Sp) (hk : ∃ i, k = (withoutSpans (if (n : Int) > 0 then [(o, o + (n : Int))] else []) s.acked).take i) :
    (∀ p ∈ k, -1 < p.1) ∧ ∀ x, covS k x → (o ≤ x ∧ x < o + (n : Int)) ∧ ¬ covS s.acked x := by
  obtain ⟨i, rfl⟩ := hk
  have h0 : Nm (-1) (if (n : Int) > 0 then [(o, o + (n : Int))] else []) := by
    split
    · exact ⟨by lia, by lia, trivial⟩
    · trivial
  have h1 := withoutSpans_nm s.acked _ h0
  refine ⟨fun p hp => (h1.low p (List.mem_of_mem_take hp)).1, fun x ⟨p, hp, q⟩ => ?_⟩
  have h2 := (withoutSpans_cov (x := x) s.acked _).mp ⟨p, List.mem_of_mem_take hp, q⟩
  refine ⟨?_, h2.2⟩
  have h3 := h2.1
  split at h3
  · rcases covS_cons.mp h3 with a | a
    · exact a
    · exact absurd a (covS_nil _)
  · exact absurd h3 (covS_nil _)
theorem without_cov {s : Snd} {o : Int} (n : Nat) {x : Int} : covS (withoutSpans (if (n : Int) > 0 then [(o, o + (n : Int))] else []) s.acked) x ↔ (o ≤ x ∧ x < o + (n : Int)) ∧ ¬ covS s.acked x := by
  rw [withoutSpans_cov]
  have : covS (if (n : Int) > 0 then [(o, o + (n : Int))] else []) x ↔ (o ≤ x ∧ x < o + (n : Int)) := by
    split
    · rw [covS_cons]; exact ⟨fun h => h.elim id fun h => absurd h (covS_nil _), .inl⟩
    · exact ⟨fun h => absurd h (covS_nil _), fun h => by lia⟩
  rw [this]
theorem core_loseData {fly' : List Msg} {o : Int} {d : By} {e : Bool} (h : Core s r room fly rd) (hm : Msg.data o d e ∈ fly) (hl : Less (.data o d e) fly fly') : Core (s.loseData o d.length e) r room fly' rd := by
  obtain ⟨m1, m2, m3⟩ := h.md _ _ _ hm
  unfold Snd.loseData
  split
  · rename_i hst
    obtain ⟨l1, l2⟩ := lost_iff h.an h.ln m1.1 d.length _ ⟨_, (List.take_length (l := withoutSpans (if (d.length : Int) > 0 then [(o, o + (d.length : Int))] else []) s.acked)).symm⟩
    have lc := fun x => addAll_cov (x := x) (withoutSpans (if (d.length : Int) > 0 then [(o, o + (d.length : Int))] else []) s.acked) s.lost h.ln l1
    exact { h with
      ln := addAll_nm _ _ h.ln l1
      lb := fun x q => by
        rcases (lc x).mp q with q | q
        · exact h.lb x q
        · have := (l2 x q).1; show x < s.sentTo; omega
      la := fun x q => by
        rcases (lc x).mp q with q | q
        · exact h.la x q
        · exact (l2 x q).2
      all := fun q x a b => by
        rcases h.all q x a b with q | q | ⟨o', d', e', q, k⟩
        · exact .inl q
        · exact .inr (.inl ((lc x).mpr (.inl q)))
        · rcases hl.a _ q with q | q
          · cases q
            by_cases c : covS s.acked x
            · exact .inl c
            · exact .inr (.inl ((lc x).mpr (.inr ((without_cov _).mpr ⟨k, c⟩))))
          · exact .inr (.inr ⟨o', d', e', q, k⟩)
      fo := fun a b => by
        have := h.fo a b
        show (s.oe || (e && !s.ea)) = true
        rw [this]; rfl
      de := fun q => by
        rcases h.de q with q | q | ⟨o', d', q⟩
        · exact .inl q
        · exact .inr (.inl (by show (s.oe || (e && !s.ea)) = true; rw [q]; rfl))
        · rcases hl.a _ q with q | q
          · injection q with q1 q2 q3
            by_cases he : s.ea = true
            · exact .inl he
            · exact .inr (.inl (by
                rw [Bool.not_eq_true] at he
                show (s.oe || (e && !s.ea)) = true; rw [← q3, he]; simp))
          · exact .inr (.inr ⟨o', d', q⟩)
      md := fun o d e q => h.md o d e (hl.b _ q)
      mr := fun c z q => h.mr c z (hl.b _ q)
      rm := fun q => by
        rcases h.rm q with q | ⟨c, z, q⟩
        · exact .inl q
        · rcases hl.a _ q with q | q
          · cases q
          · exact .inr ⟨c, z, q⟩ }
  · rename_i hst
    exact { h with
      all := fun q x a b => by
        rcases can_cases q with k | k | k
        · have := h.rdy k; omega
        · rw [k] at hst; exact absurd rfl hst
        · rw [k] at hst; exact absurd rfl hst
      de := fun k => by rw [k] at hst; exact absurd rfl hst
      md := fun o d e q => h.md o d e (hl.b _ q)
      mr := fun c z q => h.mr c z (hl.b _ q)
      rm := fun q => by
        rcases h.rm q with q | ⟨c, z, q⟩
        · exact .inl q
        · rcases hl.a _ q with q | q
          · cases q
          · exact .inr ⟨c, z, q⟩ }
theorem core_lose {fly' : List Msg} {ms : Msg} (h : Core s r room fly rd) (hm : ms ∈ fly) (hl : Less ms fly fly') : Core (s.lose ms) r room fly' rd := by
  cases ms with
  | reset c z => exact core_loseReset h hl
  | data o d e => exact core_loseData h hm hl
/-- how long what is kept may be -/
theorem acked_len (h : Core s r room fly rd) : s.acked.length ≤ s.written.length + 1 := by
  have h1 := h.an.len h.ab (by have := h.rts; have := h.rt0; lia)
  have := h.stl
  lia
theorem lost_len (h : Core s r room fly rd) : s.lost.length ≤ s.written.length + 1 := by
  have h1 := h.ln.len h.lb (by have := h.rts; have := h.rt0; lia)
  have := h.stl
  lia
theorem lostOk_of (h : Core s r room fly rd) (hw : s.written.length ≤ 900) {o : Int} {d : By} {e : Bool} (hm : Msg.data o d e ∈ fly) : d.length ≤ 1000 ∧ LostOk s o d.length := by
  obtain ⟨m1, m2, m3⟩ := h.md _ _ _ hm
  have hst := h.stl
  have ho := m1.1
  refine ⟨by lia, fun i => ?_, fun i => ?_⟩
  · have h0 : Nm (-1) (if (d.length : Int) > 0 then [(o, o + (d.length : Int))] else []) := by
      split
      · exact ⟨by lia, by lia, trivial⟩
      · trivial
    have h1 := withoutSpans_nm (s.acked.take i) _ h0
    have h2 := h1.len (hi := s.sentTo) (fun x q => by
      have := ((withoutSpans_cov (s.acked.take i) _).mp q).1
      split at this
      · rcases covS_cons.mp this with a | a
        · dsimp only at a; lia
        · exact absurd a (covS_nil _)
      · exact absurd this (covS_nil _)) (by lia)
    unfold withoutSpans at h2
    lia
  · obtain ⟨l1, l2⟩ := lost_iff h.an h.ln m1.1 d.length _ ⟨i, rfl⟩
    have h1 := addAll_nm _ _ h.ln l1
    have h2 := h1.len (hi := s.sentTo) (fun x q => by
      rcases (addAll_cov _ _ h.ln l1).mp q with q | q
      · exact h.lb x q
      · have := (l2 x q).1; lia) (by lia)
    lia
end
section
variable {s : Snd} {r : Rcv} {room : Int} {fly : List Msg} {rd : By}
structure SpanOk (s : Snd) (r : Rcv) (room : Int) (p : Sp) : Prop where
  lo : 0 ≤ p.1
  le : p.1 ≤ p.2
  wl : p.2 ≤ (s.written.length : Int)
  rm : p.2 ≤ r.readTo + room
  na : ∀ x, p.1 ≤ x → x < p.2 → ¬ covS s.acked x
  at_ : p.1 ≤ s.sentTo
  cl : s.st.isOpen = false → p.2 ≤ s.sentTo
theorem span_ok (h : Core s r room fly rd) {most : Int} (hm : 1 ≤ most) : SpanOk s r room (s.span most) := by
  have h1 := h.stl
  have h2 := h.rts
  have h3 := h.rt0
  have h4 := h.slim
  unfold Snd.span
  cases e : s.lost with
  | nil =>
    dsimp only [firstSpan]
    have hn : s.newRoom = 0 ∨ (s.st.isOpen = true ∧ s.newRoom ≤ s.written.length - s.sentTo ∧ s.newRoom ≤ s.limit - s.sentTo) := by
      unfold Snd.newRoom
      split
      · rename_i ho
        right
        have a := pmin_is (s.written.length : Int) s.limit
        have b := pmax_is 0 (pmin (s.written.length : Int) s.limit - s.sentTo)
        have hl := h.lim1
        exact ⟨ho, by omega, by omega⟩
      · left; rfl
    have a := pmin_is most s.newRoom
    have b := pmax_is 0 (pmin most s.newRoom)
    have hl := h.lim1
    refine ⟨by dsimp only; omega, by dsimp only; omega, ?_, ?_, fun x p q c => ?_, by dsimp only; omega, fun c => ?_⟩
    · dsimp only; rcases hn with hn | ⟨_, hn, hn'⟩ <;> omega
    · dsimp only; rcases hn with hn | ⟨_, hn, hn'⟩ <;> omega
    · have := h.ab x c; dsimp only at p; omega
    · dsimp only
      rcases hn with hn | ⟨q, _⟩
      · omega
      · rw [c] at q; cases q
  | cons q l =>
    unfold firstSpan
    dsimp only
    rw [if_neg (by omega)]
    dsimp only
    have hn := h.ln
    rw [e] at hn
    obtain ⟨n1, n2, _⟩ := hn
    have a := pmin_is q.2 (q.1 + most)
    have hb := h.lb (q.2 - 1) (by rw [e]; exact covS_cons.mpr (.inl ⟨by omega, by omega⟩))
    exact ⟨by dsimp only; omega, by dsimp only; omega, by dsimp only; omega, by dsimp only; omega, fun x b c => h.la x (by rw [e]; exact covS_cons.mpr (.inl ⟨b, by dsimp only at c; omega⟩)), by dsimp only; omega, fun _ => by dsimp only; omega⟩
theorem core_told (h : Core s r room fly rd) (ho : s.orr = true) : Core s.resetTold r room (fly ++ [Msg.reset (s.rc.getD 0) s.sentTo]) rd :=
  have hs := h.ro ho
  have sub : ∀ {m : Msg}, m ∈ fly → m ∈ fly ++ [Msg.reset (s.rc.getD 0) s.sentTo] := fun h => List.mem_append_left _ h
  { h with
    all := fun q => absurd hs (not_reset q).1
    de := fun q => by have q : s.st = .dataSent := q; rw [hs] at q; cases q
    md := fun o d e q => by
      rcases List.mem_append.mp q with q | q
      · exact h.md o d e q
      · cases List.mem_singleton.mp q
    mr := fun c z q => by
      rcases List.mem_append.mp q with q | q
      · exact h.mr c z q
      · have := List.mem_singleton.mp q
        injection this with e1 e2
        have := h.rc1 (.inl hs)
        refine ⟨?_, e2, .inl hs⟩
        rw [e1]
        show s.rc = _
        cases e : s.rc with
        | none => rw [e] at this; cases this
        | some v => rfl
    ro := fun q => by cases q
    rm := fun _ => .inr ⟨_, _, List.mem_append_right _ (.head _)⟩ }
theorem chunk_len {p : Sp} (h : SpanOk s r room p) : (((s.written.drop p.1.toNat).take (p.2.toNat - p.1.toNat)).length : Int) = p.2 - p.1 := by
  have := h.lo
  have := h.le
  have := h.wl
  rw [List.length_take, List.length_drop]
  lia
theorem core_chunk (h : Core s r room fly rd) {most : Int} (hm : 1 ≤ most) (hc : s.canReset = true) : Core (s.chunked most) r room (fly ++ [Msg.data (s.chunkOf most).1 (s.chunkOf most).2.1 (s.chunkOf most).2.2]) rd := by
  have so := span_ok h hm
  have cl := chunk_len so
  unfold Snd.chunked Snd.chunkOf
  generalize s.span most = p at so cl ⊢
  dsimp only
  obtain ⟨lo, le, wl, rm, na, at_, hcl⟩ := so
  have hst := can_cases hc
  have hmax := pmax_is s.sentTo p.2
  have hfr : s.st.isOpen = false → pmax s.sentTo p.2 = s.sentTo ∧ s.st = .dataSent := fun q => by
    have := hcl q
    refine ⟨by lia, ?_⟩
    rcases hst with e | e | e
    · rw [e] at q; cases q
    · rw [e] at q; cases q
    · exact e
  have hE : s.isEnd p = true → s.fin = true ∧ p.2 = (s.written.length : Int) := fun q => by
    unfold Snd.isEnd at q
    rw [Bool.and_eq_true, Bool.and_eq_true] at q
    exact ⟨q.1.1, of_decide_eq_true q.1.2⟩
  have hst' : ∀ {x : SS}, (if (s.isEnd p || s.st == .dataSent) = true then SS.dataSent else SS.send) = x → (x = .dataSent ∧ (s.isEnd p = true ∨ s.st = .dataSent)) ∨ (x = .send ∧ s.isEnd p = false ∧ s.st.isOpen = true) := fun {x} q => by
    split at q
    · rename_i c
      rw [Bool.or_eq_true] at c
      exact .inl ⟨q.symm, c.imp id fun c => eq_of_beq c⟩
    · rename_i c
      rw [Bool.or_eq_true, not_or] at c
      refine .inr ⟨q.symm, by simpa using c.1, ?_⟩
      rcases hst with e | e | e
      · rw [e]; rfl
      · rw [e]; rfl
      · rw [e] at c; exact absurd rfl c.2
  have hsame : s.st = .dataSent → (if (s.isEnd p || s.st == .dataSent) = true then SS.dataSent else SS.send) = .dataSent := fun q => by rw [q, if_pos (by simp)]
  have hopen : (if (s.isEnd p || s.st == .dataSent) = true then SS.dataSent else SS.send).isOpen = true → s.isEnd p = false ∧ s.st.isOpen = true := fun q => by
    rcases hst' rfl with ⟨a, b⟩ | ⟨a, b⟩
    · rw [a] at q; cases q
    · exact b
  have no : ∀ {x : SS}, x ≠ .dataSent → x ≠ .send → (if (s.isEnd p || s.st == .dataSent) = true then SS.dataSent else SS.send) = x → False := fun a b q => by
    rcases hst' q with ⟨c, _⟩ | ⟨c, _⟩
    · exact a c
    · exact b c
  have h1 := h.stl
  have h2 := h.rts
  have h3 := h.rt0
  have h4 := h.slim
  have h5 := h.hi
  exact { h with
    rts := by show r.readTo ≤ pmax _ _; lia
    stl := by show pmax _ _ ≤ (s.written.length : Int); lia
    slim := by show pmax _ _ ≤ _; lia
    hi := by show _ ≤ pmax _ _; lia
    ab := fun x q => by have := h.ab x q; show _ < pmax _ _; lia
    ln := cutSpan_nm h.ln
    lb := fun x q => by have := h.lb x (cutSpan_cov.mp q).1; show _ < pmax _ _; lia
    la := fun x q => h.la x (cutSpan_cov.mp q).1
    all := fun _ x a b => by
      by_cases c : p.1 ≤ x ∧ x < p.2
      · exact .inr (.inr ⟨_, _, _, List.mem_append_right _ (.head _), c.1, by rw [cl]; lia⟩)
      · have b : x < pmax s.sentTo p.2 := b
        rcases h.all hc x a (by lia) with q | q | ⟨o, d, e, q, k⟩
        · exact .inl q
        · exact .inr (.inl (cutSpan_cov.mpr ⟨q, c⟩))
        · exact .inr (.inr ⟨o, d, e, List.mem_append_left _ q, k⟩)
    rdy := fun q => (no (by decide) (by decide) q).elim
    fo := fun q a => by
      have := hopen a
      show (if s.isEnd p = true then false else s.oe) = true
      rw [this.1]
      exact h.fo q this.2
    ds := fun q => by
      have q : (if (s.isEnd p || s.st == .dataSent) = true then SS.dataSent else SS.send) = .dataSent := by
        rcases q with q | q
        · exact q
        · exact (no (by decide) (by decide) q).elim
      rcases hst' q with ⟨_, k | k⟩ | ⟨k, _⟩
      · have := hE k
        exact ⟨this.1, by show pmax _ _ = (s.written.length : Int); lia⟩
      · have := h.ds (.inl k)
        refine ⟨this.1, ?_⟩
        show pmax _ _ = _
        rw [(hfr (by rw [k]; rfl)).1]; exact this.2
      · cases k
    de := fun q => by
      by_cases k : s.isEnd p = true
      · refine .inr (.inr ⟨p.1, (s.written.drop p.1.toNat).take (p.2.toNat - p.1.toNat), List.mem_append_right _ ?_⟩)
        rw [k]; exact .head _
      · rcases hst' q with ⟨_, c | c⟩ | ⟨c, _⟩
        · exact absurd c k
        · rcases h.de c with e | e | ⟨o, d, e⟩
          · exact .inl e
          · refine .inr (.inl ?_)
            show (if s.isEnd p = true then false else s.oe) = true
            rw [if_neg k]; exact e
          · exact .inr (.inr ⟨o, d, List.mem_append_left _ e⟩)
        · cases c
    dn := fun q a => by
      have a : s.ea = true := a
      rcases hst with e | e | e
      · have := h.eo (by rw [e]; rfl); rw [a] at this; cases this
      · have := h.eo (by rw [e]; rfl); rw [a] at this; cases this
      · have := h.dn e a
        show ¬ ∀ x, 0 ≤ x → x < pmax _ _ → _
        rw [(hfr (by rw [e]; rfl)).1]; exact this
    eo := fun q => h.eo (hopen q).2
    md := fun o d e q => by
      rcases List.mem_append.mp q with q | q
      · obtain ⟨a, b, c⟩ := h.md o d e q
        refine ⟨a, by show _ ≤ pmax _ _; lia, fun q => ?_⟩
        obtain ⟨c1, c2, c3, c4⟩ := c q
        obtain ⟨f1, f2⟩ := hfr c2
        refine ⟨c1, ?_, by show _ = pmax _ _; rw [f1]; exact c3, by show pmax _ _ = _; rw [f1]; exact c4⟩
        show SS.isOpen (if _ then _ else _) = false
        rw [hsame f2]; rfl
      · have q := List.mem_singleton.mp q
        injection q with q1 q2 q3
        subst q1 q2
        have hl : p.1 + (((s.written.drop p.1.toNat).take (p.2.toNat - p.1.toNat)).length : Int) = p.2 := by rw [cl]; lia
        rw [hl]
        refine ⟨?_, by show _ ≤ pmax _ _; lia, fun k => ?_⟩
        · have := Sl.of (wr := s.written) (a := p.1.toNat) (b := p.2.toNat) (by lia)
          rw [show ((p.1.toNat : Nat) : Int) = p.1 by lia] at this
          exact this
        · rw [k] at q3
          have := hE q3.symm
          refine ⟨this.1, ?_, by show _ = pmax _ _; lia, by show pmax _ _ = (s.written.length : Int); lia⟩
          show SS.isOpen (if _ then _ else _) = false
          rw [if_pos (by rw [← q3]; rfl)]; rfl
    mr := fun c z q => by
      rcases List.mem_append.mp q with q | q
      · have := (h.mr c z q).2.2
        rcases this with e | e
        · exact absurd e (not_reset hc).1
        · exact absurd e (not_reset hc).2
      · cases List.mem_singleton.mp q
    rc1 := fun q => by
      rcases q with q | q
      · exact (no (by decide) (by decide) q).elim
      · exact (no (by decide) (by decide) q).elim
    ro := fun q => absurd (h.ro q) (not_reset hc).1
    rm := fun q => (no (by decide) (by decide) q).elim
    fsz := fun z q => by
      obtain ⟨a, b⟩ := h.fsz z q
      obtain ⟨f1, f2⟩ := hfr b
      refine ⟨by show z = pmax _ _; rw [f1]; exact a, ?_⟩
      show SS.isOpen (if _ then _ else _) = false
      rw [hsame f2]; rfl
    fse := fun a b => by
      have := h.fse a b
      refine ⟨this.1, ?_⟩
      show pmax _ _ = (s.written.length : Int)
      lia
    rrs := fun q => absurd (h.rrs q).2 (not_reset hc).2
    rr := fun q => (no (by decide) (by decide) q).elim
    stp := fun q => by
      rcases (h.stp q).2.1 with e | e
      · exact absurd e (not_reset hc).1
      · exact absurd e (not_reset hc).2
    dr := fun q => by
      obtain ⟨a, b, c, d⟩ := h.dr q
      obtain ⟨f1, f2⟩ := hfr (h.fsz _ a).2
      show r.fs = some (pmax _ _) ∧ pmax _ _ = _ ∧ _ ∧ ∀ x, _ → x < pmax _ _ → _
      rw [f1]
      exact ⟨a, b, c, d⟩
    drd := fun q => by
      have := (h.dr (.inr q)).1
      show _ = pmax _ _
      rw [(hfr (h.fsz _ this).2).1]
      exact h.drd q
    sd := fun q => (no (by decide) (by decide) q).elim
    pcs := h.pcs.hi (by show _ ≤ pmax _ _; lia) }
theorem core_owed (h : Core s r room fly rd) {most : Int} (hm : 1 ≤ most) : Core (s.owed most).2 r room (fly ++ (s.owed most).1.toList) rd := by
  unfold Snd.owed
  split
  · exact core_told h (by assumption)
  · split
    · rename_i hc
      unfold Snd.chunks at hc
      rw [Bool.and_eq_true] at hc
      exact core_chunk h hm hc.1
    · dsimp only [Option.toList_none]; rw [List.append_nil]; exact h
theorem grown_le {r : Rcv} {s : Snd} {z : Int} (h : r.highest ≤ s.sentTo) (k : z ≤ s.sentTo) : (r.grown z).highest ≤ s.sentTo := by
  unfold Rcv.grown
  dsimp only
  have := pmax_is 0 (z - r.highest)
  omega
theorem core_handReset {fly' : List Msg} {c z : Int} (h : Core s r room fly rd) (hm : Msg.reset c z ∈ fly) (hl : Less (.reset c z) fly fly') : Core s.ackReset (r.resetIn c z) room fly' rd := by
  obtain ⟨m1, m2, m3⟩ := h.mr _ _ hm
  have es : s.ackReset = { s with orr := false, st := .resetRecvd } := by
    unfold Snd.ackReset
    rcases m3 with e | e <;> rw [e] <;> rfl
  rw [es]
  have hno : s.st.isOpen = false := by rcases m3 with e | e <;> rw [e] <;> rfl
  have hnc : ¬ s.canReset = true := fun q => by rcases m3 with e | e; exact absurd e (not_reset q).1; exact absurd e (not_reset q).2
  have hnd : s.st ≠ .dataRecvd := by rcases m3 with e | e <;> rw [e] <;> decide
  have hg := grown_le h.hi (Int.le_of_eq m2)
  unfold Rcv.resetIn
  dsimp only
  split
  · rename_i ho
    have ho : r.st.isOpen = true := ho
    exact { h with
      all := fun q => by cases q
      rdy := fun q => by cases q
      fo := fun _ q => by cases q
      ds := fun q => by rcases q with q | q <;> cases q
      de := fun q => by cases q
      dn := fun q => by cases q
      eo := fun q => by cases q
      hi := hg
      ef := fun _ => rfl
      md := fun o d e q => by
        obtain ⟨a, b, c⟩ := h.md o d e (hl.b _ q)
        exact ⟨a, b, fun q => ⟨(c q).1, rfl, (c q).2.2⟩⟩
      mr := fun c z q => ⟨(h.mr c z (hl.b _ q)).1, (h.mr c z (hl.b _ q)).2.1, .inr rfl⟩
      rc1 := fun _ => by show s.rc.isSome = true; rw [m1]; rfl
      ro := fun q => by cases q
      rm := fun q => by cases q
      fsz := fun z' q => by
        injection q with q
        exact ⟨q ▸ m2, rfl⟩
      fse := fun q => by cases q
      rrc := fun q => by cases q
      rrs := fun _ => ⟨⟨c, rfl, m1⟩, rfl⟩
      rr := fun _ => rfl
      stp := fun q => ⟨rfl, .inr rfl, ⟨by show RS.resetRecvd ≠ _; decide, by show RS.resetRecvd ≠ _; decide⟩⟩
      dr := fun q => by rcases q with q | q <;> cases q
      drd := fun q => by cases q
      sd := fun q => by cases q
      pcs := .nil
      ack := fun q => by cases q }
  · rename_i ho
    have ho : r.st.isOpen = false := by
      rw [Bool.not_eq_true] at ho
      exact ho
    exact { h with
      all := fun q => by cases q
      rdy := fun q => by cases q
      fo := fun _ q => by cases q
      ds := fun q => by rcases q with q | q <;> cases q
      de := fun q => by cases q
      dn := fun q => by cases q
      eo := fun q => by cases q
      hi := hg
      ef := fun _ => rfl
      md := fun o d e q => by
        obtain ⟨a, b, c⟩ := h.md o d e (hl.b _ q)
        exact ⟨a, b, fun q => ⟨(c q).1, rfl, (c q).2.2⟩⟩
      mr := fun c z q => ⟨(h.mr c z (hl.b _ q)).1, (h.mr c z (hl.b _ q)).2.1, .inr rfl⟩
      rc1 := fun _ => by show s.rc.isSome = true; rw [m1]; rfl
      ro := fun q => by cases q
      rm := fun q => by cases q
      fsz := fun z' q => by
        injection q with q
        exact ⟨q ▸ m2, rfl⟩
      fse := fun q => by have q : r.st.isOpen = true := q; rw [ho] at q; cases q
      rrs := fun q => ⟨(h.rrs q).1, rfl⟩
      rr := fun _ => ho
      stp := fun q => ⟨(h.stp q).1, .inr rfl, (h.stp q).2.2⟩
      dr := fun q => by
        obtain ⟨a, b⟩ := h.dr q
        exact ⟨by show some z = some s.sentTo; rw [m2], b⟩
      sd := fun q => by cases q }
end
section
variable {s : Snd} {r : Rcv} {room : Int} {fly : List Msg} {rd : By}
theorem done_cases {r : Rcv} (h : r.st.isOpen = false) (k : r.isReset = false) : r.st = .dataRecvd ∨ r.st = .dataRead := by
  unfold Rcv.isReset at k
  cases e : r.st with
  | recv => rw [e] at h; cases h
  | sizeKnown => rw [e] at h; cases h
  | dataRecvd => exact .inl rfl
  | dataRead => exact .inr rfl
  | resetRecvd => rw [e] at k; cases k
  | resetRead => rw [e] at k; cases k
/-- where a frame's octets are put: all is well with the pieces -/
theorem rest_good (h : Core s r room fly rd) {o : Int} {d : By} {e : Bool} (hm : Msg.data o d e ∈ fly) (hk : o + (d.length : Int) > r.readTo) (hr : r.rest o d ≠ []) :
    GoodP s.written r.readTo s.sentTo (r.at_ o, r.rest o d) ∧ r.at_ o + ((r.rest o d).length : Int) = o + (d.length : Int) := by
  obtain ⟨m1, m2, m3⟩ := h.md _ _ _ hm
  have h0 := m1.1
  have h1 := h.rt0
  have a := pmax_is o r.readTo
  have b := pmax_is 0 (r.readTo - o)
  have hl : ((r.rest o d).length : Int) = d.length - pmax 0 (r.readTo - o) := by
    unfold Rcv.rest
    rw [List.length_drop]
    omega
  have he : r.at_ o + ((r.rest o d).length : Int) = o + (d.length : Int) := by
    rw [hl]; unfold Rcv.at_; omega
  refine ⟨⟨hr, ?_, ?_, ?_⟩, he⟩
  · dsimp only; unfold Rcv.at_; omega
  · dsimp only; omega
  · dsimp only
    unfold Rcv.at_ Rcv.rest
    exact m1.drop (by omega)
theorem rest_nil {r : Rcv} {o : Int} {d : By} (hk : o + (d.length : Int) > r.readTo) (hr : r.rest o d = []) : d.length = 0 := by
  unfold Rcv.rest at hr
  have := congrArg List.length hr
  rw [List.length_drop, List.length_nil] at this
  have b := pmax_is 0 (r.readTo - o)
  omega
theorem keeps_iff {r : Rcv} {o : Int} {d : By} : r.keeps o d = true ↔ r.st.isOpen = true ∧ r.stop = none ∧ o + (d.length : Int) > r.readTo := by
  unfold Rcv.keeps
  rw [Bool.and_eq_true, Bool.and_eq_true, Option.isNone_iff_eq_none, decide_eq_true_eq, and_assoc]
/-- what the pieces are then -/
structure Put (s : Snd) (r : Rcv) (o : Int) (d : By) (ps : List Pc) : Prop where
  ok : PcsOk s.written r.readTo s.sentTo ps
  mono : ∀ x, covP r.pieces x → covP ps x
  stop : r.stop.isSome = true → ps = []
  ack : r.isReset = false → r.stop = none → ∀ x, (covS s.acked x ∨ (o ≤ x ∧ x < o + (d.length : Int))) ↔ (0 ≤ x ∧ x < r.readTo) ∨ covP ps x
theorem put_ok (h : Core s r room fly rd) {o : Int} {d : By} {e : Bool} (hm : Msg.data o d e ∈ fly) {ps : List Pc} (hp : r.putIn o d ps) : Put s r o d ps := by
  obtain ⟨m1, m2, m3⟩ := h.md _ _ _ hm
  have h0 := m1.1
  have h1 := h.rt0
  unfold Rcv.putIn at hp
  split at hp
  · rename_i hc
    obtain ⟨k1, k2, k3⟩ := keeps_iff.mp hc.1
    obtain ⟨g, hl⟩ := rest_good h hm k3 hc.2
    have inv := pc_fold r.pieces ⟨[], r.at_ o, r.rest o d⟩ (h.pcs.inv g)
    have ok : PcsOk s.written r.readTo s.sentTo ps := inv.1.pcs.perm hp
    have cov : ∀ x, covP ps x ↔ covP r.pieces x ∨ (r.at_ o ≤ x ∧ x < o + (d.length : Int)) := fun x => by
      rw [covP_perm hp]
      unfold joinPcs addPcs
      rw [covP_append, covP_cons]
      have := inv.2 x
      dsimp only at this
      rw [hl] at this
      dsimp only
      constructor
      · intro q
        have q : covP (List.foldl pcStep ⟨[], r.at_ o, r.rest o d⟩ r.pieces).found x ∨ _ := q.imp id fun q => q.elim id fun q => absurd q (covP_nil x)
        rcases this.mp q with q | q | q
        · exact absurd q (covP_nil x)
        · exact .inr q
        · exact .inl q
      · intro q
        have q := this.mpr (q.elim (fun q => .inr (.inr q)) (fun q => .inr (.inl q)))
        exact q.imp id .inl
    refine ⟨ok, fun x q => (cov x).mpr (.inl q), fun q => ?_, fun q1 q2 x => ?_⟩
    · rw [k2] at q; cases q
    · rw [cov x, h.ack q1 q2 x]
      have a := pmax_is o r.readTo
      unfold Rcv.at_
      constructor
      · rintro ((q | q) | q)
        · exact .inl q
        · exact .inr (.inl q)
        · rcases Int.lt_or_le x r.readTo with k | k
          · left; lia
          · right; right; lia
      · rintro (q | q | q)
        · exact .inl (.inl q)
        · exact .inl (.inr q)
        · right; lia
  · rename_i hc
    subst hp
    refine ⟨h.pcs, fun _ q => q, fun q => (h.stp q).1, fun q1 q2 x => ?_⟩
    have ha := h.ack q1 q2 x
    have hin : (o ≤ x ∧ x < o + (d.length : Int)) → (0 ≤ x ∧ x < r.readTo) ∨ covP r.pieces x := by
      intro q
      rcases Int.lt_or_le x r.readTo with k | k
      · left; lia
      · right
        by_cases hop : r.st.isOpen = true
        · have : r.rest o d = [] := Classical.byContradiction fun q3 => hc ⟨keeps_iff.mpr ⟨hop, q2, by lia⟩, q3⟩
          have := rest_nil (r := r) (by lia) this
          lia
        · have : r.st = .dataRecvd ∨ r.st = .dataRead := done_cases (Bool.not_eq_true _ ▸ hop) q1
          exact (h.dr this).2.2.2 x k (by lia)
    rw [ha]
    exact ⟨fun q => q.elim id hin, .inl⟩
theorem handOk_of (h : Core s r room fly rd) (hw : s.written.length ≤ 900) {ms : Msg} (hm : ms ∈ fly) : HandOk ms s r := by
  have hst := h.stl
  have hsl := h.slim
  have hl2 := h.lim2
  have hr1 := h.rt0
  have hr2 := h.rts
  have hR := h.room2
  have hlen : r.pieces.length ≤ 9 := by have := h.pcs.len hr2; lia
  have hea : ∀ p ∈ r.pieces, p.2.length ≤ 9 := fun p hp => by have := h.pcs.each hp; lia
  cases ms with
  | reset c z =>
    obtain ⟨m1, m2, m3⟩ := h.mr _ _ hm
    refine ⟨fun z' q => ?_, fun _ => ?_, ?_⟩
    · have := (h.fsz z' q).1
      exact ⟨by lia, fun _ => by lia⟩
    · have := h.hi; lia
    · lia
  | data o d e =>
    obtain ⟨m1, m2, m3⟩ := h.md _ _ _ hm
    have h0 := m1.1
    refine ⟨⟨fun z' q => ?_, fun q => ?_, by lia⟩, by lia, by lia, fun k1 k2 => ?_, fun ps' hp => ?_, by lia, ?_, ?_⟩
    · have := (h.fsz z' q).1
      exact ⟨by lia, fun q => by have := (m3 q).2.2.1; lia⟩
    · have := (m3 q).2.2.1
      have := h.hi
      lia
    · obtain ⟨_, _, k3⟩ := keeps_iff.mp k1
      obtain ⟨g, hl⟩ := rest_good h hm k3 k2
      have inv := pc_fold r.pieces ⟨[], r.at_ o, r.rest o d⟩ (h.pcs.inv g)
      refine ⟨fun p hp => by have := hea p hp; lia, ?_, fun i => ?_, starts_nodup inv.1.pcs⟩
      · have := g.2.1
        have := g.2.2.1
        dsimp only at *
        lia
      · have inv := (pc_fold (r.pieces.take i) ⟨[], r.at_ o, r.rest o d⟩ ((h.pcs.take i).inv g)).1
        have hj := inv.j
        have a := hj.2.1
        have b := hj.2.2.1
        have c := PcsOk.len ⟨inv.fg, inv.fo⟩ hr2
        dsimp only at a b
        exact ⟨by lia, by lia⟩
    · have ok := (put_ok h hm hp).ok
      exact ⟨fun p hp => by have := ok.each hp; lia, by have := ok.len hr2; lia⟩
    · have := acked_len h; lia
    · have := lost_len h; lia
theorem fields_streamed (r : Rcv) (o : Int) (d : By) (e : Bool) (ps : List Pc) : (r.streamed o d e ps).limit = r.limit ∧ (r.streamed o d e ps).pieces = ps ∧ (r.streamed o d e ps).readTo = r.readTo ∧
    (r.streamed o d e ps).highest = (r.grown (o + (d.length : Int))).highest ∧ (r.streamed o d e ps).fs = (if e then some (o + (d.length : Int)) else r.fs) ∧ (r.streamed o d e ps).rc = r.rc ∧ (r.streamed o d e ps).stop = r.stop := by
  unfold Rcv.streamed
  dsimp only
  split
  · split
    · exact ⟨rfl, rfl, rfl, rfl, rfl, rfl, rfl⟩
    · exact ⟨rfl, rfl, rfl, rfl, rfl, rfl, rfl⟩
  · exact ⟨rfl, rfl, rfl, rfl, rfl, rfl, rfl⟩
theorem st_streamed (r : Rcv) (o : Int) (d : By) (e : Bool) (ps : List Pc) :
    (r.st.isOpen = false ∧ (r.streamed o d e ps).st = r.st) ∨ (r.st.isOpen = true ∧ (r.streamed o d e ps).fs = none ∧ (r.streamed o d e ps).st = r.st) ∨
    (r.st.isOpen = true ∧ (r.streamed o d e ps).fs.isSome = true ∧ (r.streamed o d e ps).hasAll = true ∧ (r.streamed o d e ps).st = .dataRecvd) ∨ (r.st.isOpen = true ∧ (r.streamed o d e ps).fs.isSome = true ∧ (r.streamed o d e ps).hasAll = false ∧ (r.streamed o d e ps).st = .sizeKnown) := by
  unfold Rcv.streamed
  dsimp only
  by_cases ho : r.st.isOpen = true
  · right
    rw [if_pos ho]
    by_cases hs : (r.known o d e).fs.isSome = true
    · right
      rw [if_pos hs]
      by_cases ha : ({ r.known o d e with pieces := ps } : Rcv).hasAll = true
      · left
        exact ⟨ho, hs, ha, by rw [if_pos ha]⟩
      · right
        exact ⟨ho, hs, Bool.not_eq_true _ ▸ ha, by rw [if_neg ha]⟩
    · left
      rw [if_neg hs]
      exact ⟨ho, by simpa using hs, rfl⟩
  · left
    rw [if_neg ho]
    exact ⟨Bool.not_eq_true _ ▸ ho, rfl⟩
theorem hasAll_iff {s : Snd} {r : Rcv} {lo hi : Int} (h : PcsOk s.written lo hi r.pieces) {z : Int} (hz : r.fs = some z) (hs : r.stop = none) : r.hasAll = true ↔ ∀ x, r.readTo ≤ x → x < z → covP r.pieces x := by
  unfold Rcv.hasAll
  rw [hs, hz, Option.isNone_none, Bool.true_and, Option.getD_some, hasSpan_iff h.apart]
  simp only [cov_coveredBy]
theorem core_handData {fly' : List Msg} {o : Int} {d : By} {e : Bool} {ps : List Pc} (h : Core s r room fly rd) (hm : Msg.data o d e ∈ fly) (hl : Less (.data o d e) fly fly') (hp : r.putIn o d ps) : Core (s.ackData o d.length e) (r.streamed o d e ps) room fly' rd := by
  obtain ⟨m1, m2, m3⟩ := h.md _ _ _ hm
  obtain ⟨p1, p2, p3, p4⟩ := put_ok h hm hp
  have h0 := m1.1
  obtain ⟨r1, r2, r3, r4, r5, r6, r7⟩ := fields_streamed r o d e ps
  have rst := st_streamed r o d e ps
  generalize r.streamed o d e ps = r' at r1 r2 r3 r4 r5 r6 r7 rst ⊢
  have hg : r'.highest ≤ s.sentTo := by rw [r4]; exact grown_le h.hi (by lia)
  -- the sender
  have hcov : ∀ x, covS (addSpan s.acked o (o + (d.length : Int))) x ↔ covS s.acked x ∨ (o ≤ x ∧ x < o + (d.length : Int)) := addSpan_cov h.an
  have han : Nm (-1) (addSpan s.acked o (o + (d.length : Int))) := addSpan_nm h.an (by lia)
  have hall : hasSpan (addSpan s.acked o (o + (d.length : Int))) 0 (s.written.length : Int) = true ↔ ∀ x, 0 ≤ x → x < (s.written.length : Int) → covS (addSpan s.acked o (o + (d.length : Int))) x := hasSpan_iff han.apart
  have sst : ((s.ackData o d.length e).st = s.st ∧ (s.st = .dataSent → (s.ea || e) = true → ¬ ∀ x, 0 ≤ x → x < (s.written.length : Int) → covS (addSpan s.acked o (o + (d.length : Int))) x)) ∨
      ((s.ackData o d.length e).st = .dataRecvd ∧ s.st = .dataSent ∧ (s.ea || e) = true ∧ ∀ x, 0 ≤ x → x < (s.written.length : Int) → covS (addSpan s.acked o (o + (d.length : Int))) x) := by
    unfold Snd.ackData
    dsimp only
    by_cases c : (s.st == .dataSent && (s.ea || e) && hasSpan (addSpan s.acked o (o + (d.length : Int))) 0 (s.written.length : Int)) = true
    · right
      rw [if_pos c]
      rw [Bool.and_eq_true, Bool.and_eq_true] at c
      exact ⟨rfl, eq_of_beq c.1.1, c.1.2, hall.mp c.2⟩
    · left
      rw [if_neg c]
      refine ⟨rfl, fun a b q => c ?_⟩
      rw [Bool.and_eq_true, Bool.and_eq_true]
      exact ⟨⟨by rw [a]; rfl, b⟩, hall.mpr q⟩
  have s1 : (s.ackData o d.length e).limit = s.limit := rfl
  have s2 : (s.ackData o d.length e).written = s.written := rfl
  have s3 : (s.ackData o d.length e).sentTo = s.sentTo := rfl
  have s4 : (s.ackData o d.length e).acked = addSpan s.acked o (o + (d.length : Int)) := rfl
  have s5 : (s.ackData o d.length e).lost = cutSpan s.lost o (o + (d.length : Int)) := rfl
  have s6 : (s.ackData o d.length e).fin = s.fin := rfl
  have s7 : (s.ackData o d.length e).oe = (s.oe && !e) := rfl
  have s8 : (s.ackData o d.length e).ea = (s.ea || e) := rfl
  have s9 : (s.ackData o d.length e).rc = s.rc := rfl
  have s10 : (s.ackData o d.length e).orr = s.orr := rfl
  have hcan : (s.ackData o d.length e).canReset = true → s.canReset = true := fun q => by
    rcases sst with ⟨a, _⟩ | ⟨a, b, _⟩
    · unfold Snd.canReset at q ⊢; rw [a] at q; exact q
    · unfold Snd.canReset; rw [b]; rfl
  generalize s.ackData o d.length e = s' at s1 s2 s3 s4 s5 s6 s7 s8 s9 s10 sst hcan ⊢
  have hop : s'.st.isOpen = true → s.st.isOpen = true ∧ s'.st = s.st := fun q => by
    rcases sst with ⟨a, _⟩ | ⟨a, _⟩
    · rw [← a]; exact ⟨q, rfl⟩
    · rw [a] at q; cases q
  have hcl : s.st.isOpen = false → s'.st.isOpen = false := fun q => by
    rw [Bool.eq_false_iff]
    intro k
    rw [(hop k).1] at q; cases q
  have same : ∀ {x : SS}, x ≠ .dataRecvd → s'.st = x → s.st = x := fun {x} n q => by
    rcases sst with ⟨a, _⟩ | ⟨a, _⟩
    · rw [← a]; exact q
    · rw [a] at q; exact absurd q.symm n
  have keep : ∀ {x : SS}, x ≠ .dataSent → s.st = x → s'.st = x := fun {x} n q => by
    rcases sst with ⟨a, _⟩ | ⟨_, a, _⟩
    · rw [a]; exact q
    · rw [a] at q; exact absurd q.symm n
  -- the reader
  have hfs : ∀ z, r'.fs = some z → z = s.sentTo ∧ s.st.isOpen = false ∧ (e = false → r.fs = some z) := fun z q => by
    rw [r5] at q
    cases e with
    | true =>
      rw [if_pos rfl] at q
      injection q with q
      exact ⟨by have := (m3 rfl).2.2.1; lia, (m3 rfl).2.1, fun q => by cases q⟩
    | false =>
      exact ⟨(h.fsz z q).1, (h.fsz z q).2, fun _ => q⟩
  have rreset : r'.isReset = r.isReset := by
    unfold Rcv.isReset
    rcases rst with ⟨_, a⟩ | ⟨_, _, a⟩ | ⟨b, _, _, a⟩ | ⟨b, _, _, a⟩
    · rw [a]
    · rw [a]
    · rw [a]; rcases ropen b with c | c <;> rw [c] <;> rfl
    · rw [a]; rcases ropen b with c | c <;> rw [c] <;> rfl
  have rclosed : r.st.isOpen = false → r'.st = r.st := fun q => by
    rcases rst with ⟨_, a⟩ | ⟨_, _, a⟩ | ⟨b, _⟩ | ⟨b, _⟩
    · exact a
    · exact a
    · rw [b] at q; cases q
    · rw [b] at q; cases q
  have ropened : r'.st.isOpen = true → r.st.isOpen = true := fun q => by
    rcases rst with ⟨b, a⟩ | ⟨b, _⟩ | ⟨b, _⟩ | ⟨b, _⟩
    · rw [a] at q; exact q
    · exact b
    · exact b
    · exact b
  have hfse : r.st.isOpen = true → r'.fs.isSome = true → s.fin = true ∧ s.sentTo = (s.written.length : Int) := fun q a => by
    cases e with
    | true => exact ⟨(m3 rfl).1, (m3 rfl).2.2.2⟩
    | false => rw [r5] at a; exact h.fse q a
  have hef : s'.ea = true → r'.fs.isSome = true := fun q => by
    rw [s8, Bool.or_eq_true] at q
    rw [r5]
    cases e with
    | true => rfl
    | false =>
      rcases q with q | q
      · exact h.ef q
      · cases q
  have hdr : r'.st = .dataRecvd ∨ r'.st = .dataRead → r'.fs = some s.sentTo ∧ s.sentTo = (s.written.length : Int) ∧ s.fin = true ∧ ∀ x, r.readTo ≤ x → x < s.sentTo → covP ps x := fun q => by
    have old : r.st = .dataRecvd ∨ r.st = .dataRead → r'.fs = some s.sentTo ∧ s.sentTo = (s.written.length : Int) ∧ s.fin = true ∧ ∀ x, r.readTo ≤ x → x < s.sentTo → covP ps x := fun q => by
      obtain ⟨a, b, c, k⟩ := h.dr q
      refine ⟨?_, b, c, fun x x1 x2 => p2 x (k x x1 x2)⟩
      rw [r5]
      cases e with
      | true => rw [if_pos rfl, (m3 rfl).2.2.1]
      | false => exact a
    rcases rst with ⟨_, a⟩ | ⟨_, _, a⟩ | ⟨b, c, k, a⟩ | ⟨b, _, _, a⟩
    · rw [a] at q; exact old q
    · rw [a] at q; exact old q
    · obtain ⟨z, hz⟩ := Option.isSome_iff_exists.mp c
      have hz1 := (hfs z hz).1
      have hstop : r'.stop = none := by
        unfold Rcv.hasAll at k
        rw [Bool.and_eq_true] at k
        exact Option.isNone_iff_eq_none.mp k.1
      have := (hasAll_iff (s := s) (r := r') (by rw [r2]; exact p1) hz hstop).mp k
      rw [r2, r3, hz1] at this
      exact ⟨by rw [hz, hz1], (hfse b c).2, (hfse b c).1, this⟩
    · rw [a] at q; rcases q with q | q <;> cases q
  have hack : r'.isReset = false → r'.stop = none → ∀ x, covS s'.acked x ↔ (0 ≤ x ∧ x < r'.readTo) ∨ covP r'.pieces x := fun q1 q2 x => by
    rw [s4, hcov x, r3, r2]
    exact p4 (by rw [← rreset]; exact q1) (by rw [← r7]; exact q2) x
  exact {
    room1 := h.room1
    room2 := h.room2
    lim1 := by rw [s1, r3]; exact h.lim1
    lim2 := by rw [r1, r3]; exact h.lim2
    rt0 := by rw [r3]; exact h.rt0
    rts := by rw [r3, s3]; exact h.rts
    rdq := by rw [r3, s2]; exact h.rdq
    stl := by rw [s3, s2]; exact h.stl
    slim := by rw [s3, r3]; exact h.slim
    hi := by rw [s3]; exact hg
    an := by rw [s4]; exact han
    ab := fun x q => by
      rw [s4] at q
      rw [s3]
      rcases (hcov x).mp q with q | q
      · exact h.ab x q
      · lia
    ln := by rw [s5]; exact cutSpan_nm h.ln
    lb := fun x q => by rw [s5] at q; rw [s3]; exact h.lb x (cutSpan_cov.mp q).1
    la := fun x q => by
      rw [s5] at q
      rw [s4, hcov x]
      have := cutSpan_cov.mp q
      exact not_or.mpr ⟨h.la x this.1, this.2⟩
    all := fun q x a b => by
      rw [s3] at b
      rw [s4, s5]
      by_cases c : o ≤ x ∧ x < o + (d.length : Int)
      · exact .inl ((hcov x).mpr (.inr c))
      · rcases h.all (hcan q) x a b with q | q | ⟨o', d', e', q, k⟩
        · exact .inl ((hcov x).mpr (.inl q))
        · exact .inr (.inl (cutSpan_cov.mpr ⟨q, c⟩))
        · rcases hl.a _ q with q | q
          · injection q with q1 q2 q3
            subst q1 q2
            exact absurd k c
          · exact .inr (.inr ⟨o', d', e', q, k⟩)
    rdy := fun q => by rw [s3]; exact h.rdy (same (by decide) q)
    fo := fun a b => by
      rw [s6] at a
      have := h.fo a (hop b).1
      cases e with
      | true => have := (m3 rfl).2.1; rw [(hop b).1] at this; cases this
      | false => rw [s7, this]; rfl
    ds := fun q => by
      rw [s6, s3, s2]
      rcases sst with ⟨a, _⟩ | ⟨_, a, _⟩
      · rw [a] at q; exact h.ds q
      · exact h.ds (.inl a)
    de := fun q => by
      rw [s8, s7]
      rcases h.de (same (by decide) q) with k | k | ⟨o', d', k⟩
      · left; rw [k]; rfl
      · cases e with
        | true => left; simp
        | false => right; left; rw [k]; rfl
      · rcases hl.a _ k with k | k
        · injection k with _ _ k
          left; rw [← k]; simp
        · exact .inr (.inr ⟨o', d', k⟩)
    dn := fun q a => by
      have q' := same (by decide) q
      rw [s8] at a
      rw [s3, s4, (h.ds (.inl q')).2]
      rcases sst with ⟨_, k⟩ | ⟨k, _⟩
      · exact k q' a
      · rw [k] at q; cases q
    eo := fun q => by
      have := h.eo (hop q).1
      rw [s8, this]
      cases e with
      | true => have := (m3 rfl).2.1; rw [(hop q).1] at this; cases this
      | false => rfl
    ef := hef
    md := fun o d e q => by
      obtain ⟨a, b, c⟩ := h.md o d e (hl.b _ q)
      rw [s2, s3, s6]
      exact ⟨a, b, fun q => ⟨(c q).1, hcl (c q).2.1, (c q).2.2⟩⟩
    mr := fun c z q => by
      obtain ⟨a, b, c⟩ := h.mr c z (hl.b _ q)
      rw [s9, s3]
      exact ⟨a, b, c.imp (keep (by decide)) (keep (by decide))⟩
    rc1 := fun q => by
      rw [s9]
      exact h.rc1 (q.imp (same (by decide)) (same (by decide)))
    ro := fun q => by rw [s10] at q; exact keep (by decide) (h.ro q)
    rm := fun q => by
      rw [s10]
      rcases h.rm (same (by decide) q) with k | ⟨c, z, k⟩
      · exact .inl k
      · rcases hl.a _ k with k | k
        · cases k
        · exact .inr ⟨c, z, k⟩
    fsz := fun z q => by
      obtain ⟨a, b, _⟩ := hfs z q
      rw [s3]
      exact ⟨a, hcl b⟩
    fse := fun a b => by
      rw [s6, s3, s2]
      exact hfse (ropened a) b
    rrc := fun q => by rw [r6]; exact h.rrc (by rw [← rreset]; exact q)
    rrs := fun q => by
      obtain ⟨a, b⟩ := h.rrs (by rw [← rreset]; exact q)
      rw [r6, s9]
      exact ⟨a, keep (by decide) b⟩
    rr := fun q => by
      have a := h.rr (same (by decide) q)
      rw [rclosed a]; exact a
    stp := fun q => by
      rw [r7] at q
      obtain ⟨a, b, c, k⟩ := h.stp q
      rw [r2]
      refine ⟨p3 q, b.imp (keep (by decide)) (keep (by decide)), ?_⟩
      rcases rst with ⟨_, t⟩ | ⟨_, _, t⟩ | ⟨_, _, u, t⟩ | ⟨_, _, _, t⟩
      · rw [t]; exact ⟨c, k⟩
      · rw [t]; exact ⟨c, k⟩
      · unfold Rcv.hasAll at u
        rw [Bool.and_eq_true, r7, Option.isNone_iff_eq_none] at u
        rw [u.1] at q; cases q
      · rw [t]; exact ⟨by decide, by decide⟩
    dr := fun q => by
      rw [s3, s2, s6, r3, r2]
      exact hdr q
    drd := fun q => by
      rw [r3, s3]
      rcases rst with ⟨_, t⟩ | ⟨_, _, t⟩ | ⟨_, _, _, t⟩ | ⟨_, _, _, t⟩
      · rw [t] at q; exact h.drd q
      · rw [t] at q; exact h.drd q
      · rw [t] at q; cases q
      · rw [t] at q; cases q
    sd := fun q => by
      rcases sst with ⟨a, _⟩ | ⟨_, a, b, c⟩
      · rw [a] at q
        have := h.sd q
        rw [rclosed (by rcases this with t | t <;> rw [t] <;> rfl)]
        exact this
      · have nr : r.isReset = false := by
          rw [Bool.eq_false_iff]; intro t
          have := (h.rrs t).2
          rw [a] at this; cases this
        have ns : r.stop = none := by
          cases t : r.stop with
          | none => rfl
          | some v =>
            rcases (h.stp (by rw [t]; rfl)).2.1 with u | u <;> (rw [a] at u; cases u)
        have hsome := hef (by rw [s8]; exact b)
        rcases rst with ⟨t, u⟩ | ⟨_, t, _⟩ | ⟨_, _, _, t⟩ | ⟨_, _, u, t⟩
        · rw [u]
          exact done_cases t nr
        · rw [t] at hsome; cases hsome
        · exact .inl t
        · exfalso
          obtain ⟨z, hz⟩ := Option.isSome_iff_exists.mp hsome
          have hz1 := (hfs z hz).1
          have := (hasAll_iff (s := s) (r := r') (by rw [r2]; exact p1) hz (by rw [r7]; exact ns)).mpr (fun x x1 x2 => by
            have hx := (hack (by rw [rreset]; exact nr) (by rw [r7]; exact ns) x).mp (by
              rw [s4]
              have := h.rt0
              rw [r3] at x1
              have e2 := (h.ds (.inl a)).2
              exact c x (by lia) (by lia))
            rcases hx with hx | hx
            · lia
            · exact hx)
          rw [u] at this; cases this
    pcs := by rw [s2, r3, s3, r2]; exact p1
    ack := hack }
theorem core_hand {fly' : List Msg} {ms : Msg} {s' : Snd} {r' : Rcv} (h : Core s r room fly rd) (hm : ms ∈ fly) (hl : Less ms fly fly') (hh : Handed2 ms s r s' r') : Core s' r' room fly' rd := by
  cases ms with
  | reset c z =>
    obtain ⟨rfl, rfl⟩ := hh
    exact core_handReset h hm hl
  | data o d e =>
    obtain ⟨ps, hp, rfl, rfl⟩ := hh
    exact core_handData h hm hl hp
end
section
variable {s : Snd} {r : Rcv} {room : Int} {fly : List Msg} {rd : By}
theorem cut_nil {r : Rcv} {most : Int} (h : r.pieces = []) (hm : 0 ≤ most) : r.cut most = ([], []) := by
  unfold Rcv.cut
  rw [h]
  show (if ((([] : By).length : Int) > most) then _ else (([] : By), ([] : List Pc))) = _
  rw [if_neg (by simp; omega)]
theorem st_readData (r : Rcv) (most : Int) : ((r.readData most).st = r.st ∧ ¬ (r.st = .dataRecvd ∧ r.fs = some (r.readTo + ((r.cut most).1.length : Int)))) ∨ ((r.readData most).st = .dataRead ∧ r.st = .dataRecvd ∧ r.fs = some (r.readTo + ((r.cut most).1.length : Int))) := by
  unfold Rcv.readData
  dsimp only
  by_cases c : (r.st == .dataRecvd && decide (r.fs = some (r.readTo + ((r.cut most).1.length : Int)))) = true
  · rw [if_pos c]
    rw [Bool.and_eq_true, decide_eq_true_eq] at c
    exact .inr ⟨rfl, eq_of_beq c.1, c.2⟩
  · rw [if_neg c]
    refine .inl ⟨rfl, fun q => c ?_⟩
    rw [Bool.and_eq_true, decide_eq_true_eq]
    exact ⟨by rw [q.1]; rfl, q.2⟩
theorem take_next {wr d : By} {n : Nat} (h : d = (wr.drop n).take d.length) : wr.take n ++ d = wr.take (n + d.length) := by
  rw [List.take_add, ← h]
theorem core_readData (h : Core s r room fly rd) {most : Int} (hm : 0 ≤ most) (hr : r.isReset = false) :
    Core (s.raise ((r.readData most).readTo + room)) ((r.readData most).raise ((r.readData most).readTo + room)) room fly (rd ++ (r.cut most).1) := by
  have hc := cut_ok h.pcs h.rt0 h.rts hm
  have hst := st_readData r most
  have e1 : (r.readData most).readTo = r.readTo + ((r.cut most).1.length : Int) := rfl
  have e2 : (r.readData most).pieces = (r.cut most).2 := rfl
  have e3 : (r.readData most).fs = r.fs := rfl
  have e4 : (r.readData most).rc = r.rc := rfl
  have e5 : (r.readData most).stop = r.stop := rfl
  have e6 : (r.readData most).limit = r.limit := rfl
  have e7 : (r.readData most).highest = r.highest := rfl
  generalize r.readData most = r' at *
  have hcn := fun (q : r.pieces = []) => cut_nil (most := most) q hm
  generalize r.cut most = c at *
  obtain ⟨told, ps⟩ := c
  dsimp only at *
  obtain ⟨c1, c2, c3, c4, c5, _⟩ := hc
  dsimp only at c1 c2 c3 c4 c5
  have h1 := h.rt0
  have h2 := h.rts
  have h3 := h.stl
  have h4 := h.slim
  have l1 := h.lim1
  have l2 := h.lim2
  have m1 := pmax_is s.limit (r'.readTo + room)
  have m2 := pmax_is r'.limit (r'.readTo + room)
  have hop : r'.st.isOpen = r.st.isOpen := by
    rcases hst with ⟨a, _⟩ | ⟨a, b, _⟩
    · rw [a]
    · rw [a, b]; rfl
  have hnr : r'.isReset = false := by
    unfold Rcv.isReset at hr ⊢
    rcases hst with ⟨a, _⟩ | ⟨a, _⟩
    · rw [a]; exact hr
    · rw [a]; rfl
  have hdone : r'.st = .dataRecvd ∨ r'.st = .dataRead → r.st = .dataRecvd ∨ r.st = .dataRead := fun q => by
    rcases hst with ⟨a, _⟩ | ⟨_, a, _⟩
    · rw [a] at q; exact q
    · exact .inl a
  have hcov : ∀ x, r'.readTo ≤ x → covP r.pieces x → covP ps x := fun x a b => by
    rcases (c2 x).mp b with q | q
    · exact q
    · lia
  exact { h with
    lim1 := by show pmax s.limit (r'.readTo + room) = r'.readTo + room; lia
    lim2 := by show pmax r'.limit (r'.readTo + room) = r'.readTo + room; lia
    rt0 := by show 0 ≤ r'.readTo; lia
    rts := by show r'.readTo ≤ s.sentTo; lia
    rdq := by
      show rd ++ told = s.written.take r'.readTo.toNat
      rw [e1, h.rdq, take_next c3.eq]
      congr 1
      lia
    slim := by show s.sentTo ≤ r'.readTo + room; lia
    hi := by show r'.highest ≤ s.sentTo; rw [e7]; exact h.hi
    ef := fun q => by show r'.fs.isSome = true; rw [e3]; exact h.ef q
    fsz := fun z q => h.fsz z (by rw [← e3]; exact q)
    fse := fun a b => h.fse (by rw [← hop]; exact a) (by rw [← e3]; exact b)
    rrc := fun _ => by show r'.rc = none; rw [e4]; exact h.rrc hr
    rrs := fun q => by have q : r'.isReset = true := q; rw [hnr] at q; cases q
    rr := fun q => by show r'.st.isOpen = false; rw [hop]; exact h.rr q
    stp := fun q => by
      have q : r'.stop.isSome = true := q
      rw [e5] at q
      obtain ⟨a, b, c, k⟩ := h.stp q
      have hn : r'.st = r.st := by
        rcases hst with ⟨t, _⟩ | ⟨_, t, _⟩
        · exact t
        · exact absurd t c
      refine ⟨?_, b, ?_⟩
      · show r'.pieces = []
        rw [e2]
        exact congrArg Prod.snd (hcn a)
      · show r'.st ≠ _ ∧ r'.st ≠ _
        rw [hn]; exact ⟨c, k⟩
    dr := fun q => by
      obtain ⟨a, b, c, k⟩ := h.dr (hdone q)
      refine ⟨by show r'.fs = some s.sentTo; rw [e3]; exact a, b, c, fun x x1 x2 => ?_⟩
      show covP r'.pieces x
      have x1 : r'.readTo ≤ x := x1
      rw [e2]
      exact hcov x x1 (k x (by lia) x2)
    drd := fun q => by
      have q : r'.st = .dataRead := q
      show r'.readTo = s.sentTo
      rcases hst with ⟨a, _⟩ | ⟨_, a, b⟩
      · rw [a] at q
        have := h.drd q
        lia
      · rw [← e1] at b
        exact (h.fsz _ b).1
    sd := fun q => by
      show r'.st = _ ∨ r'.st = _
      rcases hst with ⟨a, _⟩ | ⟨a, _⟩
      · rw [a]; exact h.sd q
      · exact .inr a
    pcs := by
      show PcsOk s.written r'.readTo s.sentTo r'.pieces
      rw [e1, e2]; exact c1
    ack := fun _ q2 x => by
      show covS s.acked x ↔ (0 ≤ x ∧ x < r'.readTo) ∨ covP r'.pieces x
      rw [e1, e2, h.ack hr (by rw [← e5]; exact q2) x, c2 x]
      constructor
      · rintro (q | q | q)
        · left; lia
        · exact .inr q
        · left; lia
      · rintro (q | q)
        · rcases Int.lt_or_le x r.readTo with k | k
          · left; lia
          · right; right; lia
        · exact .inr (.inl q) }
theorem core_readReset (h : Core s r room fly rd) (hr : r.isReset = true) : Core (s.raise (r.readReset.readTo + room)) (r.readReset.raise (r.readReset.readTo + room)) room fly rd := by
  have l1 := h.lim1
  have l2 := h.lim2
  have m1 := pmax_is s.limit (r.readTo + room)
  have m2 := pmax_is r.limit (r.readTo + room)
  exact { h with
    lim1 := by show pmax s.limit (r.readTo + room) = r.readTo + room; lia
    lim2 := by show pmax r.limit (r.readTo + room) = r.readTo + room; lia
    fse := fun q => by cases q
    rrc := fun q => by cases q
    rrs := fun _ => h.rrs hr
    rr := fun _ => rfl
    stp := fun q => ⟨(h.stp q).1, (h.stp q).2.1, by show RS.resetRead ≠ _; decide, by show RS.resetRead ≠ _; decide⟩
    dr := fun q => by rcases q with q | q <;> cases q
    drd := fun q => by cases q
    sd := fun q => by
      have q : s.st = .dataRecvd := q
      have := (h.rrs hr).2
      rw [q] at this; cases this
    ack := fun q => by cases q }
/-- what a read brings -/
theorem core_read (h : Core s r room fly rd) {most : Int} (hm : 0 ≤ most) :
    Core (s.raise ((r.read most).2.2.readTo + room)) ((r.read most).2.2.raise ((r.read most).2.2.readTo + room)) room fly (rd ++ (r.read most).1) := by
  unfold Rcv.read
  by_cases hr : r.isReset = true
  · rw [if_pos hr]
    dsimp only
    rw [List.append_nil]
    exact core_readReset h hr
  · rw [if_neg hr]
    exact core_readData h hm (Bool.not_eq_true _ ▸ hr)
theorem readOk_of (h : Core s r room fly rd) {most : Int} (hm : 0 ≤ most) : ReadOk most s r s.written rd := by
  unfold ReadOk Rcv.read
  by_cases hr : r.isReset = true
  · rw [if_pos hr]
    dsimp only
    refine ⟨by simp, by simp; lia, rfl, fun _ => .inr ?_⟩
    obtain ⟨⟨c, e, _⟩, _⟩ := h.rrs hr
    show r.rc.isSome = true
    rw [e]; rfl
  · rw [if_neg hr]
    have hr : r.isReset = false := Bool.not_eq_true _ ▸ hr
    have hc := cut_ok h.pcs h.rt0 h.rts hm
    have hcore := core_readData h hm hr
    have h1 := h.rt0
    have h2 := h.rts
    have h3 := h.stl
    have hl : rd.length = r.readTo.toNat := by rw [h.rdq, List.length_take]; lia
    have hst := st_readData r most
    dsimp only
    refine ⟨by rw [hl]; exact hc.sl.eq, hc.le, ?_, fun q => .inl ?_⟩
    · have : ((r.readData most).st == .resetRead) = false := by
        unfold Rcv.isReset at hr
        rcases hst with ⟨a, _⟩ | ⟨a, _⟩
        · rw [a]; rw [Bool.or_eq_false_iff] at hr; exact hr.2
        · rw [a]; rfl
      rw [this, Bool.or_false]
    · have q : (r.readData most).st = .dataRead := eq_of_beq q
      have a := hcore.drd q
      have b := (hcore.dr (.inr q)).2.1
      have c := (hcore.dr (.inr q)).2.2.1
      have d := hcore.rdq
      refine ⟨d.trans ?_, c⟩
      have a : (r.readData most).readTo = s.sentTo := a
      have b : s.sentTo = (s.written.length : Int) := b
      show s.written.take (r.readData most).readTo.toNat = s.written
      rw [a, b]
      exact List.take_of_length_le (by lia)
/-- all is read, where all has come -/
theorem read_all (h : Core s r room fly rd) {most : Int} (hm : 9 ≤ most) (hr : r.isReset = false) (ha : ∀ x, r.readTo ≤ x → x < s.sentTo → covP r.pieces x) : (r.readData most).readTo = s.sentTo := by
  have hc := cut_ok h.pcs h.rt0 h.rts (by lia : 0 ≤ most)
  have h1 := h.slim
  have h2 := h.room2
  have hh := hc.hh
  have hall := hc.all (by lia)
  show r.readTo + ((r.cut most).1.length : Int) = s.sentTo
  rcases Int.lt_or_le (r.readTo + ((r.cut most).1.length : Int)) s.sentTo with k | k
  · exfalso
    rcases (hc.cov _).mp (ha _ (by lia) k) with ⟨p, hp, q, _⟩ | q
    · have := hall p hp
      lia
    · lia
  · lia
end
/-- between the deeds -/
structure Inv (k : Nat) (W : Wd) : Prop where
  core : Core W.snd W.rcv W.room W.fly W.read
  wr : W.written = W.snd.written
  len : W.written.length ≤ 5 * k
  fl : W.fly.length ≤ k
theorem inv_init {room : Int} (h : 4 ≤ room) (h' : room ≤ 9) : Inv 0 (Wd.init room) := ⟨core_init h h', rfl, Nat.le_refl _, Nat.le_refl _⟩
theorem read_len {s : Snd} {r : Rcv} {room : Int} {fly : List Msg} {rd : By} (h : Core s r room fly rd) : rd.length ≤ s.written.length := by
  rw [h.rdq, List.length_take]; lia
theorem inv_ready {k : Nat} {W : Wd} (h : Inv k W) (hk : k ≤ 29) : Ready W := by
  obtain ⟨c, wr, len, fl⟩ := h
  have hr2 := c.rts
  have hs := c.slim
  have hR := c.room2
  have hw : W.snd.written.length ≤ 145 := by rw [← wr]; lia
  have hp := c.pcs.len hr2
  exact {
    wl := by lia
    sw := by lia
    rl := by have := read_len c; lia
    fl := by lia
    pl := by lia
    pd := fun p hp => by have := c.pcs.each hp; lia
    ll := by have := lost_len c; lia
    al := by have := acked_len c; lia
    orr := fun q => Option.isSome_iff_exists.mp (c.rc1 (.inl (c.ro q)))
    lo := fun most hm => (span_ok c hm).lo
    hi := fun most hm => by have a := (span_ok c hm).lo; have b := (span_ok c hm).le; lia
    rd := fun most hm => by rw [wr]; exact readOk_of c hm
    hand := fun ms hm => handOk_of c (by lia) hm
    lost := fun o b e hm => lostOk_of c (by lia) hm }
theorem wr_read (W : Wd) (most : Int) : (W.readIt most).written = W.written ∧ (W.readIt most).snd.written = W.snd.written := ⟨rfl, rfl⟩
theorem wr_reset (s : Snd) (c : Int) : (s.reset c).written = s.written := by unfold Snd.reset; split <;> rfl
theorem wr_finish (s : Snd) : s.finish.written = s.written := by unfold Snd.finish; split <;> rfl
theorem wr_ended (s : Snd) : s.ended.written = s.written := by unfold Snd.ended; split; exact wr_finish s; rfl
theorem wr_lose (s : Snd) (m : Msg) : (s.lose m).written = s.written := by
  cases m with
  | reset c z => rfl
  | data o d e => show (s.loseData o d.length e).written = s.written; unfold Snd.loseData; split <;> rfl
theorem wr_owed (s : Snd) (most : Int) : (s.owed most).2.written = s.written := by
  unfold Snd.owed
  split
  · rfl
  · split <;> rfl
theorem wr_hand {ms : Msg} {s s' : Snd} {r r' : Rcv} (h : Handed2 ms s r s' r') : s'.written = s.written := by
  cases ms with
  | reset c z => obtain ⟨_, rfl⟩ := h; rfl
  | data o d e => obtain ⟨_, _, _, rfl⟩ := h; rfl
theorem erase_len {α : Type} {l : List α} (j : Nat) : (l.eraseIdx j).length ≤ l.length := List.length_eraseIdx_le _ _
theorem inv_step {k : Nat} {W W' : Wd} (h : Inv k W) (hk : k < 29) (s : Step W W') : Inv (k + 1) W' := by
  obtain ⟨c, wr, len, fl⟩ := h
  cases s with
  | write b e ho hf h1 h2 =>
    have c1 := core_write c b ho hf
    refine ⟨?_, ?_, by dsimp only; rw [List.length_append]; lia, by dsimp only; lia⟩
    · dsimp only
      split
      · exact core_finish c1 ho
      · exact c1
    · dsimp only
      rw [wr]
      split
      · rw [wr_finish]; rfl
      · rfl
  | read most h1 h2 => exact ⟨core_read c h1, wr, by show W.written.length ≤ _; lia, by show W.fly.length ≤ _; lia⟩
  | reset => exact ⟨core_reset c 7, by dsimp only; rw [wr_reset]; exact wr, by dsimp only; lia, by dsimp only; lia⟩
  | stop hc => exact ⟨core_stop2 c 5 hc, by dsimp only; rw [wr_reset]; exact wr, by dsimp only; lia, by dsimp only; lia⟩
  | idle => exact ⟨c, wr, by lia, by lia⟩
  | hand i ms fly s r hi hf hh =>
    have hl : Less ms W.fly fly ∧ fly.length ≤ W.fly.length := by
      rcases hf with rfl | ⟨j, hj, rfl⟩
      · exact ⟨less_self _ _, Nat.le_refl _⟩
      · exact ⟨less_erase hj, erase_len j⟩
    exact ⟨core_hand c (List.mem_of_getElem? hi) hl.1 hh, by dsimp only; rw [wr_hand hh]; exact wr, by dsimp only; lia, by dsimp only; lia⟩
  | lose i ms hi =>
    refine ⟨core_lose c (List.mem_of_getElem? hi) (less_erase hi), by dsimp only; rw [wr_lose]; exact wr, by dsimp only; lia, ?_⟩
    have := erase_len (l := W.fly) i
    dsimp only; lia
  | owed most h1 h2 =>
    refine ⟨core_owed c h1, by dsimp only; rw [wr_owed]; exact wr, by dsimp only; lia, ?_⟩
    dsimp only
    rw [List.length_append]
    have : (W.snd.owed most).1.toList.length ≤ 1 := by cases (W.snd.owed most).1 <;> simp
    lia
theorem core_loseAll {r : Rcv} {room : Int} {rd : By} : ∀ (l f : List Msg) (s : Snd), Core s r room (l ++ f) rd → Core (l.foldl Snd.lose s) r room f rd
  | [], _, _, h => h
  | m :: l, f, s, h => core_loseAll l f (s.lose m) (core_lose h (.head _) ⟨fun x hx => (List.mem_cons.mp hx), fun x hx => .tail _ hx⟩)
theorem wr_loseAll : ∀ (l : List Msg) (s : Snd), (l.foldl Snd.lose s).written = s.written
  | [], _ => rfl
  | m :: l, s => (wr_loseAll l (s.lose m)).trans (wr_lose s m)
theorem core_ended {s : Snd} {r : Rcv} {room : Int} {fly : List Msg} {rd : By} (h : Core s r room fly rd) : Core s.ended r room fly rd := by
  unfold Snd.ended
  split
  · exact core_finish h (by assumption)
  · exact h
theorem core_lostTo {k : Nat} {W : Wd} (h : Inv k W) (i : Nat) : Core (W.lostTo i).snd W.rcv W.room (W.fly.drop i) W.read ∧ (W.lostTo i).snd.written = W.snd.written := by
  refine ⟨core_loseAll (W.fly.take i) (W.fly.drop i) W.snd.ended ?_, (wr_loseAll _ _).trans (wr_ended _)⟩
  rw [List.take_append_drop]
  exact core_ended h.core
theorem inv_lost {k : Nat} {W : Wd} (h : Inv k W) (hk : k ≤ 29) {i : Nat} {o : Int} {b : By} {e : Bool} (hm : W.fly[i]? = some (.data o b e)) : b.length ≤ 1000 ∧ LostOk (W.lostTo i).snd o b.length := by
  obtain ⟨c, w⟩ := core_lostTo h i
  refine lostOk_of c (by rw [w, ← h.wr]; have := h.len; lia) (e := e) ?_
  have : (W.fly.drop i)[0]? = some (.data o b e) := by rw [List.getElem?_drop]; exact hm
  exact List.mem_of_getElem? this
/-- how many turns are left -/
noncomputable def Snd.left (s : Snd) : Int := if s.canReset then (s.lost.length : Int) + ((s.written.length : Int) - s.sentTo + 3) / 4 + 1 else if s.st = .resetSent then 1 else 0
/-- the end is written; what is under way is lost; both ends are as far as they can be -/
structure Inv3 (k : Nat) (W : Wd) : Prop where
  core : Core W.snd W.rcv W.room [] W.read
  wr : W.written = W.snd.written
  len : W.written.length ≤ 145
  fin : W.snd.st.isOpen = true → W.snd.fin = true
  upto : 1 ≤ k → W.rcv.st ≠ .resetRecvd ∧ W.rcv.st ≠ .dataRecvd ∧ (W.snd.canReset = true → W.snd.lost = [] → W.rcv.readTo = W.snd.sentTo)
  left : (k = 0 ∧ W.snd.left ≤ 48) ∨ (1 ≤ k ∧ (W.snd.left = 0 ∨ W.snd.left + k ≤ 49))
theorem left_pos {s : Snd} (h : s.sentTo ≤ (s.written.length : Int)) : 0 ≤ s.left ∧ (s.canReset = true → 1 ≤ s.left) := by
  unfold Snd.left
  constructor
  · split
    · lia
    · split <;> lia
  · intro q
    rw [if_pos q]; lia
theorem Nm.raise {l : List Sp} {b b' : Int} (h : Nm b l) (k : ∀ x, covS l x → b' < x) : Nm b' l := by
  cases l with
  | nil => trivial
  | cons p l =>
    obtain ⟨h1, h2, h3⟩ := h
    exact ⟨k p.1 (covS_cons.mpr (.inl ⟨Int.le_refl _, h2⟩)), h2, h3⟩
/-- while more may be sent, the reader takes all in -/
theorem sends {s : Snd} {r : Rcv} {room : Int} {fly : List Msg} {rd : By} (h : Core s r room fly rd) (hc : s.canReset = true) : r.isReset = false ∧ r.stop = none := by
  constructor
  · rw [Bool.eq_false_iff]; intro t
    exact (not_reset hc).2 (h.rrs t).2
  · cases t : r.stop with
    | none => rfl
    | some v =>
      rcases (h.stp (by rw [t]; rfl)).2.1 with u | u
      · exact absurd u (not_reset hc).1
      · exact absurd u (not_reset hc).2
theorem lost_lo {s : Snd} {r : Rcv} {room : Int} {fly : List Msg} {rd : By} (h : Core s r room fly rd) (hc : s.canReset = true) {x : Int} (q : covS s.lost x) : r.readTo ≤ x := by
  obtain ⟨a, b⟩ := sends h hc
  have h1 := h.ln.cov_lo q
  rcases Int.lt_or_le x r.readTo with k | k
  · exact absurd ((h.ack a b x).mpr (.inl ⟨by lia, k⟩)) (h.la x q)
  · exact k
theorem inv3_init {k : Nat} {W : Wd} (h : Inv k W) (hk : k ≤ 29) : Inv3 0 (W.lostTo W.fly.length) := by
  obtain ⟨c, w⟩ := core_lostTo h W.fly.length
  rw [List.drop_length] at c
  have hl := h.len
  refine ⟨c, by rw [w]; exact h.wr, by show W.written.length ≤ _; lia, fun q => ?_, fun q => by lia, .inl ⟨rfl, ?_⟩⟩
  · have hf : ∀ (l : List Msg) (s : Snd), (s.st.isOpen = true → s.fin = true) → ((l.foldl Snd.lose s).st.isOpen = true → (l.foldl Snd.lose s).fin = true) := by
      intro l
      induction l with
      | nil => intro s h; exact h
      | cons m l ih =>
        intro s h
        refine ih (s.lose m) ?_
        cases m with
        | reset c z => exact h
        | data o d e => show (s.loseData o d.length e).st.isOpen = true → (s.loseData o d.length e).fin = true; unfold Snd.loseData; split <;> exact h
    refine hf _ W.snd.ended ?_ q
    unfold Snd.ended
    split
    · intro _
      unfold Snd.finish
      split
      · assumption
      · rfl
    · rename_i n
      intro q; exact absurd q n
  · unfold Snd.left
    split
    · rename_i hc
      have h1 := c.slim
      have h2 := c.room2
      have h3 := c.rts
      have h4 := c.stl
      have h0 := c.rt0
      have h5 := (c.ln.raise (b' := (W.lostTo W.fly.length).rcv.readTo - 1) fun x q => by have := lost_lo c hc q; show W.rcv.readTo - 1 < x; lia).len c.lb (by show W.rcv.readTo - 1 ≤ _; lia)
      have h6 : (W.lostTo W.fly.length).rcv.readTo = W.rcv.readTo := rfl
      rw [h6] at h5
      have h7 : ((W.lostTo W.fly.length).snd.written.length : Int) ≤ 145 := by rw [w, ← h.wr]; lia
      lia
    · split <;> lia
theorem owed_core {s : Snd} {r : Rcv} {room : Int} {rd : By} (h : Core s r room [] rd) : Core (s.owed 9).2 r room ((s.owed 9).1.toList) rd := core_owed h (by lia)
theorem less_one (ms : Msg) : Less ms [ms] [] := ⟨fun m h => .inl (List.mem_singleton.mp h), fun _ h => nomatch h⟩
theorem sent_core {W : Wd} {s : Snd} {r : Rcv} (h : Core W.snd W.rcv W.room [] W.read) (q : Sent3 W s r) : Core s r W.room [] W.read ∧ s.written = W.snd.written := by
  have c := owed_core h
  have w := wr_owed W.snd 9
  unfold Sent3 at q
  generalize W.snd.owed 9 = o at *
  obtain ⟨om, os⟩ := o
  cases om with
  | none => obtain ⟨rfl, rfl⟩ := q; exact ⟨c, w⟩
  | some ms => exact ⟨core_hand c (.head _) (less_one ms) q, (wr_hand q).trans w⟩
theorem inv3_rdy {k : Nat} {W : Wd} (h : Inv3 k W) : Ready3 W := by
  obtain ⟨c, wr, len, fin, upto, left⟩ := h
  have hw : W.snd.written.length ≤ 145 := by rw [← wr]; lia
  exact {
    orr := fun q => Option.isSome_iff_exists.mp (c.rc1 (.inl (c.ro q)))
    sw := by lia
    ll := by have := lost_len c; lia
    lo := (span_ok c (by lia)).lo
    hi := by have a := (span_ok c (by lia : (1 : Int) ≤ 9)).lo; have b := (span_ok c (by lia : (1 : Int) ≤ 9)).le; lia
    hand := fun ms q => by
      have c1 := owed_core c
      rw [q] at c1
      exact handOk_of c1 (by rw [wr_owed]; lia) (.head _)
    wl := by lia
    rl := by have := read_len c; lia
    read := fun s r q => by
      obtain ⟨c1, w1⟩ := sent_core c q
      have hr2 := c1.rts
      have hs := c1.slim
      have hR := c1.room2
      have hp := c1.pcs.len hr2
      exact ⟨fun p hp => by have := c1.pcs.each hp; lia, by lia, by rw [wr, ← w1]; exact readOk_of c1 (by lia)⟩ }
theorem inv3_ready {k : Nat} {W : Wd} (h : Inv3 k W) (_ : k < 60) : Ready3 W := inv3_rdy h
section
variable {s : Snd} {r : Rcv} {room : Int} {rd : By}
/-- the end told and acked, nothing lost: it is over -/
theorem end_left (h : Core s r room [] rd) (he : s.ea = true) (hl : s.lost = []) (ho : s.orr = false) : s.left = 0 := by
  have hn : ¬ s.canReset = true := fun q => by
    rcases can_cases q with e | e | e
    · have := h.eo (by rw [e]; rfl); rw [he] at this; cases this
    · have := h.eo (by rw [e]; rfl); rw [he] at this; cases this
    · refine h.dn e he fun x a b => ?_
      rcases h.all q x a b with k | k | ⟨_, _, _, k, _⟩
      · exact k
      · rw [hl] at k; exact absurd k (covS_nil x)
      · nomatch k
  unfold Snd.left
  rw [if_neg hn, if_neg]
  intro e
  rcases h.rm e with k | ⟨_, _, k⟩
  · rw [ho] at k; cases k
  · nomatch k
theorem done_left (h : Core s r room [] rd) (hn : ¬ s.canReset = true) (ho : s.orr = false) : s.left = 0 := by
  unfold Snd.left
  rw [if_neg hn, if_neg]
  intro e
  rcases h.rm e with k | ⟨_, _, k⟩
  · rw [ho] at k; cases k
  · nomatch k
theorem left_ack {o n : Int} {e : Bool} (h : s.sentTo ≤ (s.written.length : Int)) (hc : cutSpan s.lost o (o + n) = s.lost) : (s.ackData o n e).left ≤ s.left := by
  have hp := left_pos h
  unfold Snd.left
  have e1 : (s.ackData o n e).lost = s.lost := hc
  have e2 : (s.ackData o n e).written = s.written := rfl
  have e3 : (s.ackData o n e).sentTo = s.sentTo := rfl
  have e4 : (s.ackData o n e).st = s.st ∨ (s.ackData o n e).st = .dataRecvd := by
    unfold Snd.ackData
    dsimp only
    split
    · exact .inr rfl
    · exact .inl rfl
  rw [e1, e2, e3]
  unfold Snd.left at hp
  unfold Snd.canReset at hp ⊢
  rcases e4 with e4 | e4
  · rw [e4]; exact Int.le_refl _
  · rw [e4]
    exact hp.1
theorem span_cons (h : Core s r room [] rd) (hc : s.canReset = true) {q : Sp} {l : List Sp} (e : s.lost = q :: l) : s.span 9 = q := by
  have h1 := h.slim
  have h2 := h.room2
  have hn := h.ln
  have hb := h.lb (q.2 - 1)
  have ha := lost_lo h hc (x := q.1)
  rw [e] at hn hb ha
  obtain ⟨n1, n2, _⟩ := hn
  have hb := hb (covS_cons.mpr (.inl ⟨by lia, by lia⟩))
  have ha := ha (covS_cons.mpr (.inl ⟨by lia, by lia⟩))
  unfold Snd.span
  rw [e]
  unfold firstSpan
  dsimp only
  rw [if_neg (by decide)]
  dsimp only
  have : pmin q.2 (q.1 + 9) = q.2 := by unfold pmin; rw [if_neg (by lia)]
  rw [this]
theorem span_nil {most : Int} (e : s.lost = []) : s.span most = (s.sentTo, s.sentTo + pmax 0 (pmin most s.newRoom)) := by
  unfold Snd.span
  rw [e]; rfl
theorem all_acked (h : Core s r room [] rd) (hc : s.canReset = true) (e : s.lost = []) : ∀ x, 0 ≤ x → x < s.sentTo → covS s.acked x := fun x a b => by
  rcases h.all hc x a b with k | k | ⟨_, _, _, k, _⟩
  · exact k
  · rw [e] at k; exact absurd k (covS_nil x)
  · nomatch k
/-- how far a new chunk goes -/
theorem new_len (h : Core s r room [] rd) (hc : s.canReset = true) (hf : s.st.isOpen = true → s.fin = true) (e : s.lost = []) (hu : r.readTo = s.sentTo) :
    (0 < pmax 0 (pmin 9 s.newRoom) ∧ (4 ≤ pmax 0 (pmin 9 s.newRoom) ∨ s.sentTo + pmax 0 (pmin 9 s.newRoom) = (s.written.length : Int))) ∨ (pmax 0 (pmin 9 s.newRoom) = 0 ∧ s.isEnd (s.span 9) = true) := by
  have h1 := h.room1
  have h2 := h.lim1
  have h3 := h.stl
  have hE : pmax 0 (pmin 9 s.newRoom) = 0 → s.sentTo = (s.written.length : Int) → s.fin = true → s.oe = true → s.isEnd (s.span 9) = true := fun a b c d => by
    rw [span_nil e]
    unfold Snd.isEnd
    rw [c, d, a]
    simp [b]
  by_cases ho : s.st.isOpen = true
  · have hf := hf ho
    have hoe := h.fo hf ho
    have hn : s.newRoom = pmax 0 (pmin s.written.length s.limit - s.sentTo) := by unfold Snd.newRoom; rw [if_pos ho]
    have a := pmin_is (s.written.length : Int) s.limit
    have b := pmax_is 0 (pmin (s.written.length : Int) s.limit - s.sentTo)
    rw [← hn] at b
    have c := pmin_is 9 s.newRoom
    have d := pmax_is 0 (pmin 9 s.newRoom)
    by_cases k : s.sentTo = (s.written.length : Int)
    · exact .inr ⟨by omega, hE (by omega) k hf hoe⟩
    · left; omega
  · have hst : s.st = .dataSent := by
      rcases can_cases hc with q | q | q
      · rw [q] at ho; exact absurd rfl ho
      · rw [q] at ho; exact absurd rfl ho
      · exact q
    have hd := h.ds (.inl hst)
    have hn : s.newRoom = 0 := by unfold Snd.newRoom; rw [if_neg ho]
    have hz : pmax 0 (pmin 9 s.newRoom) = 0 := by rw [hn]; decide
    have hoe : s.oe = true := by
      rcases h.de hst with q | q | ⟨_, _, q⟩
      · exact absurd (all_acked h hc e) (h.dn hst q)
      · exact q
      · nomatch q
    exact .inr ⟨hz, hE hz hd.2 hd.1 hoe⟩
theorem fin_of (h : Core s r room [] rd) (hc : s.canReset = true) (hf : s.st.isOpen = true → s.fin = true) : s.fin = true := by
  rcases can_cases hc with q | q | q
  · exact hf (by rw [q]; rfl)
  · exact hf (by rw [q]; rfl)
  · exact (h.ds (.inl q)).1
end
theorem sent_left {W : Wd} {s : Snd} {r : Rcv} (h : Core W.snd W.rcv W.room [] W.read) (hf : W.snd.st.isOpen = true → W.snd.fin = true) (q : Sent3 W s r) :
    s.left ≤ W.snd.left ∧ ((W.snd.canReset = true → W.snd.lost = [] → W.rcv.readTo = W.snd.sentTo) → s.left = 0 ∨ s.left + 1 ≤ W.snd.left) ∧ (s.st.isOpen = true → s.fin = true) := by
  have hcore := (sent_core h q).1
  have hpos := left_pos h.stl
  unfold Sent3 at q
  by_cases ho : W.snd.orr = true
  · have eo : W.snd.owed 9 = (some (.reset (W.snd.rc.getD 0) W.snd.sentTo), W.snd.resetTold) := by unfold Snd.owed; rw [if_pos ho]
    rw [eo] at q
    obtain ⟨_, rfl⟩ := q
    have hst := h.ro ho
    have est : W.snd.resetTold.ackReset.st = .resetRecvd := by
      show (if W.snd.st == .resetSent then SS.resetRecvd else W.snd.st) = _
      rw [hst]; rfl
    have hn : ¬ W.snd.resetTold.ackReset.canReset = true := by unfold Snd.canReset; rw [est]; decide
    have hz := done_left hcore hn rfl
    refine ⟨by rw [hz]; exact hpos.1, fun _ => .inl hz, fun k => ?_⟩
    rw [est] at k; cases k
  · have ho' : W.snd.orr = false := Bool.not_eq_true _ ▸ ho
    by_cases hch : W.snd.chunks 9 = true
    · have eo : W.snd.owed 9 = (some (.data (W.snd.chunkOf 9).1 (W.snd.chunkOf 9).2.1 (W.snd.chunkOf 9).2.2), W.snd.chunked 9) := by unfold Snd.owed; rw [if_neg ho, if_pos hch]
      rw [eo] at q
      have q : Handed2 (.data (W.snd.chunkOf 9).1 (W.snd.chunkOf 9).2.1 (W.snd.chunkOf 9).2.2) (W.snd.chunked 9) W.rcv s r := q
      obtain ⟨ps, _, _, rfl⟩ := q
      have hc : W.snd.canReset = true := by unfold Snd.chunks at hch; rw [Bool.and_eq_true] at hch; exact hch.1
      have so := span_ok h (by decide : (1 : Int) ≤ 9)
      have hlen : ((W.snd.chunkOf 9).2.1.length : Int) = (W.snd.span 9).2 - (W.snd.span 9).1 := chunk_len so
      have hend : (W.snd.chunkOf 9).1 + ((W.snd.chunkOf 9).2.1.length : Int) = (W.snd.span 9).2 := by rw [hlen]; show (W.snd.span 9).1 + _ = _; lia
      have l1 : (W.snd.chunked 9).lost = cutSpan W.snd.lost (W.snd.span 9).1 (W.snd.span 9).2 := rfl
      have l2 : (W.snd.chunked 9).sentTo = pmax W.snd.sentTo (W.snd.span 9).2 := rfl
      have l3 : (W.snd.chunked 9).written = W.snd.written := rfl
      have l4 : (W.snd.chunked 9).canReset = true := by
        unfold Snd.chunked Snd.canReset
        dsimp only
        split <;> rfl
      have hstl : (W.snd.chunked 9).sentTo ≤ ((W.snd.chunked 9).written.length : Int) := by
        have := pmax_is W.snd.sentTo (W.snd.span 9).2
        have := so.wl
        have := h.stl
        rw [l2, l3]; lia
      have hL : (W.snd.chunked 9).left = ((W.snd.chunked 9).lost.length : Int) + ((W.snd.written.length : Int) - pmax W.snd.sentTo (W.snd.span 9).2 + 3) / 4 + 1 := by
        rw [← l2, ← l3]
        unfold Snd.left; rw [if_pos l4]
      have hL0 : W.snd.left = (W.snd.lost.length : Int) + ((W.snd.written.length : Int) - W.snd.sentTo + 3) / 4 + 1 := by unfold Snd.left; rw [if_pos hc]
      have hfin : ((W.snd.chunked 9).ackData (W.snd.chunkOf 9).1 (W.snd.chunkOf 9).2.1.length (W.snd.chunkOf 9).2.2).fin = true := (fin_of h hc hf : W.snd.fin = true)
      cases e : W.snd.lost with
      | cons p l =>
        have hsp := span_cons h hc e
        have hn := h.ln
        rw [e] at hn
        have hl : (W.snd.chunked 9).lost = l := by rw [l1, e, hsp]; exact cutSpan_head hn
        have hcut : cutSpan (W.snd.chunked 9).lost (W.snd.chunkOf 9).1 ((W.snd.chunkOf 9).1 + ((W.snd.chunkOf 9).2.1.length : Int)) = (W.snd.chunked 9).lost := by
          rw [hl]
          exact cutSpan_none hn.2.2 (by rw [hend, hsp]; exact Int.le_refl _)
        have hA := left_ack (e := (W.snd.chunkOf 9).2.2) hstl hcut
        have hb := h.lb (p.2 - 1) (by rw [e]; exact covS_cons.mpr (.inl ⟨by have := hn.2.1; lia, by lia⟩))
        have hm : pmax W.snd.sentTo (W.snd.span 9).2 = W.snd.sentTo := by rw [hsp]; unfold pmax; rw [if_neg (by lia)]
        rw [hm, hl] at hL
        rw [e, List.length_cons] at hL0
        refine ⟨by lia, fun _ => .inr (by lia), fun _ => hfin⟩
      | nil =>
        have hsp := span_nil (most := 9) e
        have hl : (W.snd.chunked 9).lost = [] := by rw [l1, e, cutSpan_eq]; split <;> rfl
        have hcut : cutSpan (W.snd.chunked 9).lost (W.snd.chunkOf 9).1 ((W.snd.chunkOf 9).1 + ((W.snd.chunkOf 9).2.1.length : Int)) = (W.snd.chunked 9).lost := by
          rw [hl, cutSpan_eq]; split <;> rfl
        have hA := left_ack (e := (W.snd.chunkOf 9).2.2) hstl hcut
        have hle := so.le
        have hs1 : (W.snd.span 9).1 = W.snd.sentTo := by rw [hsp]
        have hm := pmax_is W.snd.sentTo (W.snd.span 9).2
        have hwl := so.wl
        rw [hl] at hL
        rw [e] at hL0
        refine ⟨by lia, fun hu => ?_, fun _ => hfin⟩
        rcases new_len h hc hf e (hu hc rfl) with ⟨a, b⟩ | ⟨a, b⟩
        · right
          have hs2 : (W.snd.span 9).2 = W.snd.sentTo + pmax 0 (pmin 9 W.snd.newRoom) := by rw [hsp]
          rw [hs2] at hm hL hwl
          have hst := h.stl
          rcases b with b | b <;> lia
        · left
          refine end_left hcore ?_ (hcut.trans hl) ho'
          show (W.snd.ea || (W.snd.chunkOf 9).2.2) = true
          have : (W.snd.chunkOf 9).2.2 = true := b
          rw [this, Bool.or_true]
    · have eo : W.snd.owed 9 = (none, W.snd) := by unfold Snd.owed; rw [if_neg ho, if_neg hch]
      rw [eo] at q
      obtain ⟨rfl, rfl⟩ := q
      refine ⟨Int.le_refl _, fun hu => .inl ?_, hf⟩
      by_cases hc : W.snd.canReset = true
      · exfalso
        have hch : ¬ (W.snd.canReset && !(decide ((W.snd.span 9).1 = (W.snd.span 9).2) && !W.snd.isEnd (W.snd.span 9))) = true := hch
        rw [hc, Bool.true_and, Bool.not_eq_true', Bool.not_eq_false, Bool.and_eq_true, decide_eq_true_eq, Bool.not_eq_true'] at hch
        obtain ⟨c1, c2⟩ := hch
        cases e : W.snd.lost with
        | cons p l =>
          have hn := h.ln
          rw [e] at hn
          rw [span_cons h hc e] at c1
          have := hn.2.1
          lia
        | nil =>
          rcases new_len h hc hf e (hu hc e) with ⟨a, b⟩ | ⟨a, b⟩
          · rw [span_nil e] at c1
            dsimp only at c1
            lia
          · rw [b] at c2; cases c2
      · exact done_left h hc ho'
theorem inv3_step {k : Nat} {W W' : Wd} (h : Inv3 k W) (hk : k < 60) (q : Step3 W W') : Inv3 (k + 1) W' := by
  obtain ⟨c, wr, len, fin, upto, left⟩ := h
  obtain ⟨s, r, hs, rfl⟩ := q
  obtain ⟨c1, w1⟩ := sent_core c hs
  obtain ⟨la, lb, lc⟩ := sent_left c fin hs
  have c2 := core_read c1 (by decide : (0 : Int) ≤ 99)
  have hp := left_pos c1.stl
  refine ⟨c2, wr.trans w1.symm, len, lc, fun _ => ?_, .inr ⟨by lia, ?_⟩⟩
  · show (r.read 99).2.2.st ≠ _ ∧ (r.read 99).2.2.st ≠ _ ∧ (s.canReset = true → s.lost = [] → (r.read 99).2.2.readTo = s.sentTo)
    unfold Rcv.read
    by_cases hr : r.isReset = true
    · rw [if_pos hr]
      refine ⟨by show RS.resetRead ≠ _; decide, by show RS.resetRead ≠ _; decide, fun q => ?_⟩
      rw [(sends c1 q).1] at hr; cases hr
    · rw [if_neg hr]
      have hr : r.isReset = false := Bool.not_eq_true _ ▸ hr
      dsimp only
      have hst := st_readData r 99
      refine ⟨fun q => ?_, fun q => ?_, fun q1 q2 => ?_⟩
      · rcases hst with ⟨a, _⟩ | ⟨a, _⟩
        · rw [q] at a
          unfold Rcv.isReset at hr
          rw [← a] at hr; cases hr
        · rw [q] at a; cases a
      · rcases hst with ⟨a, b⟩ | ⟨a, _⟩
        · rw [q] at a
          have hd := c1.dr (.inl a.symm)
          have := read_all c1 (by decide : (9 : Int) ≤ 99) hr hd.2.2.2
          refine b ⟨a.symm, ?_⟩
          rw [hd.1, ← this]; rfl
        · rw [q] at a; cases a
      · refine read_all c1 (by decide : (9 : Int) ≤ 99) hr fun x a b => ?_
        have h0 := c1.rt0
        rcases (c1.ack hr (sends c1 q1).2 x).mp (all_acked c1 q1 q2 x (by lia) b) with k | k
        · lia
        · exact k
  · show s.left = 0 ∨ s.left + _ ≤ 49
    rcases left with ⟨rfl, l⟩ | ⟨hk1, l⟩
    · right; lia
    · have hb := lb (upto hk1).2.2
      have hp0 := left_pos c.stl
      rcases hb with b | b
      · exact .inl b
      · rcases l with l | l
        · left; lia
        · right; lia
theorem inv3_end {W : Wd} (h : Inv3 60 W) : Ready3 W ∧ End3 W := by
  refine ⟨inv3_rdy h, ?_⟩
  obtain ⟨c, wr, len, fin, upto, left⟩ := h
  have hp := left_pos c.stl
  obtain ⟨u1, u2, _⟩ := upto (by decide)
  have hz : W.snd.left = 0 := by rcases left with ⟨l, _⟩ | ⟨_, l | l⟩ <;> lia
  have hnc : ¬ W.snd.canReset = true := fun q => by have := hp.2 q; lia
  have hst : W.snd.st = .dataRecvd ∨ W.snd.st = .resetRecvd := by
    unfold Snd.left at hz
    rw [if_neg hnc] at hz
    unfold Snd.canReset at hnc
    cases e : W.snd.st with
    | ready => rw [e] at hnc; exact absurd rfl hnc
    | send => rw [e] at hnc; exact absurd rfl hnc
    | dataSent => rw [e] at hnc; exact absurd rfl hnc
    | dataRecvd => exact .inl rfl
    | resetSent => rw [if_pos e] at hz; lia
    | resetRecvd => exact .inr rfl
  have hno : ¬ W.snd.orr = true := fun q => by
    have := c.ro q
    rcases hst with e | e <;> (rw [e] at this; cases this)
  have hrd : W.rcv.st = .dataRead ∨ (W.rcv.st = .resetRead ∧ W.snd.st = .resetRecvd) := by
    have hno : W.rcv.st.isOpen = false := by
      rcases hst with e | e
      · rcases c.sd e with q | q <;> rw [q] <;> rfl
      · exact c.rr e
    cases e : W.rcv.st with
    | recv => rw [e] at hno; cases hno
    | sizeKnown => rw [e] at hno; cases hno
    | dataRecvd => exact absurd e u2
    | dataRead => exact .inl rfl
    | resetRecvd => exact absurd e u1
    | resetRead => exact .inr ⟨rfl, (c.rrs (by unfold Rcv.isReset; rw [e]; rfl)).2⟩
  refine ⟨?_, ?_, ?_, ?_⟩
  · unfold Snd.over
    rcases hst with e | e <;> rw [e] <;> rfl
  · unfold Rcv.over
    rcases hrd with e | ⟨e, _⟩ <;> rw [e] <;> rfl
  · have : ¬ W.snd.chunks 9 = true := fun q => by unfold Snd.chunks at q; rw [Bool.and_eq_true] at q; exact hnc q.1
    unfold Snd.owed
    rw [if_neg hno, if_neg this]
  · rcases hrd with e | ⟨e, es⟩
    · left
      have hd := c.dr (.inr e)
      have hr := c.drd e
      refine ⟨e, c.rrc (by unfold Rcv.isReset; rw [e]; rfl), ?_⟩
      rw [c.rdq, wr, hr, hd.2.1]
      exact List.take_of_length_le (by lia)
    · right
      obtain ⟨⟨z, a, b⟩, _⟩ := c.rrs (by unfold Rcv.isReset; rw [e]; rfl)
      exact ⟨es, e, z, a, b⟩
theorem law_post (xs : List Int) : PySem.Challenge.rw_pb0528_01.row.claim.post [ofPy (PyData.list (xs.map PyData.int))] (.bool true) [ofPy (PyData.list (xs.map PyData.int))] = true := by
  wrow_post
theorem law_raises (xs : List Int) : ∀ cls, PySem.Challenge.rw_pb0528_01.row.claim.raises [ofPy (PyData.list (xs.map PyData.int))] cls = false := raisesW_false (by wrow_none_raised)
section
local macro_rules | `(tactic| k_qdec) => `(tactic| ((first | (with_reducible show namesOk _ _ _ = true) | (with_reducible show importsNone _ = true)); kernel_rfl))
theorem rows9 : True := by
  k_with_none
  k_with "mem" => (first | exact List.Mem.head _ | assumption | (refine List.Mem.tail _ ?_; walk_at "mem") | (refine List.mem_append_left _ ?_; walk_at "mem") | (refine List.mem_append_right _ ?_; walk_at "mem"))
  k_with "sub" => (first | exact fun _ h => h | exact all_nil | (refine all_cons ?_ ?_; (walk_at "mem"); walk_at "sub") | (refine all_app ?_ ?_ <;> walk_at "sub") | (intro zp zh9; walk_at "mem"))
  k_with "below" => (first | assumption | (refine below_a (by first | (assumption))) | (refine below_al (by first | (assumption))) | (refine below_ar (by first | (assumption))) | (refine below_l (by first | (assumption))) | (refine below_r (by first | (assumption))))
  k_with "apart" => (first | assumption | (refine lt_ne ?_; walk_at "below") | (refine off_ne (by first | (assumption)) ?_; walk_at "mem") | (refine all_app ?_ ?_ <;> walk_at "apart") | exact all_nil | (refine all_cons ?_ ?_; (k_ne); walk_at "apart"))
  k_with "ne" => (first | exact all_nil | (refine lt_adr ?_; walk_at "below") | (refine adr_ne ?_; assumption) | (refine all_cons ?_ ?_; (first | assumption | (refine neN ?_; (try dsimp only); lia)); walk_at "ne"))
  k_with "off" => (((try simp only [List.map_cons, List.map_nil, List.nil_append, List.cons_append]); first | assumption | (refine off_tl (by first | (assumption))) | exact off_nil | exact off_nilL | (refine off_c ?_ ?_; (walk_at "ne"); walk_at "off") | (refine off_app ?_ ?_ <;> walk_at "off") | (refine off_a ?_ ?_; (walk_at "apart"); walk_at "off")))
  k_with "x eval Name" => ((k_here; k_dflt (first | (refine nmL (by first | (exact rfl)) (by first | (k_asm)) (by first | (exact rfl)) (by first | (exact rfl)) (by first | (decide)) ?_; k_whole) | (refine nmK (by first | (exact rfl)) (by first | (k_asm)) (by first | (k_asm)) (by first | (k_asm)) (by first | (k_is)) (by first | (exact rfl)) (by first | (decide)) ?_; k_whole) | (refine nmB (by first | (exact rfl)) (by first | (k_asm)) (by first | (k_asm)) (by first | (k_asm)) (by first | (k_is)) (by first | (boot_fast)) (by first | (decide)) (by first | (exact rfl)) (by first | (decide)) ?_; k_whole))))
  k_with "isList" => ((refine News.isList (by first | (k_asm)) (by first | (walk_at "mem"))))
  k_with "isTup" => ((refine News.isTup (by first | (k_asm)) (by first | (walk_at "mem"))))
  k_with "size" => (((try simp only [sizeLine_eq, List.size_toArray, List.length_append, List.length_cons, List.length_nil]); first | exact size0 (by assumption) (Nat.le_of_ble_eq_true rfl) | exact size1 (by assumption) (Nat.le_of_ble_eq_true rfl) | lia))
  k_with "x call type:list" => ((k_here; (with_reducible show wpAny _ _ (call (Value.type "list") [Value.ref _]) _ _ _); (with_unfolding_all refine list_copyK (by first | (k_asm)) (by first | (k_asm)) (by first | (walk_at "isList")) ?_ (by first | (walk_at "size")); k_whole); intro zD zc zh zF zN zl; (try k_lt zl); (try k_sweep)))
  k_with "x assign Tuple" => ((k_here; (with_reducible show wpAny _ _ (assign (Expr.Tuple _ _ _) _ (Value.ref _)) _ _ _); k_dflt (refine unpackN_ (by first | (k_asm)) (by first | (k_asm)) (by first | (walk_at "isTup")) (by first | (exact rfl)) (by first | (exact rfl)) (by first | (exact rfl)) ?_; k_whole); intro zh zF zN; (try k_sweep)))
  k_with "x call builtin:list.append" => ((k_here; (with_reducible show wpAny _ _ (call (Value.builtin "list.append") [Value.ref _, _]) _ _ _); k_dflt (refine append_L (by first | (k_asm)) (by first | (k_asm)) (by first | (k_upd)) ?_ (by first | (walk_at "size")); k_whole); intro zh zF zN; (try k_sweep)))
  k_with "x binaryOp Add ref ref" => ((k_here; (with_reducible show wpAny _ _ (binaryOp Operator.Add (Value.ref _) (Value.ref _)) _ _ _); k_dflt (refine add_LL (by first | (k_asm)) (by first | (k_asm)) (by first | (walk_at "isList")) (by first | (walk_at "isList")) ?_ (by first | (walk_at "size"))); intro zD zh zF zN zl; (try k_lt zl); (try k_sweep)))
  k_with "exec For" => ((k_here; (rename Fr _ _ _ _ => zlF); refine For_turns zlF ?_))
  k_with "x call builtin:len" => ((k_here; (with_reducible show wpAny _ _ (call (Value.builtin "len") [Value.ref _]) _ _ _); k_dflt (refine len_L (by first | (walk_at "isList")) (by first | (walk_at "size")) ?_); intro zt ztk; (try simp only [List.length_cons, List.length_nil])))
  k_with "x subscriptTail" => ((k_here; (with_reducible show wpAny _ _ (subscriptTail _ _ (Value.ref _) (Value.int _ _)) _ _ _); (with_unfolding_all refine item_L (by first | (walk_at "isList")) (by first | decide | lia) (by first | decide | lia) (by first | rfl | assumption) ?_ (by first | (with_unfolding_all rfl)); k_whole)))
  k_with "binds" => (((try dsimp only); repeat' (first | exact all_nil | (refine all_cons ?_ ?_; (first | exact rfl | assumption)))))
  k_with "room" => (first | exact room1 (by assumption) (Nat.le_of_ble_eq_true rfl) | exact room0 (by assumption) (Nat.le_of_ble_eq_true rfl) | ((try dsimp only [ktrTop, Around.deeper] at *); lia))
  k_with "use" => (((case B => k_asm); (case F => k_asm); (case X => k_asm); (case N => k_asm); (case S => walk_at "sub"); (case O => walk_at "off"); (case T => k_asm); (case K => exact rfl); (case D => walk_at "room"); (case U => walk_at "room")))
  k_with "compareOp NotIn" => ((k_here; (with_reducible show wpAny _ _ (compareOp CmpOp.NotIn (Value.str _ _) (Value.ref 77)) _ _ _); (with_unfolding_all refine notin_tuple_strs (by first | ((refine kun_topT (by first | (k_asm)) (by first | (k_asm)) (by first | (k_is))))) (by first | (kde_strs)) ?_)))
  k_with "x call type:bytes" => ((k_here; (with_reducible show wpAny _ _ (call (Value.type "bytes") [Value.bytes _ _]) _ _ _); refine call_bytes_bytes ?_))
  k_with "x call builtin:len" => ((k_here; (with_reducible show wpAny _ _ (call (Value.builtin "len") [Value.bytes (List.toArray _) _]) _ _ _); refine len_B (by first | (walk_at "size")) ?_; intro zt ztk))
  k_with "x binaryOp Add bytes bytes" => ((k_here; (with_reducible show wpAny _ _ (binaryOp Operator.Add (Value.bytes (List.toArray _) _) (Value.bytes (List.toArray _) _)) _ _ _); refine add_BB (by first | (walk_at "size")) ?_; intro zt ztk))
  k_with "x subscriptTail" => ((k_here; (with_reducible show wpAny _ _ (subscriptTail _ (PySem.Expr.Slice _ _ none _) (Value.bytes (List.toArray _) _) (Value.ref _)) _ _ _); (with_reducible rename Fr _ _ _ _ => zF); (with_reducible rename News _ _ _ _ => zN); (refine slice_B (s := ⟨_, _, _, _, _⟩) zF zN (by first | (constructor)) (by first | (constructor)) (by first | (walk_at "size")) ?_ (by first | (with_unfolding_all rfl)) (by first | ((intro _; with_unfolding_all rfl)))); intro _ _ _ zF zN; (try k_sweep)))
  k_with "pv" => (first | (with_reducible exact pv_int) | (with_reducible exact pv_str) | (with_reducible exact pv_bool) | (with_reducible exact pv_none) | (refine pv_nm (by first | (exact rfl)) (by first | (k_asm)) (by first | (exact rfl)) (by first | (exact rfl)) (by first | (decide))) | (refine pv_K (by first | (exact rfl)) (by first | (k_asm)) (by first | (k_asm)) (by first | (k_asm)) (by first | (k_is)) (by first | (exact rfl)) (by first | (decide))) | (refine pv_B (by first | (exact rfl)) (by first | (k_asm)) (by first | (k_asm)) (by first | (k_asm)) (by first | (k_is)) (by first | (boot_fast)) (by first | (decide)) (by first | (exact rfl)) (by first | (decide))) | (refine pv_attr (by first | (exact rfl)) (by first | (k_asm)) (by first | (k_asm)) (by first | (k_asm)) (by first | (exact rfl)) (by first | (exact rfl)) (by first | (decide)) (by first | (k_mem)) (by first | (k_mem)) (by first | (k_is)) (by first | (k_is)) (by first | (k_is)) (by first | (k_is)) (by first | (k_get)) (by first | (exact rfl))))
  k_with "pvs" => (first | (with_reducible exact pvs_nil) | (refine pvs_cons (by first | (walk_at "pv")) (by first | (walk_at "pvs")) (by first | (exact rfl))))
  k_with "spliced" => ((k_here; k_dflt (refine pe_args (by first | (walk_at "pvs")) ?_; k_whole); (try dsimp only [List.nil_append, List.cons_append])))
  k_with "eval Tuple" => ((k_here; k_dflt (refine pe_tuple (by first | (walk_at "pvs")) ?_; k_whole)))
  k_with "eval List" => ((k_here; k_dflt (refine pe_list (by first | (walk_at "pvs")) ?_; k_whole)))
  k_with "eval Attribute" => ((k_here; k_dflt (refine pe_eval (by first | (walk_at "pv")) ?_; k_whole)))
  k_with "eval BinOp" => ((k_here; k_dflt (first | (refine pe_binop (by first | (walk_at "pv")) (by first | (walk_at "pv")) ?_; k_whole) | (refine pe_binopL (by first | (walk_at "pv")) ?_; k_whole))))
  k_with "eval Subscript" => ((k_here; k_dflt (first | (refine pe_sub (by first | (walk_at "pv")) (by first | (walk_at "pv")) ?_; k_whole) | (refine pe_subL (by first | (walk_at "pv")) ?_; k_whole))))
  k_with "eval Compare" => ((k_here; k_dflt (first | (refine pe_cmp (by first | (walk_at "pv")) (by first | (walk_at "pv")) (by first | (with_unfolding_all rfl)) ?_; k_whole) | (refine pe_cmpL (by first | (walk_at "pv")) (by first | (with_unfolding_all rfl)) ?_; k_whole))))
  k_with "isTrue Compare" => ((k_here; k_dflt (first | (refine pe_test (by first | (walk_at "pv")) (by first | (walk_at "pv")) (by first | (with_unfolding_all rfl)) ?_; k_whole) | (refine pe_testL (by first | (walk_at "pv")) (by first | (with_unfolding_all rfl)) ?_; k_whole))))
  k_with "isTrue" => ((k_here; k_dflt (first | (refine pe_truthN (by first | (walk_at "pv")) ?_; k_whole) | (refine pe_truthA (by first | (walk_at "pv")) ?_; k_whole))))
  k_with "exec Return some" => ((k_here; k_dflt (refine pe_ret (by first | (walk_at "pv")) ?_; k_whole)))
  k_with "exec Assign" => ((k_here; (with_reducible show wpAny _ _ (exec (Stmt.Assign [PySem.Expr.Attribute _ _ _] _ _) _) _ _ _); k_dflt (refine pe_put (by first | (walk_at "pv")) (by first | (walk_at "pv")) (by first | (exact rfl)) ?_; k_whole)))
  k_with "exec Assign" => ((k_here; (with_reducible show wpAny _ _ (exec (Stmt.Assign [PySem.Expr.Name _ _] _ _) _) _ _ _); k_dflt (refine pe_store (by first | (walk_at "pv")) (by first | (exact rfl)) ?_; k_whole)))
  k_with "eval Call Name" => ((k_here; k_dflt (refine pe_call (by first | (walk_at "pv")) ?_; k_whole)))
  k_with "callWith" => ((k_here; (with_reducible show wpAny _ _ (callWith _ (Value.builtin _) [] (backTo _ (starEach (_ :: _) _)) _) _ _ _); k_dflt (refine pe_cwB (by first | (walk_at "pvs")) (by first | (exact rfl)) ?_; k_whole)))
  k_with "callWith" => ((k_here; (with_reducible show wpAny _ _ (callWith _ (Value.builtin _) [_] (backTo _ (starEach (_ :: _) _)) _) _ _ _); k_dflt (refine pe_cwB1 (by first | (walk_at "pvs")) (by first | (exact rfl)) ?_; k_whole)))
  k_with "callWith" => ((k_here; (with_reducible show wpAny _ _ (callWith _ (Value.type _) [] (backTo _ (starEach (_ :: _) _)) _) _ _ _); k_dflt (refine pe_cwT (by first | (walk_at "pvs")) (by first | (exact rfl)) ?_; k_whole)))
  k_with "x callWith ref" => ((k_here; (with_reducible show wpAny _ _ (callWith _ (Value.ref _) [] (backTo _ (starEach (_ :: _) _)) _) _ _ _); k_dflt (refine pe_cwR (by first | (k_asm)) (by first | (k_asm)) (by first | (walk_at "pvs")) (by first | (exact rfl)) (by first | (k_is)) ?_; k_whole)))
  k_with "x callWith ref" => ((k_here; (with_reducible show wpAny _ _ (callWith _ (Value.ref _) [_] (backTo _ (starEach (_ :: _) _)) _) _ _ _); k_dflt (refine pe_cwR1 (by first | (k_asm)) (by first | (k_asm)) (by first | (walk_at "pvs")) (by first | (exact rfl)) (by first | (k_is)) ?_; k_whole)))
  k_with "x callWith ref" => ((k_here; (with_reducible show wpAny _ _ (callWith _ (Value.ref _) [] (backTo _ (starEach [] _)) _) _ _ _); k_dflt (refine pe_cwZ (by first | (k_asm)) (by first | (k_asm)) (by first | (k_is)) ?_; k_whole)))
  k_with "x callWith ref" => ((k_here; (with_reducible show wpAny _ _ (callWith _ (Value.ref _) [_] (backTo _ (starEach [] _)) _) _ _ _); k_dflt (refine pe_cwZ1 (by first | (k_asm)) (by first | (k_asm)) (by first | (k_is)) ?_; k_whole)))
  k_with "putK" => (with_reducible first | exact putS1 | exact putS2 | exact putS3 | exact putS4 | exact putS5 | exact putS6 | exact putS7 | exact putS8 | exact putS9 | exact putS10 | exact putS11 | exact putR1 | exact putR2 | exact putR3 | exact putR4 | exact putR5 | exact putR6 | exact putR7 | exact putR8)
  k_with "exec Assign" => ((k_here; (with_reducible show wpAny _ _ (exec (Stmt.Assign [PySem.Expr.Attribute (PySem.Expr.Name _ _) _ _] _ _) _) _ _ _); k_dflt (refine pe_setA (by first | (exact rfl)) (by first | (k_asm)) (by first | (k_asm)) (by first | (k_asm)) (by first | (exact rfl)) (by first | (exact rfl)) (by first | (decide)) (by first | (k_mem)) (by first | (walk_at "pv")) (by first | (k_mem)) (by first | (k_is)) (by first | (k_is)) (by first | (k_is)) (by first | (k_is)) (by first | (walk_at "putK")) (by first | (k_upd)) (by first | (exact rfl)) ?_; k_whole); intro zh zF zN; (try k_sweep)))
  k_with "x setAttr ref" => ((k_here; k_dflt (refine pe_setV (by first | (k_asm)) (by first | (k_asm)) (by first | (k_asm)) (by first | (k_mem)) (by first | (k_mem)) (by first | (k_is)) (by first | (k_is)) (by first | (k_is)) (by first | (k_is)) (by first | (walk_at "putK")) (by first | (k_upd)) ?_; k_whole); intro zh zF zN; (try k_sweep)))
  k_with "room" => (first | decide | (simp only [depth_caller, units_caller]; decide))
  k_with "x subscriptTail" => ((k_here; (with_reducible show wpAny _ _ (subscriptTail _ _ (Value.ref _) (Value.str _ _)) _ _ _); k_dflt (refine wd_item (by first | (k_asm)) (by first | (walk_at "mem")) (by first | (with_reducible assumption)) (by first | (with_reducible exact val_sender) | (with_reducible exact val_reader) | (with_reducible exact val_room) | (with_reducible exact val_flying) | (with_reducible exact val_written) | (with_reducible exact val_read)) ?_); intro ztk))
  k_with "x subscriptTail" => ((k_here; (with_reducible show wpAny _ _ (subscriptTail _ _ (Value.ref _) (Value.int _ _)) _ _ _); k_dflt (refine tup_item (by first | (walk_at "isTup")) (by first | (decide)) (by first | (decide)) (by first | (rfl)) ?_)))
  k_with "off" => (first | ((try simp only [List.map_cons, List.map_nil, List.nil_append, List.cons_append]); first | assumption | (refine off_sub (by first | (assumption)) (by first | (walk_at "sub")) (by first | (walk_at "sub"))) | (refine off_tl (by first | (assumption))) | exact off_nil | exact off_nilL | (refine off_c ?_ ?_; (walk_at "ne"); walk_at "off") | (refine off_app ?_ ?_ <;> walk_at "off") | (refine off_a ?_ ?_; (walk_at "apart"); walk_at "off")))
  k_with "apart7" => (first | walk_at "apC" | exact all_nil | assumption | (refine all_cons ?_ ?_; (dsimp only; first | exact Nat.ne_of_lt (by lia) | exact Nat.ne_of_gt (by lia)); walk_at "apart7"))
  trivial
theorem ints_all {vs : List Value} {ns : List Int} (h : IntsAre vs ns) : All2 IntV vs ns := by
  induction h with
  | nil => exact .nil
  | cons i t _ ih => exact .cons ⟨t, rfl⟩ ih
theorem WRep.mono {w : World} {c : Cells} {M T T' : Led} {W : Wd} {ns : List Int} {n : Nat} (h : WRep w c M T W ns n) (s : Sub T T') : WRep w c M T' W ns n := by
  obtain ⟨o, o2, wo, vs, k, po, t, e, h1, h2, h3, h4, h5⟩ := h
  exact ⟨o, o2, wo, vs, k, po, t, e, h1.mono s, h2.mono s, h3, msgs_mono h4 s, h5.mono s⟩
theorem off_both {T : Led} {a b : List Addr} (h : OwnOff T a) (k : OwnOff T b) : OwnOff T (a ++ b) := fun p hp c hc => by
  rcases List.mem_append.mp hc with hc | hc
  · exact h p hp c hc
  · exact k p hp c hc
/-- between the turns of the first loop -/
inductive lawJ1 (w : World) (c : Cells) (ns : List Int) (i : Nat) (m : Str → Option Value) (C T : Led) : Prop
  | mk : (∀ p ∈ [((Str.ofString "pool" : Str), (Value.ref c.pl : Value)), (Str.ofString "world", .ref c.wd), (Str.ofString "sender", .ref c.x), (Str.ofString "reader", .ref c.x2)], m p.1 = some p.2) → ∀ W, WRep w c C T W ns (1 + 2 * i) → Inv i W → lawJ1 w c ns i m C T
theorem len_bound {l : List Int} (h : l.length ≤ 40) : ∃ nn : Nat, 9 + Int.fdiv (l.length : Int) 2 = (nn : Int) ∧ nn ≤ 29 := by
  rw [Int.fdiv_eq_ediv_of_nonneg _ (by decide)]
  exact ⟨9 + l.length / 2, by omega, by omega⟩
/-- between the turns of the second loop -/
inductive lawJ2 (c : Cells) (W : Wd) (o2 wo po : Obj) (i : Nat) (m : Str → Option Value) (C T : Led) : Prop
  | mk : (∀ p ∈ [((Str.ofString "world" : Str), (Value.ref c.wd : Value)), (Str.ofString "sender", .ref c.x), (Str.ofString "reader", .ref c.x2)], m p.1 = some p.2) → ∀ o, C = [(c.x, instObj 199 c.d), (c.d, o), (c.x2, instObj 309 c.d2), (c.d2, o2), (c.wd, wo), (c.pl, po)] → SndRep T o (W.lostTo i).snd → lawJ2 c W o2 wo po i m C T
/-- between the turns of the last loop -/
inductive lawJ3 (w : World) (c : Cells) (po : Obj) (i : Nat) (m : Str → Option Value) (C T : Led) : Prop
  | mk : (∀ p ∈ [((Str.ofString "world" : Str), (Value.ref c.wd : Value)), (Str.ofString "sender", .ref c.x), (Str.ofString "reader", .ref c.x2)], m p.1 = some p.2) → ∀ W o o2 wo t, C = [(c.x, instObj 199 c.d), (c.d, o), (c.x2, instObj 309 c.d2), (c.d2, o2), (c.wd, wo), (c.pl, po)] → SndRep T o W.snd → RcvRep T o2 W.rcv → IsD w wo (wdL c.x c.x2 c.fl W.room W.written W.read t) → Inv3 i W → lawJ3 w c po i m C T
theorem MsgV.isRef {T : Led} {v : Value} {m : Msg} (h : MsgV T v m) : ∃ p, v = .ref p := by
  cases m with
  | reset c z => obtain ⟨p, n, t0, t1, t2, rfl, _⟩ := h; exact ⟨_, rfl⟩
  | data o d f => obtain ⟨p, n, t0, t1, t2, rfl, _⟩ := h; exact ⟨_, rfl⟩
theorem owed_none {s : Snd} {k : Int} (h : (s.owed k).1 = none) : (s.owed k).2 = s := by
  unfold Snd.owed at h ⊢
  split at h
  · cases h
  · split at h
    · cases h
    · rename_i a b
      rw [if_neg a, if_neg b]
theorem rows10 : True := by
  k_with "x callWith ref" => ((k_here; (with_reducible show wpAny _ _ (callWith _ (Value.ref _) _ (backTo _ (starEach [] _)) []) _ _ _); k_dflt (refine callWith_K0 (by first | (exact Frag.In.keeps (by k_asm) (Fr.keep (by k_asm)))) (by first | (k_is)) ?_; k_whole); try dsimp only [List.nil_append, List.cons_append]))
  k_with "apC" => (first | exact apS4 (by assumption) | exact apR4 (by assumption) | exact apW4 (by assumption) | exact apS5 (by assumption) | exact apR5 (by assumption) | exact apS6 (by assumption) | exact apR6 (by assumption) | exact apS (by assumption) | exact apR (by assumption))
  trivial
set_option maxHeartbeats 8000000 in
theorem law_dev : (PySem.Challenge.rw_pb0528_01).Holds := (fun h => hd ⟨leftAll, h⟩) (by
  k_go0
  try k_fold
  iterate 60 (first | (with_reducible show wpAny _ _ (call (Value.ref _) _) _ _ _) | walk1)
  rename_i D0 ws0 hh1 hI0 hC0 hL0 ll0 D1 c0 hh2 ll1 lt1 pl hh3 ll2 ll3 lt2 hh4 FP NP
  have hint := ints_all hI0
  have hlz : (List.take 40 _).length ≤ 40 := Nat.le_trans (Nat.le_of_eq hC0) (Nat.min_le_left _ _)
  try k_fold
  k_dflt (refine' use_call (law_number_ok _ pl [] ((D1, listOf ws0.toArray c0) :: []) _ _ 0 6 _ (fun p hp => nomatch hp) ⟨_, _, _, _, _, rfl, .head _, hint⟩ (by decide) (by lia) (by lia)) ?B ?F ?X ?N ?S ?O ?T ?K ?D ?U ?_)
  walk_at "use"
  rintro r M' T2 h2 tk2 F4 N4 hsub off2 ⟨po, v6, tv, v1, v2, hP⟩
  simp only [List.cons_append, List.nil_append] at N4
  simp only [List.map_cons, List.map_nil] at off2
  try (k_unfold; (try dsimp only))
  iterate 20 (first | (with_reducible show wpAny _ _ (eval (PySem.Expr.Dict _ _ _) _) _ _ _) | walk1)
  k_here
  k_dflt (refine' kdn_str ?y1 ?y2 ?y3 ?y4 ?y5 ?y6 ?y7 ?y8 ?_; (case y1 => rfl); (case y2 => k_asm); (case y3 => k_asm); (case y4 => exact Top.nolimit (by k_asm)); (case y5 => rfl); (case y6 => rfl); (case y7 => exact List.cons_ne_nil _ _); (case y8 => exact Nat.le_of_ble_eq_true rfl))
  intro wd h5 wo0 F5 N5 lw lo5 hd5
  k_lt lw
  rename @LT.lt Nat _ pl wd => a1
  have offw : OwnOff T2 [wd, pl] := by walk_at "off"
  iterate 20 (first | (with_reducible show wpAny _ _ (call (Value.ref _) _) _ _ _) | walk1)
  try k_fold
  k_dflt (refine' use_call (new_sender _ ((wd, wo0) :: (pl, po) :: []) T2 _ _) ?B ?F ?X ?N ?S ?O ?T ?K ?D ?U ?_)
  walk_at "use"
  rintro r M' T3 h3 tk3 F6 N6 hsub3 off3 ⟨x1, d1, so, hd1, hb1, ho1, hS⟩
  simp only [List.cons_append, List.nil_append] at N6
  simp only [List.map_cons, List.map_nil] at off3
  try (k_unfold; (try dsimp only))
  have a2 : @LT.lt Nat _ wd d1 := hb1 (wd, wo0) (.head _)
  have off3b : OwnOff T3 [x1, d1, wd, pl] := off_both ho1 off3
  iterate 20 (first | (with_reducible show wpAny _ _ (call (Value.ref _) _) _ _ _) | walk1)
  try k_fold
  k_dflt (refine' use_call (new_reader _ ((x1, instObj 199 d1) :: (d1, so) :: (wd, wo0) :: (pl, po) :: []) T3 _ _) ?B ?F ?X ?N ?S ?O ?T ?K ?D ?U ?_)
  walk_at "use"
  rintro r M' T4 h4 tk4 F7 N7 hsub4 off4 ⟨x2, d2, ro, hd2, hb2, ho2, hRv⟩
  simp only [List.cons_append, List.nil_append] at N7
  simp only [List.map_cons, List.map_nil] at off4
  try (k_unfold; (try dsimp only))
  have a4 : @LT.lt Nat _ x1 d2 := hb2 (x1, instObj 199 d1) (.head _)
  have off4b : OwnOff T4 [x2, d2, x1, d1, wd, pl] := off_both ho2 off4
  iterate 7 walk1
  rename_i fl hz2 FZ NZ b1 b2 b3 b4 b5 b6 lz
  have off4c : OwnOff T4 [fl, x2, d2, x1, d1, wd, pl] := off_both (a := [fl]) (by walk_at "off") off4b
  iterate 7 walk1
  k_dflt (refine' kdn_made_str ?z1 ?z2 ?z3 ?z4 ?z5 ?z6 ?_; (case z1 => k_asm); (case z2 => k_asm); (case z3 => k_updF); (case z4 => k_asm); (case z5 => rfl); (case z6 => exact of_decide_eq_true (by first | rfl | kernel_rfl!)))
  intro h8 wo F8 N8 hd8
  try dsimp only at N8
  have hD : IsD _ wo (wdL x1 x2 fl (4 + v6) [] [] ⟨_, _, _⟩) := IsD.of (prog := Challenge.rw_pb0528_01.row.prog) hd8
  iterate 1 walk1
  try dsimp only
  iterate 40 (first | (with_reducible show wpAny _ _ (exec (Stmt.For _ _ _ _ _) _) _ _ _) | walk1)
  k_here
  rename Fr _ _ _ _ => lF0
  refine For_turns lF0 ?_
  iterate 60 (first | (with_reducible show wpAny _ _ (pyIter _) _ _ _) | walk1)
  rename_i hz5 tkz tz uz vz hr5 FR NR hKeep
  clear hKeep
  have hcok : Cells.Ok ⟨pl, wd, d1, x1, d2, x2, fl⟩ := ⟨a1, a2, hd1, a4, hd2, b1⟩
  obtain ⟨nn, hn1, hn2⟩ := len_bound hlz
  rw [hn1] at hr5
  have offT : OwnOff T4 [x1, d1, x2, d2, wd, fl, pl] := by walk_at "off"
  have NR2 := news_sub (l' := ([(x1, instObj 199 d1), (d1, so), (x2, instObj 309 d2), (d2, ro), (wd, wo), (fl, listOf ([] : List Value).toArray 0), (pl, po)] : Led) ++ T4) NR (by walk_at "sub")
  have hs4 := fun p hp => hsub4 p (hsub3 p hp)
  have hW0 : WRep _ ⟨pl, wd, d1, x1, d2, x2, fl⟩ [(x1, instObj 199 d1), (d1, so), (x2, instObj 309 d2), (d2, ro), (wd, wo), (fl, listOf ([] : List Value).toArray 0), (pl, po)] T4 (Wd.init (4 + v6)) _ 1 :=
    ⟨so, ro, wo, [], 0, po, _, rfl, hS.mono (.of hsub4), hRv, hD, .nil, hP.mono (.of hs4)⟩
  have FR2 := fr_of [((Str.ofString "pool" : Str), (Value.ref pl : Value)), (Str.ofString "world", .ref wd), (Str.ofString "sender", .ref x1), (Str.ofString "reader", .ref x2)] FR (by walk_at "binds")
  have hJ0 : ∀ u, lawJ1 _ ⟨pl, wd, d1, x1, d2, x2, fl⟩ _ 0 (mOf [((Str.ofString "pool" : Str), (Value.ref pl : Value)), (Str.ofString "world", .ref wd), (Str.ofString "sender", .ref x1), (Str.ofString "reader", .ref x2)] u) _ T4 := fun u => ⟨by walk_at "binds", _, hW0, inv_init (room := 4 + v6) (by lia) (by lia)⟩
  clear NR FR hP hS hRv off2 offw off3 off3b off4 off4b off4c ho1 ho2
  k_dflt (refine' iter_range (n := nn) (C₀ := [(x1, instObj 199 d1), (d1, so), (x2, instObj 309 d2), (d2, ro), (wd, wo), (fl, listOf ([] : List Value).toArray 0), (pl, po)]) (tl := T4) (lawJ1 _ ⟨pl, wd, d1, x1, d2, x2, fl⟩ _) ?w1 hr5 ?w2 ?w3 FR2 NR2 offT (hJ0 _) ?turn ?done)
  case w1 => rfl
  case w2 => exact small_one (by lia) (by lia) (by lia) (by lia)
  case w3 => rw [rangeSize_one]; split <;> lia
  case turn =>
    rintro i tv2 m C T T1 h tk hi hT hT1 hoff hC ⟨hb, W, hW, hI⟩ F N
    have hr := inv_ready hI (by lia)
    have hz := hW
    obtain ⟨o, o2, wo, vs, kk, po, t, rfl, hS, hV, hD, hfl, hP⟩ := hz
    simp only [List.cons_append, List.nil_append] at N
    simp only [List.map_cons, List.map_nil] at hoff
    dsimp only at hb
    try simp only [envOf_locals] at F N
    replace F := fr_of _ F hb
    iterate 20 (first | (with_reducible show wpAny _ _ (call (Value.ref _) _) _ _ _) | walk1)
    try k_fold
    k_dflt (refine' use_call (law_step_ok _ ⟨pl, wd, d1, x1, d2, x2, fl⟩ hcok _ T1 W _ (1 + 2 * i) (hW.mono (.of hT1)) hr (by lia) (by lia)) ?B ?F ?X ?N ?S ?O ?T ?K ?D ?U ?_)
    walk_at "use"
    rintro r M' T5 h5' tk5 F6' N6' hsub5 off5 ⟨W', hst, hW'⟩
    simp only [List.map_cons, List.map_nil] at off5
    try (k_unfold; (try dsimp only))
    have hI' := inv_step hI (by lia) hst
    have hW2 := hW'
    obtain ⟨o', o2', wo', vs', kk', po', t', rfl, hS', hV', hD', hfl', hP'⟩ := hW2
    simp only [List.cons_append, List.nil_append] at N6'
    iterate 20 (first | (with_reducible show TurnPost _ _ _ _ _ _ _ _ _ _) | walk1)
    exact TurnEnd.intro [(x1, instObj 199 d1), (d1, o'), (x2, instObj 309 d2), (d2, o2'), (wd, wo'), (fl, listOf vs'.toArray kk'), (pl, po')] T5 (by k_asm) (by k_asm) hsub5 off5 rfl (fun T3 hT3 _ => ⟨by walk_at "binds", W', hW'.mono hT3, hI'⟩)
  case done =>
    clear NR2 FR2 hW0 hJ0 hD FP NP hd5 hd8 hr5
    rintro m C T h tk hT hoff hC ⟨hb, W, hW, hI⟩ F N
    clear hT hC
    have hr := inv_ready hI (by lia)
    obtain ⟨o, o2, wo2, vs, kk, po2, t, rfl, hS, hV, hD, hfl, hP⟩ := hW
    simp only [List.cons_append, List.nil_append] at N
    simp only [List.map_cons, List.map_nil] at hoff
    dsimp only at hb hD N
    try simp only [envOf_locals] at F N
    replace F := fr_of _ F hb
    obtain ⟨k, tl, te, tw, ts, va, vl, tr, ha, hl⟩ := id hS
    try dsimp only
    refine cut_at F T [x1, d1, x2, d2, wd, fl, pl] (fun m' C' T' => ∃ o', C' = [(x1, instObj 199 d1), (d1, o'), (x2, instObj 309 d2), (d2, o2), (wd, wo2), (fl, listOf vs.toArray kk), (pl, po2)] ∧ SndRep T' o' W.snd.ended ∧ ∀ p ∈ [((Str.ofString "world" : Str), (Value.ref wd : Value)), (Str.ofString "sender", .ref x1), (Str.ofString "reader", .ref x2)], m' p.1 = some p.2) ?_ ?_
    · iterate 60 (first | (with_reducible show wpAny _ _ (call (Value.ref _) _) _ _ _) | walk1)
      · rename (List.any _ _) = true => hq
        rw [any_open] at hq
        try k_fold
        k_dflt (refine' use_call (snd_finish _ x1 d1 [(x2, instObj 309 d2), (d2, o2), (wd, wo2), (fl, listOf vs.toArray kk), (pl, po2)] T _ W.snd hd1 (by walk_at "apart7") hS hq) ?B ?F ?X ?N ?S ?O ?T ?K ?D ?U ?_)
        walk_at "use"
        rintro r M' T5 h5' tk5 F6' N6' hsub5 off5 ⟨o', hS'⟩
        simp only [List.cons_append, List.nil_append] at N6'
        simp only [List.map_cons, List.map_nil] at off5
        try (k_unfold; (try dsimp only))
        have e9 : W.snd.ended = W.snd.finish := by unfold Snd.ended; rw [if_pos hq]
        iterate 20 (first | (with_reducible show CutQ _ _ _ _ _ _ _ _ _ _ _) | walk1)
        exact cut_end [(x1, instObj 199 d1), (d1, o'), (x2, instObj 309 d2), (d2, o2), (wd, wo2), (fl, listOf vs.toArray kk), (pl, po2)] T5 (by k_asm) (by k_asm) hsub5 off5 ⟨o', rfl, by rw [e9]; exact hS', by walk_at "binds"⟩
      · rename (List.any _ _) = false => hq
        rw [any_open] at hq
        have e9 : W.snd.ended = W.snd := by unfold Snd.ended; rw [if_neg (by rw [hq]; simp)]
        iterate 20 (first | (with_reducible show CutQ _ _ _ _ _ _ _ _ _ _ _) | walk1)
        exact cut_end [(x1, instObj 199 d1), (d1, _), (x2, instObj 309 d2), (d2, o2), (wd, wo2), (fl, listOf vs.toArray kk), (pl, po2)] T (by k_asm) (news_sub (by k_asm) (by walk_at "sub")) (fun _ h => h) hoff ⟨_, rfl, by rw [e9]; exact hS, by walk_at "binds"⟩
    · clear F N hS ha hl hb
      rintro h5' tk5 m5 C5 T5 hsub5 off5 ⟨o5, hC5, hS, hb⟩ F N
      subst hC5
      simp only [List.cons_append, List.nil_append] at N
      replace F := fr_of _ F hb
      replace hV := hV.mono (.of hsub5)
      replace hfl := msgs_mono hfl (.of hsub5)
      have hs0 : SndRep ((fl, listOf vs.toArray kk) :: T5) o5 (W.lostTo 0).snd := by
        have : (W.lostTo 0).snd = W.snd.ended := by unfold Wd.lostTo; simp
        rw [this]; exact hS.mono (.of fun _ h => .tail _ h)
      try dsimp only
      iterate 10 (first | (with_reducible show wpAny _ _ (exec (Stmt.For _ _ _ _ _) _) _ _ _) | walk1)
      k_here
      rename Fr _ _ _ _ => lF0
      refine For_turns lF0 ?_
      iterate 60 (first | (with_reducible show wpAny _ _ (pyIter _) _ _ _) | walk1)
      refine iter_list (C₀ := [(x1, instObj 199 d1), (d1, o5), (x2, instObj 309 d2), (d2, o2), (wd, wo2), (pl, po2)]) (tl := (fl, listOf vs.toArray kk) :: T5) (lawJ2 ⟨pl, wd, d1, x1, d2, x2, fl⟩ W o2 wo2 po2) (by rfl) (.head _) (by k_asm) (news_sub (by k_asm) (by walk_at "sub")) (by walk_at "off") ⟨by walk_at "binds", o5, rfl, hs0⟩ ?turn2 ?done2
      case turn2 =>
        rintro i v m C T T1 h tk hi hv hT hT1 hoff1 hC ⟨hb, o, rfl, hS⟩ F N
        clear hC
        simp only [List.cons_append, List.nil_append] at N
        simp only [List.map_cons, List.map_nil] at hoff1
        dsimp only at hb N
        try simp only [envOf_locals] at F N
        replace F := fr_of _ F hb
        obtain ⟨ms, hms, hmv⟩ := hfl.get hv
        have hsT : ∀ p ∈ T5, p ∈ T1 := fun p hp => hT1 p (hT p (.tail _ hp))
        have hst : ((W.lostTo i).snd.lose ms) = (W.lostTo (i + 1)).snd := by
          unfold Wd.lostTo
          try dsimp only
          exact (take_step hms Snd.lose W.snd.ended).symm
        try dsimp only
        iterate 20 (first | (with_reducible show wpAny _ _ (call (Value.ref _) _) _ _ _) | walk1)
        try k_fold
        k_dflt (refine' use_call (law_lost_ok _ x1 d1 wd x2 fl [(x2, instObj 309 d2), (d2, o2), (wd, wo2), (pl, po2)] T1 o wo2 (W.lostTo i).snd v ms W.room W.written W.read t hd1 (by walk_at "apart7") (hS.mono (.of hT1)) (.tail _ (.tail _ (.head _))) hD (hmv.mono (.of hsT)) (fun of b e q => inv_lost hI (by lia) (q ▸ hms))) ?B ?F ?X ?N ?S ?O ?T ?K ?D ?U ?_)
        walk_at "use"
        rintro r M' T6 h6 tk6 F6 N6 hsub6 off6 ⟨o', hS'⟩
        simp only [List.cons_append, List.nil_append] at N6
        simp only [List.map_cons, List.map_nil] at off6
        try (k_unfold; (try dsimp only))
        iterate 20 (first | (with_reducible show TurnPost _ _ _ _ _ _ _ _ _ _) | walk1)
        exact TurnEnd.intro [(x1, instObj 199 d1), (d1, o'), (x2, instObj 309 d2), (d2, o2), (wd, wo2), (pl, po2)] T6 (by k_asm) (by k_asm) hsub6 off6 rfl (fun T3 hT3 _ => ⟨by walk_at "binds", o', rfl, by rw [← hst]; exact hS'.mono hT3⟩)
      case done2 =>
        clear N hS hs0 hb lF0
        rintro m C T h tk hT hoff1 hC ⟨hb, o, rfl, hS⟩ F N
        clear hC
        simp only [List.cons_append, List.nil_append] at N
        simp only [List.map_cons, List.map_nil] at hoff1
        dsimp only at hb N
        try simp only [envOf_locals] at F N
        replace F := fr_of _ F hb
        have hsT : ∀ p ∈ T5, p ∈ T := fun p hp => hT p (.tail _ hp)
        replace hV := hV.mono (.of hsT)
        have hI3 := inv3_init hI (by lia)
        rw [← hfl.length] at hI3
        try dsimp only
        iterate 10 (first | (with_reducible show wpAny _ _ (exec (Stmt.For _ _ _ _ _) _) _ _ _) | walk1)
        k_here
        rename Fr _ _ _ _ => lF0
        refine For_turns lF0 ?_
        iterate 60 (first | (with_reducible show wpAny _ _ (pyIter _) _ _ _) | walk1)
        rename_i hz7 tkz7 tz7 uz7 vz7 hr7 FR7 NR7 hKeep7
        clear hKeep7
        try simp only [envOf_locals] at FR7 NR7
        have FR8 := fr_of [((Str.ofString "world" : Str), (Value.ref wd : Value)), (Str.ofString "sender", .ref x1), (Str.ofString "reader", .ref x2)] FR7 (by walk_at "binds")
        have NR8 := news_sub (l' := ([(x1, instObj 199 d1), (d1, o), (x2, instObj 309 d2), (d2, o2), (wd, wo2), (pl, po2)] : Led) ++ T) NR7 (by walk_at "sub")
        have hJ3 : ∀ u, lawJ3 _ ⟨pl, wd, d1, x1, d2, x2, fl⟩ po2 0 (mOf [((Str.ofString "world" : Str), (Value.ref wd : Value)), (Str.ofString "sender", .ref x1), (Str.ofString "reader", .ref x2)] u) [(x1, instObj 199 d1), (d1, o), (x2, instObj 309 d2), (d2, o2), (wd, wo2), (pl, po2)] T := fun u => ⟨by walk_at "binds", W.lostTo vs.length, o, o2, wo2, t, rfl, hS, hV, hD, hI3⟩
        clear FR7 NR7
        k_dflt (refine' iter_range (n := 60) (C₀ := [(x1, instObj 199 d1), (d1, o), (x2, instObj 309 d2), (d2, o2), (wd, wo2), (pl, po2)]) (tl := T) (lawJ3 _ ⟨pl, wd, d1, x1, d2, x2, fl⟩ po2) ?w1 hr7 ?w2 ?w3 FR8 NR8 hoff1 (hJ3 _) ?turn3 ?done3)
        case w1 => rfl
        case w2 => exact small_one (by lia) (by lia) (by lia) (by lia)
        case w3 => rw [rangeSize_one]; rfl
        case turn3 =>
          clear hJ3 FR8 NR8 hI3 hV hS hD hoff1 hsT hsub5 hfl hI
          rintro i tv3 m3 C3 T6 T7 h7 tk7 hi hT7 hT17 hoff3 hC3 ⟨hb3, W3, o3, o4, wo3, t3, rfl, hS, hV, hD, hI⟩ F N
          clear hC3
          have hr := inv3_ready hI hi
          simp only [List.cons_append, List.nil_append] at N
          simp only [List.map_cons, List.map_nil] at hoff3
          dsimp only at hb3 hD
          try simp only [envOf_locals] at F N
          replace F := fr_of _ F hb3
          replace hS := hS.mono (.of hT17)
          replace hV := hV.mono (.of hT17)
          try dsimp only
          iterate 20 (first | (with_reducible show wpAny _ _ (call (Value.ref _) _) _ _ _) | walk1)
          try k_fold
          k_dflt (refine' use_call (law_owed_ok _ x1 d1 x2 wd fl [(x2, instObj 309 d2), (d2, o4), (wd, wo3), (pl, po2)] T7 o3 wo3 W3.snd 9 _ W3.room W3.written W3.read t3 hd1 (by walk_at "apart7") hS (.tail _ (.tail _ (.head _))) hD hr.orr (by have := hr.sw; lia) hr.ll hr.lo hr.hi) ?B ?F ?X ?N ?S ?O ?T ?K ?D ?U ?_)
          walk_at "use"
          rintro r M' T8 h8' tk8 F8' N8' hsub8 off8 ⟨o5', hmo, hS'⟩
          simp only [List.cons_append, List.nil_append] at N8'
          simp only [List.map_cons, List.map_nil] at off8
          try (k_unfold; (try dsimp only))
          replace hV := hV.mono (.of hsub8)
          obtain ⟨om, hom⟩ : ∃ om, (W3.snd.owed 9).1 = om := ⟨_, rfl⟩
          rw [hom] at hmo
          cases om with
          | none =>
            have hmo : r = .none := hmo
            subst hmo
            have hs3 : Sent3 W3 (W3.snd.owed 9).2 W3.rcv := by unfold Sent3; rw [hom]; exact ⟨rfl, rfl⟩
            obtain ⟨hq1, hq2, hq3⟩ := hr.read _ _ hs3
            iterate 40 (first | (with_reducible show wpAny _ _ (call (Value.ref _) _) _ _ _) | walk1)
            try k_fold
            k_dflt (refine' use_call (law_read_ok _ x1 d1 x2 d2 wd fl [(pl, po2)] T8 o5' o4 wo3 (W3.snd.owed 9).2 W3.rcv 99 _ W3.room W3.written W3.read t3 a2 hd1 a4 hd2 (by walk_at "apart7") (by walk_at "apart7") (by walk_at "apart7") hS' hV hD (by decide) (by decide) hq1 hq2 (by have := hr.wl; lia) (by have := hr.rl; lia) hq3) ?B ?F ?X ?N ?S ?O ?T ?K ?D ?U ?_)
            walk_at "use"
            rintro r' M' T10 h10 tk10 F10 N10 hsub10 off10 ⟨oa, ob, oc, td, hSa, hVa, hDa⟩
            simp only [List.cons_append, List.nil_append] at N10
            simp only [List.map_cons, List.map_nil] at off10
            try (k_unfold; (try dsimp only))
            have hI' := inv3_step hI hi ⟨_, _, hs3, rfl⟩
            iterate 20 (first | (with_reducible show TurnPost _ _ _ _ _ _ _ _ _ _) | walk1)
            exact TurnEnd.intro [(x1, instObj 199 d1), (d1, oa), (x2, instObj 309 d2), (d2, ob), (wd, oc), (pl, po2)] T10 (by k_asm) (by k_asm) (fun p hp => hsub10 p (hsub8 p hp)) off10 rfl (fun T3 hT3 _ => ⟨by walk_at "binds", _, oa, ob, oc, td, rfl, hSa.mono hT3, hVa.mono hT3, hDa, hI'⟩)
          | some ms =>
            have hmo : MsgV T8 r ms := hmo
            obtain ⟨pm, rfl⟩ := hmo.isRef
            iterate 40 (first | (with_reducible show wpAny _ _ (call (Value.ref _) _) _ _ _) | walk1)
            try k_fold
            k_dflt (refine' use_call (law_handed_ok _ x1 d1 x2 d2 wd fl [(wd, wo3), (pl, po2)] T8 o5' o4 wo3 (W3.snd.owed 9).2 W3.rcv (.ref pm) ms W3.room W3.written W3.read t3 hd1 a4 hd2 (by walk_at "apart7") (by walk_at "apart7") hS' hV (.head _) hD hmo (hr.hand ms hom)) ?B ?F ?X ?N ?S ?O ?T ?K ?D ?U ?_)
            walk_at "use"
            rintro r' M' T9 h9 tk9 F9 N9 hsub9 off9 ⟨oa, ob, sa, ra, hh, hS', hV⟩
            simp only [List.cons_append, List.nil_append] at N9
            simp only [List.map_cons, List.map_nil] at off9
            try (k_unfold; (try dsimp only))
            have hs3 : Sent3 W3 sa ra := by unfold Sent3; rw [hom]; exact hh
            obtain ⟨hq1, hq2, hq3⟩ := hr.read _ _ hs3
            iterate 40 (first | (with_reducible show wpAny _ _ (call (Value.ref _) _) _ _ _) | walk1)
            try k_fold
            k_dflt (refine' use_call (law_read_ok _ x1 d1 x2 d2 wd fl [(pl, po2)] T9 oa ob wo3 sa ra 99 _ W3.room W3.written W3.read t3 a2 hd1 a4 hd2 (by walk_at "apart7") (by walk_at "apart7") (by walk_at "apart7") hS' hV hD (by decide) (by decide) hq1 hq2 (by have := hr.wl; lia) (by have := hr.rl; lia) hq3) ?B ?F ?X ?N ?S ?O ?T ?K ?D ?U ?_)
            walk_at "use"
            rintro r' M' T10 h10 tk10 F10 N10 hsub10 off10 ⟨oe, of, oc, td, hSa, hVa, hDa⟩
            simp only [List.cons_append, List.nil_append] at N10
            simp only [List.map_cons, List.map_nil] at off10
            try (k_unfold; (try dsimp only))
            have hI' := inv3_step hI hi ⟨_, _, hs3, rfl⟩
            iterate 20 (first | (with_reducible show TurnPost _ _ _ _ _ _ _ _ _ _) | walk1)
            exact TurnEnd.intro [(x1, instObj 199 d1), (d1, oe), (x2, instObj 309 d2), (d2, of), (wd, oc), (pl, po2)] T10 (by k_asm) (by k_asm) (fun p hp => hsub10 p (hsub9 p (hsub8 p hp))) off10 rfl (fun T3 hT3 _ => ⟨by walk_at "binds", _, oe, of, oc, td, rfl, hSa.mono hT3, hVa.mono hT3, hDa, hI'⟩)
        case done3 =>
          clear hJ3 FR8 NR8 hI3 hV hS hD hoff1 hsT hsub5 hfl hI hr7
          rintro m C T7 h tk hT hoff1 hC ⟨hb, W3, o3, o4, wo3, t3, rfl, hS, hV, hD, hI⟩ F N
          clear hC
          obtain ⟨hr, he1, he2, he3, he4⟩ := inv3_end hI
          simp only [List.cons_append, List.nil_append] at N
          simp only [List.map_cons, List.map_nil] at hoff1
          dsimp only at hb hD
          try simp only [envOf_locals] at F N
          replace F := fr_of _ F hb
          obtain ⟨k8, tl8, te8, tw8, ts8, va8, vl8, tr8, ha8, hl8⟩ := id hS
          obtain ⟨k9, tl9, te9, vp9, tr9, th9, tf9, tc9, tp9, hp9⟩ := id hV
          try dsimp only
          iterate 20 (first | (with_reducible show wpAny _ _ (call (Value.ref _) _) _ _ _) | walk1)
          try k_fold
          k_dflt (refine' use_call (snd_is_over _ x1 d1 [(x2, instObj 309 d2), (d2, _), (wd, wo3), (pl, po2)] T7 _ W3.snd hd1 (by walk_at "apart7") hS) ?B ?F ?X ?N ?S ?O ?T ?K ?D ?U ?_)
          walk_at "use"
          rintro r' M' T8 h8 tk8 F8 N8 hsub8 off8 ⟨rfl, rfl⟩
          simp only [List.cons_append, List.nil_append] at N8
          simp only [List.map_cons, List.map_nil] at off8
          try (k_unfold; (try dsimp only))
          rw [he1]
          iterate 20 (first | (with_reducible show wpAny _ _ (call (Value.ref _) _) _ _ _) | walk1)

          try k_fold
          k_dflt (refine' use_call (rcv_is_over _ x2 d2 [(x1, instObj 199 d1), (d1, _), (wd, wo3), (pl, po2)] T8 _ W3.rcv hd2 (by walk_at "apart7") (hV.mono (.of hsub8))) ?B ?F ?X ?N ?S ?O ?T ?K ?D ?U ?_)
          walk_at "use"
          rintro r' M' T9 h9 tk9 F9 N9 hsub9 off9 ⟨rfl, rfl⟩
          simp only [List.cons_append, List.nil_append] at N9
          simp only [List.map_cons, List.map_nil] at off9
          try (k_unfold; (try dsimp only))
          rw [he2]
          iterate 20 (first | (with_reducible show wpAny _ _ (call (Value.ref _) _) _ _ _) | walk1)

          try k_fold
          k_dflt (refine' use_call (law_owed_ok _ x1 d1 x2 wd fl [(x2, instObj 309 d2), (d2, _), (wd, wo3), (pl, po2)] T9 _ wo3 W3.snd 9 _ W3.room W3.written W3.read t3 hd1 (by walk_at "apart7") (hS.mono (.of fun p hp => hsub9 p (hsub8 p hp))) (.tail _ (.tail _ (.head _))) hD hr.orr (by have := hr.sw; lia) hr.ll hr.lo hr.hi) ?B ?F ?X ?N ?S ?O ?T ?K ?D ?U ?_)
          walk_at "use"
          rintro r M' T10 h10 tk10 F10 N10 hsub10 off10 ⟨o5', hmo, hS'⟩
          simp only [List.cons_append, List.nil_append] at N10
          simp only [List.map_cons, List.map_nil] at off10
          try (k_unfold; (try dsimp only))
          rw [he3] at hmo
          have hmo : r = .none := hmo
          subst hmo
          rw [owed_none he3] at hS'
          obtain ⟨k7, tl7, te7, tw7, ts7, va7, vl7, tr7, ha7, hl7⟩ := id hS'
          rcases he4 with ⟨e1, e2, e3⟩ | ⟨e1, e2, c, e3, e4⟩
          · simp only [e1, e2, RS.str, optV_none] at N10
            rw [e3] at hD
            iterate 60 (try walk1)
            rw [beq_self_eq_true]
            try dsimp only
            exact goodW_bool F10 (by assumption) (law_raises _) (law_post _)
          · simp only [e1, e2, e3, e4, SS.str, RS.str, optV_some] at N10
            iterate 60 (try walk1)
            rw [beq_self_eq_true]
            try dsimp only
            exact goodW_bool F10 (by assumption) (law_raises _) (law_post _))
end
end Mine
theorem PySem.Challenge.cw_pb0528_01_holds : PySem.Challenge.rw_pb0528_01.Holds :=
  Mine.law_dev
