import PyProof.Rows.All
import Wide.All
import OpenK.AllK
import Wide.FinOn
import KE.LcSums
import KE.KDictOf
import PyProof.AttrMissSeq
import PySem.Challenge.RW_pf0277_01
set_option Elab.async false
section
open PySem PySem.W PyProof.Rows
set_option maxRecDepth 100000
set_option maxHeartbeats 8000000
namespace Mine

noncomputable def runG (thr ok : Thread → Bool) (st : SharedT → Thread → Option (SharedT × Thread)) : Nat → SharedT → Thread → Option SharedT
  | 0, _, _ => none
  | n + 1, s, t => match thr t with
    | true => some s
    | false => match ok t with
      | false => none
      | true => match st s t with
        | some (s', t') => runG thr ok st n s' t'
        | none => none

theorem runG_of {tb : String → Option Builtin} {p : Program} {w : World} {n₀ : Nat} {ann : Option Value} : ∀ {n : Nat} {s s' : SharedT} {t : Thread},
    runG through (stepOk n₀ ann) (stepT (denote tb) p w) n s t = some s' → topRun tb p w n₀ ann n s.abs t = some s'.abs
  | 0, _, _, _, h => by cases h
  | n + 1, s, s', t, h => by
    unfold runG at h
    unfold topRun
    cases ht : through t with
    | true => rw [ht] at h; cases h; rfl
    | false =>
      rw [ht] at h
      cases hk : stepOk n₀ ann t with
      | false => rw [hk] at h; cases h
      | true =>
        rw [hk] at h
        cases hs : stepT (denote tb) p w s t with
        | none => rw [hs] at h; cases h
        | some r => obtain ⟨s₂, t₂⟩ := r; rw [hs] at h; rw [stepT_spec hs]; exact runG_of h

/-- what is looked at behind the top's run -/
noncomputable abbrev lookAt (p q : Program) (H₀ : Heap) (Xt : Shared → Bool) {α : Type} (Yf : Shared → α) (s : Shared) :=
  ((staticsOk (importedModules p.main.body) H₀ s.heap && namesBound p s.heap && gensDone s && laidKept H₀ s.heap),
    openSeen q [] (importedModules p.main.body) Xt true s, Yf s)

theorem left_of {p q : Program} {Xt : Shared → Bool} {α : Type} {Yf : Shared → α} {Ya : World → α} {N M m₀ : Nat} {ann : Option Value} {H₀ : Params → Heap} {T0 : Params → BT} {k₀ n0 : Nat} {life : Life} {d₀ : Drawn}
    (open_ : ∀ w : World, (fencedOpening treeTable p w N).map (fun s => (s.heap, s.gens, s.drawn, s.toks)) = some (H₀ w.params, Array.mk [], d₀, k₀))
    (size : ∀ w : World, ((H₀ w.params).isNs mainGlobals && (Array.mk [] : Array GenState).size == 0, (H₀ w.params).objs.size, (H₀ w.params).nsMap mainGlobals "__annotations__") = (true, m₀, ann))
    (h0 : ∀ P, H₀ P = absHeap (T0 P) n0 life) (le : Nat.ble M N = true)
    (run : ∀ (w : World) (os : OsState), (runG through (stepOk m₀ ann) (stepT (denote treeTable) p w) M ⟨T0 w.params, n0, life, Array.mk [], d₀, k₀, os⟩ (topStub p)).map (fun s => lookAt p q (H₀ w.params) Xt Yf s.abs) = some (true, openGood q [], Ya w)) :
    LeftO p q [] Xt Yf Ya N true := fun w => by
  obtain ⟨⟨h, gs, d, k, os⟩, e, e'⟩ := Option.map_eq_some_iff.mp (open_ w)
  obtain ⟨rfl, rfl, rfl, rfl⟩ : h = H₀ w.params ∧ gs = Array.mk [] ∧ d = d₀ ∧ k = k₀ := by simpa using e'
  obtain ⟨z1, z2, z3⟩ : _ ∧ _ ∧ _ := by simpa only [Prod.mk.injEq] using size w
  obtain ⟨s₁, r1, r2⟩ := Option.map_eq_some_iff.mp (run w os)
  obtain ⟨l1, l2, l3⟩ : _ ∧ _ ∧ _ := by simpa only [Prod.mk.injEq] using r2
  have r0 := runG_of r1
  have r := topRun_mono (N - M) _ _ _ _ r0
  rw [show M + (N - M) = N by have := Nat.le_of_ble_eq_true le; omega] at r
  have t : topFrom treeTable p w N ⟨H₀ w.params, Array.mk [], d, k, os⟩ = some s₁.abs := by
    unfold topFrom
    dsimp only
    rw [z1, z2, z3]
    have r' : topRun treeTable p w m₀ ann N ⟨H₀ w.params, Array.mk [], d, k, os⟩ (topStub p) = some s₁.abs := by
      rw [h0 w.params]; exact r
    show (Option.bind (topRun treeTable p w m₀ ann N ⟨H₀ w.params, Array.mk [], d, k, os⟩ (topStub p)) _) = _
    rw [r']
    show (match staticsOk (importedModules p.main.body) (H₀ w.params) s₁.abs.heap && namesBound p s₁.abs.heap && gensDone s₁.abs && laidKept (H₀ w.params) s₁.abs.heap with | true => _ | false => _) = _
    rw [l1]
  unfold openEnds
  rw [e]
  show (topFrom treeTable p w N _).map _ = _
  rw [t]
  exact congrArg some (Prod.ext l2 l3)

noncomputable def T0 (P : Params) : BT :=
  .node (boot_o_0 P)
    (.node (boot_o_1 P)
      (.node (boot_o_3 P) (.node (boot_o_7 P) .nil .nil) .nil)
      (.node (boot_o_5 P) (.node (boot_o_9 P) .nil .nil) .nil))
    (.node (boot_o_2 P)
      (.node (boot_o_4 P) (.node (boot_o_8 P) .nil .nil) .nil)
      (.node (boot_o_6 P) (.node (boot_o_10 P) .nil .nil) .nil))
theorem T0_heap (P : Params) : boot_heap P = absHeap (T0 P) 11 {} := by rfl
end Mine
end

section
open PySem PySem.W PyProof.Rows
set_option maxRecDepth 100000
set_option maxHeartbeats 0
namespace Mine
noncomputable def mkTw.tw8360954412219422699 : Program := PySem.Challenge.pw_pf0277_01
theorem mkTw.te8360954412219422699 : PySem.Challenge.pw_pf0277_01 = mkTw.tw8360954412219422699 := rfl
set_option Elab.async true in
theorem mkTw : (PySem.Challenge.pw_pf0277_01.main.body.length == 59) = true := by k_qdec
noncomputable abbrev pF := PySem.Challenge.pw_pf0277_01
theorem pF_eq : PySem.Challenge.pw_pf0277_01 = pF := rfl
/-- the law's own def alone; the other names that the text binds at its top are "loose" -/
noncomputable def keep : List Nat := [58]
noncomputable def boundBy : Stmt → Option Str
  | .FunctionDef n .. => some n
  | .ClassDef n .. => some n
  | .Assign [.Name n _] .. => some n
  | _ => none
noncomputable def loF : List Str := (PySem.Challenge.pw_pf0277_01.main.body.take 58).filterMap boundBy
end Mine
end

section
open PySem PySem.W PyProof.Rows
set_option maxRecDepth 100000
set_option maxHeartbeats 0
namespace Mine
/-- a def of the text: its parameters, body, scope -/
noncomputable def dF (p : Program) (i : Nat) : Arguments × List Stmt × Scope := match p.main.body[i]? with
  | some (.FunctionDef _ a b _ _ _ sc _ _ _) => (a, b, sc)
  | _ => (⟨[], [], none, [], [], none, []⟩, [], default)
/-- a method of a class of the text -/
noncomputable def dM (p : Program) (i j : Nat) : Arguments × List Stmt × Scope := match p.main.body[i]? with
  | some (.ClassDef _ _ _ body _ _ _ _ _ _ _) => (match body[j]? with
      | some (.FunctionDef _ a b _ _ _ sc _ _ _) => (a, b, sc)
      | _ => (⟨[], [], none, [], [], none, []⟩, [], default))
  | _ => (⟨[], [], none, [], [], none, []⟩, [], default)

noncomputable def z0 : Str := Str.mk (Array.mk [60, 109, 111, 100, 117, 108, 101, 62])
noncomputable def z1 : Str := Str.mk (Array.mk [47, 99, 108, 97, 105, 109, 47, 99, 117, 116, 46, 112, 121])
noncomputable def z2 : Str := Str.mk (Array.mk [95, 95, 109, 97, 105, 110, 95, 95])
noncomputable def z3 : Str := Str.mk (Array.mk [95, 95, 110, 97, 109, 101, 95, 95])
noncomputable def z4 : Str := Str.mk (Array.mk [113, 117, 105, 99, 46, 110, 101, 119, 114, 101, 110, 111])
noncomputable def z5 : Str := Str.mk (Array.mk [95, 95, 100, 111, 99, 95, 95])
noncomputable def z6 : Str := Str.mk (Array.mk [95, 95, 112, 97, 99, 107, 97, 103, 101, 95, 95])
noncomputable def z7 : Str := Str.mk (Array.mk [95, 95, 108, 111, 97, 100, 101, 114, 95, 95])
noncomputable def z8 : Str := Str.mk (Array.mk [95, 95, 115, 112, 101, 99, 95, 95])
noncomputable def z9 : Str := Str.mk (Array.mk [95, 95, 97, 110, 110, 111, 116, 97, 116, 105, 111, 110, 115, 95, 95])
noncomputable def z10 : Str := Str.mk (Array.mk [95, 95, 98, 117, 105, 108, 116, 105, 110, 115, 95, 95])
noncomputable def z11 : Str := Str.mk (Array.mk [95, 95, 102, 105, 108, 101, 95, 95])
noncomputable def z12 : Str := Str.mk (Array.mk [95, 95, 99, 97, 99, 104, 101, 100, 95, 95])
noncomputable def z13 : Str := Str.mk (Array.mk [95, 119, 97, 108, 108])
noncomputable def z14 : Str := Str.mk (Array.mk [73, 78, 73, 84, 73, 65, 76, 95, 80, 65, 67, 75, 69, 84, 83])
noncomputable def z15 : Str := Str.mk (Array.mk [73, 78, 73, 84, 73, 65, 76, 95, 79, 67, 84, 69, 84, 83])
noncomputable def z16 : Str := Str.mk (Array.mk [76, 69, 65, 83, 84, 95, 80, 65, 67, 75, 69, 84, 83])
noncomputable def z17 : Str := Str.mk (Array.mk [105, 110, 105, 116, 105, 97, 108, 95, 119, 105, 110, 100, 111, 119])
noncomputable def z18 : Str := Str.mk (Array.mk [78, 101, 119, 82, 101, 110, 111])
noncomputable def z19 : Str := Str.mk (Array.mk [107])
noncomputable def z20 : Str := Str.mk (Array.mk [100, 97, 116, 97, 103, 114, 97, 109])
noncomputable def z21 : Str := Str.mk (Array.mk [95, 95, 109, 111, 100, 117, 108, 101, 95, 95])
noncomputable def z22 : Str := Str.mk (Array.mk [95, 95, 113, 117, 97, 108, 110, 97, 109, 101, 95, 95])
noncomputable def z23 : Str := Str.mk (Array.mk [95, 95, 102, 105, 114, 115, 116, 108, 105, 110, 101, 110, 111, 95, 95])
noncomputable def z24 : Str := Str.mk (Array.mk [95, 95, 105, 110, 105, 116, 95, 95])
noncomputable def z25 : Str := Str.mk (Array.mk [109, 97, 121, 95, 115, 101, 110, 100])
noncomputable def z26 : Str := Str.mk (Array.mk [105, 115, 95, 115, 108, 111, 119, 95, 115, 116, 97, 114, 116])
noncomputable def z27 : Str := Str.mk (Array.mk [105, 110, 95, 114, 101, 99, 111, 118, 101, 114, 121])
noncomputable def z28 : Str := Str.mk (Array.mk [111, 110, 95, 115, 101, 110, 116])
noncomputable def z29 : Str := Str.mk (Array.mk [111, 110, 95, 100, 105, 115, 99, 97, 114, 100, 101, 100])
noncomputable def z30 : Str := Str.mk (Array.mk [111, 110, 95, 97, 99, 107, 101, 100])
noncomputable def z31 : Str := Str.mk (Array.mk [119, 105, 100, 101, 110])
noncomputable def z32 : Str := Str.mk (Array.mk [111, 110, 95, 99, 111, 110, 103, 101, 115, 116, 105, 111, 110])
noncomputable def z33 : Str := Str.mk (Array.mk [111, 110, 95, 108, 111, 115, 116])
noncomputable def z34 : Str := Str.mk (Array.mk [111, 110, 95, 112, 101, 114, 115, 105, 115, 116, 101, 110, 116])
noncomputable def z35 : Str := Str.mk (Array.mk [95, 95, 115, 116, 97, 116, 105, 99, 95, 97, 116, 116, 114, 105, 98, 117, 116, 101, 115, 95, 95])
noncomputable def z36 : Str := Str.mk (Array.mk [115, 101, 108, 102])
noncomputable def z37 : Str := Str.mk (Array.mk [78, 101, 119, 82, 101, 110, 111, 46, 95, 95, 105, 110, 105, 116, 95, 95])
noncomputable def z38 : Str := Str.mk (Array.mk [115, 105, 122, 101])
noncomputable def z39 : Str := Str.mk (Array.mk [78, 101, 119, 82, 101, 110, 111, 46, 109, 97, 121, 95, 115, 101, 110, 100])
noncomputable def z40 : Str := Str.mk (Array.mk [78, 101, 119, 82, 101, 110, 111, 46, 105, 115, 95, 115, 108, 111, 119, 95, 115, 116, 97, 114, 116])
noncomputable def z41 : Str := Str.mk (Array.mk [115, 101, 110, 116, 95, 97, 116])
noncomputable def z42 : Str := Str.mk (Array.mk [78, 101, 119, 82, 101, 110, 111, 46, 105, 110, 95, 114, 101, 99, 111, 118, 101, 114, 121])
noncomputable def z43 : Str := Str.mk (Array.mk [78, 101, 119, 82, 101, 110, 111, 46, 111, 110, 95, 115, 101, 110, 116])
noncomputable def z44 : Str := Str.mk (Array.mk [78, 101, 119, 82, 101, 110, 111, 46, 111, 110, 95, 100, 105, 115, 99, 97, 114, 100, 101, 100])
noncomputable def z45 : Str := Str.mk (Array.mk [105, 115, 95, 108, 105, 109, 105, 116, 101, 100])
noncomputable def z46 : Str := Str.mk (Array.mk [110, 111, 119])
noncomputable def z47 : Str := Str.mk (Array.mk [115, 109, 111, 111, 116, 104, 101, 100])
noncomputable def z48 : Str := Str.mk (Array.mk [78, 101, 119, 82, 101, 110, 111, 46, 111, 110, 95, 97, 99, 107, 101, 100])
noncomputable def z49 : Str := Str.mk (Array.mk [78, 101, 119, 82, 101, 110, 111, 46, 119, 105, 100, 101, 110])
noncomputable def z50 : Str := Str.mk (Array.mk [78, 101, 119, 82, 101, 110, 111, 46, 111, 110, 95, 99, 111, 110, 103, 101, 115, 116, 105, 111, 110])
noncomputable def z51 : Str := Str.mk (Array.mk [110, 101, 119, 101, 115, 116])
noncomputable def z52 : Str := Str.mk (Array.mk [78, 101, 119, 82, 101, 110, 111, 46, 111, 110, 95, 108, 111, 115, 116])
noncomputable def z53 : Str := Str.mk (Array.mk [78, 101, 119, 82, 101, 110, 111, 46, 111, 110, 95, 112, 101, 114, 115, 105, 115, 116, 101, 110, 116])
noncomputable def z54 : Str := Str.mk (Array.mk [99, 114, 101, 100, 105, 116])
noncomputable def z55 : Str := Str.mk (Array.mk [105, 110, 95, 102, 108, 105, 103, 104, 116])
noncomputable def z56 : Str := Str.mk (Array.mk [114, 101, 99, 111, 118, 101, 114, 121, 95, 97, 116])
noncomputable def z57 : Str := Str.mk (Array.mk [116, 104, 114, 101, 115, 104, 111, 108, 100])
noncomputable def z58 : Str := Str.mk (Array.mk [119, 105, 110, 100, 111, 119])
noncomputable def z59 : Str := Str.mk (Array.mk [95, 95, 100, 105, 99, 116, 95, 95])
noncomputable def z60 : Str := Str.mk (Array.mk [95, 95, 119, 101, 97, 107, 114, 101, 102, 95, 95])
noncomputable def z61 : Str := Str.mk (Array.mk [113, 117, 105, 99, 46, 114, 116, 116])
noncomputable def z62 : Str := Str.mk (Array.mk [83, 80, 65, 67, 69, 95, 79, 82, 68, 69, 82])
noncomputable def z63 : Str := Str.mk (Array.mk [112, 114, 111, 98, 101, 95, 112, 101, 114, 105, 111, 100])
noncomputable def z64 : Str := Str.mk (Array.mk [101, 97, 114, 108, 105, 101, 115, 116, 95, 111, 102])
noncomputable def z65 : Str := Str.mk (Array.mk [112, 114, 111, 98, 101, 95, 116, 105, 109, 101, 115])
noncomputable def z66 : Str := Str.mk (Array.mk [105, 115, 95, 97, 110, 121, 116, 104, 105, 110, 103, 95, 97, 115, 107, 101, 100])
noncomputable def z67 : Str := Str.mk (Array.mk [112, 114, 111, 98, 101, 95, 100, 117, 101])
noncomputable def z68 : Str := Str.mk (Array.mk [110, 101, 120, 116, 95, 116, 105, 109, 101, 114])
noncomputable def z69 : Str := Str.mk (Array.mk [73, 78, 73, 84, 73, 65, 76, 95, 82, 84, 84])
noncomputable def z70 : Str := Str.mk (Array.mk [71, 82, 65, 78, 85, 76, 65, 82, 73, 84, 89])
noncomputable def z71 : Str := Str.mk (Array.mk [119, 105, 116, 104, 111, 117, 116, 95, 100, 101, 108, 97, 121])
noncomputable def z72 : Str := Str.mk (Array.mk [82, 116, 116])
noncomputable def z73 : Str := Str.mk (Array.mk [105, 110, 105, 116, 105, 97, 108])
noncomputable def z74 : Str := Str.mk (Array.mk [104, 97, 110, 100, 115, 104, 97, 107, 101])
noncomputable def z75 : Str := Str.mk (Array.mk [97, 112, 112, 108, 105, 99, 97, 116, 105, 111, 110])
noncomputable def z76 : Str := Str.mk (Array.mk [98, 97, 115, 101])
noncomputable def z77 : Str := Str.mk (Array.mk [109, 111, 115, 116, 95, 100, 101, 108, 97, 121])
noncomputable def z78 : Str := Str.mk (Array.mk [99, 111, 117, 110, 116])
noncomputable def z79 : Str := Str.mk (Array.mk [113, 117, 105, 99, 46, 112, 116, 111])
noncomputable def z80 : Str := Str.mk (Array.mk [116, 105, 109, 101, 115])
noncomputable def z81 : Str := Str.mk (Array.mk [102, 111, 117, 110, 100])
noncomputable def z82 : Str := Str.mk (Array.mk [115, 112, 97, 99, 101])
noncomputable def z83 : Str := Str.mk (Array.mk [116, 111, 108, 100])
noncomputable def z84 : Str := Str.mk (Array.mk [108, 97, 115, 116, 95, 97, 115, 107, 101, 100])
noncomputable def z85 : Str := Str.mk (Array.mk [105, 115, 95, 99, 111, 110, 102, 105, 114, 109, 101, 100])
noncomputable def z86 : Str := Str.mk (Array.mk [100, 101, 108, 97, 121])
noncomputable def z87 : Str := Str.mk (Array.mk [105, 115, 95, 118, 97, 108, 105, 100, 97, 116, 101, 100])
noncomputable def z88 : Str := Str.mk (Array.mk [104, 97, 115, 95, 104, 97, 110, 100, 115, 104, 97, 107, 101, 95, 107, 101, 121, 115])
noncomputable def z89 : Str := Str.mk (Array.mk [108, 111, 115, 115, 95, 116, 105, 109, 101, 115])
noncomputable def z90 : Str := Str.mk (Array.mk [116, 111, 108, 100, 95, 112, 114, 111, 98, 101])
noncomputable def z91 : Str := Str.mk (Array.mk [105, 115, 95, 98, 108, 111, 99, 107, 101, 100])
noncomputable def z92 : Str := Str.mk (Array.mk [108, 97, 116, 101, 115, 116])
noncomputable def z93 : Str := Str.mk (Array.mk [108, 101, 97, 115, 116])
noncomputable def z94 : Str := Str.mk (Array.mk [97, 99, 107, 95, 100, 101, 108, 97, 121])
noncomputable def z95 : Str := Str.mk (Array.mk [118, 97, 114, 105, 97, 110, 99, 101])
noncomputable def z96 : Str := Str.mk (Array.mk [115, 97, 109, 112, 108, 101])
noncomputable def z97 : Str := Str.mk (Array.mk [98, 101, 103, 105, 110, 95, 108, 101, 97, 115, 116])
noncomputable def z98 : Str := Str.mk (Array.mk [112, 114, 111, 98, 101, 95, 98, 97, 115, 101])
noncomputable def z99 : Str := Str.mk (Array.mk [115, 105, 110, 99, 101])
noncomputable def z100 : Str := Str.mk (Array.mk [82, 116, 116, 46, 95, 95, 105, 110, 105, 116, 95, 95])
noncomputable def z101 : Str := Str.mk (Array.mk [82, 116, 116, 46, 115, 109, 111, 111, 116, 104, 101, 100])
noncomputable def z102 : Str := Str.mk (Array.mk [82, 116, 116, 46, 118, 97, 114, 105, 97, 110, 99, 101])
noncomputable def z103 : Str := Str.mk (Array.mk [97, 100, 106, 117, 115, 116, 101, 100])
noncomputable def z104 : Str := Str.mk (Array.mk [97, 112, 97, 114, 116])
noncomputable def z105 : Str := Str.mk (Array.mk [82, 116, 116, 46, 115, 97, 109, 112, 108, 101])
noncomputable def z106 : Str := Str.mk (Array.mk [82, 116, 116, 46, 98, 101, 103, 105, 110, 95, 108, 101, 97, 115, 116])
noncomputable def z107 : Str := Str.mk (Array.mk [82, 116, 116, 46, 112, 114, 111, 98, 101, 95, 98, 97, 115, 101])
noncomputable def z108 : Str := Str.mk (Array.mk [102, 105, 114, 115, 116, 95, 97, 116])
noncomputable def z109 : Str := Str.mk (Array.mk [115, 109, 111, 111, 116, 104, 101, 100, 56])
noncomputable def z110 : Str := Str.mk (Array.mk [118, 97, 114, 105, 97, 110, 99, 101, 52])
noncomputable def z111 : Str := Str.mk (Array.mk [116, 121, 112, 101, 46, 95, 95, 115, 117, 98, 99, 108, 97, 115, 115, 101, 115, 95, 95, 46, 69, 120, 99, 101, 112, 116, 105, 111, 110, 46, 48])
noncomputable def z112 : Str := Str.mk (Array.mk [116, 121, 112, 101, 46, 95, 95, 115, 117, 98, 99, 108, 97, 115, 115, 101, 115, 95, 95, 46, 69, 120, 99, 101, 112, 116, 105, 111, 110, 46, 110])
noncomputable def z113 : Str := Str.mk (Array.mk [113, 117, 105, 99, 46, 112, 97, 116, 104, 115])
noncomputable def z114 : Str := Str.mk (Array.mk [98, 101, 103, 105, 110, 95, 97, 110, 101, 119])
noncomputable def z115 : Str := Str.mk (Array.mk [114, 101, 110, 101, 119, 95, 119, 97, 121])
noncomputable def z116 : Str := Str.mk (Array.mk [105, 115, 95, 115, 97, 109, 101, 95, 112, 114, 111, 98, 101])
noncomputable def z117 : Str := Str.mk (Array.mk [115, 101, 116, 95, 116, 105, 109, 101, 114])
noncomputable def z118 : Str := Str.mk (Array.mk [105, 115, 95, 112, 97, 116, 104, 95, 108, 111, 115, 116])
noncomputable def z119 : Str := Str.mk (Array.mk [80, 97, 99, 107, 101, 116, 82, 101, 102, 117, 115, 101, 100])
noncomputable def z120 : Str := Str.mk (Array.mk [84, 73, 77, 69, 83, 95, 82, 69, 67, 69, 73, 86, 69, 68])
noncomputable def z121 : Str := Str.mk (Array.mk [80, 65, 84, 72, 95, 85, 78, 80, 82, 79, 86, 69, 78])
noncomputable def z122 : Str := Str.mk (Array.mk [117, 110, 112, 114, 111, 118, 101, 110])
noncomputable def z123 : Str := Str.mk (Array.mk [80, 65, 84, 72, 95, 84, 82, 89, 73, 78, 71])
noncomputable def z124 : Str := Str.mk (Array.mk [116, 114, 121, 105, 110, 103])
noncomputable def z125 : Str := Str.mk (Array.mk [80, 65, 84, 72, 95, 80, 82, 79, 86, 69, 78])
noncomputable def z126 : Str := Str.mk (Array.mk [112, 114, 111, 118, 101, 110])
noncomputable def z127 : Str := Str.mk (Array.mk [80, 65, 84, 72, 95, 70, 65, 73, 76, 69, 68])
noncomputable def z128 : Str := Str.mk (Array.mk [102, 97, 105, 108, 101, 100])
noncomputable def z129 : Str := Str.mk (Array.mk [99, 111, 110, 110])
noncomputable def z130 : Str := Str.mk (Array.mk [111, 117, 116])
noncomputable def z131 : Str := Str.mk (Array.mk [113, 117, 105, 99, 46, 99, 111, 110, 110, 108, 111, 115, 115])
noncomputable def z132 : Str := Str.mk (Array.mk [97, 99, 116, 105, 118, 101])
noncomputable def z133 : Str := Str.mk (Array.mk [110, 97, 109, 101])
noncomputable def z134 : Str := Str.mk (Array.mk [112, 108, 97, 99, 101])
noncomputable def z135 : Str := Str.mk (Array.mk [101, 108, 100, 101, 114])
noncomputable def z136 : Str := Str.mk (Array.mk [110, 101, 119, 101, 114])
noncomputable def z137 : Str := Str.mk (Array.mk [113, 117, 105, 99, 46, 101, 114, 114, 111, 114, 115])
noncomputable def z138 : Str := Str.mk (Array.mk [116, 101, 120, 116])
noncomputable def z139 : Str := Str.mk (Array.mk [80, 97, 99, 107, 101, 116, 82, 101, 102, 117, 115, 101, 100, 46, 95, 95, 105, 110, 105, 116, 95, 95])
noncomputable def z140 : Str := Str.mk (Array.mk [80, 97, 116, 104])
noncomputable def z141 : Str := Str.mk (Array.mk [105, 115, 95, 112, 114, 111, 118, 101, 110])
noncomputable def z142 : Str := Str.mk (Array.mk [114, 111, 111, 109])
noncomputable def z143 : Str := Str.mk (Array.mk [111, 110, 95, 114, 101, 99, 101, 105, 118, 101, 100])
noncomputable def z144 : Str := Str.mk (Array.mk [112, 114, 111, 118, 101])
noncomputable def z145 : Str := Str.mk (Array.mk [99, 104, 97, 108, 108, 101, 110, 103, 101])
noncomputable def z146 : Str := Str.mk (Array.mk [102, 97, 105, 108])
noncomputable def z147 : Str := Str.mk (Array.mk [114, 101, 110, 101, 119])
noncomputable def z148 : Str := Str.mk (Array.mk [97, 100, 100, 114, 101, 115, 115])
noncomputable def z149 : Str := Str.mk (Array.mk [80, 97, 116, 104, 46, 95, 95, 105, 110, 105, 116, 95, 95])
noncomputable def z150 : Str := Str.mk (Array.mk [80, 97, 116, 104, 46, 105, 115, 95, 112, 114, 111, 118, 101, 110])
noncomputable def z151 : Str := Str.mk (Array.mk [80, 97, 116, 104, 46, 114, 111, 111, 109])
noncomputable def z152 : Str := Str.mk (Array.mk [80, 97, 116, 104, 46, 109, 97, 121, 95, 115, 101, 110, 100])
noncomputable def z153 : Str := Str.mk (Array.mk [80, 97, 116, 104, 46, 111, 110, 95, 114, 101, 99, 101, 105, 118, 101, 100])
noncomputable def z154 : Str := Str.mk (Array.mk [80, 97, 116, 104, 46, 111, 110, 95, 115, 101, 110, 116])
noncomputable def z155 : Str := Str.mk (Array.mk [80, 97, 116, 104, 46, 112, 114, 111, 118, 101])
noncomputable def z156 : Str := Str.mk (Array.mk [100, 97, 116, 97])
noncomputable def z157 : Str := Str.mk (Array.mk [119, 97, 105, 116])
noncomputable def z158 : Str := Str.mk (Array.mk [80, 97, 116, 104, 46, 99, 104, 97, 108, 108, 101, 110, 103, 101])
noncomputable def z159 : Str := Str.mk (Array.mk [80, 97, 116, 104, 46, 102, 97, 105, 108])
noncomputable def z160 : Str := Str.mk (Array.mk [80, 97, 116, 104, 46, 114, 101, 110, 101, 119])
noncomputable def z161 : Str := Str.mk (Array.mk [99, 104, 97, 108, 108, 101, 110, 103, 101, 115])
noncomputable def z162 : Str := Str.mk (Array.mk [100, 101, 97, 100, 108, 105, 110, 101])
noncomputable def z163 : Str := Str.mk (Array.mk [105, 115, 95, 102, 114, 101, 101])
noncomputable def z164 : Str := Str.mk (Array.mk [114, 101, 99, 101, 105, 118, 101, 100])
noncomputable def z165 : Str := Str.mk (Array.mk [115, 101, 110, 116])
noncomputable def z166 : Str := Str.mk (Array.mk [115, 116, 97, 116, 101])
noncomputable def z167 : Str := Str.mk (Array.mk [119, 97, 110, 116, 115, 95, 109, 111, 114, 101])
noncomputable def z168 : Str := Str.mk (Array.mk [80, 97, 116, 104, 115])
noncomputable def z169 : Str := Str.mk (Array.mk [112, 97, 116, 104, 95, 111, 102])
noncomputable def z170 : Str := Str.mk (Array.mk [111, 112, 101, 110, 101, 100])
noncomputable def z171 : Str := Str.mk (Array.mk [111, 110, 95, 100, 97, 116, 97, 103, 114, 97, 109])
noncomputable def z172 : Str := Str.mk (Array.mk [111, 110, 95, 112, 97, 99, 107, 101, 116])
noncomputable def z173 : Str := Str.mk (Array.mk [109, 111, 118, 101, 95, 116, 111])
noncomputable def z174 : Str := Str.mk (Array.mk [116, 97, 107, 101, 95, 99, 104, 97, 108, 108, 101, 110, 103, 101])
noncomputable def z175 : Str := Str.mk (Array.mk [110, 101, 120, 116, 95, 97, 110, 115, 119, 101, 114])
noncomputable def z176 : Str := Str.mk (Array.mk [119, 97, 110, 116, 115, 95, 99, 104, 97, 108, 108, 101, 110, 103, 101])
noncomputable def z177 : Str := Str.mk (Array.mk [97, 115, 107, 95, 97, 103, 97, 105, 110])
noncomputable def z178 : Str := Str.mk (Array.mk [111, 110, 95, 99, 104, 97, 108, 108, 101, 110, 103, 101, 95, 108, 111, 115, 116])
noncomputable def z179 : Str := Str.mk (Array.mk [116, 97, 107, 101, 95, 114, 101, 115, 112, 111, 110, 115, 101])
noncomputable def z180 : Str := Str.mk (Array.mk [111, 110, 95, 104, 97, 110, 100, 115, 104, 97, 107, 101, 95, 112, 97, 99, 107, 101, 116])
noncomputable def z181 : Str := Str.mk (Array.mk [110, 101, 120, 116, 95, 116, 105, 109, 101])
noncomputable def z182 : Str := Str.mk (Array.mk [111, 110, 95, 116, 105, 109, 101])
noncomputable def z183 : Str := Str.mk (Array.mk [114, 111, 108, 101])
noncomputable def z184 : Str := Str.mk (Array.mk [109, 97, 121, 95, 109, 111, 118, 101])
noncomputable def z185 : Str := Str.mk (Array.mk [80, 97, 116, 104, 115, 46, 95, 95, 105, 110, 105, 116, 95, 95])
noncomputable def z186 : Str := Str.mk (Array.mk [112, 97, 116, 104])
noncomputable def z187 : Str := Str.mk (Array.mk [80, 97, 116, 104, 115, 46, 112, 97, 116, 104, 95, 111, 102])
noncomputable def z188 : Str := Str.mk (Array.mk [80, 97, 116, 104, 115, 46, 111, 112, 101, 110, 101, 100])
noncomputable def z189 : Str := Str.mk (Array.mk [80, 97, 116, 104, 115, 46, 111, 110, 95, 100, 97, 116, 97, 103, 114, 97, 109])
noncomputable def z190 : Str := Str.mk (Array.mk [110, 117, 109, 98, 101, 114])
noncomputable def z191 : Str := Str.mk (Array.mk [105, 115, 95, 112, 114, 111, 98, 105, 110, 103])
noncomputable def z192 : Str := Str.mk (Array.mk [105, 115, 95, 110, 101, 119, 101, 115, 116])
noncomputable def z193 : Str := Str.mk (Array.mk [80, 97, 116, 104, 115, 46, 111, 110, 95, 112, 97, 99, 107, 101, 116])
noncomputable def z194 : Str := Str.mk (Array.mk [80, 97, 116, 104, 115, 46, 109, 111, 118, 101, 95, 116, 111])
noncomputable def z195 : Str := Str.mk (Array.mk [80, 97, 116, 104, 115, 46, 116, 97, 107, 101, 95, 99, 104, 97, 108, 108, 101, 110, 103, 101])
noncomputable def z196 : Str := Str.mk (Array.mk [80, 97, 116, 104, 115, 46, 110, 101, 120, 116, 95, 97, 110, 115, 119, 101, 114])
noncomputable def z197 : Str := Str.mk (Array.mk [80, 97, 116, 104, 115, 46, 119, 97, 110, 116, 115, 95, 99, 104, 97, 108, 108, 101, 110, 103, 101])
noncomputable def z198 : Str := Str.mk (Array.mk [80, 97, 116, 104, 115, 46, 97, 115, 107, 95, 97, 103, 97, 105, 110])
noncomputable def z199 : Str := Str.mk (Array.mk [80, 97, 116, 104, 115, 46, 111, 110, 95, 99, 104, 97, 108, 108, 101, 110, 103, 101, 95, 108, 111, 115, 116])
noncomputable def z200 : Str := Str.mk (Array.mk [80, 97, 116, 104, 115, 46, 116, 97, 107, 101, 95, 114, 101, 115, 112, 111, 110, 115, 101])
noncomputable def z201 : Str := Str.mk (Array.mk [80, 97, 116, 104, 115, 46, 111, 110, 95, 104, 97, 110, 100, 115, 104, 97, 107, 101, 95, 112, 97, 99, 107, 101, 116])
noncomputable def z202 : Str := Str.mk (Array.mk [80, 97, 116, 104, 115, 46, 110, 101, 120, 116, 95, 116, 105, 109, 101])
noncomputable def z203 : Str := Str.mk (Array.mk [80, 97, 116, 104, 115, 46, 111, 110, 95, 116, 105, 109, 101])
noncomputable def z204 : Str := Str.mk (Array.mk [97, 110, 115, 119, 101, 114, 115])
noncomputable def z205 : Str := Str.mk (Array.mk [104, 105, 103, 104, 101, 115, 116])
noncomputable def z206 : Str := Str.mk (Array.mk [107, 110, 111, 119, 110])
noncomputable def z207 : Str := Str.mk (Array.mk [108, 97, 115, 116, 95, 112, 114, 111, 118, 101, 110])
noncomputable def z208 : Str := Str.mk (Array.mk [113, 117, 105, 99, 46, 115, 112, 97, 99, 101, 115])
noncomputable def z209 : Str := Str.mk (Array.mk [78, 79, 84, 95, 69, 76, 73, 67, 73, 84, 73, 78, 71])
noncomputable def z210 : Str := Str.mk (Array.mk [105, 115, 95, 101, 108, 105, 99, 105, 116, 105, 110, 103])
noncomputable def z211 : Str := Str.mk (Array.mk [99, 111, 117, 110, 116, 115, 95, 105, 110, 95, 102, 108, 105, 103, 104, 116])
noncomputable def z212 : Str := Str.mk (Array.mk [97, 110, 121, 95, 101, 108, 105, 99, 105, 116, 105, 110, 103])
noncomputable def z213 : Str := Str.mk (Array.mk [97, 110, 121, 95, 105, 110, 95, 102, 108, 105, 103, 104, 116])
noncomputable def z214 : Str := Str.mk (Array.mk [97, 100, 100, 95, 110, 117, 109, 98, 101, 114])
noncomputable def z215 : Str := Str.mk (Array.mk [97, 100, 100, 95, 114, 97, 110, 103, 101])
noncomputable def z216 : Str := Str.mk (Array.mk [112, 114, 117, 110, 101])
noncomputable def z217 : Str := Str.mk (Array.mk [75, 69, 80, 84, 95, 82, 65, 78, 71, 69, 83])
noncomputable def z218 : Str := Str.mk (Array.mk [65, 67, 75, 95, 69, 65, 67, 72])
noncomputable def z219 : Str := Str.mk (Array.mk [69, 67, 78, 95, 80, 76, 65, 67, 69, 83])
noncomputable def z220 : Str := Str.mk (Array.mk [83, 101, 110, 116, 80, 97, 99, 107, 101, 116])
noncomputable def z221 : Str := Str.mk (Array.mk [97, 99, 107])
noncomputable def z222 : Str := Str.mk (Array.mk [112, 97, 100, 100, 105, 110, 103])
noncomputable def z223 : Str := Str.mk (Array.mk [99, 108, 111, 115, 101])
noncomputable def z224 : Str := Str.mk (Array.mk [102])
noncomputable def z225 : Str := Str.mk (Array.mk [113, 117, 105, 99, 46, 102, 114, 97, 109, 101, 114, 117, 108, 101, 115])
noncomputable def z226 : Str := Str.mk (Array.mk [114, 97, 110, 103, 101, 115])
noncomputable def z227 : Str := Str.mk (Array.mk [110])
noncomputable def z228 : Str := Str.mk (Array.mk [113, 117, 105, 99, 46, 114, 97, 110, 103, 101, 115])
noncomputable def z229 : Str := Str.mk (Array.mk [108, 111, 119])
noncomputable def z230 : Str := Str.mk (Array.mk [104, 105, 103, 104])
noncomputable def z231 : Str := Str.mk (Array.mk [105, 115, 95, 105, 110])
noncomputable def z232 : Str := Str.mk (Array.mk [111, 110, 101])
noncomputable def z233 : Str := Str.mk (Array.mk [116, 105, 109, 101])
noncomputable def z234 : Str := Str.mk (Array.mk [102, 114, 97, 109, 101, 115])
noncomputable def z235 : Str := Str.mk (Array.mk [83, 101, 110, 116, 80, 97, 99, 107, 101, 116, 46, 95, 95, 105, 110, 105, 116, 95, 95])
noncomputable def z236 : Str := Str.mk (Array.mk [108, 97, 119, 95, 112, 102, 48, 50, 55, 55, 95, 48, 49])
noncomputable def z237 : Str := Str.mk (Array.mk [83, 112, 97, 99, 101])
noncomputable def z238 : Str := Str.mk (Array.mk [107, 101, 112, 116, 95, 114, 97, 110, 103, 101, 115])
noncomputable def z239 : Str := Str.mk (Array.mk [95, 108, 97, 119, 95, 116, 97, 107, 101])
noncomputable def z240 : Str := Str.mk (Array.mk [95, 108, 97, 119, 95, 115, 116, 97, 116, 101])
noncomputable def z241 : Str := Str.mk (Array.mk [108, 97, 119])
noncomputable def z242 : Str := Str.mk (Array.mk [105, 115, 95, 107, 110, 111, 119, 110])
noncomputable def z243 : Str := Str.mk (Array.mk [97, 99, 107, 95, 102, 114, 97, 109, 101])
noncomputable def z244 : Str := Str.mk (Array.mk [111, 110, 95, 97, 99, 107, 95, 115, 101, 110, 116])
noncomputable def z245 : Str := Str.mk (Array.mk [111, 119, 101, 115, 95, 97, 99, 107])
noncomputable def z246 : Str := Str.mk (Array.mk [116, 97, 107, 101, 95, 110, 117, 109, 98, 101, 114])
noncomputable def z247 : Str := Str.mk (Array.mk [116, 97, 107, 101])
noncomputable def z248 : Str := Str.mk (Array.mk [97, 99, 107, 101, 100, 95, 98, 121])
noncomputable def z249 : Str := Str.mk (Array.mk [110, 111, 116, 101, 95, 97, 99, 107, 101, 100])
noncomputable def z250 : Str := Str.mk (Array.mk [110, 111, 116, 101, 95, 114, 97, 110, 103, 101, 115])
noncomputable def z251 : Str := Str.mk (Array.mk [105, 115, 95, 98, 101, 121, 111, 110, 100])
noncomputable def z252 : Str := Str.mk (Array.mk [110, 111, 116, 101, 95, 108, 97, 114, 103, 101, 115, 116])
noncomputable def z253 : Str := Str.mk (Array.mk [101, 108, 105, 99, 105, 116, 105, 110, 103, 95, 108, 101, 102, 116])
noncomputable def z254 : Str := Str.mk (Array.mk [98, 97, 114, 101, 95, 110, 117, 109, 98, 101, 114, 115])
noncomputable def z255 : Str := Str.mk (Array.mk [111, 99, 116, 101, 116, 115, 95, 111, 117, 116])
noncomputable def z256 : Str := Str.mk (Array.mk [115, 101, 110, 116, 95, 114, 111, 119, 115])
noncomputable def z257 : Str := Str.mk (Array.mk [102, 111, 114, 103, 101, 116])
noncomputable def z258 : Str := Str.mk (Array.mk [83, 112, 97, 99, 101, 46, 95, 95, 105, 110, 105, 116, 95, 95])
noncomputable def z259 : Str := Str.mk (Array.mk [83, 112, 97, 99, 101, 46, 105, 115, 95, 107, 110, 111, 119, 110])
noncomputable def z260 : Str := Str.mk (Array.mk [104, 97, 115, 95, 101, 108, 105, 99, 105, 116, 105, 110, 103])
noncomputable def z261 : Str := Str.mk (Array.mk [109, 97, 114, 107])
noncomputable def z262 : Str := Str.mk (Array.mk [105, 115, 95, 103, 97, 112])
noncomputable def z263 : Str := Str.mk (Array.mk [83, 112, 97, 99, 101, 46, 111, 110, 95, 114, 101, 99, 101, 105, 118, 101, 100])
noncomputable def z264 : Str := Str.mk (Array.mk [101, 120, 112, 111, 110, 101, 110, 116])
noncomputable def z265 : Str := Str.mk (Array.mk [83, 112, 97, 99, 101, 46, 97, 99, 107, 95, 102, 114, 97, 109, 101])
noncomputable def z266 : Str := Str.mk (Array.mk [83, 112, 97, 99, 101, 46, 111, 110, 95, 97, 99, 107, 95, 115, 101, 110, 116])
noncomputable def z267 : Str := Str.mk (Array.mk [83, 112, 97, 99, 101, 46, 111, 119, 101, 115, 95, 97, 99, 107])
noncomputable def z268 : Str := Str.mk (Array.mk [83, 112, 97, 99, 101, 46, 116, 97, 107, 101, 95, 110, 117, 109, 98, 101, 114])
noncomputable def z269 : Str := Str.mk (Array.mk [112, 97, 99, 107, 101, 116])
noncomputable def z270 : Str := Str.mk (Array.mk [83, 112, 97, 99, 101, 46, 111, 110, 95, 115, 101, 110, 116])
noncomputable def z271 : Str := Str.mk (Array.mk [83, 112, 97, 99, 101, 46, 116, 97, 107, 101])
noncomputable def z272 : Str := Str.mk (Array.mk [83, 112, 97, 99, 101, 46, 97, 99, 107, 101, 100, 95, 98, 121])
noncomputable def z273 : Str := Str.mk (Array.mk [110, 117, 109, 98, 101, 114, 115])
noncomputable def z274 : Str := Str.mk (Array.mk [83, 112, 97, 99, 101, 46, 110, 111, 116, 101, 95, 97, 99, 107, 101, 100])
noncomputable def z275 : Str := Str.mk (Array.mk [83, 112, 97, 99, 101, 46, 110, 111, 116, 101, 95, 114, 97, 110, 103, 101, 115])
noncomputable def z276 : Str := Str.mk (Array.mk [83, 112, 97, 99, 101, 46, 105, 115, 95, 98, 101, 121, 111, 110, 100])
noncomputable def z277 : Str := Str.mk (Array.mk [83, 112, 97, 99, 101, 46, 110, 111, 116, 101, 95, 108, 97, 114, 103, 101, 115, 116])
noncomputable def z278 : Str := Str.mk (Array.mk [83, 112, 97, 99, 101, 46, 101, 108, 105, 99, 105, 116, 105, 110, 103, 95, 108, 101, 102, 116])
noncomputable def z279 : Str := Str.mk (Array.mk [83, 112, 97, 99, 101, 46, 98, 97, 114, 101, 95, 110, 117, 109, 98, 101, 114, 115])
noncomputable def z280 : Str := Str.mk (Array.mk [83, 112, 97, 99, 101, 46, 111, 99, 116, 101, 116, 115, 95, 111, 117, 116])
noncomputable def z281 : Str := Str.mk (Array.mk [83, 112, 97, 99, 101, 46, 115, 101, 110, 116, 95, 114, 111, 119, 115])
noncomputable def z282 : Str := Str.mk (Array.mk [83, 112, 97, 99, 101, 46, 102, 111, 114, 103, 101, 116])
noncomputable def z283 : Str := Str.mk (Array.mk [97, 99, 107, 101, 100])
noncomputable def z284 : Str := Str.mk (Array.mk [101, 99, 110])
noncomputable def z285 : Str := Str.mk (Array.mk [102, 105, 114, 115, 116, 95, 117, 110, 97, 99, 107, 101, 100])
noncomputable def z286 : Str := Str.mk (Array.mk [102, 108, 111, 111, 114])
noncomputable def z287 : Str := Str.mk (Array.mk [104, 97, 115, 95, 110, 101, 119])
noncomputable def z288 : Str := Str.mk (Array.mk [105, 115, 95, 103, 111, 110, 101])
noncomputable def z289 : Str := Str.mk (Array.mk [108, 97, 114, 103, 101, 115, 116, 95, 97, 99, 107, 101, 100])
noncomputable def z290 : Str := Str.mk (Array.mk [108, 97, 114, 103, 101, 115, 116, 95, 115, 101, 101, 110])
noncomputable def z291 : Str := Str.mk (Array.mk [108, 97, 114, 103, 101, 115, 116, 95, 116, 105, 109, 101])
noncomputable def z292 : Str := Str.mk (Array.mk [108, 97, 115, 116, 95, 101, 108, 105, 99, 105, 116, 105, 110, 103, 95, 116, 105, 109, 101])
noncomputable def z293 : Str := Str.mk (Array.mk [108, 111, 115, 115, 95, 116, 105, 109, 101])
noncomputable def z294 : Str := Str.mk (Array.mk [110, 101, 120, 116, 95, 110, 117, 109, 98, 101, 114])
noncomputable def z295 : Str := Str.mk (Array.mk [117, 110, 97, 99, 107, 101, 100])
noncomputable def z296 : Str := Str.mk (Array.mk [119, 97, 110, 116, 115, 95, 110, 111, 119])
noncomputable def z297 : Str := Str.mk (Array.mk [98, 111, 120])
noncomputable def z298 : Str := Str.mk (Array.mk [109, 97, 110, 121])
noncomputable def z299 : Str := Str.mk (Array.mk [115, 99, 114, 105, 112, 116])
noncomputable def z300 : Str := Str.mk (Array.mk [97, 115, 107, 101, 100])
noncomputable def z301 : Str := Str.mk (Array.mk [116, 117, 114, 110])
noncomputable def z302 : Str := Str.mk (Array.mk [97, 115, 107, 115])
noncomputable def z303 : Str := Str.mk (Array.mk [99, 97, 109, 101])
noncomputable def z304 : Str := Str.mk (Array.mk [119, 101, 110, 116])
noncomputable def z305 : Str := Str.mk (Array.mk [108, 97, 116, 101])
noncomputable def z306 : Str := Str.mk (Array.mk [102, 114, 101, 101])
noncomputable def z307 : Str := Str.mk (Array.mk [98, 111, 117, 110, 100])
noncomputable def x0 (p : Program) (P : Params) : Obj := ⟨(.type "tuple"), none, (.seq (Array.mk []) 0), (Array.mk [])⟩
noncomputable def x1 (p : Program) (P : Params) : Obj := ⟨.none, none, (.fields (Array.mk [])), (Array.mk [])⟩
noncomputable def x2 (p : Program) (P : Params) : Obj := ⟨(.type "code"), none, (.fields (Array.mk [(.str z0 182), (.str z0 183), (.str z1 184), (.int 1 0), (.int 0 0), (.int 0 0), (.int 0 0), (.int 0 0), (.ref 11), (.bool false), (.int 181 0), (.ref 12), .none, .none, .none, .none, (.int 185 0), (.int 1 0), (.str z1 186)])), (Array.mk [])⟩
noncomputable def x3 (p : Program) (P : Params) : Obj := ⟨(.type "frame"), none, .plain, (Array.mk [(some (.ref 13)), (some (.ref 3)), (some (.ref 3)), none, (some (.str z2 164)), none, (some (.ref 0))])⟩
noncomputable def x4 (p : Program) (P : Params) : Obj := ⟨(.type "dict"), none, (.dict (Array.mk [⟨PyData.keyHash P z3, (.str z3 165), (.str z4 194)⟩, ⟨PyData.keyHash P z5, (.str z5 166), .none⟩, ⟨PyData.keyHash P z6, (.str z6 167), .none⟩, ⟨PyData.keyHash P z7, (.str z7 168), (.builtin "__main__.__loader__#\x6fpaque")⟩, ⟨PyData.keyHash P z8, (.str z8 169), .none⟩, ⟨PyData.keyHash P z9, (.str z9 170), (.ref 6)⟩, ⟨PyData.keyHash P z10, (.str z10 171), (.ref 4)⟩, ⟨PyData.keyHash P z11, (.str z11 173), (.str z1 172)⟩, ⟨PyData.keyHash P z12, (.str z12 174), .none⟩, ⟨PyData.keyHash P z13, (.str z13 193), (.ref 21)⟩, ⟨PyData.keyHash P z14, (.str z14 197), (.int 10 196)⟩, ⟨PyData.keyHash P z15, (.str z15 199), (.int 14720 198)⟩, ⟨PyData.keyHash P z16, (.str z16 201), (.int 2 200)⟩, ⟨PyData.keyHash P z17, (.str z17 208), (.ref 28)⟩, ⟨PyData.keyHash P z18, (.str z18 327), (.ref 115)⟩]) 15), (Array.mk [])⟩
noncomputable def x5 (p : Program) (P : Params) : Obj := ⟨.none, none, (.fields (Array.mk [(.int 1 0), (.int 0 0), (.ref 20), (.int 8 0), (.int 0 0), (.ref 27), (.int 10 0), (.int 0 0), (.ref 34)])), (Array.mk [])⟩
noncomputable def x6 (p : Program) (P : Params) : Obj := ⟨(.type "tuple"), none, (.seq (Array.mk []) 0), (Array.mk [])⟩
noncomputable def x7 (p : Program) (P : Params) : Obj := ⟨.none, none, (.fields (Array.mk [])), (Array.mk [])⟩
noncomputable def x8 (p : Program) (P : Params) : Obj := ⟨(.type "tuple"), none, (.seq (Array.mk [(.str z19 190)]) 0), (Array.mk [])⟩
noncomputable def x9 (p : Program) (P : Params) : Obj := ⟨(.type "tuple"), none, (.seq (Array.mk []) 0), (Array.mk [])⟩
noncomputable def x10 (p : Program) (P : Params) : Obj := ⟨.none, none, (.func ⟨z13, z13, (dF p 0).1, .stmts (dF p 0).2.1, (dF p 0).2.2, 0, [], .none, .none, .none, .none, none, .none, .none, 0⟩), (Array.mk [])⟩
noncomputable def x11 (p : Program) (P : Params) : Obj := ⟨(.type "code"), none, (.fields (Array.mk [(.str z13 187), (.str z13 188), (.str z1 189), (.int 1 0), (.int 1 0), (.int 0 0), (.int 0 0), (.int 3 0), (.ref 15), (.bool true), (.int 181 0), (.ref 16), .none, (.ref 17), (.ref 18), (.ref 19), (.int 191 0), (.int 1 0), (.str z1 192)])), (Array.mk [])⟩
noncomputable def x12 (p : Program) (P : Params) : Obj := ⟨(.type "function"), none, (.func ⟨z13, z13, (dF p 0).1, .stmts (dF p 0).2.1, (dF p 0).2.2, 3, [], .none, .none, .none, (.str z2 164), none, (.ref 20), .none, 0⟩), (Array.mk [])⟩
noncomputable def x13 (p : Program) (P : Params) : Obj := ⟨(.type "tuple"), none, (.seq (Array.mk []) 0), (Array.mk [])⟩
noncomputable def x14 (p : Program) (P : Params) : Obj := ⟨.none, none, (.fields (Array.mk [])), (Array.mk [])⟩
noncomputable def x15 (p : Program) (P : Params) : Obj := ⟨(.type "tuple"), none, (.seq (Array.mk [(.str z20 205)]) 0), (Array.mk [])⟩
noncomputable def x16 (p : Program) (P : Params) : Obj := ⟨(.type "tuple"), none, (.seq (Array.mk []) 0), (Array.mk [])⟩
noncomputable def x17 (p : Program) (P : Params) : Obj := ⟨.none, none, (.func ⟨z17, z17, (dF p 5).1, .stmts (dF p 5).2.1, (dF p 5).2.2, 0, [], .none, .none, .none, .none, none, .none, .none, 0⟩), (Array.mk [])⟩
noncomputable def x18 (p : Program) (P : Params) : Obj := ⟨(.type "code"), none, (.fields (Array.mk [(.str z17 202), (.str z17 203), (.str z1 204), (.int 8 0), (.int 1 0), (.int 0 0), (.int 0 0), (.int 3 0), (.ref 22), (.bool true), (.int 181 0), (.ref 23), .none, (.ref 24), (.ref 25), (.ref 26), (.int 206 0), (.int 8 0), (.str z1 207)])), (Array.mk [])⟩
noncomputable def x19 (p : Program) (P : Params) : Obj := ⟨(.type "function"), none, (.func ⟨z17, z17, (dF p 5).1, .stmts (dF p 5).2.1, (dF p 5).2.2, 3, [], .none, .none, .none, (.str z4 194), none, (.ref 27), .none, 0⟩), (Array.mk [])⟩
noncomputable def x20 (p : Program) (P : Params) : Obj := ⟨(.type "tuple"), none, (.seq (Array.mk []) 0), (Array.mk [])⟩
noncomputable def x21 (p : Program) (P : Params) : Obj := ⟨(.type "builtin_function_or_method"), none, (.fields (Array.mk [(.builtin "type.__prepare__"), (.type "type")])), (Array.mk [])⟩
noncomputable def x22 (p : Program) (P : Params) : Obj := ⟨(.type "dict"), none, (.dict (Array.mk [⟨PyData.keyHash P z21, (.str z21 216), (.str z4 194)⟩, ⟨PyData.keyHash P z22, (.str z22 218), (.str z18 217)⟩, ⟨PyData.keyHash P z23, (.str z23 220), (.int 10 219)⟩, ⟨PyData.keyHash P z24, (.str z24 228), (.ref 42)⟩, ⟨PyData.keyHash P z25, (.str z25 236), (.ref 49)⟩, ⟨PyData.keyHash P z26, (.str z26 243), (.ref 56)⟩, ⟨PyData.keyHash P z27, (.str z27 251), (.ref 63)⟩, ⟨PyData.keyHash P z28, (.str z28 259), (.ref 70)⟩, ⟨PyData.keyHash P z29, (.str z29 267), (.ref 77)⟩, ⟨PyData.keyHash P z30, (.str z30 279), (.ref 84)⟩, ⟨PyData.keyHash P z31, (.str z31 287), (.ref 91)⟩, ⟨PyData.keyHash P z32, (.str z32 296), (.ref 98)⟩, ⟨PyData.keyHash P z33, (.str z33 306), (.ref 105)⟩, ⟨PyData.keyHash P z34, (.str z34 313), (.ref 112)⟩, ⟨PyData.keyHash P z35, (.str z35 320), (.ref 113)⟩]) 15), (Array.mk [])⟩
noncomputable def x23 (p : Program) (P : Params) : Obj := ⟨(.type "tuple"), none, (.seq (Array.mk []) 0), (Array.mk [])⟩
noncomputable def x24 (p : Program) (P : Params) : Obj := ⟨.none, none, (.fields (Array.mk [(.int 12 0), (.int 4 0), (.ref 41), (.int 20 0), (.int 4 0), (.ref 48), (.int 23 0), (.int 4 0), (.ref 55), (.int 26 0), (.int 4 0), (.ref 62), (.int 29 0), (.int 4 0), (.ref 69), (.int 32 0), (.int 4 0), (.ref 76), (.int 35 0), (.int 4 0), (.ref 83), (.int 38 0), (.int 4 0), (.ref 90), (.int 41 0), (.int 4 0), (.ref 97), (.int 44 0), (.int 4 0), (.ref 104), (.int 47 0), (.int 4 0), (.ref 111)])), (Array.mk [])⟩
noncomputable def x25 (p : Program) (P : Params) : Obj := ⟨(.type "code"), none, (.fields (Array.mk [(.str z18 211), (.str z18 212), (.str z1 213), (.int 10 0), (.int 0 0), (.int 0 0), (.int 0 0), (.int 0 0), (.ref 32), (.bool false), (.int 181 0), (.ref 33), .none, .none, .none, .none, (.int 214 0), (.int 10 0), (.str z1 215)])), (Array.mk [])⟩
noncomputable def x26 (p : Program) (P : Params) : Obj := ⟨(.type "frame"), none, .plain, (Array.mk [(some (.ref 34)), (some (.ref 3)), (some (.ref 31)), none, (some (.str z4 194)), none, (some (.ref 0))])⟩
noncomputable def x27 (p : Program) (P : Params) : Obj := ⟨(.type "tuple"), none, (.seq (Array.mk []) 0), (Array.mk [])⟩
noncomputable def x28 (p : Program) (P : Params) : Obj := ⟨.none, none, (.fields (Array.mk [])), (Array.mk [])⟩
noncomputable def x29 (p : Program) (P : Params) : Obj := ⟨(.type "tuple"), none, (.seq (Array.mk [(.str z36 224), (.str z20 225)]) 0), (Array.mk [])⟩
noncomputable def x30 (p : Program) (P : Params) : Obj := ⟨(.type "tuple"), none, (.seq (Array.mk []) 0), (Array.mk [])⟩
noncomputable def x31 (p : Program) (P : Params) : Obj := ⟨.none, none, (.func ⟨z24, z37, (dM p 6 0).1, .stmts (dM p 6 0).2.1, (dM p 6 0).2.2, 0, [], .none, .none, .none, .none, none, .none, .none, 0⟩), (Array.mk [])⟩
noncomputable def x32 (p : Program) (P : Params) : Obj := ⟨(.type "code"), none, (.fields (Array.mk [(.str z24 221), (.str z37 222), (.str z1 223), (.int 12 0), (.int 2 0), (.int 0 0), (.int 0 0), (.int 3 0), (.ref 36), (.bool true), (.int 181 0), (.ref 37), .none, (.ref 38), (.ref 39), (.ref 40), (.int 226 0), (.int 12 0), (.str z1 227)])), (Array.mk [])⟩
noncomputable def x33 (p : Program) (P : Params) : Obj := ⟨(.type "function"), none, (.func ⟨z24, z37, (dM p 6 0).1, .stmts (dM p 6 0).2.1, (dM p 6 0).2.2, 3, [], .none, .none, .none, (.str z4 194), none, (.ref 41), .none, 0⟩), (Array.mk [])⟩
noncomputable def x34 (p : Program) (P : Params) : Obj := ⟨(.type "tuple"), none, (.seq (Array.mk []) 0), (Array.mk [])⟩
noncomputable def x35 (p : Program) (P : Params) : Obj := ⟨.none, none, (.fields (Array.mk [])), (Array.mk [])⟩
noncomputable def x36 (p : Program) (P : Params) : Obj := ⟨(.type "tuple"), none, (.seq (Array.mk [(.str z36 232), (.str z38 233)]) 0), (Array.mk [])⟩
noncomputable def x37 (p : Program) (P : Params) : Obj := ⟨(.type "tuple"), none, (.seq (Array.mk []) 0), (Array.mk [])⟩
noncomputable def x38 (p : Program) (P : Params) : Obj := ⟨.none, none, (.func ⟨z25, z39, (dM p 6 1).1, .stmts (dM p 6 1).2.1, (dM p 6 1).2.2, 0, [], .none, .none, .none, .none, none, .none, .none, 0⟩), (Array.mk [])⟩
noncomputable def x39 (p : Program) (P : Params) : Obj := ⟨(.type "code"), none, (.fields (Array.mk [(.str z25 229), (.str z39 230), (.str z1 231), (.int 20 0), (.int 2 0), (.int 0 0), (.int 0 0), (.int 3 0), (.ref 43), (.bool true), (.int 181 0), (.ref 44), .none, (.ref 45), (.ref 46), (.ref 47), (.int 234 0), (.int 20 0), (.str z1 235)])), (Array.mk [])⟩
noncomputable def x40 (p : Program) (P : Params) : Obj := ⟨(.type "function"), none, (.func ⟨z25, z39, (dM p 6 1).1, .stmts (dM p 6 1).2.1, (dM p 6 1).2.2, 3, [], .none, .none, .none, (.str z4 194), none, (.ref 48), .none, 0⟩), (Array.mk [])⟩
noncomputable def x41 (p : Program) (P : Params) : Obj := ⟨(.type "tuple"), none, (.seq (Array.mk []) 0), (Array.mk [])⟩
noncomputable def x42 (p : Program) (P : Params) : Obj := ⟨.none, none, (.fields (Array.mk [])), (Array.mk [])⟩
noncomputable def x43 (p : Program) (P : Params) : Obj := ⟨(.type "tuple"), none, (.seq (Array.mk [(.str z36 240)]) 0), (Array.mk [])⟩
noncomputable def x44 (p : Program) (P : Params) : Obj := ⟨(.type "tuple"), none, (.seq (Array.mk []) 0), (Array.mk [])⟩
noncomputable def x45 (p : Program) (P : Params) : Obj := ⟨.none, none, (.func ⟨z26, z40, (dM p 6 2).1, .stmts (dM p 6 2).2.1, (dM p 6 2).2.2, 0, [], .none, .none, .none, .none, none, .none, .none, 0⟩), (Array.mk [])⟩
noncomputable def x46 (p : Program) (P : Params) : Obj := ⟨(.type "code"), none, (.fields (Array.mk [(.str z26 237), (.str z40 238), (.str z1 239), (.int 23 0), (.int 1 0), (.int 0 0), (.int 0 0), (.int 3 0), (.ref 50), (.bool true), (.int 181 0), (.ref 51), .none, (.ref 52), (.ref 53), (.ref 54), (.int 241 0), (.int 23 0), (.str z1 242)])), (Array.mk [])⟩
noncomputable def x47 (p : Program) (P : Params) : Obj := ⟨(.type "function"), none, (.func ⟨z26, z40, (dM p 6 2).1, .stmts (dM p 6 2).2.1, (dM p 6 2).2.2, 3, [], .none, .none, .none, (.str z4 194), none, (.ref 55), .none, 0⟩), (Array.mk [])⟩
noncomputable def x48 (p : Program) (P : Params) : Obj := ⟨(.type "tuple"), none, (.seq (Array.mk []) 0), (Array.mk [])⟩
noncomputable def x49 (p : Program) (P : Params) : Obj := ⟨.none, none, (.fields (Array.mk [])), (Array.mk [])⟩
noncomputable def x50 (p : Program) (P : Params) : Obj := ⟨(.type "tuple"), none, (.seq (Array.mk [(.str z36 247), (.str z41 248)]) 0), (Array.mk [])⟩
noncomputable def x51 (p : Program) (P : Params) : Obj := ⟨(.type "tuple"), none, (.seq (Array.mk []) 0), (Array.mk [])⟩
noncomputable def x52 (p : Program) (P : Params) : Obj := ⟨.none, none, (.func ⟨z27, z42, (dM p 6 3).1, .stmts (dM p 6 3).2.1, (dM p 6 3).2.2, 0, [], .none, .none, .none, .none, none, .none, .none, 0⟩), (Array.mk [])⟩
noncomputable def x53 (p : Program) (P : Params) : Obj := ⟨(.type "code"), none, (.fields (Array.mk [(.str z27 244), (.str z42 245), (.str z1 246), (.int 26 0), (.int 2 0), (.int 0 0), (.int 0 0), (.int 3 0), (.ref 57), (.bool true), (.int 181 0), (.ref 58), .none, (.ref 59), (.ref 60), (.ref 61), (.int 249 0), (.int 26 0), (.str z1 250)])), (Array.mk [])⟩
noncomputable def x54 (p : Program) (P : Params) : Obj := ⟨(.type "function"), none, (.func ⟨z27, z42, (dM p 6 3).1, .stmts (dM p 6 3).2.1, (dM p 6 3).2.2, 3, [], .none, .none, .none, (.str z4 194), none, (.ref 62), .none, 0⟩), (Array.mk [])⟩
noncomputable def x55 (p : Program) (P : Params) : Obj := ⟨(.type "tuple"), none, (.seq (Array.mk []) 0), (Array.mk [])⟩
noncomputable def x56 (p : Program) (P : Params) : Obj := ⟨.none, none, (.fields (Array.mk [])), (Array.mk [])⟩
noncomputable def x57 (p : Program) (P : Params) : Obj := ⟨(.type "tuple"), none, (.seq (Array.mk [(.str z36 255), (.str z38 256)]) 0), (Array.mk [])⟩
noncomputable def x58 (p : Program) (P : Params) : Obj := ⟨(.type "tuple"), none, (.seq (Array.mk []) 0), (Array.mk [])⟩
noncomputable def x59 (p : Program) (P : Params) : Obj := ⟨.none, none, (.func ⟨z28, z43, (dM p 6 4).1, .stmts (dM p 6 4).2.1, (dM p 6 4).2.2, 0, [], .none, .none, .none, .none, none, .none, .none, 0⟩), (Array.mk [])⟩
noncomputable def x60 (p : Program) (P : Params) : Obj := ⟨(.type "code"), none, (.fields (Array.mk [(.str z28 252), (.str z43 253), (.str z1 254), (.int 29 0), (.int 2 0), (.int 0 0), (.int 0 0), (.int 3 0), (.ref 64), (.bool true), (.int 181 0), (.ref 65), .none, (.ref 66), (.ref 67), (.ref 68), (.int 257 0), (.int 29 0), (.str z1 258)])), (Array.mk [])⟩
noncomputable def x61 (p : Program) (P : Params) : Obj := ⟨(.type "function"), none, (.func ⟨z28, z43, (dM p 6 4).1, .stmts (dM p 6 4).2.1, (dM p 6 4).2.2, 3, [], .none, .none, .none, (.str z4 194), none, (.ref 69), .none, 0⟩), (Array.mk [])⟩
noncomputable def x62 (p : Program) (P : Params) : Obj := ⟨(.type "tuple"), none, (.seq (Array.mk []) 0), (Array.mk [])⟩
noncomputable def x63 (p : Program) (P : Params) : Obj := ⟨.none, none, (.fields (Array.mk [])), (Array.mk [])⟩
noncomputable def x64 (p : Program) (P : Params) : Obj := ⟨(.type "tuple"), none, (.seq (Array.mk [(.str z36 263), (.str z38 264)]) 0), (Array.mk [])⟩
noncomputable def x65 (p : Program) (P : Params) : Obj := ⟨(.type "tuple"), none, (.seq (Array.mk []) 0), (Array.mk [])⟩
noncomputable def x66 (p : Program) (P : Params) : Obj := ⟨.none, none, (.func ⟨z29, z44, (dM p 6 5).1, .stmts (dM p 6 5).2.1, (dM p 6 5).2.2, 0, [], .none, .none, .none, .none, none, .none, .none, 0⟩), (Array.mk [])⟩
noncomputable def x67 (p : Program) (P : Params) : Obj := ⟨(.type "code"), none, (.fields (Array.mk [(.str z29 260), (.str z44 261), (.str z1 262), (.int 32 0), (.int 2 0), (.int 0 0), (.int 0 0), (.int 3 0), (.ref 71), (.bool true), (.int 181 0), (.ref 72), .none, (.ref 73), (.ref 74), (.ref 75), (.int 265 0), (.int 32 0), (.str z1 266)])), (Array.mk [])⟩
noncomputable def x68 (p : Program) (P : Params) : Obj := ⟨(.type "function"), none, (.func ⟨z29, z44, (dM p 6 5).1, .stmts (dM p 6 5).2.1, (dM p 6 5).2.2, 3, [], .none, .none, .none, (.str z4 194), none, (.ref 76), .none, 0⟩), (Array.mk [])⟩
noncomputable def x69 (p : Program) (P : Params) : Obj := ⟨(.type "tuple"), none, (.seq (Array.mk []) 0), (Array.mk [])⟩
noncomputable def x70 (p : Program) (P : Params) : Obj := ⟨.none, none, (.fields (Array.mk [])), (Array.mk [])⟩
noncomputable def x71 (p : Program) (P : Params) : Obj := ⟨(.type "tuple"), none, (.seq (Array.mk [(.str z36 271), (.str z38 272), (.str z41 273), (.str z45 274), (.str z46 275), (.str z47 276)]) 0), (Array.mk [])⟩
noncomputable def x72 (p : Program) (P : Params) : Obj := ⟨(.type "tuple"), none, (.seq (Array.mk []) 0), (Array.mk [])⟩
noncomputable def x73 (p : Program) (P : Params) : Obj := ⟨.none, none, (.func ⟨z30, z48, (dM p 6 6).1, .stmts (dM p 6 6).2.1, (dM p 6 6).2.2, 0, [], .none, .none, .none, .none, none, .none, .none, 0⟩), (Array.mk [])⟩
noncomputable def x74 (p : Program) (P : Params) : Obj := ⟨(.type "code"), none, (.fields (Array.mk [(.str z30 268), (.str z48 269), (.str z1 270), (.int 35 0), (.int 6 0), (.int 0 0), (.int 0 0), (.int 3 0), (.ref 78), (.bool true), (.int 181 0), (.ref 79), .none, (.ref 80), (.ref 81), (.ref 82), (.int 277 0), (.int 35 0), (.str z1 278)])), (Array.mk [])⟩
noncomputable def x75 (p : Program) (P : Params) : Obj := ⟨(.type "function"), none, (.func ⟨z30, z48, (dM p 6 6).1, .stmts (dM p 6 6).2.1, (dM p 6 6).2.2, 3, [], .none, .none, .none, (.str z4 194), none, (.ref 83), .none, 0⟩), (Array.mk [])⟩
noncomputable def x76 (p : Program) (P : Params) : Obj := ⟨(.type "tuple"), none, (.seq (Array.mk []) 0), (Array.mk [])⟩
noncomputable def x77 (p : Program) (P : Params) : Obj := ⟨.none, none, (.fields (Array.mk [])), (Array.mk [])⟩
noncomputable def x78 (p : Program) (P : Params) : Obj := ⟨(.type "tuple"), none, (.seq (Array.mk [(.str z36 283), (.str z38 284)]) 0), (Array.mk [])⟩
noncomputable def x79 (p : Program) (P : Params) : Obj := ⟨(.type "tuple"), none, (.seq (Array.mk []) 0), (Array.mk [])⟩
noncomputable def x80 (p : Program) (P : Params) : Obj := ⟨.none, none, (.func ⟨z31, z49, (dM p 6 7).1, .stmts (dM p 6 7).2.1, (dM p 6 7).2.2, 0, [], .none, .none, .none, .none, none, .none, .none, 0⟩), (Array.mk [])⟩
noncomputable def x81 (p : Program) (P : Params) : Obj := ⟨(.type "code"), none, (.fields (Array.mk [(.str z31 280), (.str z49 281), (.str z1 282), (.int 38 0), (.int 2 0), (.int 0 0), (.int 0 0), (.int 3 0), (.ref 85), (.bool true), (.int 181 0), (.ref 86), .none, (.ref 87), (.ref 88), (.ref 89), (.int 285 0), (.int 38 0), (.str z1 286)])), (Array.mk [])⟩
noncomputable def x82 (p : Program) (P : Params) : Obj := ⟨(.type "function"), none, (.func ⟨z31, z49, (dM p 6 7).1, .stmts (dM p 6 7).2.1, (dM p 6 7).2.2, 3, [], .none, .none, .none, (.str z4 194), none, (.ref 90), .none, 0⟩), (Array.mk [])⟩
noncomputable def x83 (p : Program) (P : Params) : Obj := ⟨(.type "tuple"), none, (.seq (Array.mk []) 0), (Array.mk [])⟩
noncomputable def x84 (p : Program) (P : Params) : Obj := ⟨.none, none, (.fields (Array.mk [])), (Array.mk [])⟩
noncomputable def x85 (p : Program) (P : Params) : Obj := ⟨(.type "tuple"), none, (.seq (Array.mk [(.str z36 291), (.str z41 292), (.str z46 293)]) 0), (Array.mk [])⟩
noncomputable def x86 (p : Program) (P : Params) : Obj := ⟨(.type "tuple"), none, (.seq (Array.mk []) 0), (Array.mk [])⟩
noncomputable def x87 (p : Program) (P : Params) : Obj := ⟨.none, none, (.func ⟨z32, z50, (dM p 6 8).1, .stmts (dM p 6 8).2.1, (dM p 6 8).2.2, 0, [], .none, .none, .none, .none, none, .none, .none, 0⟩), (Array.mk [])⟩
noncomputable def x88 (p : Program) (P : Params) : Obj := ⟨(.type "code"), none, (.fields (Array.mk [(.str z32 288), (.str z50 289), (.str z1 290), (.int 41 0), (.int 3 0), (.int 0 0), (.int 0 0), (.int 3 0), (.ref 92), (.bool true), (.int 181 0), (.ref 93), .none, (.ref 94), (.ref 95), (.ref 96), (.int 294 0), (.int 41 0), (.str z1 295)])), (Array.mk [])⟩
noncomputable def x89 (p : Program) (P : Params) : Obj := ⟨(.type "function"), none, (.func ⟨z32, z50, (dM p 6 8).1, .stmts (dM p 6 8).2.1, (dM p 6 8).2.2, 3, [], .none, .none, .none, (.str z4 194), none, (.ref 97), .none, 0⟩), (Array.mk [])⟩
noncomputable def x90 (p : Program) (P : Params) : Obj := ⟨(.type "tuple"), none, (.seq (Array.mk []) 0), (Array.mk [])⟩
noncomputable def x91 (p : Program) (P : Params) : Obj := ⟨.none, none, (.fields (Array.mk [])), (Array.mk [])⟩
noncomputable def x92 (p : Program) (P : Params) : Obj := ⟨(.type "tuple"), none, (.seq (Array.mk [(.str z36 300), (.str z38 301), (.str z51 302), (.str z46 303)]) 0), (Array.mk [])⟩
noncomputable def x93 (p : Program) (P : Params) : Obj := ⟨(.type "tuple"), none, (.seq (Array.mk []) 0), (Array.mk [])⟩
noncomputable def x94 (p : Program) (P : Params) : Obj := ⟨.none, none, (.func ⟨z33, z52, (dM p 6 9).1, .stmts (dM p 6 9).2.1, (dM p 6 9).2.2, 0, [], .none, .none, .none, .none, none, .none, .none, 0⟩), (Array.mk [])⟩
noncomputable def x95 (p : Program) (P : Params) : Obj := ⟨(.type "code"), none, (.fields (Array.mk [(.str z33 297), (.str z52 298), (.str z1 299), (.int 44 0), (.int 4 0), (.int 0 0), (.int 0 0), (.int 3 0), (.ref 99), (.bool true), (.int 181 0), (.ref 100), .none, (.ref 101), (.ref 102), (.ref 103), (.int 304 0), (.int 44 0), (.str z1 305)])), (Array.mk [])⟩
noncomputable def x96 (p : Program) (P : Params) : Obj := ⟨(.type "function"), none, (.func ⟨z33, z52, (dM p 6 9).1, .stmts (dM p 6 9).2.1, (dM p 6 9).2.2, 3, [], .none, .none, .none, (.str z4 194), none, (.ref 104), .none, 0⟩), (Array.mk [])⟩
noncomputable def x97 (p : Program) (P : Params) : Obj := ⟨(.type "tuple"), none, (.seq (Array.mk []) 0), (Array.mk [])⟩
noncomputable def x98 (p : Program) (P : Params) : Obj := ⟨.none, none, (.fields (Array.mk [])), (Array.mk [])⟩
noncomputable def x99 (p : Program) (P : Params) : Obj := ⟨(.type "tuple"), none, (.seq (Array.mk [(.str z36 310)]) 0), (Array.mk [])⟩
noncomputable def x100 (p : Program) (P : Params) : Obj := ⟨(.type "tuple"), none, (.seq (Array.mk []) 0), (Array.mk [])⟩
noncomputable def x101 (p : Program) (P : Params) : Obj := ⟨.none, none, (.func ⟨z34, z53, (dM p 6 10).1, .stmts (dM p 6 10).2.1, (dM p 6 10).2.2, 0, [], .none, .none, .none, .none, none, .none, .none, 0⟩), (Array.mk [])⟩
noncomputable def x102 (p : Program) (P : Params) : Obj := ⟨(.type "code"), none, (.fields (Array.mk [(.str z34 307), (.str z53 308), (.str z1 309), (.int 47 0), (.int 1 0), (.int 0 0), (.int 0 0), (.int 3 0), (.ref 106), (.bool true), (.int 181 0), (.ref 107), .none, (.ref 108), (.ref 109), (.ref 110), (.int 311 0), (.int 47 0), (.str z1 312)])), (Array.mk [])⟩
noncomputable def x103 (p : Program) (P : Params) : Obj := ⟨(.type "function"), none, (.func ⟨z34, z53, (dM p 6 10).1, .stmts (dM p 6 10).2.1, (dM p 6 10).2.2, 3, [], .none, .none, .none, (.str z4 194), none, (.ref 111), .none, 0⟩), (Array.mk [])⟩
noncomputable def x104 (p : Program) (P : Params) : Obj := ⟨(.type "tuple"), none, (.seq (Array.mk [(.str z54 314), (.str z20 315), (.str z55 316), (.str z56 317), (.str z57 318), (.str z58 319)]) 0), (Array.mk [])⟩
noncomputable def x105 (p : Program) (P : Params) : Obj := ⟨(.type "dict"), none, (.dict (Array.mk [⟨PyData.keyHash P z21, (.str z21 216), (.str z4 194)⟩, ⟨PyData.keyHash P z23, (.str z23 220), (.int 10 219)⟩, ⟨PyData.keyHash P z24, (.str z24 228), (.ref 42)⟩, ⟨PyData.keyHash P z25, (.str z25 236), (.ref 49)⟩, ⟨PyData.keyHash P z26, (.str z26 243), (.ref 56)⟩, ⟨PyData.keyHash P z27, (.str z27 251), (.ref 63)⟩, ⟨PyData.keyHash P z28, (.str z28 259), (.ref 70)⟩, ⟨PyData.keyHash P z29, (.str z29 267), (.ref 77)⟩, ⟨PyData.keyHash P z30, (.str z30 279), (.ref 84)⟩, ⟨PyData.keyHash P z31, (.str z31 287), (.ref 91)⟩, ⟨PyData.keyHash P z32, (.str z32 296), (.ref 98)⟩, ⟨PyData.keyHash P z33, (.str z33 306), (.ref 105)⟩, ⟨PyData.keyHash P z34, (.str z34 313), (.ref 112)⟩, ⟨PyData.keyHash P z35, (.str z35 320), (.ref 113)⟩, ⟨PyData.keyHash P z59, (.str z59 322), (.ref 116)⟩, ⟨PyData.keyHash P z60, (.str z60 324), (.ref 117)⟩, ⟨PyData.keyHash P z5, (.str z5 325), .none⟩]) 4), (Array.mk [])⟩
noncomputable def x106 (p : Program) (P : Params) : Obj := ⟨(.type "type"), none, (.cls ⟨z18, [(.type "object")], [(.ref 115), (.type "object")], 114, z18, true, [], [], false, none, false⟩), (Array.mk [none, none, (some (.str z18 209)), (some (.str z18 217)), (some (.builtin "object.__new__")), (some (.bool true))])⟩
noncomputable def x107 (p : Program) (P : Params) : Obj := ⟨(.type "getset_descriptor"), none, (.fields (Array.mk [(.str z59 321), (.ref 115), (.builtin "function.__dict__"), (.builtin "function.__dict__#set")])), (Array.mk [])⟩
noncomputable def x108 (p : Program) (P : Params) : Obj := ⟨(.type "getset_descriptor"), none, (.fields (Array.mk [(.str z60 323), (.ref 115), (.builtin "ExceptionGroup.__weakref__"), .none])), (Array.mk [])⟩
noncomputable def x109 (p : Program) (P : Params) : Obj := ⟨(.type "super"), none, (.fields (Array.mk [(.ref 115), (.ref 115), (.ref 115)])), (Array.mk [])⟩
noncomputable def x110 (p : Program) (P : Params) : Obj := ⟨(.type "builtin_function_or_method"), none, (.fields (Array.mk [(.builtin "object.__init_subclass__"), (.ref 115)])), (Array.mk [])⟩
noncomputable def x111 (p : Program) (P : Params) : Obj := ⟨(.type "dict"), none, (.dict (Array.mk [⟨PyData.keyHash P z3, (.str z3 165), (.str z61 398)⟩, ⟨PyData.keyHash P z5, (.str z5 166), .none⟩, ⟨PyData.keyHash P z6, (.str z6 167), .none⟩, ⟨PyData.keyHash P z7, (.str z7 168), (.builtin "__main__.__loader__#\x6fpaque")⟩, ⟨PyData.keyHash P z8, (.str z8 169), .none⟩, ⟨PyData.keyHash P z9, (.str z9 170), (.ref 6)⟩, ⟨PyData.keyHash P z10, (.str z10 171), (.ref 4)⟩, ⟨PyData.keyHash P z11, (.str z11 173), (.str z1 172)⟩, ⟨PyData.keyHash P z12, (.str z12 174), .none⟩, ⟨PyData.keyHash P z13, (.str z13 193), (.ref 21)⟩, ⟨PyData.keyHash P z14, (.str z14 197), (.int 10 196)⟩, ⟨PyData.keyHash P z15, (.str z15 199), (.int 14720 198)⟩, ⟨PyData.keyHash P z16, (.str z16 201), (.int 2 200)⟩, ⟨PyData.keyHash P z17, (.str z17 208), (.ref 28)⟩, ⟨PyData.keyHash P z18, (.str z18 327), (.ref 115)⟩, ⟨PyData.keyHash P z62, (.str z62 333), (.ref 120)⟩, ⟨PyData.keyHash P z63, (.str z63 342), (.ref 127)⟩, ⟨PyData.keyHash P z64, (.str z64 352), (.ref 134)⟩, ⟨PyData.keyHash P z65, (.str z65 367), (.ref 141)⟩, ⟨PyData.keyHash P z66, (.str z66 373), (.ref 146)⟩, ⟨PyData.keyHash P z67, (.str z67 387), (.ref 153)⟩, ⟨PyData.keyHash P z68, (.str z68 397), (.ref 160)⟩, ⟨PyData.keyHash P z69, (.str z69 401), (.int 333000 400)⟩, ⟨PyData.keyHash P z70, (.str z70 403), (.int 1000 402)⟩, ⟨PyData.keyHash P z71, (.str z71 412), (.ref 167)⟩, ⟨PyData.keyHash P z72, (.str z72 487), (.ref 220)⟩]) 26), (Array.mk [])⟩
noncomputable def x112 (p : Program) (P : Params) : Obj := ⟨.none, none, (.fields (Array.mk [(.int 1 0), (.int 0 0), (.ref 20), (.int 8 0), (.int 0 0), (.ref 27), (.int 10 0), (.int 0 0), (.ref 34), (.int 51 0), (.int 0 0), (.ref 126), (.int 53 0), (.int 0 0), (.ref 133), (.int 60 0), (.int 0 0), (.ref 140), (.int 69 0), (.int 0 0), (.ref 145), (.int 71 0), (.int 0 0), (.ref 152), (.int 77 0), (.int 0 0), (.ref 159), (.int 87 0), (.int 0 0), (.ref 166), (.int 89 0), (.int 0 0), (.ref 173)])), (Array.mk [])⟩
noncomputable def x113 (p : Program) (P : Params) : Obj := ⟨(.type "tuple"), none, (.seq (Array.mk [(.str z73 330), (.str z74 331), (.str z75 332)]) 0), (Array.mk [])⟩
noncomputable def x114 (p : Program) (P : Params) : Obj := ⟨(.type "tuple"), none, (.seq (Array.mk []) 0), (Array.mk [])⟩
noncomputable def x115 (p : Program) (P : Params) : Obj := ⟨.none, none, (.fields (Array.mk [])), (Array.mk [])⟩
noncomputable def x116 (p : Program) (P : Params) : Obj := ⟨(.type "tuple"), none, (.seq (Array.mk [(.str z76 337), (.str z77 338), (.str z78 339)]) 0), (Array.mk [])⟩
noncomputable def x117 (p : Program) (P : Params) : Obj := ⟨(.type "tuple"), none, (.seq (Array.mk []) 0), (Array.mk [])⟩
noncomputable def x118 (p : Program) (P : Params) : Obj := ⟨.none, none, (.func ⟨z63, z63, (dF p 9).1, .stmts (dF p 9).2.1, (dF p 9).2.2, 0, [], .none, .none, .none, .none, none, .none, .none, 0⟩), (Array.mk [])⟩
noncomputable def x119 (p : Program) (P : Params) : Obj := ⟨(.type "code"), none, (.fields (Array.mk [(.str z63 334), (.str z63 335), (.str z1 336), (.int 51 0), (.int 3 0), (.int 0 0), (.int 0 0), (.int 3 0), (.ref 121), (.bool true), (.int 181 0), (.ref 122), .none, (.ref 123), (.ref 124), (.ref 125), (.int 340 0), (.int 51 0), (.str z1 341)])), (Array.mk [])⟩
noncomputable def x120 (p : Program) (P : Params) : Obj := ⟨(.type "function"), none, (.func ⟨z63, z63, (dF p 9).1, .stmts (dF p 9).2.1, (dF p 9).2.2, 3, [], .none, .none, .none, (.str z79 328), none, (.ref 126), .none, 0⟩), (Array.mk [])⟩
noncomputable def x121 (p : Program) (P : Params) : Obj := ⟨(.type "tuple"), none, (.seq (Array.mk []) 0), (Array.mk [])⟩
noncomputable def x122 (p : Program) (P : Params) : Obj := ⟨.none, none, (.fields (Array.mk [])), (Array.mk [])⟩
noncomputable def x123 (p : Program) (P : Params) : Obj := ⟨(.type "tuple"), none, (.seq (Array.mk [(.str z80 346), (.str z81 347), (.str z82 348), (.str z83 349)]) 0), (Array.mk [])⟩
noncomputable def x124 (p : Program) (P : Params) : Obj := ⟨(.type "tuple"), none, (.seq (Array.mk []) 0), (Array.mk [])⟩
noncomputable def x125 (p : Program) (P : Params) : Obj := ⟨.none, none, (.func ⟨z64, z64, (dF p 10).1, .stmts (dF p 10).2.1, (dF p 10).2.2, 0, [], .none, .none, .none, .none, none, .none, .none, 0⟩), (Array.mk [])⟩
noncomputable def x126 (p : Program) (P : Params) : Obj := ⟨(.type "code"), none, (.fields (Array.mk [(.str z64 343), (.str z64 344), (.str z1 345), (.int 53 0), (.int 1 0), (.int 0 0), (.int 0 0), (.int 3 0), (.ref 128), (.bool true), (.int 181 0), (.ref 129), .none, (.ref 130), (.ref 131), (.ref 132), (.int 350 0), (.int 53 0), (.str z1 351)])), (Array.mk [])⟩
noncomputable def x127 (p : Program) (P : Params) : Obj := ⟨(.type "function"), none, (.func ⟨z64, z64, (dF p 10).1, .stmts (dF p 10).2.1, (dF p 10).2.2, 3, [], .none, .none, .none, (.str z79 328), none, (.ref 133), .none, 0⟩), (Array.mk [])⟩
noncomputable def x128 (p : Program) (P : Params) : Obj := ⟨(.type "tuple"), none, (.seq (Array.mk []) 0), (Array.mk [])⟩
noncomputable def x129 (p : Program) (P : Params) : Obj := ⟨.none, none, (.fields (Array.mk [])), (Array.mk [])⟩
noncomputable def x130 (p : Program) (P : Params) : Obj := ⟨(.type "tuple"), none, (.seq (Array.mk [(.str z84 356), (.str z76 357), (.str z77 358), (.str z78 359), (.str z85 360), (.str z81 361), (.str z82 362), (.str z41 363), (.str z86 364)]) 0), (Array.mk [])⟩
noncomputable def x131 (p : Program) (P : Params) : Obj := ⟨(.type "tuple"), none, (.seq (Array.mk []) 0), (Array.mk [])⟩
noncomputable def x132 (p : Program) (P : Params) : Obj := ⟨.none, none, (.func ⟨z65, z65, (dF p 11).1, .stmts (dF p 11).2.1, (dF p 11).2.2, 0, [], .none, .none, .none, .none, none, .none, .none, 0⟩), (Array.mk [])⟩
noncomputable def x133 (p : Program) (P : Params) : Obj := ⟨(.type "code"), none, (.fields (Array.mk [(.str z65 353), (.str z65 354), (.str z1 355), (.int 60 0), (.int 5 0), (.int 0 0), (.int 0 0), (.int 3 0), (.ref 135), (.bool true), (.int 181 0), (.ref 136), .none, (.ref 137), (.ref 138), (.ref 139), (.int 365 0), (.int 60 0), (.str z1 366)])), (Array.mk [])⟩
noncomputable def x134 (p : Program) (P : Params) : Obj := ⟨(.type "function"), none, (.func ⟨z65, z65, (dF p 11).1, .stmts (dF p 11).2.1, (dF p 11).2.2, 3, [], .none, .none, .none, (.str z79 328), none, (.ref 140), .none, 0⟩), (Array.mk [])⟩
noncomputable def x135 (p : Program) (P : Params) : Obj := ⟨(.type "tuple"), none, (.seq (Array.mk []) 0), (Array.mk [])⟩
noncomputable def x136 (p : Program) (P : Params) : Obj := ⟨.none, none, (.fields (Array.mk [])), (Array.mk [])⟩
noncomputable def x137 (p : Program) (P : Params) : Obj := ⟨.none, none, (.func ⟨z66, z66, (dF p 12).1, .stmts (dF p 12).2.1, (dF p 12).2.2, 0, [], .none, .none, .none, .none, none, .none, .none, 0⟩), (Array.mk [])⟩
noncomputable def x138 (p : Program) (P : Params) : Obj := ⟨(.type "code"), none, (.fields (Array.mk [(.str z66 368), (.str z66 369), (.str z1 370), (.int 69 0), (.int 1 0), (.int 0 0), (.int 0 0), (.int 3 0), (.ref 142), (.bool true), (.int 181 0), (.ref 143), .none, .none, .none, (.ref 144), (.int 371 0), (.int 69 0), (.str z1 372)])), (Array.mk [])⟩
noncomputable def x139 (p : Program) (P : Params) : Obj := ⟨(.type "function"), none, (.func ⟨z66, z66, (dF p 12).1, .stmts (dF p 12).2.1, (dF p 12).2.2, 3, [], .none, .none, .none, (.str z79 328), none, (.ref 145), .none, 0⟩), (Array.mk [])⟩
noncomputable def x140 (p : Program) (P : Params) : Obj := ⟨(.type "tuple"), none, (.seq (Array.mk []) 0), (Array.mk [])⟩
noncomputable def x141 (p : Program) (P : Params) : Obj := ⟨.none, none, (.fields (Array.mk [])), (Array.mk [])⟩
noncomputable def x142 (p : Program) (P : Params) : Obj := ⟨(.type "tuple"), none, (.seq (Array.mk [(.str z84 377), (.str z76 378), (.str z77 379), (.str z78 380), (.str z85 381), (.str z87 382), (.str z88 383), (.str z46 384)]) 0), (Array.mk [])⟩
noncomputable def x143 (p : Program) (P : Params) : Obj := ⟨(.type "tuple"), none, (.seq (Array.mk []) 0), (Array.mk [])⟩
noncomputable def x144 (p : Program) (P : Params) : Obj := ⟨.none, none, (.func ⟨z67, z67, (dF p 13).1, .stmts (dF p 13).2.1, (dF p 13).2.2, 0, [], .none, .none, .none, .none, none, .none, .none, 0⟩), (Array.mk [])⟩
noncomputable def x145 (p : Program) (P : Params) : Obj := ⟨(.type "code"), none, (.fields (Array.mk [(.str z67 374), (.str z67 375), (.str z1 376), (.int 71 0), (.int 8 0), (.int 0 0), (.int 0 0), (.int 3 0), (.ref 147), (.bool true), (.int 181 0), (.ref 148), .none, (.ref 149), (.ref 150), (.ref 151), (.int 385 0), (.int 71 0), (.str z1 386)])), (Array.mk [])⟩
noncomputable def x146 (p : Program) (P : Params) : Obj := ⟨(.type "function"), none, (.func ⟨z67, z67, (dF p 13).1, .stmts (dF p 13).2.1, (dF p 13).2.2, 3, [], .none, .none, .none, (.str z79 328), none, (.ref 152), .none, 0⟩), (Array.mk [])⟩
noncomputable def x147 (p : Program) (P : Params) : Obj := ⟨(.type "tuple"), none, (.seq (Array.mk []) 0), (Array.mk [])⟩
noncomputable def x148 (p : Program) (P : Params) : Obj := ⟨.none, none, (.fields (Array.mk [])), (Array.mk [])⟩
noncomputable def x149 (p : Program) (P : Params) : Obj := ⟨(.type "tuple"), none, (.seq (Array.mk [(.str z89 391), (.str z90 392), (.str z91 393), (.str z83 394)]) 0), (Array.mk [])⟩
noncomputable def x150 (p : Program) (P : Params) : Obj := ⟨(.type "tuple"), none, (.seq (Array.mk []) 0), (Array.mk [])⟩
noncomputable def x151 (p : Program) (P : Params) : Obj := ⟨.none, none, (.func ⟨z68, z68, (dF p 14).1, .stmts (dF p 14).2.1, (dF p 14).2.2, 0, [], .none, .none, .none, .none, none, .none, .none, 0⟩), (Array.mk [])⟩
noncomputable def x152 (p : Program) (P : Params) : Obj := ⟨(.type "code"), none, (.fields (Array.mk [(.str z68 388), (.str z68 389), (.str z1 390), (.int 77 0), (.int 3 0), (.int 0 0), (.int 0 0), (.int 3 0), (.ref 154), (.bool true), (.int 181 0), (.ref 155), .none, (.ref 156), (.ref 157), (.ref 158), (.int 395 0), (.int 77 0), (.str z1 396)])), (Array.mk [])⟩
noncomputable def x153 (p : Program) (P : Params) : Obj := ⟨(.type "function"), none, (.func ⟨z68, z68, (dF p 14).1, .stmts (dF p 14).2.1, (dF p 14).2.2, 3, [], .none, .none, .none, (.str z79 328), none, (.ref 159), .none, 0⟩), (Array.mk [])⟩
noncomputable def x154 (p : Program) (P : Params) : Obj := ⟨(.type "tuple"), none, (.seq (Array.mk []) 0), (Array.mk [])⟩
noncomputable def x155 (p : Program) (P : Params) : Obj := ⟨.none, none, (.fields (Array.mk [])), (Array.mk [])⟩
noncomputable def x156 (p : Program) (P : Params) : Obj := ⟨(.type "tuple"), none, (.seq (Array.mk [(.str z92 407), (.str z93 408), (.str z94 409)]) 0), (Array.mk [])⟩
noncomputable def x157 (p : Program) (P : Params) : Obj := ⟨(.type "tuple"), none, (.seq (Array.mk []) 0), (Array.mk [])⟩
noncomputable def x158 (p : Program) (P : Params) : Obj := ⟨.none, none, (.func ⟨z71, z71, (dF p 18).1, .stmts (dF p 18).2.1, (dF p 18).2.2, 0, [], .none, .none, .none, .none, none, .none, .none, 0⟩), (Array.mk [])⟩
noncomputable def x159 (p : Program) (P : Params) : Obj := ⟨(.type "code"), none, (.fields (Array.mk [(.str z71 404), (.str z71 405), (.str z1 406), (.int 87 0), (.int 3 0), (.int 0 0), (.int 0 0), (.int 3 0), (.ref 161), (.bool true), (.int 181 0), (.ref 162), .none, (.ref 163), (.ref 164), (.ref 165), (.int 410 0), (.int 87 0), (.str z1 411)])), (Array.mk [])⟩
noncomputable def x160 (p : Program) (P : Params) : Obj := ⟨(.type "function"), none, (.func ⟨z71, z71, (dF p 18).1, .stmts (dF p 18).2.1, (dF p 18).2.2, 3, [], .none, .none, .none, (.str z61 398), none, (.ref 166), .none, 0⟩), (Array.mk [])⟩
noncomputable def x161 (p : Program) (P : Params) : Obj := ⟨(.type "tuple"), none, (.seq (Array.mk []) 0), (Array.mk [])⟩
noncomputable def x162 (p : Program) (P : Params) : Obj := ⟨(.type "builtin_function_or_method"), none, (.fields (Array.mk [(.builtin "type.__prepare__"), (.type "type")])), (Array.mk [])⟩
noncomputable def x163 (p : Program) (P : Params) : Obj := ⟨(.type "dict"), none, (.dict (Array.mk [⟨PyData.keyHash P z21, (.str z21 420), (.str z61 398)⟩, ⟨PyData.keyHash P z22, (.str z22 422), (.str z72 421)⟩, ⟨PyData.keyHash P z23, (.str z23 424), (.int 89 423)⟩, ⟨PyData.keyHash P z24, (.str z24 432), (.ref 182)⟩, ⟨PyData.keyHash P z47, (.str z47 439), (.ref 189)⟩, ⟨PyData.keyHash P z95, (.str z95 446), (.ref 196)⟩, ⟨PyData.keyHash P z96, (.str z96 459), (.ref 203)⟩, ⟨PyData.keyHash P z97, (.str z97 466), (.ref 210)⟩, ⟨PyData.keyHash P z98, (.str z98 473), (.ref 217)⟩, ⟨PyData.keyHash P z35, (.str z35 480), (.ref 218)⟩]) 10), (Array.mk [])⟩
noncomputable def x164 (p : Program) (P : Params) : Obj := ⟨(.type "tuple"), none, (.seq (Array.mk []) 0), (Array.mk [])⟩
noncomputable def x165 (p : Program) (P : Params) : Obj := ⟨.none, none, (.fields (Array.mk [(.int 91 0), (.int 4 0), (.ref 181), (.int 99 0), (.int 4 0), (.ref 188), (.int 102 0), (.int 4 0), (.ref 195), (.int 105 0), (.int 4 0), (.ref 202), (.int 121 0), (.int 4 0), (.ref 209), (.int 124 0), (.int 4 0), (.ref 216)])), (Array.mk [])⟩
noncomputable def x166 (p : Program) (P : Params) : Obj := ⟨(.type "code"), none, (.fields (Array.mk [(.str z72 415), (.str z72 416), (.str z1 417), (.int 89 0), (.int 0 0), (.int 0 0), (.int 0 0), (.int 0 0), (.ref 171), (.bool false), (.int 181 0), (.ref 172), .none, .none, .none, .none, (.int 418 0), (.int 89 0), (.str z1 419)])), (Array.mk [])⟩
noncomputable def x167 (p : Program) (P : Params) : Obj := ⟨(.type "frame"), none, .plain, (Array.mk [(some (.ref 173)), (some (.ref 3)), (some (.ref 170)), none, (some (.str z61 398)), none, (some (.ref 0))])⟩
noncomputable def x168 (p : Program) (P : Params) : Obj := ⟨(.type "tuple"), none, (.seq (Array.mk [.none]) 0), (Array.mk [])⟩
noncomputable def x169 (p : Program) (P : Params) : Obj := ⟨(.type "tuple"), none, (.seq (Array.mk []) 0), (Array.mk [])⟩
noncomputable def x170 (p : Program) (P : Params) : Obj := ⟨.none, none, (.fields (Array.mk [])), (Array.mk [])⟩
noncomputable def x171 (p : Program) (P : Params) : Obj := ⟨(.type "tuple"), none, (.seq (Array.mk [(.str z36 428), (.str z99 429)]) 0), (Array.mk [])⟩
noncomputable def x172 (p : Program) (P : Params) : Obj := ⟨(.type "tuple"), none, (.seq (Array.mk []) 0), (Array.mk [])⟩
noncomputable def x173 (p : Program) (P : Params) : Obj := ⟨.none, none, (.func ⟨z24, z100, (dM p 19 0).1, .stmts (dM p 19 0).2.1, (dM p 19 0).2.2, 0, [], .none, .none, .none, .none, none, .none, .none, 0⟩), (Array.mk [])⟩
noncomputable def x174 (p : Program) (P : Params) : Obj := ⟨(.type "code"), none, (.fields (Array.mk [(.str z24 425), (.str z100 426), (.str z1 427), (.int 91 0), (.int 2 0), (.int 0 0), (.int 0 0), (.int 3 0), (.ref 176), (.bool true), (.int 181 0), (.ref 177), .none, (.ref 178), (.ref 179), (.ref 180), (.int 430 0), (.int 91 0), (.str z1 431)])), (Array.mk [])⟩
noncomputable def x175 (p : Program) (P : Params) : Obj := ⟨(.type "function"), none, (.func ⟨z24, z100, (dM p 19 0).1, .stmts (dM p 19 0).2.1, (dM p 19 0).2.2, 3, [], (.ref 175), .none, .none, (.str z61 398), none, (.ref 181), .none, 0⟩), (Array.mk [])⟩
noncomputable def x176 (p : Program) (P : Params) : Obj := ⟨(.type "tuple"), none, (.seq (Array.mk []) 0), (Array.mk [])⟩
noncomputable def x177 (p : Program) (P : Params) : Obj := ⟨.none, none, (.fields (Array.mk [])), (Array.mk [])⟩
noncomputable def x178 (p : Program) (P : Params) : Obj := ⟨(.type "tuple"), none, (.seq (Array.mk [(.str z36 436)]) 0), (Array.mk [])⟩
noncomputable def x179 (p : Program) (P : Params) : Obj := ⟨(.type "tuple"), none, (.seq (Array.mk []) 0), (Array.mk [])⟩
noncomputable def x180 (p : Program) (P : Params) : Obj := ⟨.none, none, (.func ⟨z47, z101, (dM p 19 1).1, .stmts (dM p 19 1).2.1, (dM p 19 1).2.2, 0, [], .none, .none, .none, .none, none, .none, .none, 0⟩), (Array.mk [])⟩
noncomputable def x181 (p : Program) (P : Params) : Obj := ⟨(.type "code"), none, (.fields (Array.mk [(.str z47 433), (.str z101 434), (.str z1 435), (.int 99 0), (.int 1 0), (.int 0 0), (.int 0 0), (.int 3 0), (.ref 183), (.bool true), (.int 181 0), (.ref 184), .none, (.ref 185), (.ref 186), (.ref 187), (.int 437 0), (.int 99 0), (.str z1 438)])), (Array.mk [])⟩
noncomputable def x182 (p : Program) (P : Params) : Obj := ⟨(.type "function"), none, (.func ⟨z47, z101, (dM p 19 1).1, .stmts (dM p 19 1).2.1, (dM p 19 1).2.2, 3, [], .none, .none, .none, (.str z61 398), none, (.ref 188), .none, 0⟩), (Array.mk [])⟩
noncomputable def x183 (p : Program) (P : Params) : Obj := ⟨(.type "tuple"), none, (.seq (Array.mk []) 0), (Array.mk [])⟩
noncomputable def x184 (p : Program) (P : Params) : Obj := ⟨.none, none, (.fields (Array.mk [])), (Array.mk [])⟩
noncomputable def x185 (p : Program) (P : Params) : Obj := ⟨(.type "tuple"), none, (.seq (Array.mk [(.str z36 443)]) 0), (Array.mk [])⟩
noncomputable def x186 (p : Program) (P : Params) : Obj := ⟨(.type "tuple"), none, (.seq (Array.mk []) 0), (Array.mk [])⟩
noncomputable def x187 (p : Program) (P : Params) : Obj := ⟨.none, none, (.func ⟨z95, z102, (dM p 19 2).1, .stmts (dM p 19 2).2.1, (dM p 19 2).2.2, 0, [], .none, .none, .none, .none, none, .none, .none, 0⟩), (Array.mk [])⟩
noncomputable def x188 (p : Program) (P : Params) : Obj := ⟨(.type "code"), none, (.fields (Array.mk [(.str z95 440), (.str z102 441), (.str z1 442), (.int 102 0), (.int 1 0), (.int 0 0), (.int 0 0), (.int 3 0), (.ref 190), (.bool true), (.int 181 0), (.ref 191), .none, (.ref 192), (.ref 193), (.ref 194), (.int 444 0), (.int 102 0), (.str z1 445)])), (Array.mk [])⟩
noncomputable def x189 (p : Program) (P : Params) : Obj := ⟨(.type "function"), none, (.func ⟨z95, z102, (dM p 19 2).1, .stmts (dM p 19 2).2.1, (dM p 19 2).2.2, 3, [], .none, .none, .none, (.str z61 398), none, (.ref 195), .none, 0⟩), (Array.mk [])⟩
noncomputable def x190 (p : Program) (P : Params) : Obj := ⟨(.type "tuple"), none, (.seq (Array.mk []) 0), (Array.mk [])⟩
noncomputable def x191 (p : Program) (P : Params) : Obj := ⟨.none, none, (.fields (Array.mk [])), (Array.mk [])⟩
noncomputable def x192 (p : Program) (P : Params) : Obj := ⟨(.type "tuple"), none, (.seq (Array.mk [(.str z36 450), (.str z92 451), (.str z94 452), (.str z77 453), (.str z46 454), (.str z103 455), (.str z104 456)]) 0), (Array.mk [])⟩
noncomputable def x193 (p : Program) (P : Params) : Obj := ⟨(.type "tuple"), none, (.seq (Array.mk []) 0), (Array.mk [])⟩
noncomputable def x194 (p : Program) (P : Params) : Obj := ⟨.none, none, (.func ⟨z96, z105, (dM p 19 3).1, .stmts (dM p 19 3).2.1, (dM p 19 3).2.2, 0, [], .none, .none, .none, .none, none, .none, .none, 0⟩), (Array.mk [])⟩
noncomputable def x195 (p : Program) (P : Params) : Obj := ⟨(.type "code"), none, (.fields (Array.mk [(.str z96 447), (.str z105 448), (.str z1 449), (.int 105 0), (.int 5 0), (.int 0 0), (.int 0 0), (.int 3 0), (.ref 197), (.bool true), (.int 181 0), (.ref 198), .none, (.ref 199), (.ref 200), (.ref 201), (.int 457 0), (.int 105 0), (.str z1 458)])), (Array.mk [])⟩
noncomputable def x196 (p : Program) (P : Params) : Obj := ⟨(.type "function"), none, (.func ⟨z96, z105, (dM p 19 3).1, .stmts (dM p 19 3).2.1, (dM p 19 3).2.2, 3, [], .none, .none, .none, (.str z61 398), none, (.ref 202), .none, 0⟩), (Array.mk [])⟩
noncomputable def x197 (p : Program) (P : Params) : Obj := ⟨(.type "tuple"), none, (.seq (Array.mk []) 0), (Array.mk [])⟩
noncomputable def x198 (p : Program) (P : Params) : Obj := ⟨.none, none, (.fields (Array.mk [])), (Array.mk [])⟩
noncomputable def x199 (p : Program) (P : Params) : Obj := ⟨(.type "tuple"), none, (.seq (Array.mk [(.str z36 463)]) 0), (Array.mk [])⟩
noncomputable def x200 (p : Program) (P : Params) : Obj := ⟨(.type "tuple"), none, (.seq (Array.mk []) 0), (Array.mk [])⟩
noncomputable def x201 (p : Program) (P : Params) : Obj := ⟨.none, none, (.func ⟨z97, z106, (dM p 19 4).1, .stmts (dM p 19 4).2.1, (dM p 19 4).2.2, 0, [], .none, .none, .none, .none, none, .none, .none, 0⟩), (Array.mk [])⟩
noncomputable def x202 (p : Program) (P : Params) : Obj := ⟨(.type "code"), none, (.fields (Array.mk [(.str z97 460), (.str z106 461), (.str z1 462), (.int 121 0), (.int 1 0), (.int 0 0), (.int 0 0), (.int 3 0), (.ref 204), (.bool true), (.int 181 0), (.ref 205), .none, (.ref 206), (.ref 207), (.ref 208), (.int 464 0), (.int 121 0), (.str z1 465)])), (Array.mk [])⟩
noncomputable def x203 (p : Program) (P : Params) : Obj := ⟨(.type "function"), none, (.func ⟨z97, z106, (dM p 19 4).1, .stmts (dM p 19 4).2.1, (dM p 19 4).2.2, 3, [], .none, .none, .none, (.str z61 398), none, (.ref 209), .none, 0⟩), (Array.mk [])⟩
noncomputable def x204 (p : Program) (P : Params) : Obj := ⟨(.type "tuple"), none, (.seq (Array.mk []) 0), (Array.mk [])⟩
noncomputable def x205 (p : Program) (P : Params) : Obj := ⟨.none, none, (.fields (Array.mk [])), (Array.mk [])⟩
noncomputable def x206 (p : Program) (P : Params) : Obj := ⟨(.type "tuple"), none, (.seq (Array.mk [(.str z36 470)]) 0), (Array.mk [])⟩
noncomputable def x207 (p : Program) (P : Params) : Obj := ⟨(.type "tuple"), none, (.seq (Array.mk []) 0), (Array.mk [])⟩
noncomputable def x208 (p : Program) (P : Params) : Obj := ⟨.none, none, (.func ⟨z98, z107, (dM p 19 5).1, .stmts (dM p 19 5).2.1, (dM p 19 5).2.2, 0, [], .none, .none, .none, .none, none, .none, .none, 0⟩), (Array.mk [])⟩
noncomputable def x209 (p : Program) (P : Params) : Obj := ⟨(.type "code"), none, (.fields (Array.mk [(.str z98 467), (.str z107 468), (.str z1 469), (.int 124 0), (.int 1 0), (.int 0 0), (.int 0 0), (.int 3 0), (.ref 211), (.bool true), (.int 181 0), (.ref 212), .none, (.ref 213), (.ref 214), (.ref 215), (.int 471 0), (.int 124 0), (.str z1 472)])), (Array.mk [])⟩
noncomputable def x210 (p : Program) (P : Params) : Obj := ⟨(.type "function"), none, (.func ⟨z98, z107, (dM p 19 5).1, .stmts (dM p 19 5).2.1, (dM p 19 5).2.2, 3, [], .none, .none, .none, (.str z61 398), none, (.ref 216), .none, 0⟩), (Array.mk [])⟩
noncomputable def x211 (p : Program) (P : Params) : Obj := ⟨(.type "tuple"), none, (.seq (Array.mk [(.str z108 474), (.str z92 475), (.str z93 476), (.str z99 477), (.str z109 478), (.str z110 479)]) 0), (Array.mk [])⟩
noncomputable def x212 (p : Program) (P : Params) : Obj := ⟨(.type "dict"), none, (.dict (Array.mk [⟨PyData.keyHash P z21, (.str z21 420), (.str z61 398)⟩, ⟨PyData.keyHash P z23, (.str z23 424), (.int 89 423)⟩, ⟨PyData.keyHash P z24, (.str z24 432), (.ref 182)⟩, ⟨PyData.keyHash P z47, (.str z47 439), (.ref 189)⟩, ⟨PyData.keyHash P z95, (.str z95 446), (.ref 196)⟩, ⟨PyData.keyHash P z96, (.str z96 459), (.ref 203)⟩, ⟨PyData.keyHash P z97, (.str z97 466), (.ref 210)⟩, ⟨PyData.keyHash P z98, (.str z98 473), (.ref 217)⟩, ⟨PyData.keyHash P z35, (.str z35 480), (.ref 218)⟩, ⟨PyData.keyHash P z59, (.str z59 482), (.ref 221)⟩, ⟨PyData.keyHash P z60, (.str z60 484), (.ref 222)⟩, ⟨PyData.keyHash P z5, (.str z5 485), .none⟩]) 4), (Array.mk [])⟩
noncomputable def x213 (p : Program) (P : Params) : Obj := ⟨(.type "type"), none, (.cls ⟨z72, [(.type "object")], [(.ref 220), (.type "object")], 219, z72, true, [], [], false, none, false⟩), (Array.mk [none, none, (some (.str z72 413)), (some (.str z72 421)), (some (.builtin "object.__new__")), (some (.bool true))])⟩
noncomputable def x214 (p : Program) (P : Params) : Obj := ⟨(.type "getset_descriptor"), none, (.fields (Array.mk [(.str z59 481), (.ref 220), (.builtin "function.__dict__"), (.builtin "function.__dict__#set")])), (Array.mk [])⟩
noncomputable def x215 (p : Program) (P : Params) : Obj := ⟨(.type "getset_descriptor"), none, (.fields (Array.mk [(.str z60 483), (.ref 220), (.builtin "ExceptionGroup.__weakref__"), .none])), (Array.mk [])⟩
noncomputable def x216 (p : Program) (P : Params) : Obj := ⟨(.type "super"), none, (.fields (Array.mk [(.ref 220), (.ref 220), (.ref 220)])), (Array.mk [])⟩
noncomputable def x217 (p : Program) (P : Params) : Obj := ⟨(.type "builtin_function_or_method"), none, (.fields (Array.mk [(.builtin "object.__init_subclass__"), (.ref 220)])), (Array.mk [])⟩
noncomputable def x218 (p : Program) (P : Params) : Obj := ⟨.none, none, (.dict (Array.mk [⟨PyData.keyHash P z111, (.str z111 575), (.int 288 0)⟩, ⟨PyData.keyHash P z112, (.str z112 576), (.int 1 0)⟩]) 2), (Array.mk [])⟩
noncomputable def x219 (p : Program) (P : Params) : Obj := ⟨(.type "dict"), none, (.dict (Array.mk [⟨PyData.keyHash P z3, (.str z3 165), (.str z113 579)⟩, ⟨PyData.keyHash P z5, (.str z5 166), .none⟩, ⟨PyData.keyHash P z6, (.str z6 167), .none⟩, ⟨PyData.keyHash P z7, (.str z7 168), (.builtin "__main__.__loader__#\x6fpaque")⟩, ⟨PyData.keyHash P z8, (.str z8 169), .none⟩, ⟨PyData.keyHash P z9, (.str z9 170), (.ref 6)⟩, ⟨PyData.keyHash P z10, (.str z10 171), (.ref 4)⟩, ⟨PyData.keyHash P z11, (.str z11 173), (.str z1 172)⟩, ⟨PyData.keyHash P z12, (.str z12 174), .none⟩, ⟨PyData.keyHash P z13, (.str z13 193), (.ref 21)⟩, ⟨PyData.keyHash P z14, (.str z14 197), (.int 10 196)⟩, ⟨PyData.keyHash P z15, (.str z15 199), (.int 14720 198)⟩, ⟨PyData.keyHash P z16, (.str z16 201), (.int 2 200)⟩, ⟨PyData.keyHash P z17, (.str z17 208), (.ref 28)⟩, ⟨PyData.keyHash P z18, (.str z18 327), (.ref 115)⟩, ⟨PyData.keyHash P z62, (.str z62 333), (.ref 120)⟩, ⟨PyData.keyHash P z63, (.str z63 342), (.ref 127)⟩, ⟨PyData.keyHash P z64, (.str z64 352), (.ref 134)⟩, ⟨PyData.keyHash P z65, (.str z65 367), (.ref 141)⟩, ⟨PyData.keyHash P z66, (.str z66 373), (.ref 146)⟩, ⟨PyData.keyHash P z67, (.str z67 387), (.ref 153)⟩, ⟨PyData.keyHash P z68, (.str z68 397), (.ref 160)⟩, ⟨PyData.keyHash P z69, (.str z69 401), (.int 333000 400)⟩, ⟨PyData.keyHash P z70, (.str z70 403), (.int 1000 402)⟩, ⟨PyData.keyHash P z71, (.str z71 412), (.ref 167)⟩, ⟨PyData.keyHash P z72, (.str z72 487), (.ref 220)⟩, ⟨PyData.keyHash P z114, (.str z114 498), (.ref 231)⟩, ⟨PyData.keyHash P z115, (.str z115 507), (.ref 238)⟩, ⟨PyData.keyHash P z84, (.str z84 517), (.ref 245)⟩, ⟨PyData.keyHash P z87, (.str z87 524), (.ref 252)⟩, ⟨PyData.keyHash P z116, (.str z116 532), (.ref 259)⟩, ⟨PyData.keyHash P z117, (.str z117 538), (.ref 264)⟩, ⟨PyData.keyHash P z118, (.str z118 547), (.ref 271)⟩, ⟨PyData.keyHash P z119, (.str z119 578), (.ref 288)⟩, ⟨PyData.keyHash P z120, (.str z120 582), (.int 3 581)⟩, ⟨PyData.keyHash P z121, (.str z121 584), (.str z122 583)⟩, ⟨PyData.keyHash P z123, (.str z123 586), (.str z124 585)⟩, ⟨PyData.keyHash P z125, (.str z125 588), (.str z126 587)⟩, ⟨PyData.keyHash P z127, (.str z127 590), (.str z128 589)⟩]) 39), (Array.mk [])⟩
noncomputable def x220 (p : Program) (P : Params) : Obj := ⟨.none, none, (.fields (Array.mk [(.int 1 0), (.int 0 0), (.ref 20), (.int 8 0), (.int 0 0), (.ref 27), (.int 10 0), (.int 0 0), (.ref 34), (.int 51 0), (.int 0 0), (.ref 126), (.int 53 0), (.int 0 0), (.ref 133), (.int 60 0), (.int 0 0), (.ref 140), (.int 69 0), (.int 0 0), (.ref 145), (.int 71 0), (.int 0 0), (.ref 152), (.int 77 0), (.int 0 0), (.ref 159), (.int 87 0), (.int 0 0), (.ref 166), (.int 89 0), (.int 0 0), (.ref 173), (.int 127 0), (.int 0 0), (.ref 230), (.int 131 0), (.int 0 0), (.ref 237), (.int 136 0), (.int 0 0), (.ref 244), (.int 142 0), (.int 0 0), (.ref 251), (.int 144 0), (.int 0 0), (.ref 258), (.int 148 0), (.int 0 0), (.ref 263), (.int 155 0), (.int 0 0), (.ref 270), (.int 162 0), (.int 0 0), (.ref 277)])), (Array.mk [])⟩
noncomputable def x221 (p : Program) (P : Params) : Obj := ⟨(.type "tuple"), none, (.seq (Array.mk []) 0), (Array.mk [])⟩
noncomputable def x222 (p : Program) (P : Params) : Obj := ⟨.none, none, (.fields (Array.mk [])), (Array.mk [])⟩
noncomputable def x223 (p : Program) (P : Params) : Obj := ⟨(.type "tuple"), none, (.seq (Array.mk [(.str z129 493), (.str z46 494), (.str z130 495)]) 0), (Array.mk [])⟩
noncomputable def x224 (p : Program) (P : Params) : Obj := ⟨(.type "tuple"), none, (.seq (Array.mk []) 0), (Array.mk [])⟩
noncomputable def x225 (p : Program) (P : Params) : Obj := ⟨.none, none, (.func ⟨z114, z114, (dF p 21).1, .stmts (dF p 21).2.1, (dF p 21).2.2, 0, [], .none, .none, .none, .none, none, .none, .none, 0⟩), (Array.mk [])⟩
noncomputable def x226 (p : Program) (P : Params) : Obj := ⟨(.type "code"), none, (.fields (Array.mk [(.str z114 490), (.str z114 491), (.str z1 492), (.int 127 0), (.int 2 0), (.int 0 0), (.int 0 0), (.int 3 0), (.ref 225), (.bool true), (.int 181 0), (.ref 226), .none, (.ref 227), (.ref 228), (.ref 229), (.int 496 0), (.int 127 0), (.str z1 497)])), (Array.mk [])⟩
noncomputable def x227 (p : Program) (P : Params) : Obj := ⟨(.type "function"), none, (.func ⟨z114, z114, (dF p 21).1, .stmts (dF p 21).2.1, (dF p 21).2.2, 3, [], .none, .none, .none, (.str z131 488), none, (.ref 230), .none, 0⟩), (Array.mk [])⟩
noncomputable def x228 (p : Program) (P : Params) : Obj := ⟨(.type "tuple"), none, (.seq (Array.mk []) 0), (Array.mk [])⟩
noncomputable def x229 (p : Program) (P : Params) : Obj := ⟨.none, none, (.fields (Array.mk [])), (Array.mk [])⟩
noncomputable def x230 (p : Program) (P : Params) : Obj := ⟨(.type "tuple"), none, (.seq (Array.mk [(.str z129 502), (.str z46 503), (.str z132 504)]) 0), (Array.mk [])⟩
noncomputable def x231 (p : Program) (P : Params) : Obj := ⟨(.type "tuple"), none, (.seq (Array.mk []) 0), (Array.mk [])⟩
noncomputable def x232 (p : Program) (P : Params) : Obj := ⟨.none, none, (.func ⟨z115, z115, (dF p 22).1, .stmts (dF p 22).2.1, (dF p 22).2.2, 0, [], .none, .none, .none, .none, none, .none, .none, 0⟩), (Array.mk [])⟩
noncomputable def x233 (p : Program) (P : Params) : Obj := ⟨(.type "code"), none, (.fields (Array.mk [(.str z115 499), (.str z115 500), (.str z1 501), (.int 131 0), (.int 2 0), (.int 0 0), (.int 0 0), (.int 3 0), (.ref 232), (.bool true), (.int 181 0), (.ref 233), .none, (.ref 234), (.ref 235), (.ref 236), (.int 505 0), (.int 131 0), (.str z1 506)])), (Array.mk [])⟩
noncomputable def x234 (p : Program) (P : Params) : Obj := ⟨(.type "function"), none, (.func ⟨z115, z115, (dF p 22).1, .stmts (dF p 22).2.1, (dF p 22).2.2, 3, [], .none, .none, .none, (.str z131 488), none, (.ref 237), .none, 0⟩), (Array.mk [])⟩
noncomputable def x235 (p : Program) (P : Params) : Obj := ⟨(.type "tuple"), none, (.seq (Array.mk []) 0), (Array.mk [])⟩
noncomputable def x236 (p : Program) (P : Params) : Obj := ⟨.none, none, (.fields (Array.mk [])), (Array.mk [])⟩
noncomputable def x237 (p : Program) (P : Params) : Obj := ⟨(.type "tuple"), none, (.seq (Array.mk [(.str z129 511), (.str z81 512), (.str z133 513), (.str z134 514)]) 0), (Array.mk [])⟩
noncomputable def x238 (p : Program) (P : Params) : Obj := ⟨(.type "tuple"), none, (.seq (Array.mk []) 0), (Array.mk [])⟩
noncomputable def x239 (p : Program) (P : Params) : Obj := ⟨.none, none, (.func ⟨z84, z84, (dF p 23).1, .stmts (dF p 23).2.1, (dF p 23).2.2, 0, [], .none, .none, .none, .none, none, .none, .none, 0⟩), (Array.mk [])⟩
noncomputable def x240 (p : Program) (P : Params) : Obj := ⟨(.type "code"), none, (.fields (Array.mk [(.str z84 508), (.str z84 509), (.str z1 510), (.int 136 0), (.int 1 0), (.int 0 0), (.int 0 0), (.int 3 0), (.ref 239), (.bool true), (.int 181 0), (.ref 240), .none, (.ref 241), (.ref 242), (.ref 243), (.int 515 0), (.int 136 0), (.str z1 516)])), (Array.mk [])⟩
noncomputable def x241 (p : Program) (P : Params) : Obj := ⟨(.type "function"), none, (.func ⟨z84, z84, (dF p 23).1, .stmts (dF p 23).2.1, (dF p 23).2.2, 3, [], .none, .none, .none, (.str z131 488), none, (.ref 244), .none, 0⟩), (Array.mk [])⟩
noncomputable def x242 (p : Program) (P : Params) : Obj := ⟨(.type "tuple"), none, (.seq (Array.mk []) 0), (Array.mk [])⟩
noncomputable def x243 (p : Program) (P : Params) : Obj := ⟨.none, none, (.fields (Array.mk [])), (Array.mk [])⟩
noncomputable def x244 (p : Program) (P : Params) : Obj := ⟨(.type "tuple"), none, (.seq (Array.mk [(.str z129 521)]) 0), (Array.mk [])⟩
noncomputable def x245 (p : Program) (P : Params) : Obj := ⟨(.type "tuple"), none, (.seq (Array.mk []) 0), (Array.mk [])⟩
noncomputable def x246 (p : Program) (P : Params) : Obj := ⟨.none, none, (.func ⟨z87, z87, (dF p 24).1, .stmts (dF p 24).2.1, (dF p 24).2.2, 0, [], .none, .none, .none, .none, none, .none, .none, 0⟩), (Array.mk [])⟩
noncomputable def x247 (p : Program) (P : Params) : Obj := ⟨(.type "code"), none, (.fields (Array.mk [(.str z87 518), (.str z87 519), (.str z1 520), (.int 142 0), (.int 1 0), (.int 0 0), (.int 0 0), (.int 3 0), (.ref 246), (.bool true), (.int 181 0), (.ref 247), .none, (.ref 248), (.ref 249), (.ref 250), (.int 522 0), (.int 142 0), (.str z1 523)])), (Array.mk [])⟩
noncomputable def x248 (p : Program) (P : Params) : Obj := ⟨(.type "function"), none, (.func ⟨z87, z87, (dF p 24).1, .stmts (dF p 24).2.1, (dF p 24).2.2, 3, [], .none, .none, .none, (.str z131 488), none, (.ref 251), .none, 0⟩), (Array.mk [])⟩
noncomputable def x249 (p : Program) (P : Params) : Obj := ⟨(.type "tuple"), none, (.seq (Array.mk []) 0), (Array.mk [])⟩
noncomputable def x250 (p : Program) (P : Params) : Obj := ⟨.none, none, (.fields (Array.mk [])), (Array.mk [])⟩
noncomputable def x251 (p : Program) (P : Params) : Obj := ⟨(.type "tuple"), none, (.seq (Array.mk [(.str z135 528), (.str z136 529)]) 0), (Array.mk [])⟩
noncomputable def x252 (p : Program) (P : Params) : Obj := ⟨(.type "tuple"), none, (.seq (Array.mk []) 0), (Array.mk [])⟩
noncomputable def x253 (p : Program) (P : Params) : Obj := ⟨.none, none, (.func ⟨z116, z116, (dF p 25).1, .stmts (dF p 25).2.1, (dF p 25).2.2, 0, [], .none, .none, .none, .none, none, .none, .none, 0⟩), (Array.mk [])⟩
noncomputable def x254 (p : Program) (P : Params) : Obj := ⟨(.type "code"), none, (.fields (Array.mk [(.str z116 525), (.str z116 526), (.str z1 527), (.int 144 0), (.int 2 0), (.int 0 0), (.int 0 0), (.int 3 0), (.ref 253), (.bool true), (.int 181 0), (.ref 254), .none, (.ref 255), (.ref 256), (.ref 257), (.int 530 0), (.int 144 0), (.str z1 531)])), (Array.mk [])⟩
noncomputable def x255 (p : Program) (P : Params) : Obj := ⟨(.type "function"), none, (.func ⟨z116, z116, (dF p 25).1, .stmts (dF p 25).2.1, (dF p 25).2.2, 3, [], .none, .none, .none, (.str z131 488), none, (.ref 258), .none, 0⟩), (Array.mk [])⟩
noncomputable def x256 (p : Program) (P : Params) : Obj := ⟨(.type "tuple"), none, (.seq (Array.mk []) 0), (Array.mk [])⟩
noncomputable def x257 (p : Program) (P : Params) : Obj := ⟨.none, none, (.fields (Array.mk [])), (Array.mk [])⟩
noncomputable def x258 (p : Program) (P : Params) : Obj := ⟨.none, none, (.func ⟨z117, z117, (dF p 26).1, .stmts (dF p 26).2.1, (dF p 26).2.2, 0, [], .none, .none, .none, .none, none, .none, .none, 0⟩), (Array.mk [])⟩
noncomputable def x259 (p : Program) (P : Params) : Obj := ⟨(.type "code"), none, (.fields (Array.mk [(.str z117 533), (.str z117 534), (.str z1 535), (.int 148 0), (.int 2 0), (.int 0 0), (.int 0 0), (.int 3 0), (.ref 260), (.bool true), (.int 181 0), (.ref 261), .none, .none, .none, (.ref 262), (.int 536 0), (.int 148 0), (.str z1 537)])), (Array.mk [])⟩
noncomputable def x260 (p : Program) (P : Params) : Obj := ⟨(.type "function"), none, (.func ⟨z117, z117, (dF p 26).1, .stmts (dF p 26).2.1, (dF p 26).2.2, 3, [], .none, .none, .none, (.str z131 488), none, (.ref 263), .none, 0⟩), (Array.mk [])⟩
noncomputable def x261 (p : Program) (P : Params) : Obj := ⟨(.type "tuple"), none, (.seq (Array.mk []) 0), (Array.mk [])⟩
noncomputable def x262 (p : Program) (P : Params) : Obj := ⟨.none, none, (.fields (Array.mk [])), (Array.mk [])⟩
noncomputable def x263 (p : Program) (P : Params) : Obj := ⟨(.type "tuple"), none, (.seq (Array.mk [(.str z129 542), (.str z46 543), (.str z83 544)]) 0), (Array.mk [])⟩
noncomputable def x264 (p : Program) (P : Params) : Obj := ⟨(.type "tuple"), none, (.seq (Array.mk []) 0), (Array.mk [])⟩
noncomputable def x265 (p : Program) (P : Params) : Obj := ⟨.none, none, (.func ⟨z118, z118, (dF p 27).1, .stmts (dF p 27).2.1, (dF p 27).2.2, 0, [], .none, .none, .none, .none, none, .none, .none, 0⟩), (Array.mk [])⟩
noncomputable def x266 (p : Program) (P : Params) : Obj := ⟨(.type "code"), none, (.fields (Array.mk [(.str z118 539), (.str z118 540), (.str z1 541), (.int 155 0), (.int 2 0), (.int 0 0), (.int 0 0), (.int 3 0), (.ref 265), (.bool true), (.int 181 0), (.ref 266), .none, (.ref 267), (.ref 268), (.ref 269), (.int 545 0), (.int 155 0), (.str z1 546)])), (Array.mk [])⟩
noncomputable def x267 (p : Program) (P : Params) : Obj := ⟨(.type "function"), none, (.func ⟨z118, z118, (dF p 27).1, .stmts (dF p 27).2.1, (dF p 27).2.2, 3, [], .none, .none, .none, (.str z131 488), none, (.ref 270), .none, 0⟩), (Array.mk [])⟩
noncomputable def x268 (p : Program) (P : Params) : Obj := ⟨(.type "tuple"), none, (.seq (Array.mk [(.type "Exception")]) 0), (Array.mk [])⟩
noncomputable def x269 (p : Program) (P : Params) : Obj := ⟨(.type "builtin_function_or_method"), none, (.fields (Array.mk [(.builtin "type.__prepare__"), (.type "type")])), (Array.mk [])⟩
noncomputable def x270 (p : Program) (P : Params) : Obj := ⟨(.type "dict"), none, (.dict (Array.mk [⟨PyData.keyHash P z21, (.str z21 557), (.str z137 548)⟩, ⟨PyData.keyHash P z22, (.str z22 559), (.str z119 558)⟩, ⟨PyData.keyHash P z23, (.str z23 561), (.int 162 560)⟩, ⟨PyData.keyHash P z24, (.str z24 569), (.ref 285)⟩, ⟨PyData.keyHash P z35, (.str z35 571), (.ref 286)⟩]) 5), (Array.mk [])⟩
noncomputable def x271 (p : Program) (P : Params) : Obj := ⟨(.type "tuple"), none, (.seq (Array.mk []) 0), (Array.mk [])⟩
noncomputable def x272 (p : Program) (P : Params) : Obj := ⟨.none, none, (.fields (Array.mk [(.int 164 0), (.int 4 0), (.ref 284)])), (Array.mk [])⟩
noncomputable def x273 (p : Program) (P : Params) : Obj := ⟨(.type "code"), none, (.fields (Array.mk [(.str z119 552), (.str z119 553), (.str z1 554), (.int 162 0), (.int 0 0), (.int 0 0), (.int 0 0), (.int 0 0), (.ref 275), (.bool false), (.int 181 0), (.ref 276), .none, .none, .none, .none, (.int 555 0), (.int 162 0), (.str z1 556)])), (Array.mk [])⟩
noncomputable def x274 (p : Program) (P : Params) : Obj := ⟨(.type "frame"), none, .plain, (Array.mk [(some (.ref 277)), (some (.ref 3)), (some (.ref 274)), none, (some (.str z137 548)), none, (some (.ref 0))])⟩
noncomputable def x275 (p : Program) (P : Params) : Obj := ⟨(.type "tuple"), none, (.seq (Array.mk []) 0), (Array.mk [])⟩
noncomputable def x276 (p : Program) (P : Params) : Obj := ⟨.none, none, (.fields (Array.mk [])), (Array.mk [])⟩
noncomputable def x277 (p : Program) (P : Params) : Obj := ⟨(.type "tuple"), none, (.seq (Array.mk [(.str z36 565), (.str z138 566)]) 0), (Array.mk [])⟩
noncomputable def x278 (p : Program) (P : Params) : Obj := ⟨(.type "tuple"), none, (.seq (Array.mk []) 0), (Array.mk [])⟩
noncomputable def x279 (p : Program) (P : Params) : Obj := ⟨.none, none, (.func ⟨z24, z139, (dM p 29 0).1, .stmts (dM p 29 0).2.1, (dM p 29 0).2.2, 0, [], .none, .none, .none, .none, none, .none, .none, 0⟩), (Array.mk [])⟩
noncomputable def x280 (p : Program) (P : Params) : Obj := ⟨(.type "code"), none, (.fields (Array.mk [(.str z24 562), (.str z139 563), (.str z1 564), (.int 164 0), (.int 2 0), (.int 0 0), (.int 0 0), (.int 3 0), (.ref 279), (.bool true), (.int 181 0), (.ref 280), .none, (.ref 281), (.ref 282), (.ref 283), (.int 567 0), (.int 164 0), (.str z1 568)])), (Array.mk [])⟩
noncomputable def x281 (p : Program) (P : Params) : Obj := ⟨(.type "function"), none, (.func ⟨z24, z139, (dM p 29 0).1, .stmts (dM p 29 0).2.1, (dM p 29 0).2.2, 3, [], .none, .none, .none, (.str z137 548), none, (.ref 284), .none, 0⟩), (Array.mk [])⟩
noncomputable def x282 (p : Program) (P : Params) : Obj := ⟨(.type "tuple"), none, (.seq (Array.mk [(.str z138 570)]) 0), (Array.mk [])⟩
noncomputable def x283 (p : Program) (P : Params) : Obj := ⟨(.type "dict"), none, (.dict (Array.mk [⟨PyData.keyHash P z21, (.str z21 557), (.str z137 548)⟩, ⟨PyData.keyHash P z23, (.str z23 561), (.int 162 560)⟩, ⟨PyData.keyHash P z24, (.str z24 569), (.ref 285)⟩, ⟨PyData.keyHash P z35, (.str z35 571), (.ref 286)⟩, ⟨PyData.keyHash P z60, (.str z60 573), (.ref 289)⟩, ⟨PyData.keyHash P z5, (.str z5 574), .none⟩]) 3), (Array.mk [])⟩
noncomputable def x284 (p : Program) (P : Params) : Obj := ⟨(.type "type"), none, (.cls ⟨z119, [(.type "Exception")], [(.ref 288), (.type "Exception"), (.type "BaseException"), (.type "object")], 287, z119, true, [], [], false, none, false⟩), (Array.mk [(some (.ref 272)), none, (some (.str z119 550)), (some (.str z119 558)), (some (.builtin "Exception.__new__")), (some (.bool true))])⟩
noncomputable def x285 (p : Program) (P : Params) : Obj := ⟨(.type "getset_descriptor"), none, (.fields (Array.mk [(.str z60 572), (.ref 288), (.builtin "ExceptionGroup.__weakref__"), .none])), (Array.mk [])⟩
noncomputable def x286 (p : Program) (P : Params) : Obj := ⟨(.type "super"), none, (.fields (Array.mk [(.ref 288), (.ref 288), (.ref 288)])), (Array.mk [])⟩
noncomputable def x287 (p : Program) (P : Params) : Obj := ⟨(.type "builtin_function_or_method"), none, (.fields (Array.mk [(.builtin "object.__init_subclass__"), (.ref 288)])), (Array.mk [])⟩
noncomputable def x288 (p : Program) (P : Params) : Obj := ⟨(.type "dict"), none, (.dict (Array.mk [⟨PyData.keyHash P z3, (.str z3 165), (.str z113 579)⟩, ⟨PyData.keyHash P z5, (.str z5 166), .none⟩, ⟨PyData.keyHash P z6, (.str z6 167), .none⟩, ⟨PyData.keyHash P z7, (.str z7 168), (.builtin "__main__.__loader__#\x6fpaque")⟩, ⟨PyData.keyHash P z8, (.str z8 169), .none⟩, ⟨PyData.keyHash P z9, (.str z9 170), (.ref 6)⟩, ⟨PyData.keyHash P z10, (.str z10 171), (.ref 4)⟩, ⟨PyData.keyHash P z11, (.str z11 173), (.str z1 172)⟩, ⟨PyData.keyHash P z12, (.str z12 174), .none⟩, ⟨PyData.keyHash P z13, (.str z13 193), (.ref 21)⟩, ⟨PyData.keyHash P z14, (.str z14 197), (.int 10 196)⟩, ⟨PyData.keyHash P z15, (.str z15 199), (.int 14720 198)⟩, ⟨PyData.keyHash P z16, (.str z16 201), (.int 2 200)⟩, ⟨PyData.keyHash P z17, (.str z17 208), (.ref 28)⟩, ⟨PyData.keyHash P z18, (.str z18 327), (.ref 115)⟩, ⟨PyData.keyHash P z62, (.str z62 333), (.ref 120)⟩, ⟨PyData.keyHash P z63, (.str z63 342), (.ref 127)⟩, ⟨PyData.keyHash P z64, (.str z64 352), (.ref 134)⟩, ⟨PyData.keyHash P z65, (.str z65 367), (.ref 141)⟩, ⟨PyData.keyHash P z66, (.str z66 373), (.ref 146)⟩, ⟨PyData.keyHash P z67, (.str z67 387), (.ref 153)⟩, ⟨PyData.keyHash P z68, (.str z68 397), (.ref 160)⟩, ⟨PyData.keyHash P z69, (.str z69 401), (.int 333000 400)⟩, ⟨PyData.keyHash P z70, (.str z70 403), (.int 1000 402)⟩, ⟨PyData.keyHash P z71, (.str z71 412), (.ref 167)⟩, ⟨PyData.keyHash P z72, (.str z72 487), (.ref 220)⟩, ⟨PyData.keyHash P z114, (.str z114 498), (.ref 231)⟩, ⟨PyData.keyHash P z115, (.str z115 507), (.ref 238)⟩, ⟨PyData.keyHash P z84, (.str z84 517), (.ref 245)⟩, ⟨PyData.keyHash P z87, (.str z87 524), (.ref 252)⟩, ⟨PyData.keyHash P z116, (.str z116 532), (.ref 259)⟩, ⟨PyData.keyHash P z117, (.str z117 538), (.ref 264)⟩, ⟨PyData.keyHash P z118, (.str z118 547), (.ref 271)⟩, ⟨PyData.keyHash P z119, (.str z119 578), (.ref 288)⟩, ⟨PyData.keyHash P z120, (.str z120 582), (.int 3 581)⟩, ⟨PyData.keyHash P z121, (.str z121 584), (.str z122 583)⟩, ⟨PyData.keyHash P z123, (.str z123 586), (.str z124 585)⟩, ⟨PyData.keyHash P z125, (.str z125 588), (.str z126 587)⟩, ⟨PyData.keyHash P z127, (.str z127 590), (.str z128 589)⟩, ⟨PyData.keyHash P z140, (.str z140 696), (.ref 371)⟩]) 40), (Array.mk [])⟩
noncomputable def x289 (p : Program) (P : Params) : Obj := ⟨.none, none, (.fields (Array.mk [(.int 1 0), (.int 0 0), (.ref 20), (.int 8 0), (.int 0 0), (.ref 27), (.int 10 0), (.int 0 0), (.ref 34), (.int 51 0), (.int 0 0), (.ref 126), (.int 53 0), (.int 0 0), (.ref 133), (.int 60 0), (.int 0 0), (.ref 140), (.int 69 0), (.int 0 0), (.ref 145), (.int 71 0), (.int 0 0), (.ref 152), (.int 77 0), (.int 0 0), (.ref 159), (.int 87 0), (.int 0 0), (.ref 166), (.int 89 0), (.int 0 0), (.ref 173), (.int 127 0), (.int 0 0), (.ref 230), (.int 131 0), (.int 0 0), (.ref 237), (.int 136 0), (.int 0 0), (.ref 244), (.int 142 0), (.int 0 0), (.ref 251), (.int 144 0), (.int 0 0), (.ref 258), (.int 148 0), (.int 0 0), (.ref 263), (.int 155 0), (.int 0 0), (.ref 270), (.int 162 0), (.int 0 0), (.ref 277), (.int 173 0), (.int 0 0), (.ref 297)])), (Array.mk [])⟩
noncomputable def x290 (p : Program) (P : Params) : Obj := ⟨(.type "tuple"), none, (.seq (Array.mk []) 0), (Array.mk [])⟩
noncomputable def x291 (p : Program) (P : Params) : Obj := ⟨(.type "builtin_function_or_method"), none, (.fields (Array.mk [(.builtin "type.__prepare__"), (.type "type")])), (Array.mk [])⟩
noncomputable def x292 (p : Program) (P : Params) : Obj := ⟨(.type "dict"), none, (.dict (Array.mk [⟨PyData.keyHash P z21, (.str z21 598), (.str z113 579)⟩, ⟨PyData.keyHash P z22, (.str z22 600), (.str z140 599)⟩, ⟨PyData.keyHash P z23, (.str z23 602), (.int 173 601)⟩, ⟨PyData.keyHash P z24, (.str z24 611), (.ref 305)⟩, ⟨PyData.keyHash P z141, (.str z141 618), (.ref 312)⟩, ⟨PyData.keyHash P z142, (.str z142 625), (.ref 319)⟩, ⟨PyData.keyHash P z25, (.str z25 633), (.ref 326)⟩, ⟨PyData.keyHash P z143, (.str z143 641), (.ref 333)⟩, ⟨PyData.keyHash P z28, (.str z28 649), (.ref 340)⟩, ⟨PyData.keyHash P z144, (.str z144 656), (.ref 347)⟩, ⟨PyData.keyHash P z145, (.str z145 666), (.ref 354)⟩, ⟨PyData.keyHash P z146, (.str z146 673), (.ref 361)⟩, ⟨PyData.keyHash P z147, (.str z147 680), (.ref 368)⟩, ⟨PyData.keyHash P z35, (.str z35 689), (.ref 369)⟩]) 14), (Array.mk [])⟩
noncomputable def x293 (p : Program) (P : Params) : Obj := ⟨(.type "tuple"), none, (.seq (Array.mk []) 0), (Array.mk [])⟩
noncomputable def x294 (p : Program) (P : Params) : Obj := ⟨.none, none, (.fields (Array.mk [(.int 175 0), (.int 4 0), (.ref 304), (.int 185 0), (.int 4 0), (.ref 311), (.int 188 0), (.int 4 0), (.ref 318), (.int 191 0), (.int 4 0), (.ref 325), (.int 194 0), (.int 4 0), (.ref 332), (.int 197 0), (.int 4 0), (.ref 339), (.int 200 0), (.int 4 0), (.ref 346), (.int 203 0), (.int 4 0), (.ref 353), (.int 211 0), (.int 4 0), (.ref 360), (.int 218 0), (.int 4 0), (.ref 367)])), (Array.mk [])⟩
noncomputable def x295 (p : Program) (P : Params) : Obj := ⟨(.type "code"), none, (.fields (Array.mk [(.str z140 593), (.str z140 594), (.str z1 595), (.int 173 0), (.int 0 0), (.int 0 0), (.int 0 0), (.int 0 0), (.ref 295), (.bool false), (.int 181 0), (.ref 296), .none, .none, .none, .none, (.int 596 0), (.int 173 0), (.str z1 597)])), (Array.mk [])⟩
noncomputable def x296 (p : Program) (P : Params) : Obj := ⟨(.type "frame"), none, .plain, (Array.mk [(some (.ref 297)), (some (.ref 3)), (some (.ref 294)), none, (some (.str z113 579)), none, (some (.ref 0))])⟩
noncomputable def x297 (p : Program) (P : Params) : Obj := ⟨(.type "tuple"), none, (.seq (Array.mk []) 0), (Array.mk [])⟩
noncomputable def x298 (p : Program) (P : Params) : Obj := ⟨.none, none, (.fields (Array.mk [])), (Array.mk [])⟩
noncomputable def x299 (p : Program) (P : Params) : Obj := ⟨(.type "tuple"), none, (.seq (Array.mk [(.str z36 606), (.str z148 607), (.str z141 608)]) 0), (Array.mk [])⟩
noncomputable def x300 (p : Program) (P : Params) : Obj := ⟨(.type "tuple"), none, (.seq (Array.mk []) 0), (Array.mk [])⟩
noncomputable def x301 (p : Program) (P : Params) : Obj := ⟨.none, none, (.func ⟨z24, z149, (dM p 36 0).1, .stmts (dM p 36 0).2.1, (dM p 36 0).2.2, 0, [], .none, .none, .none, .none, none, .none, .none, 0⟩), (Array.mk [])⟩
noncomputable def x302 (p : Program) (P : Params) : Obj := ⟨(.type "code"), none, (.fields (Array.mk [(.str z24 603), (.str z149 604), (.str z1 605), (.int 175 0), (.int 3 0), (.int 0 0), (.int 0 0), (.int 3 0), (.ref 299), (.bool true), (.int 181 0), (.ref 300), .none, (.ref 301), (.ref 302), (.ref 303), (.int 609 0), (.int 175 0), (.str z1 610)])), (Array.mk [])⟩
noncomputable def x303 (p : Program) (P : Params) : Obj := ⟨(.type "function"), none, (.func ⟨z24, z149, (dM p 36 0).1, .stmts (dM p 36 0).2.1, (dM p 36 0).2.2, 3, [], .none, .none, .none, (.str z113 579), none, (.ref 304), .none, 0⟩), (Array.mk [])⟩
noncomputable def x304 (p : Program) (P : Params) : Obj := ⟨(.type "tuple"), none, (.seq (Array.mk []) 0), (Array.mk [])⟩
noncomputable def x305 (p : Program) (P : Params) : Obj := ⟨.none, none, (.fields (Array.mk [])), (Array.mk [])⟩
noncomputable def x306 (p : Program) (P : Params) : Obj := ⟨(.type "tuple"), none, (.seq (Array.mk [(.str z36 615)]) 0), (Array.mk [])⟩
noncomputable def x307 (p : Program) (P : Params) : Obj := ⟨(.type "tuple"), none, (.seq (Array.mk []) 0), (Array.mk [])⟩
noncomputable def x308 (p : Program) (P : Params) : Obj := ⟨.none, none, (.func ⟨z141, z150, (dM p 36 1).1, .stmts (dM p 36 1).2.1, (dM p 36 1).2.2, 0, [], .none, .none, .none, .none, none, .none, .none, 0⟩), (Array.mk [])⟩
noncomputable def x309 (p : Program) (P : Params) : Obj := ⟨(.type "code"), none, (.fields (Array.mk [(.str z141 612), (.str z150 613), (.str z1 614), (.int 185 0), (.int 1 0), (.int 0 0), (.int 0 0), (.int 3 0), (.ref 306), (.bool true), (.int 181 0), (.ref 307), .none, (.ref 308), (.ref 309), (.ref 310), (.int 616 0), (.int 185 0), (.str z1 617)])), (Array.mk [])⟩
noncomputable def x310 (p : Program) (P : Params) : Obj := ⟨(.type "function"), none, (.func ⟨z141, z150, (dM p 36 1).1, .stmts (dM p 36 1).2.1, (dM p 36 1).2.2, 3, [], .none, .none, .none, (.str z113 579), none, (.ref 311), .none, 0⟩), (Array.mk [])⟩
noncomputable def x311 (p : Program) (P : Params) : Obj := ⟨(.type "tuple"), none, (.seq (Array.mk []) 0), (Array.mk [])⟩
noncomputable def x312 (p : Program) (P : Params) : Obj := ⟨.none, none, (.fields (Array.mk [])), (Array.mk [])⟩
noncomputable def x313 (p : Program) (P : Params) : Obj := ⟨(.type "tuple"), none, (.seq (Array.mk [(.str z36 622)]) 0), (Array.mk [])⟩
noncomputable def x314 (p : Program) (P : Params) : Obj := ⟨(.type "tuple"), none, (.seq (Array.mk []) 0), (Array.mk [])⟩
noncomputable def x315 (p : Program) (P : Params) : Obj := ⟨.none, none, (.func ⟨z142, z151, (dM p 36 2).1, .stmts (dM p 36 2).2.1, (dM p 36 2).2.2, 0, [], .none, .none, .none, .none, none, .none, .none, 0⟩), (Array.mk [])⟩
noncomputable def x316 (p : Program) (P : Params) : Obj := ⟨(.type "code"), none, (.fields (Array.mk [(.str z142 619), (.str z151 620), (.str z1 621), (.int 188 0), (.int 1 0), (.int 0 0), (.int 0 0), (.int 3 0), (.ref 313), (.bool true), (.int 181 0), (.ref 314), .none, (.ref 315), (.ref 316), (.ref 317), (.int 623 0), (.int 188 0), (.str z1 624)])), (Array.mk [])⟩
noncomputable def x317 (p : Program) (P : Params) : Obj := ⟨(.type "function"), none, (.func ⟨z142, z151, (dM p 36 2).1, .stmts (dM p 36 2).2.1, (dM p 36 2).2.2, 3, [], .none, .none, .none, (.str z113 579), none, (.ref 318), .none, 0⟩), (Array.mk [])⟩
noncomputable def x318 (p : Program) (P : Params) : Obj := ⟨(.type "tuple"), none, (.seq (Array.mk []) 0), (Array.mk [])⟩
noncomputable def x319 (p : Program) (P : Params) : Obj := ⟨.none, none, (.fields (Array.mk [])), (Array.mk [])⟩
noncomputable def x320 (p : Program) (P : Params) : Obj := ⟨(.type "tuple"), none, (.seq (Array.mk [(.str z36 629), (.str z38 630)]) 0), (Array.mk [])⟩
noncomputable def x321 (p : Program) (P : Params) : Obj := ⟨(.type "tuple"), none, (.seq (Array.mk []) 0), (Array.mk [])⟩
noncomputable def x322 (p : Program) (P : Params) : Obj := ⟨.none, none, (.func ⟨z25, z152, (dM p 36 3).1, .stmts (dM p 36 3).2.1, (dM p 36 3).2.2, 0, [], .none, .none, .none, .none, none, .none, .none, 0⟩), (Array.mk [])⟩
noncomputable def x323 (p : Program) (P : Params) : Obj := ⟨(.type "code"), none, (.fields (Array.mk [(.str z25 626), (.str z152 627), (.str z1 628), (.int 191 0), (.int 2 0), (.int 0 0), (.int 0 0), (.int 3 0), (.ref 320), (.bool true), (.int 181 0), (.ref 321), .none, (.ref 322), (.ref 323), (.ref 324), (.int 631 0), (.int 191 0), (.str z1 632)])), (Array.mk [])⟩
noncomputable def x324 (p : Program) (P : Params) : Obj := ⟨(.type "function"), none, (.func ⟨z25, z152, (dM p 36 3).1, .stmts (dM p 36 3).2.1, (dM p 36 3).2.2, 3, [], .none, .none, .none, (.str z113 579), none, (.ref 325), .none, 0⟩), (Array.mk [])⟩
noncomputable def x325 (p : Program) (P : Params) : Obj := ⟨(.type "tuple"), none, (.seq (Array.mk []) 0), (Array.mk [])⟩
noncomputable def x326 (p : Program) (P : Params) : Obj := ⟨.none, none, (.fields (Array.mk [])), (Array.mk [])⟩
noncomputable def x327 (p : Program) (P : Params) : Obj := ⟨(.type "tuple"), none, (.seq (Array.mk [(.str z36 637), (.str z38 638)]) 0), (Array.mk [])⟩
noncomputable def x328 (p : Program) (P : Params) : Obj := ⟨(.type "tuple"), none, (.seq (Array.mk []) 0), (Array.mk [])⟩
noncomputable def x329 (p : Program) (P : Params) : Obj := ⟨.none, none, (.func ⟨z143, z153, (dM p 36 4).1, .stmts (dM p 36 4).2.1, (dM p 36 4).2.2, 0, [], .none, .none, .none, .none, none, .none, .none, 0⟩), (Array.mk [])⟩
noncomputable def x330 (p : Program) (P : Params) : Obj := ⟨(.type "code"), none, (.fields (Array.mk [(.str z143 634), (.str z153 635), (.str z1 636), (.int 194 0), (.int 2 0), (.int 0 0), (.int 0 0), (.int 3 0), (.ref 327), (.bool true), (.int 181 0), (.ref 328), .none, (.ref 329), (.ref 330), (.ref 331), (.int 639 0), (.int 194 0), (.str z1 640)])), (Array.mk [])⟩
noncomputable def x331 (p : Program) (P : Params) : Obj := ⟨(.type "function"), none, (.func ⟨z143, z153, (dM p 36 4).1, .stmts (dM p 36 4).2.1, (dM p 36 4).2.2, 3, [], .none, .none, .none, (.str z113 579), none, (.ref 332), .none, 0⟩), (Array.mk [])⟩
noncomputable def x332 (p : Program) (P : Params) : Obj := ⟨(.type "tuple"), none, (.seq (Array.mk []) 0), (Array.mk [])⟩
noncomputable def x333 (p : Program) (P : Params) : Obj := ⟨.none, none, (.fields (Array.mk [])), (Array.mk [])⟩
noncomputable def x334 (p : Program) (P : Params) : Obj := ⟨(.type "tuple"), none, (.seq (Array.mk [(.str z36 645), (.str z38 646)]) 0), (Array.mk [])⟩
noncomputable def x335 (p : Program) (P : Params) : Obj := ⟨(.type "tuple"), none, (.seq (Array.mk []) 0), (Array.mk [])⟩
noncomputable def x336 (p : Program) (P : Params) : Obj := ⟨.none, none, (.func ⟨z28, z154, (dM p 36 5).1, .stmts (dM p 36 5).2.1, (dM p 36 5).2.2, 0, [], .none, .none, .none, .none, none, .none, .none, 0⟩), (Array.mk [])⟩
noncomputable def x337 (p : Program) (P : Params) : Obj := ⟨(.type "code"), none, (.fields (Array.mk [(.str z28 642), (.str z154 643), (.str z1 644), (.int 197 0), (.int 2 0), (.int 0 0), (.int 0 0), (.int 3 0), (.ref 334), (.bool true), (.int 181 0), (.ref 335), .none, (.ref 336), (.ref 337), (.ref 338), (.int 647 0), (.int 197 0), (.str z1 648)])), (Array.mk [])⟩
noncomputable def x338 (p : Program) (P : Params) : Obj := ⟨(.type "function"), none, (.func ⟨z28, z154, (dM p 36 5).1, .stmts (dM p 36 5).2.1, (dM p 36 5).2.2, 3, [], .none, .none, .none, (.str z113 579), none, (.ref 339), .none, 0⟩), (Array.mk [])⟩
noncomputable def x339 (p : Program) (P : Params) : Obj := ⟨(.type "tuple"), none, (.seq (Array.mk []) 0), (Array.mk [])⟩
noncomputable def x340 (p : Program) (P : Params) : Obj := ⟨.none, none, (.fields (Array.mk [])), (Array.mk [])⟩
noncomputable def x341 (p : Program) (P : Params) : Obj := ⟨(.type "tuple"), none, (.seq (Array.mk [(.str z36 653)]) 0), (Array.mk [])⟩
noncomputable def x342 (p : Program) (P : Params) : Obj := ⟨(.type "tuple"), none, (.seq (Array.mk []) 0), (Array.mk [])⟩
noncomputable def x343 (p : Program) (P : Params) : Obj := ⟨.none, none, (.func ⟨z144, z155, (dM p 36 6).1, .stmts (dM p 36 6).2.1, (dM p 36 6).2.2, 0, [], .none, .none, .none, .none, none, .none, .none, 0⟩), (Array.mk [])⟩
noncomputable def x344 (p : Program) (P : Params) : Obj := ⟨(.type "code"), none, (.fields (Array.mk [(.str z144 650), (.str z155 651), (.str z1 652), (.int 200 0), (.int 1 0), (.int 0 0), (.int 0 0), (.int 3 0), (.ref 341), (.bool true), (.int 181 0), (.ref 342), .none, (.ref 343), (.ref 344), (.ref 345), (.int 654 0), (.int 200 0), (.str z1 655)])), (Array.mk [])⟩
noncomputable def x345 (p : Program) (P : Params) : Obj := ⟨(.type "function"), none, (.func ⟨z144, z155, (dM p 36 6).1, .stmts (dM p 36 6).2.1, (dM p 36 6).2.2, 3, [], .none, .none, .none, (.str z113 579), none, (.ref 346), .none, 0⟩), (Array.mk [])⟩
noncomputable def x346 (p : Program) (P : Params) : Obj := ⟨(.type "tuple"), none, (.seq (Array.mk []) 0), (Array.mk [])⟩
noncomputable def x347 (p : Program) (P : Params) : Obj := ⟨.none, none, (.fields (Array.mk [])), (Array.mk [])⟩
noncomputable def x348 (p : Program) (P : Params) : Obj := ⟨(.type "tuple"), none, (.seq (Array.mk [(.str z36 660), (.str z156 661), (.str z46 662), (.str z157 663)]) 0), (Array.mk [])⟩
noncomputable def x349 (p : Program) (P : Params) : Obj := ⟨(.type "tuple"), none, (.seq (Array.mk []) 0), (Array.mk [])⟩
noncomputable def x350 (p : Program) (P : Params) : Obj := ⟨.none, none, (.func ⟨z145, z158, (dM p 36 7).1, .stmts (dM p 36 7).2.1, (dM p 36 7).2.2, 0, [], .none, .none, .none, .none, none, .none, .none, 0⟩), (Array.mk [])⟩
noncomputable def x351 (p : Program) (P : Params) : Obj := ⟨(.type "code"), none, (.fields (Array.mk [(.str z145 657), (.str z158 658), (.str z1 659), (.int 203 0), (.int 4 0), (.int 0 0), (.int 0 0), (.int 3 0), (.ref 348), (.bool true), (.int 181 0), (.ref 349), .none, (.ref 350), (.ref 351), (.ref 352), (.int 664 0), (.int 203 0), (.str z1 665)])), (Array.mk [])⟩
noncomputable def x352 (p : Program) (P : Params) : Obj := ⟨(.type "function"), none, (.func ⟨z145, z158, (dM p 36 7).1, .stmts (dM p 36 7).2.1, (dM p 36 7).2.2, 3, [], .none, .none, .none, (.str z113 579), none, (.ref 353), .none, 0⟩), (Array.mk [])⟩
noncomputable def x353 (p : Program) (P : Params) : Obj := ⟨(.type "tuple"), none, (.seq (Array.mk []) 0), (Array.mk [])⟩
noncomputable def x354 (p : Program) (P : Params) : Obj := ⟨.none, none, (.fields (Array.mk [])), (Array.mk [])⟩
noncomputable def x355 (p : Program) (P : Params) : Obj := ⟨(.type "tuple"), none, (.seq (Array.mk [(.str z36 670)]) 0), (Array.mk [])⟩
noncomputable def x356 (p : Program) (P : Params) : Obj := ⟨(.type "tuple"), none, (.seq (Array.mk []) 0), (Array.mk [])⟩
noncomputable def x357 (p : Program) (P : Params) : Obj := ⟨.none, none, (.func ⟨z146, z159, (dM p 36 8).1, .stmts (dM p 36 8).2.1, (dM p 36 8).2.2, 0, [], .none, .none, .none, .none, none, .none, .none, 0⟩), (Array.mk [])⟩
noncomputable def x358 (p : Program) (P : Params) : Obj := ⟨(.type "code"), none, (.fields (Array.mk [(.str z146 667), (.str z159 668), (.str z1 669), (.int 211 0), (.int 1 0), (.int 0 0), (.int 0 0), (.int 3 0), (.ref 355), (.bool true), (.int 181 0), (.ref 356), .none, (.ref 357), (.ref 358), (.ref 359), (.int 671 0), (.int 211 0), (.str z1 672)])), (Array.mk [])⟩
noncomputable def x359 (p : Program) (P : Params) : Obj := ⟨(.type "function"), none, (.func ⟨z146, z159, (dM p 36 8).1, .stmts (dM p 36 8).2.1, (dM p 36 8).2.2, 3, [], .none, .none, .none, (.str z113 579), none, (.ref 360), .none, 0⟩), (Array.mk [])⟩
noncomputable def x360 (p : Program) (P : Params) : Obj := ⟨(.type "tuple"), none, (.seq (Array.mk []) 0), (Array.mk [])⟩
noncomputable def x361 (p : Program) (P : Params) : Obj := ⟨.none, none, (.fields (Array.mk [])), (Array.mk [])⟩
noncomputable def x362 (p : Program) (P : Params) : Obj := ⟨(.type "tuple"), none, (.seq (Array.mk [(.str z36 677)]) 0), (Array.mk [])⟩
noncomputable def x363 (p : Program) (P : Params) : Obj := ⟨(.type "tuple"), none, (.seq (Array.mk []) 0), (Array.mk [])⟩
noncomputable def x364 (p : Program) (P : Params) : Obj := ⟨.none, none, (.func ⟨z147, z160, (dM p 36 9).1, .stmts (dM p 36 9).2.1, (dM p 36 9).2.2, 0, [], .none, .none, .none, .none, none, .none, .none, 0⟩), (Array.mk [])⟩
noncomputable def x365 (p : Program) (P : Params) : Obj := ⟨(.type "code"), none, (.fields (Array.mk [(.str z147 674), (.str z160 675), (.str z1 676), (.int 218 0), (.int 1 0), (.int 0 0), (.int 0 0), (.int 3 0), (.ref 362), (.bool true), (.int 181 0), (.ref 363), .none, (.ref 364), (.ref 365), (.ref 366), (.int 678 0), (.int 218 0), (.str z1 679)])), (Array.mk [])⟩
noncomputable def x366 (p : Program) (P : Params) : Obj := ⟨(.type "function"), none, (.func ⟨z147, z160, (dM p 36 9).1, .stmts (dM p 36 9).2.1, (dM p 36 9).2.2, 3, [], .none, .none, .none, (.str z113 579), none, (.ref 367), .none, 0⟩), (Array.mk [])⟩
noncomputable def x367 (p : Program) (P : Params) : Obj := ⟨(.type "tuple"), none, (.seq (Array.mk [(.str z148 681), (.str z161 682), (.str z162 683), (.str z163 684), (.str z164 685), (.str z165 686), (.str z166 687), (.str z167 688)]) 0), (Array.mk [])⟩
noncomputable def x368 (p : Program) (P : Params) : Obj := ⟨(.type "dict"), none, (.dict (Array.mk [⟨PyData.keyHash P z21, (.str z21 598), (.str z113 579)⟩, ⟨PyData.keyHash P z23, (.str z23 602), (.int 173 601)⟩, ⟨PyData.keyHash P z24, (.str z24 611), (.ref 305)⟩, ⟨PyData.keyHash P z141, (.str z141 618), (.ref 312)⟩, ⟨PyData.keyHash P z142, (.str z142 625), (.ref 319)⟩, ⟨PyData.keyHash P z25, (.str z25 633), (.ref 326)⟩, ⟨PyData.keyHash P z143, (.str z143 641), (.ref 333)⟩, ⟨PyData.keyHash P z28, (.str z28 649), (.ref 340)⟩, ⟨PyData.keyHash P z144, (.str z144 656), (.ref 347)⟩, ⟨PyData.keyHash P z145, (.str z145 666), (.ref 354)⟩, ⟨PyData.keyHash P z146, (.str z146 673), (.ref 361)⟩, ⟨PyData.keyHash P z147, (.str z147 680), (.ref 368)⟩, ⟨PyData.keyHash P z35, (.str z35 689), (.ref 369)⟩, ⟨PyData.keyHash P z59, (.str z59 691), (.ref 372)⟩, ⟨PyData.keyHash P z60, (.str z60 693), (.ref 373)⟩, ⟨PyData.keyHash P z5, (.str z5 694), .none⟩]) 4), (Array.mk [])⟩
noncomputable def x369 (p : Program) (P : Params) : Obj := ⟨(.type "type"), none, (.cls ⟨z140, [(.type "object")], [(.ref 371), (.type "object")], 370, z140, true, [], [], false, none, false⟩), (Array.mk [none, none, (some (.str z140 591)), (some (.str z140 599)), (some (.builtin "object.__new__")), (some (.bool true))])⟩
noncomputable def x370 (p : Program) (P : Params) : Obj := ⟨(.type "getset_descriptor"), none, (.fields (Array.mk [(.str z59 690), (.ref 371), (.builtin "function.__dict__"), (.builtin "function.__dict__#set")])), (Array.mk [])⟩
noncomputable def x371 (p : Program) (P : Params) : Obj := ⟨(.type "getset_descriptor"), none, (.fields (Array.mk [(.str z60 692), (.ref 371), (.builtin "ExceptionGroup.__weakref__"), .none])), (Array.mk [])⟩
noncomputable def x372 (p : Program) (P : Params) : Obj := ⟨(.type "super"), none, (.fields (Array.mk [(.ref 371), (.ref 371), (.ref 371)])), (Array.mk [])⟩
noncomputable def x373 (p : Program) (P : Params) : Obj := ⟨(.type "builtin_function_or_method"), none, (.fields (Array.mk [(.builtin "object.__init_subclass__"), (.ref 371)])), (Array.mk [])⟩
noncomputable def x374 (p : Program) (P : Params) : Obj := ⟨(.type "dict"), none, (.dict (Array.mk [⟨PyData.keyHash P z3, (.str z3 165), (.str z113 579)⟩, ⟨PyData.keyHash P z5, (.str z5 166), .none⟩, ⟨PyData.keyHash P z6, (.str z6 167), .none⟩, ⟨PyData.keyHash P z7, (.str z7 168), (.builtin "__main__.__loader__#\x6fpaque")⟩, ⟨PyData.keyHash P z8, (.str z8 169), .none⟩, ⟨PyData.keyHash P z9, (.str z9 170), (.ref 6)⟩, ⟨PyData.keyHash P z10, (.str z10 171), (.ref 4)⟩, ⟨PyData.keyHash P z11, (.str z11 173), (.str z1 172)⟩, ⟨PyData.keyHash P z12, (.str z12 174), .none⟩, ⟨PyData.keyHash P z13, (.str z13 193), (.ref 21)⟩, ⟨PyData.keyHash P z14, (.str z14 197), (.int 10 196)⟩, ⟨PyData.keyHash P z15, (.str z15 199), (.int 14720 198)⟩, ⟨PyData.keyHash P z16, (.str z16 201), (.int 2 200)⟩, ⟨PyData.keyHash P z17, (.str z17 208), (.ref 28)⟩, ⟨PyData.keyHash P z18, (.str z18 327), (.ref 115)⟩, ⟨PyData.keyHash P z62, (.str z62 333), (.ref 120)⟩, ⟨PyData.keyHash P z63, (.str z63 342), (.ref 127)⟩, ⟨PyData.keyHash P z64, (.str z64 352), (.ref 134)⟩, ⟨PyData.keyHash P z65, (.str z65 367), (.ref 141)⟩, ⟨PyData.keyHash P z66, (.str z66 373), (.ref 146)⟩, ⟨PyData.keyHash P z67, (.str z67 387), (.ref 153)⟩, ⟨PyData.keyHash P z68, (.str z68 397), (.ref 160)⟩, ⟨PyData.keyHash P z69, (.str z69 401), (.int 333000 400)⟩, ⟨PyData.keyHash P z70, (.str z70 403), (.int 1000 402)⟩, ⟨PyData.keyHash P z71, (.str z71 412), (.ref 167)⟩, ⟨PyData.keyHash P z72, (.str z72 487), (.ref 220)⟩, ⟨PyData.keyHash P z114, (.str z114 498), (.ref 231)⟩, ⟨PyData.keyHash P z115, (.str z115 507), (.ref 238)⟩, ⟨PyData.keyHash P z84, (.str z84 517), (.ref 245)⟩, ⟨PyData.keyHash P z87, (.str z87 524), (.ref 252)⟩, ⟨PyData.keyHash P z116, (.str z116 532), (.ref 259)⟩, ⟨PyData.keyHash P z117, (.str z117 538), (.ref 264)⟩, ⟨PyData.keyHash P z118, (.str z118 547), (.ref 271)⟩, ⟨PyData.keyHash P z119, (.str z119 578), (.ref 288)⟩, ⟨PyData.keyHash P z120, (.str z120 582), (.int 3 581)⟩, ⟨PyData.keyHash P z121, (.str z121 584), (.str z122 583)⟩, ⟨PyData.keyHash P z123, (.str z123 586), (.str z124 585)⟩, ⟨PyData.keyHash P z125, (.str z125 588), (.str z126 587)⟩, ⟨PyData.keyHash P z127, (.str z127 590), (.str z128 589)⟩, ⟨PyData.keyHash P z140, (.str z140 696), (.ref 371)⟩, ⟨PyData.keyHash P z168, (.str z168 848), (.ref 486)⟩]) 41), (Array.mk [])⟩
noncomputable def x375 (p : Program) (P : Params) : Obj := ⟨.none, none, (.fields (Array.mk [(.int 1 0), (.int 0 0), (.ref 20), (.int 8 0), (.int 0 0), (.ref 27), (.int 10 0), (.int 0 0), (.ref 34), (.int 51 0), (.int 0 0), (.ref 126), (.int 53 0), (.int 0 0), (.ref 133), (.int 60 0), (.int 0 0), (.ref 140), (.int 69 0), (.int 0 0), (.ref 145), (.int 71 0), (.int 0 0), (.ref 152), (.int 77 0), (.int 0 0), (.ref 159), (.int 87 0), (.int 0 0), (.ref 166), (.int 89 0), (.int 0 0), (.ref 173), (.int 127 0), (.int 0 0), (.ref 230), (.int 131 0), (.int 0 0), (.ref 237), (.int 136 0), (.int 0 0), (.ref 244), (.int 142 0), (.int 0 0), (.ref 251), (.int 144 0), (.int 0 0), (.ref 258), (.int 148 0), (.int 0 0), (.ref 263), (.int 155 0), (.int 0 0), (.ref 270), (.int 162 0), (.int 0 0), (.ref 277), (.int 173 0), (.int 0 0), (.ref 297), (.int 221 0), (.int 0 0), (.ref 381)])), (Array.mk [])⟩
noncomputable def x376 (p : Program) (P : Params) : Obj := ⟨(.type "tuple"), none, (.seq (Array.mk []) 0), (Array.mk [])⟩
noncomputable def x377 (p : Program) (P : Params) : Obj := ⟨(.type "builtin_function_or_method"), none, (.fields (Array.mk [(.builtin "type.__prepare__"), (.type "type")])), (Array.mk [])⟩
noncomputable def x378 (p : Program) (P : Params) : Obj := ⟨(.type "dict"), none, (.dict (Array.mk [⟨PyData.keyHash P z21, (.str z21 704), (.str z113 579)⟩, ⟨PyData.keyHash P z22, (.str z22 706), (.str z168 705)⟩, ⟨PyData.keyHash P z23, (.str z23 708), (.int 221 707)⟩, ⟨PyData.keyHash P z24, (.str z24 719), (.ref 389)⟩, ⟨PyData.keyHash P z169, (.str z169 728), (.ref 396)⟩, ⟨PyData.keyHash P z170, (.str z170 737), (.ref 403)⟩, ⟨PyData.keyHash P z171, (.str z171 747), (.ref 410)⟩, ⟨PyData.keyHash P z172, (.str z172 759), (.ref 417)⟩, ⟨PyData.keyHash P z173, (.str z173 767), (.ref 424)⟩, ⟨PyData.keyHash P z174, (.str z174 776), (.ref 431)⟩, ⟨PyData.keyHash P z175, (.str z175 783), (.ref 438)⟩, ⟨PyData.keyHash P z176, (.str z176 790), (.ref 445)⟩, ⟨PyData.keyHash P z177, (.str z177 797), (.ref 452)⟩, ⟨PyData.keyHash P z178, (.str z178 805), (.ref 459)⟩, ⟨PyData.keyHash P z179, (.str z179 813), (.ref 466)⟩, ⟨PyData.keyHash P z180, (.str z180 821), (.ref 473)⟩, ⟨PyData.keyHash P z181, (.str z181 827), (.ref 478)⟩, ⟨PyData.keyHash P z182, (.str z182 833), (.ref 483)⟩, ⟨PyData.keyHash P z35, (.str z35 841), (.ref 484)⟩]) 19), (Array.mk [])⟩
noncomputable def x379 (p : Program) (P : Params) : Obj := ⟨(.type "tuple"), none, (.seq (Array.mk []) 0), (Array.mk [])⟩
noncomputable def x380 (p : Program) (P : Params) : Obj := ⟨.none, none, (.fields (Array.mk [(.int 223 0), (.int 4 0), (.ref 388), (.int 232 0), (.int 4 0), (.ref 395), (.int 238 0), (.int 4 0), (.ref 402), (.int 245 0), (.int 4 0), (.ref 409), (.int 252 0), (.int 4 0), (.ref 416), (.int 264 0), (.int 4 0), (.ref 423), (.int 267 0), (.int 4 0), (.ref 430), (.int 270 0), (.int 4 0), (.ref 437), (.int 273 0), (.int 4 0), (.ref 444), (.int 276 0), (.int 4 0), (.ref 451), (.int 279 0), (.int 4 0), (.ref 458), (.int 282 0), (.int 4 0), (.ref 465), (.int 285 0), (.int 4 0), (.ref 472), (.int 288 0), (.int 4 0), (.ref 477), (.int 292 0), (.int 4 0), (.ref 482)])), (Array.mk [])⟩
noncomputable def x381 (p : Program) (P : Params) : Obj := ⟨(.type "code"), none, (.fields (Array.mk [(.str z168 699), (.str z168 700), (.str z1 701), (.int 221 0), (.int 0 0), (.int 0 0), (.int 0 0), (.int 0 0), (.ref 379), (.bool false), (.int 181 0), (.ref 380), .none, .none, .none, .none, (.int 702 0), (.int 221 0), (.str z1 703)])), (Array.mk [])⟩
noncomputable def x382 (p : Program) (P : Params) : Obj := ⟨(.type "frame"), none, .plain, (Array.mk [(some (.ref 381)), (some (.ref 3)), (some (.ref 378)), none, (some (.str z113 579)), none, (some (.ref 0))])⟩
noncomputable def x383 (p : Program) (P : Params) : Obj := ⟨(.type "tuple"), none, (.seq (Array.mk []) 0), (Array.mk [])⟩
noncomputable def x384 (p : Program) (P : Params) : Obj := ⟨.none, none, (.fields (Array.mk [])), (Array.mk [])⟩
noncomputable def x385 (p : Program) (P : Params) : Obj := ⟨(.type "tuple"), none, (.seq (Array.mk [(.str z36 712), (.str z183 713), (.str z148 714), (.str z141 715), (.str z184 716)]) 0), (Array.mk [])⟩
noncomputable def x386 (p : Program) (P : Params) : Obj := ⟨(.type "tuple"), none, (.seq (Array.mk []) 0), (Array.mk [])⟩
noncomputable def x387 (p : Program) (P : Params) : Obj := ⟨.none, none, (.func ⟨z24, z185, (dM p 37 0).1, .stmts (dM p 37 0).2.1, (dM p 37 0).2.2, 0, [], .none, .none, .none, .none, none, .none, .none, 0⟩), (Array.mk [])⟩
noncomputable def x388 (p : Program) (P : Params) : Obj := ⟨(.type "code"), none, (.fields (Array.mk [(.str z24 709), (.str z185 710), (.str z1 711), (.int 223 0), (.int 5 0), (.int 0 0), (.int 0 0), (.int 3 0), (.ref 383), (.bool true), (.int 181 0), (.ref 384), .none, (.ref 385), (.ref 386), (.ref 387), (.int 717 0), (.int 223 0), (.str z1 718)])), (Array.mk [])⟩
noncomputable def x389 (p : Program) (P : Params) : Obj := ⟨(.type "function"), none, (.func ⟨z24, z185, (dM p 37 0).1, .stmts (dM p 37 0).2.1, (dM p 37 0).2.2, 3, [], .none, .none, .none, (.str z113 579), none, (.ref 388), .none, 0⟩), (Array.mk [])⟩
noncomputable def x390 (p : Program) (P : Params) : Obj := ⟨(.type "tuple"), none, (.seq (Array.mk []) 0), (Array.mk [])⟩
noncomputable def x391 (p : Program) (P : Params) : Obj := ⟨.none, none, (.fields (Array.mk [])), (Array.mk [])⟩
noncomputable def x392 (p : Program) (P : Params) : Obj := ⟨(.type "tuple"), none, (.seq (Array.mk [(.str z36 723), (.str z148 724), (.str z186 725)]) 0), (Array.mk [])⟩
noncomputable def x393 (p : Program) (P : Params) : Obj := ⟨(.type "tuple"), none, (.seq (Array.mk []) 0), (Array.mk [])⟩
noncomputable def x394 (p : Program) (P : Params) : Obj := ⟨.none, none, (.func ⟨z169, z187, (dM p 37 1).1, .stmts (dM p 37 1).2.1, (dM p 37 1).2.2, 0, [], .none, .none, .none, .none, none, .none, .none, 0⟩), (Array.mk [])⟩
noncomputable def x395 (p : Program) (P : Params) : Obj := ⟨(.type "code"), none, (.fields (Array.mk [(.str z169 720), (.str z187 721), (.str z1 722), (.int 232 0), (.int 2 0), (.int 0 0), (.int 0 0), (.int 3 0), (.ref 390), (.bool true), (.int 181 0), (.ref 391), .none, (.ref 392), (.ref 393), (.ref 394), (.int 726 0), (.int 232 0), (.str z1 727)])), (Array.mk [])⟩
noncomputable def x396 (p : Program) (P : Params) : Obj := ⟨(.type "function"), none, (.func ⟨z169, z187, (dM p 37 1).1, .stmts (dM p 37 1).2.1, (dM p 37 1).2.2, 3, [], .none, .none, .none, (.str z113 579), none, (.ref 395), .none, 0⟩), (Array.mk [])⟩
noncomputable def x397 (p : Program) (P : Params) : Obj := ⟨(.type "tuple"), none, (.seq (Array.mk []) 0), (Array.mk [])⟩
noncomputable def x398 (p : Program) (P : Params) : Obj := ⟨.none, none, (.fields (Array.mk [])), (Array.mk [])⟩
noncomputable def x399 (p : Program) (P : Params) : Obj := ⟨(.type "tuple"), none, (.seq (Array.mk [(.str z36 732), (.str z148 733), (.str z81 734)]) 0), (Array.mk [])⟩
noncomputable def x400 (p : Program) (P : Params) : Obj := ⟨(.type "tuple"), none, (.seq (Array.mk []) 0), (Array.mk [])⟩
noncomputable def x401 (p : Program) (P : Params) : Obj := ⟨.none, none, (.func ⟨z170, z188, (dM p 37 2).1, .stmts (dM p 37 2).2.1, (dM p 37 2).2.2, 0, [], .none, .none, .none, .none, none, .none, .none, 0⟩), (Array.mk [])⟩
noncomputable def x402 (p : Program) (P : Params) : Obj := ⟨(.type "code"), none, (.fields (Array.mk [(.str z170 729), (.str z188 730), (.str z1 731), (.int 238 0), (.int 2 0), (.int 0 0), (.int 0 0), (.int 3 0), (.ref 397), (.bool true), (.int 181 0), (.ref 398), .none, (.ref 399), (.ref 400), (.ref 401), (.int 735 0), (.int 238 0), (.str z1 736)])), (Array.mk [])⟩
noncomputable def x403 (p : Program) (P : Params) : Obj := ⟨(.type "function"), none, (.func ⟨z170, z188, (dM p 37 2).1, .stmts (dM p 37 2).2.1, (dM p 37 2).2.2, 3, [], .none, .none, .none, (.str z113 579), none, (.ref 402), .none, 0⟩), (Array.mk [])⟩
noncomputable def x404 (p : Program) (P : Params) : Obj := ⟨(.type "tuple"), none, (.seq (Array.mk []) 0), (Array.mk [])⟩
noncomputable def x405 (p : Program) (P : Params) : Obj := ⟨.none, none, (.fields (Array.mk [])), (Array.mk [])⟩
noncomputable def x406 (p : Program) (P : Params) : Obj := ⟨(.type "tuple"), none, (.seq (Array.mk [(.str z36 741), (.str z148 742), (.str z38 743), (.str z186 744)]) 0), (Array.mk [])⟩
noncomputable def x407 (p : Program) (P : Params) : Obj := ⟨(.type "tuple"), none, (.seq (Array.mk []) 0), (Array.mk [])⟩
noncomputable def x408 (p : Program) (P : Params) : Obj := ⟨.none, none, (.func ⟨z171, z189, (dM p 37 3).1, .stmts (dM p 37 3).2.1, (dM p 37 3).2.2, 0, [], .none, .none, .none, .none, none, .none, .none, 0⟩), (Array.mk [])⟩
noncomputable def x409 (p : Program) (P : Params) : Obj := ⟨(.type "code"), none, (.fields (Array.mk [(.str z171 738), (.str z189 739), (.str z1 740), (.int 245 0), (.int 3 0), (.int 0 0), (.int 0 0), (.int 3 0), (.ref 404), (.bool true), (.int 181 0), (.ref 405), .none, (.ref 406), (.ref 407), (.ref 408), (.int 745 0), (.int 245 0), (.str z1 746)])), (Array.mk [])⟩
noncomputable def x410 (p : Program) (P : Params) : Obj := ⟨(.type "function"), none, (.func ⟨z171, z189, (dM p 37 3).1, .stmts (dM p 37 3).2.1, (dM p 37 3).2.2, 3, [], .none, .none, .none, (.str z113 579), none, (.ref 409), .none, 0⟩), (Array.mk [])⟩
noncomputable def x411 (p : Program) (P : Params) : Obj := ⟨(.type "tuple"), none, (.seq (Array.mk []) 0), (Array.mk [])⟩
noncomputable def x412 (p : Program) (P : Params) : Obj := ⟨.none, none, (.fields (Array.mk [])), (Array.mk [])⟩
noncomputable def x413 (p : Program) (P : Params) : Obj := ⟨(.type "tuple"), none, (.seq (Array.mk [(.str z36 751), (.str z148 752), (.str z190 753), (.str z191 754), (.str z192 755), (.str z186 756)]) 0), (Array.mk [])⟩
noncomputable def x414 (p : Program) (P : Params) : Obj := ⟨(.type "tuple"), none, (.seq (Array.mk []) 0), (Array.mk [])⟩
noncomputable def x415 (p : Program) (P : Params) : Obj := ⟨.none, none, (.func ⟨z172, z193, (dM p 37 4).1, .stmts (dM p 37 4).2.1, (dM p 37 4).2.2, 0, [], .none, .none, .none, .none, none, .none, .none, 0⟩), (Array.mk [])⟩
noncomputable def x416 (p : Program) (P : Params) : Obj := ⟨(.type "code"), none, (.fields (Array.mk [(.str z172 748), (.str z193 749), (.str z1 750), (.int 252 0), (.int 4 0), (.int 0 0), (.int 0 0), (.int 3 0), (.ref 411), (.bool true), (.int 181 0), (.ref 412), .none, (.ref 413), (.ref 414), (.ref 415), (.int 757 0), (.int 252 0), (.str z1 758)])), (Array.mk [])⟩
noncomputable def x417 (p : Program) (P : Params) : Obj := ⟨(.type "function"), none, (.func ⟨z172, z193, (dM p 37 4).1, .stmts (dM p 37 4).2.1, (dM p 37 4).2.2, 3, [], .none, .none, .none, (.str z113 579), none, (.ref 416), .none, 0⟩), (Array.mk [])⟩
noncomputable def x418 (p : Program) (P : Params) : Obj := ⟨(.type "tuple"), none, (.seq (Array.mk []) 0), (Array.mk [])⟩
noncomputable def x419 (p : Program) (P : Params) : Obj := ⟨.none, none, (.fields (Array.mk [])), (Array.mk [])⟩
noncomputable def x420 (p : Program) (P : Params) : Obj := ⟨(.type "tuple"), none, (.seq (Array.mk [(.str z36 763), (.str z148 764)]) 0), (Array.mk [])⟩
noncomputable def x421 (p : Program) (P : Params) : Obj := ⟨(.type "tuple"), none, (.seq (Array.mk []) 0), (Array.mk [])⟩
noncomputable def x422 (p : Program) (P : Params) : Obj := ⟨.none, none, (.func ⟨z173, z194, (dM p 37 5).1, .stmts (dM p 37 5).2.1, (dM p 37 5).2.2, 0, [], .none, .none, .none, .none, none, .none, .none, 0⟩), (Array.mk [])⟩
noncomputable def x423 (p : Program) (P : Params) : Obj := ⟨(.type "code"), none, (.fields (Array.mk [(.str z173 760), (.str z194 761), (.str z1 762), (.int 264 0), (.int 2 0), (.int 0 0), (.int 0 0), (.int 3 0), (.ref 418), (.bool true), (.int 181 0), (.ref 419), .none, (.ref 420), (.ref 421), (.ref 422), (.int 765 0), (.int 264 0), (.str z1 766)])), (Array.mk [])⟩
noncomputable def x424 (p : Program) (P : Params) : Obj := ⟨(.type "function"), none, (.func ⟨z173, z194, (dM p 37 5).1, .stmts (dM p 37 5).2.1, (dM p 37 5).2.2, 3, [], .none, .none, .none, (.str z113 579), none, (.ref 423), .none, 0⟩), (Array.mk [])⟩
noncomputable def x425 (p : Program) (P : Params) : Obj := ⟨(.type "tuple"), none, (.seq (Array.mk []) 0), (Array.mk [])⟩
noncomputable def x426 (p : Program) (P : Params) : Obj := ⟨.none, none, (.fields (Array.mk [])), (Array.mk [])⟩
noncomputable def x427 (p : Program) (P : Params) : Obj := ⟨(.type "tuple"), none, (.seq (Array.mk [(.str z36 771), (.str z148 772), (.str z156 773)]) 0), (Array.mk [])⟩
noncomputable def x428 (p : Program) (P : Params) : Obj := ⟨(.type "tuple"), none, (.seq (Array.mk []) 0), (Array.mk [])⟩
noncomputable def x429 (p : Program) (P : Params) : Obj := ⟨.none, none, (.func ⟨z174, z195, (dM p 37 6).1, .stmts (dM p 37 6).2.1, (dM p 37 6).2.2, 0, [], .none, .none, .none, .none, none, .none, .none, 0⟩), (Array.mk [])⟩
noncomputable def x430 (p : Program) (P : Params) : Obj := ⟨(.type "code"), none, (.fields (Array.mk [(.str z174 768), (.str z195 769), (.str z1 770), (.int 267 0), (.int 3 0), (.int 0 0), (.int 0 0), (.int 3 0), (.ref 425), (.bool true), (.int 181 0), (.ref 426), .none, (.ref 427), (.ref 428), (.ref 429), (.int 774 0), (.int 267 0), (.str z1 775)])), (Array.mk [])⟩
noncomputable def x431 (p : Program) (P : Params) : Obj := ⟨(.type "function"), none, (.func ⟨z174, z195, (dM p 37 6).1, .stmts (dM p 37 6).2.1, (dM p 37 6).2.2, 3, [], .none, .none, .none, (.str z113 579), none, (.ref 430), .none, 0⟩), (Array.mk [])⟩
noncomputable def x432 (p : Program) (P : Params) : Obj := ⟨(.type "tuple"), none, (.seq (Array.mk []) 0), (Array.mk [])⟩
noncomputable def x433 (p : Program) (P : Params) : Obj := ⟨.none, none, (.fields (Array.mk [])), (Array.mk [])⟩
noncomputable def x434 (p : Program) (P : Params) : Obj := ⟨(.type "tuple"), none, (.seq (Array.mk [(.str z36 780)]) 0), (Array.mk [])⟩
noncomputable def x435 (p : Program) (P : Params) : Obj := ⟨(.type "tuple"), none, (.seq (Array.mk []) 0), (Array.mk [])⟩
noncomputable def x436 (p : Program) (P : Params) : Obj := ⟨.none, none, (.func ⟨z175, z196, (dM p 37 7).1, .stmts (dM p 37 7).2.1, (dM p 37 7).2.2, 0, [], .none, .none, .none, .none, none, .none, .none, 0⟩), (Array.mk [])⟩
noncomputable def x437 (p : Program) (P : Params) : Obj := ⟨(.type "code"), none, (.fields (Array.mk [(.str z175 777), (.str z196 778), (.str z1 779), (.int 270 0), (.int 1 0), (.int 0 0), (.int 0 0), (.int 3 0), (.ref 432), (.bool true), (.int 181 0), (.ref 433), .none, (.ref 434), (.ref 435), (.ref 436), (.int 781 0), (.int 270 0), (.str z1 782)])), (Array.mk [])⟩
noncomputable def x438 (p : Program) (P : Params) : Obj := ⟨(.type "function"), none, (.func ⟨z175, z196, (dM p 37 7).1, .stmts (dM p 37 7).2.1, (dM p 37 7).2.2, 3, [], .none, .none, .none, (.str z113 579), none, (.ref 437), .none, 0⟩), (Array.mk [])⟩
noncomputable def x439 (p : Program) (P : Params) : Obj := ⟨(.type "tuple"), none, (.seq (Array.mk []) 0), (Array.mk [])⟩
noncomputable def x440 (p : Program) (P : Params) : Obj := ⟨.none, none, (.fields (Array.mk [])), (Array.mk [])⟩
noncomputable def x441 (p : Program) (P : Params) : Obj := ⟨(.type "tuple"), none, (.seq (Array.mk [(.str z36 787)]) 0), (Array.mk [])⟩
noncomputable def x442 (p : Program) (P : Params) : Obj := ⟨(.type "tuple"), none, (.seq (Array.mk []) 0), (Array.mk [])⟩
noncomputable def x443 (p : Program) (P : Params) : Obj := ⟨.none, none, (.func ⟨z176, z197, (dM p 37 8).1, .stmts (dM p 37 8).2.1, (dM p 37 8).2.2, 0, [], .none, .none, .none, .none, none, .none, .none, 0⟩), (Array.mk [])⟩
noncomputable def x444 (p : Program) (P : Params) : Obj := ⟨(.type "code"), none, (.fields (Array.mk [(.str z176 784), (.str z197 785), (.str z1 786), (.int 273 0), (.int 1 0), (.int 0 0), (.int 0 0), (.int 3 0), (.ref 439), (.bool true), (.int 181 0), (.ref 440), .none, (.ref 441), (.ref 442), (.ref 443), (.int 788 0), (.int 273 0), (.str z1 789)])), (Array.mk [])⟩
noncomputable def x445 (p : Program) (P : Params) : Obj := ⟨(.type "function"), none, (.func ⟨z176, z197, (dM p 37 8).1, .stmts (dM p 37 8).2.1, (dM p 37 8).2.2, 3, [], .none, .none, .none, (.str z113 579), none, (.ref 444), .none, 0⟩), (Array.mk [])⟩
noncomputable def x446 (p : Program) (P : Params) : Obj := ⟨(.type "tuple"), none, (.seq (Array.mk []) 0), (Array.mk [])⟩
noncomputable def x447 (p : Program) (P : Params) : Obj := ⟨.none, none, (.fields (Array.mk [])), (Array.mk [])⟩
noncomputable def x448 (p : Program) (P : Params) : Obj := ⟨(.type "tuple"), none, (.seq (Array.mk [(.str z36 794)]) 0), (Array.mk [])⟩
noncomputable def x449 (p : Program) (P : Params) : Obj := ⟨(.type "tuple"), none, (.seq (Array.mk []) 0), (Array.mk [])⟩
noncomputable def x450 (p : Program) (P : Params) : Obj := ⟨.none, none, (.func ⟨z177, z198, (dM p 37 9).1, .stmts (dM p 37 9).2.1, (dM p 37 9).2.2, 0, [], .none, .none, .none, .none, none, .none, .none, 0⟩), (Array.mk [])⟩
noncomputable def x451 (p : Program) (P : Params) : Obj := ⟨(.type "code"), none, (.fields (Array.mk [(.str z177 791), (.str z198 792), (.str z1 793), (.int 276 0), (.int 1 0), (.int 0 0), (.int 0 0), (.int 3 0), (.ref 446), (.bool true), (.int 181 0), (.ref 447), .none, (.ref 448), (.ref 449), (.ref 450), (.int 795 0), (.int 276 0), (.str z1 796)])), (Array.mk [])⟩
noncomputable def x452 (p : Program) (P : Params) : Obj := ⟨(.type "function"), none, (.func ⟨z177, z198, (dM p 37 9).1, .stmts (dM p 37 9).2.1, (dM p 37 9).2.2, 3, [], .none, .none, .none, (.str z113 579), none, (.ref 451), .none, 0⟩), (Array.mk [])⟩
noncomputable def x453 (p : Program) (P : Params) : Obj := ⟨(.type "tuple"), none, (.seq (Array.mk []) 0), (Array.mk [])⟩
noncomputable def x454 (p : Program) (P : Params) : Obj := ⟨.none, none, (.fields (Array.mk [])), (Array.mk [])⟩
noncomputable def x455 (p : Program) (P : Params) : Obj := ⟨(.type "tuple"), none, (.seq (Array.mk [(.str z36 801), (.str z156 802)]) 0), (Array.mk [])⟩
noncomputable def x456 (p : Program) (P : Params) : Obj := ⟨(.type "tuple"), none, (.seq (Array.mk []) 0), (Array.mk [])⟩
noncomputable def x457 (p : Program) (P : Params) : Obj := ⟨.none, none, (.func ⟨z178, z199, (dM p 37 10).1, .stmts (dM p 37 10).2.1, (dM p 37 10).2.2, 0, [], .none, .none, .none, .none, none, .none, .none, 0⟩), (Array.mk [])⟩
noncomputable def x458 (p : Program) (P : Params) : Obj := ⟨(.type "code"), none, (.fields (Array.mk [(.str z178 798), (.str z199 799), (.str z1 800), (.int 279 0), (.int 2 0), (.int 0 0), (.int 0 0), (.int 3 0), (.ref 453), (.bool true), (.int 181 0), (.ref 454), .none, (.ref 455), (.ref 456), (.ref 457), (.int 803 0), (.int 279 0), (.str z1 804)])), (Array.mk [])⟩
noncomputable def x459 (p : Program) (P : Params) : Obj := ⟨(.type "function"), none, (.func ⟨z178, z199, (dM p 37 10).1, .stmts (dM p 37 10).2.1, (dM p 37 10).2.2, 3, [], .none, .none, .none, (.str z113 579), none, (.ref 458), .none, 0⟩), (Array.mk [])⟩
noncomputable def x460 (p : Program) (P : Params) : Obj := ⟨(.type "tuple"), none, (.seq (Array.mk []) 0), (Array.mk [])⟩
noncomputable def x461 (p : Program) (P : Params) : Obj := ⟨.none, none, (.fields (Array.mk [])), (Array.mk [])⟩
noncomputable def x462 (p : Program) (P : Params) : Obj := ⟨(.type "tuple"), none, (.seq (Array.mk [(.str z36 809), (.str z156 810)]) 0), (Array.mk [])⟩
noncomputable def x463 (p : Program) (P : Params) : Obj := ⟨(.type "tuple"), none, (.seq (Array.mk []) 0), (Array.mk [])⟩
noncomputable def x464 (p : Program) (P : Params) : Obj := ⟨.none, none, (.func ⟨z179, z200, (dM p 37 11).1, .stmts (dM p 37 11).2.1, (dM p 37 11).2.2, 0, [], .none, .none, .none, .none, none, .none, .none, 0⟩), (Array.mk [])⟩
noncomputable def x465 (p : Program) (P : Params) : Obj := ⟨(.type "code"), none, (.fields (Array.mk [(.str z179 806), (.str z200 807), (.str z1 808), (.int 282 0), (.int 2 0), (.int 0 0), (.int 0 0), (.int 3 0), (.ref 460), (.bool true), (.int 181 0), (.ref 461), .none, (.ref 462), (.ref 463), (.ref 464), (.int 811 0), (.int 282 0), (.str z1 812)])), (Array.mk [])⟩
noncomputable def x466 (p : Program) (P : Params) : Obj := ⟨(.type "function"), none, (.func ⟨z179, z200, (dM p 37 11).1, .stmts (dM p 37 11).2.1, (dM p 37 11).2.2, 3, [], .none, .none, .none, (.str z113 579), none, (.ref 465), .none, 0⟩), (Array.mk [])⟩
noncomputable def x467 (p : Program) (P : Params) : Obj := ⟨(.type "tuple"), none, (.seq (Array.mk []) 0), (Array.mk [])⟩
noncomputable def x468 (p : Program) (P : Params) : Obj := ⟨.none, none, (.fields (Array.mk [])), (Array.mk [])⟩
noncomputable def x469 (p : Program) (P : Params) : Obj := ⟨(.type "tuple"), none, (.seq (Array.mk [(.str z36 817), (.str z148 818)]) 0), (Array.mk [])⟩
noncomputable def x470 (p : Program) (P : Params) : Obj := ⟨(.type "tuple"), none, (.seq (Array.mk []) 0), (Array.mk [])⟩
noncomputable def x471 (p : Program) (P : Params) : Obj := ⟨.none, none, (.func ⟨z180, z201, (dM p 37 12).1, .stmts (dM p 37 12).2.1, (dM p 37 12).2.2, 0, [], .none, .none, .none, .none, none, .none, .none, 0⟩), (Array.mk [])⟩
noncomputable def x472 (p : Program) (P : Params) : Obj := ⟨(.type "code"), none, (.fields (Array.mk [(.str z180 814), (.str z201 815), (.str z1 816), (.int 285 0), (.int 2 0), (.int 0 0), (.int 0 0), (.int 3 0), (.ref 467), (.bool true), (.int 181 0), (.ref 468), .none, (.ref 469), (.ref 470), (.ref 471), (.int 819 0), (.int 285 0), (.str z1 820)])), (Array.mk [])⟩
noncomputable def x473 (p : Program) (P : Params) : Obj := ⟨(.type "function"), none, (.func ⟨z180, z201, (dM p 37 12).1, .stmts (dM p 37 12).2.1, (dM p 37 12).2.2, 3, [], .none, .none, .none, (.str z113 579), none, (.ref 472), .none, 0⟩), (Array.mk [])⟩
noncomputable def x474 (p : Program) (P : Params) : Obj := ⟨(.type "tuple"), none, (.seq (Array.mk []) 0), (Array.mk [])⟩
noncomputable def x475 (p : Program) (P : Params) : Obj := ⟨.none, none, (.fields (Array.mk [])), (Array.mk [])⟩
noncomputable def x476 (p : Program) (P : Params) : Obj := ⟨.none, none, (.func ⟨z181, z202, (dM p 37 13).1, .stmts (dM p 37 13).2.1, (dM p 37 13).2.2, 0, [], .none, .none, .none, .none, none, .none, .none, 0⟩), (Array.mk [])⟩
noncomputable def x477 (p : Program) (P : Params) : Obj := ⟨(.type "code"), none, (.fields (Array.mk [(.str z181 822), (.str z202 823), (.str z1 824), (.int 288 0), (.int 1 0), (.int 0 0), (.int 0 0), (.int 3 0), (.ref 474), (.bool true), (.int 181 0), (.ref 475), .none, .none, .none, (.ref 476), (.int 825 0), (.int 288 0), (.str z1 826)])), (Array.mk [])⟩
noncomputable def x478 (p : Program) (P : Params) : Obj := ⟨(.type "function"), none, (.func ⟨z181, z202, (dM p 37 13).1, .stmts (dM p 37 13).2.1, (dM p 37 13).2.2, 3, [], .none, .none, .none, (.str z113 579), none, (.ref 477), .none, 0⟩), (Array.mk [])⟩
noncomputable def x479 (p : Program) (P : Params) : Obj := ⟨(.type "tuple"), none, (.seq (Array.mk []) 0), (Array.mk [])⟩
noncomputable def x480 (p : Program) (P : Params) : Obj := ⟨.none, none, (.fields (Array.mk [])), (Array.mk [])⟩
noncomputable def x481 (p : Program) (P : Params) : Obj := ⟨.none, none, (.func ⟨z182, z203, (dM p 37 14).1, .stmts (dM p 37 14).2.1, (dM p 37 14).2.2, 0, [], .none, .none, .none, .none, none, .none, .none, 0⟩), (Array.mk [])⟩
noncomputable def x482 (p : Program) (P : Params) : Obj := ⟨(.type "code"), none, (.fields (Array.mk [(.str z182 828), (.str z203 829), (.str z1 830), (.int 292 0), (.int 2 0), (.int 0 0), (.int 0 0), (.int 3 0), (.ref 479), (.bool true), (.int 181 0), (.ref 480), .none, .none, .none, (.ref 481), (.int 831 0), (.int 292 0), (.str z1 832)])), (Array.mk [])⟩
noncomputable def x483 (p : Program) (P : Params) : Obj := ⟨(.type "function"), none, (.func ⟨z182, z203, (dM p 37 14).1, .stmts (dM p 37 14).2.1, (dM p 37 14).2.2, 3, [], .none, .none, .none, (.str z113 579), none, (.ref 482), .none, 0⟩), (Array.mk [])⟩
noncomputable def x484 (p : Program) (P : Params) : Obj := ⟨(.type "tuple"), none, (.seq (Array.mk [(.str z132 834), (.str z204 835), (.str z205 836), (.str z206 837), (.str z207 838), (.str z184 839), (.str z183 840)]) 0), (Array.mk [])⟩
noncomputable def x485 (p : Program) (P : Params) : Obj := ⟨(.type "dict"), none, (.dict (Array.mk [⟨PyData.keyHash P z21, (.str z21 704), (.str z113 579)⟩, ⟨PyData.keyHash P z23, (.str z23 708), (.int 221 707)⟩, ⟨PyData.keyHash P z24, (.str z24 719), (.ref 389)⟩, ⟨PyData.keyHash P z169, (.str z169 728), (.ref 396)⟩, ⟨PyData.keyHash P z170, (.str z170 737), (.ref 403)⟩, ⟨PyData.keyHash P z171, (.str z171 747), (.ref 410)⟩, ⟨PyData.keyHash P z172, (.str z172 759), (.ref 417)⟩, ⟨PyData.keyHash P z173, (.str z173 767), (.ref 424)⟩, ⟨PyData.keyHash P z174, (.str z174 776), (.ref 431)⟩, ⟨PyData.keyHash P z175, (.str z175 783), (.ref 438)⟩, ⟨PyData.keyHash P z176, (.str z176 790), (.ref 445)⟩, ⟨PyData.keyHash P z177, (.str z177 797), (.ref 452)⟩, ⟨PyData.keyHash P z178, (.str z178 805), (.ref 459)⟩, ⟨PyData.keyHash P z179, (.str z179 813), (.ref 466)⟩, ⟨PyData.keyHash P z180, (.str z180 821), (.ref 473)⟩, ⟨PyData.keyHash P z181, (.str z181 827), (.ref 478)⟩, ⟨PyData.keyHash P z182, (.str z182 833), (.ref 483)⟩, ⟨PyData.keyHash P z35, (.str z35 841), (.ref 484)⟩, ⟨PyData.keyHash P z59, (.str z59 843), (.ref 487)⟩, ⟨PyData.keyHash P z60, (.str z60 845), (.ref 488)⟩, ⟨PyData.keyHash P z5, (.str z5 846), .none⟩]) 4), (Array.mk [])⟩
noncomputable def x486 (p : Program) (P : Params) : Obj := ⟨(.type "type"), none, (.cls ⟨z168, [(.type "object")], [(.ref 486), (.type "object")], 485, z168, true, [], [], false, none, false⟩), (Array.mk [none, none, (some (.str z168 697)), (some (.str z168 705)), (some (.builtin "object.__new__")), (some (.bool true))])⟩
noncomputable def x487 (p : Program) (P : Params) : Obj := ⟨(.type "getset_descriptor"), none, (.fields (Array.mk [(.str z59 842), (.ref 486), (.builtin "function.__dict__"), (.builtin "function.__dict__#set")])), (Array.mk [])⟩
noncomputable def x488 (p : Program) (P : Params) : Obj := ⟨(.type "getset_descriptor"), none, (.fields (Array.mk [(.str z60 844), (.ref 486), (.builtin "ExceptionGroup.__weakref__"), .none])), (Array.mk [])⟩
noncomputable def x489 (p : Program) (P : Params) : Obj := ⟨(.type "super"), none, (.fields (Array.mk [(.ref 486), (.ref 486), (.ref 486)])), (Array.mk [])⟩
noncomputable def x490 (p : Program) (P : Params) : Obj := ⟨(.type "builtin_function_or_method"), none, (.fields (Array.mk [(.builtin "object.__init_subclass__"), (.ref 486)])), (Array.mk [])⟩
noncomputable def x491 (p : Program) (P : Params) : Obj := ⟨(.type "dict"), none, (.dict (Array.mk [⟨PyData.keyHash P z3, (.str z3 165), (.str z208 909)⟩, ⟨PyData.keyHash P z5, (.str z5 166), .none⟩, ⟨PyData.keyHash P z6, (.str z6 167), .none⟩, ⟨PyData.keyHash P z7, (.str z7 168), (.builtin "__main__.__loader__#\x6fpaque")⟩, ⟨PyData.keyHash P z8, (.str z8 169), .none⟩, ⟨PyData.keyHash P z9, (.str z9 170), (.ref 6)⟩, ⟨PyData.keyHash P z10, (.str z10 171), (.ref 4)⟩, ⟨PyData.keyHash P z11, (.str z11 173), (.str z1 172)⟩, ⟨PyData.keyHash P z12, (.str z12 174), .none⟩, ⟨PyData.keyHash P z13, (.str z13 193), (.ref 21)⟩, ⟨PyData.keyHash P z14, (.str z14 197), (.int 10 196)⟩, ⟨PyData.keyHash P z15, (.str z15 199), (.int 14720 198)⟩, ⟨PyData.keyHash P z16, (.str z16 201), (.int 2 200)⟩, ⟨PyData.keyHash P z17, (.str z17 208), (.ref 28)⟩, ⟨PyData.keyHash P z18, (.str z18 327), (.ref 115)⟩, ⟨PyData.keyHash P z62, (.str z62 333), (.ref 120)⟩, ⟨PyData.keyHash P z63, (.str z63 342), (.ref 127)⟩, ⟨PyData.keyHash P z64, (.str z64 352), (.ref 134)⟩, ⟨PyData.keyHash P z65, (.str z65 367), (.ref 141)⟩, ⟨PyData.keyHash P z66, (.str z66 373), (.ref 146)⟩, ⟨PyData.keyHash P z67, (.str z67 387), (.ref 153)⟩, ⟨PyData.keyHash P z68, (.str z68 397), (.ref 160)⟩, ⟨PyData.keyHash P z69, (.str z69 401), (.int 333000 400)⟩, ⟨PyData.keyHash P z70, (.str z70 403), (.int 1000 402)⟩, ⟨PyData.keyHash P z71, (.str z71 412), (.ref 167)⟩, ⟨PyData.keyHash P z72, (.str z72 487), (.ref 220)⟩, ⟨PyData.keyHash P z114, (.str z114 498), (.ref 231)⟩, ⟨PyData.keyHash P z115, (.str z115 507), (.ref 238)⟩, ⟨PyData.keyHash P z84, (.str z84 517), (.ref 245)⟩, ⟨PyData.keyHash P z87, (.str z87 524), (.ref 252)⟩, ⟨PyData.keyHash P z116, (.str z116 532), (.ref 259)⟩, ⟨PyData.keyHash P z117, (.str z117 538), (.ref 264)⟩, ⟨PyData.keyHash P z118, (.str z118 547), (.ref 271)⟩, ⟨PyData.keyHash P z119, (.str z119 578), (.ref 288)⟩, ⟨PyData.keyHash P z120, (.str z120 582), (.int 3 581)⟩, ⟨PyData.keyHash P z121, (.str z121 584), (.str z122 583)⟩, ⟨PyData.keyHash P z123, (.str z123 586), (.str z124 585)⟩, ⟨PyData.keyHash P z125, (.str z125 588), (.str z126 587)⟩, ⟨PyData.keyHash P z127, (.str z127 590), (.str z128 589)⟩, ⟨PyData.keyHash P z140, (.str z140 696), (.ref 371)⟩, ⟨PyData.keyHash P z168, (.str z168 848), (.ref 486)⟩, ⟨PyData.keyHash P z209, (.str z209 854), (.ref 491)⟩, ⟨PyData.keyHash P z210, (.str z210 861), (.ref 498)⟩, ⟨PyData.keyHash P z211, (.str z211 868), (.ref 505)⟩, ⟨PyData.keyHash P z212, (.str z212 874), (.ref 510)⟩, ⟨PyData.keyHash P z213, (.str z213 880), (.ref 515)⟩, ⟨PyData.keyHash P z214, (.str z214 890), (.ref 522)⟩, ⟨PyData.keyHash P z215, (.str z215 902), (.ref 529)⟩, ⟨PyData.keyHash P z216, (.str z216 908), (.ref 534)⟩, ⟨PyData.keyHash P z217, (.str z217 912), (.int 64 911)⟩, ⟨PyData.keyHash P z218, (.str z218 914), (.int 2 913)⟩, ⟨PyData.keyHash P z219, (.str z219 918), (.ref 535)⟩, ⟨PyData.keyHash P z220, (.str z220 955), (.ref 552)⟩]) 53), (Array.mk [])⟩
noncomputable def x492 (p : Program) (P : Params) : Obj := ⟨.none, none, (.fields (Array.mk [(.int 1 0), (.int 0 0), (.ref 20), (.int 8 0), (.int 0 0), (.ref 27), (.int 10 0), (.int 0 0), (.ref 34), (.int 51 0), (.int 0 0), (.ref 126), (.int 53 0), (.int 0 0), (.ref 133), (.int 60 0), (.int 0 0), (.ref 140), (.int 69 0), (.int 0 0), (.ref 145), (.int 71 0), (.int 0 0), (.ref 152), (.int 77 0), (.int 0 0), (.ref 159), (.int 87 0), (.int 0 0), (.ref 166), (.int 89 0), (.int 0 0), (.ref 173), (.int 127 0), (.int 0 0), (.ref 230), (.int 131 0), (.int 0 0), (.ref 237), (.int 136 0), (.int 0 0), (.ref 244), (.int 142 0), (.int 0 0), (.ref 251), (.int 144 0), (.int 0 0), (.ref 258), (.int 148 0), (.int 0 0), (.ref 263), (.int 155 0), (.int 0 0), (.ref 270), (.int 162 0), (.int 0 0), (.ref 277), (.int 173 0), (.int 0 0), (.ref 297), (.int 221 0), (.int 0 0), (.ref 381), (.int 308 0), (.int 0 0), (.ref 497), (.int 310 0), (.int 0 0), (.ref 504), (.int 312 0), (.int 0 0), (.ref 509), (.int 314 0), (.int 0 0), (.ref 514), (.int 317 0), (.int 0 0), (.ref 521), (.int 319 0), (.int 0 0), (.ref 528), (.int 332 0), (.int 0 0), (.ref 533), (.int 338 0), (.int 0 0), (.ref 541)])), (Array.mk [])⟩
noncomputable def x493 (p : Program) (P : Params) : Obj := ⟨(.type "tuple"), none, (.seq (Array.mk [(.str z221 851), (.str z222 852), (.str z223 853)]) 0), (Array.mk [])⟩
noncomputable def x494 (p : Program) (P : Params) : Obj := ⟨(.type "tuple"), none, (.seq (Array.mk []) 0), (Array.mk [])⟩
noncomputable def x495 (p : Program) (P : Params) : Obj := ⟨.none, none, (.fields (Array.mk [])), (Array.mk [])⟩
noncomputable def x496 (p : Program) (P : Params) : Obj := ⟨(.type "tuple"), none, (.seq (Array.mk [(.str z224 858)]) 0), (Array.mk [])⟩
noncomputable def x497 (p : Program) (P : Params) : Obj := ⟨(.type "tuple"), none, (.seq (Array.mk []) 0), (Array.mk [])⟩
noncomputable def x498 (p : Program) (P : Params) : Obj := ⟨.none, none, (.func ⟨z210, z210, (dF p 40).1, .stmts (dF p 40).2.1, (dF p 40).2.2, 0, [], .none, .none, .none, .none, none, .none, .none, 0⟩), (Array.mk [])⟩
noncomputable def x499 (p : Program) (P : Params) : Obj := ⟨(.type "code"), none, (.fields (Array.mk [(.str z210 855), (.str z210 856), (.str z1 857), (.int 308 0), (.int 1 0), (.int 0 0), (.int 0 0), (.int 3 0), (.ref 492), (.bool true), (.int 181 0), (.ref 493), .none, (.ref 494), (.ref 495), (.ref 496), (.int 859 0), (.int 308 0), (.str z1 860)])), (Array.mk [])⟩
noncomputable def x500 (p : Program) (P : Params) : Obj := ⟨(.type "function"), none, (.func ⟨z210, z210, (dF p 40).1, .stmts (dF p 40).2.1, (dF p 40).2.2, 3, [], .none, .none, .none, (.str z225 849), none, (.ref 497), .none, 0⟩), (Array.mk [])⟩
noncomputable def x501 (p : Program) (P : Params) : Obj := ⟨(.type "tuple"), none, (.seq (Array.mk []) 0), (Array.mk [])⟩
noncomputable def x502 (p : Program) (P : Params) : Obj := ⟨.none, none, (.fields (Array.mk [])), (Array.mk [])⟩
noncomputable def x503 (p : Program) (P : Params) : Obj := ⟨(.type "tuple"), none, (.seq (Array.mk [(.str z224 865)]) 0), (Array.mk [])⟩
noncomputable def x504 (p : Program) (P : Params) : Obj := ⟨(.type "tuple"), none, (.seq (Array.mk []) 0), (Array.mk [])⟩
noncomputable def x505 (p : Program) (P : Params) : Obj := ⟨.none, none, (.func ⟨z211, z211, (dF p 41).1, .stmts (dF p 41).2.1, (dF p 41).2.2, 0, [], .none, .none, .none, .none, none, .none, .none, 0⟩), (Array.mk [])⟩
noncomputable def x506 (p : Program) (P : Params) : Obj := ⟨(.type "code"), none, (.fields (Array.mk [(.str z211 862), (.str z211 863), (.str z1 864), (.int 310 0), (.int 1 0), (.int 0 0), (.int 0 0), (.int 3 0), (.ref 499), (.bool true), (.int 181 0), (.ref 500), .none, (.ref 501), (.ref 502), (.ref 503), (.int 866 0), (.int 310 0), (.str z1 867)])), (Array.mk [])⟩
noncomputable def x507 (p : Program) (P : Params) : Obj := ⟨(.type "function"), none, (.func ⟨z211, z211, (dF p 41).1, .stmts (dF p 41).2.1, (dF p 41).2.2, 3, [], .none, .none, .none, (.str z225 849), none, (.ref 504), .none, 0⟩), (Array.mk [])⟩
noncomputable def x508 (p : Program) (P : Params) : Obj := ⟨(.type "tuple"), none, (.seq (Array.mk []) 0), (Array.mk [])⟩
noncomputable def x509 (p : Program) (P : Params) : Obj := ⟨.none, none, (.fields (Array.mk [])), (Array.mk [])⟩
noncomputable def x510 (p : Program) (P : Params) : Obj := ⟨.none, none, (.func ⟨z212, z212, (dF p 42).1, .stmts (dF p 42).2.1, (dF p 42).2.2, 0, [], .none, .none, .none, .none, none, .none, .none, 0⟩), (Array.mk [])⟩
noncomputable def x511 (p : Program) (P : Params) : Obj := ⟨(.type "code"), none, (.fields (Array.mk [(.str z212 869), (.str z212 870), (.str z1 871), (.int 312 0), (.int 1 0), (.int 0 0), (.int 0 0), (.int 3 0), (.ref 506), (.bool true), (.int 181 0), (.ref 507), .none, .none, .none, (.ref 508), (.int 872 0), (.int 312 0), (.str z1 873)])), (Array.mk [])⟩
noncomputable def x512 (p : Program) (P : Params) : Obj := ⟨(.type "function"), none, (.func ⟨z212, z212, (dF p 42).1, .stmts (dF p 42).2.1, (dF p 42).2.2, 3, [], .none, .none, .none, (.str z225 849), none, (.ref 509), .none, 0⟩), (Array.mk [])⟩
noncomputable def x513 (p : Program) (P : Params) : Obj := ⟨(.type "tuple"), none, (.seq (Array.mk []) 0), (Array.mk [])⟩
noncomputable def x514 (p : Program) (P : Params) : Obj := ⟨.none, none, (.fields (Array.mk [])), (Array.mk [])⟩
noncomputable def x515 (p : Program) (P : Params) : Obj := ⟨.none, none, (.func ⟨z213, z213, (dF p 43).1, .stmts (dF p 43).2.1, (dF p 43).2.2, 0, [], .none, .none, .none, .none, none, .none, .none, 0⟩), (Array.mk [])⟩
noncomputable def x516 (p : Program) (P : Params) : Obj := ⟨(.type "code"), none, (.fields (Array.mk [(.str z213 875), (.str z213 876), (.str z1 877), (.int 314 0), (.int 1 0), (.int 0 0), (.int 0 0), (.int 3 0), (.ref 511), (.bool true), (.int 181 0), (.ref 512), .none, .none, .none, (.ref 513), (.int 878 0), (.int 314 0), (.str z1 879)])), (Array.mk [])⟩
noncomputable def x517 (p : Program) (P : Params) : Obj := ⟨(.type "function"), none, (.func ⟨z213, z213, (dF p 43).1, .stmts (dF p 43).2.1, (dF p 43).2.2, 3, [], .none, .none, .none, (.str z225 849), none, (.ref 514), .none, 0⟩), (Array.mk [])⟩
noncomputable def x518 (p : Program) (P : Params) : Obj := ⟨(.type "tuple"), none, (.seq (Array.mk []) 0), (Array.mk [])⟩
noncomputable def x519 (p : Program) (P : Params) : Obj := ⟨.none, none, (.fields (Array.mk [])), (Array.mk [])⟩
noncomputable def x520 (p : Program) (P : Params) : Obj := ⟨(.type "tuple"), none, (.seq (Array.mk [(.str z226 886), (.str z227 887)]) 0), (Array.mk [])⟩
noncomputable def x521 (p : Program) (P : Params) : Obj := ⟨(.type "tuple"), none, (.seq (Array.mk []) 0), (Array.mk [])⟩
noncomputable def x522 (p : Program) (P : Params) : Obj := ⟨.none, none, (.func ⟨z214, z214, (dF p 45).1, .stmts (dF p 45).2.1, (dF p 45).2.2, 0, [], .none, .none, .none, .none, none, .none, .none, 0⟩), (Array.mk [])⟩
noncomputable def x523 (p : Program) (P : Params) : Obj := ⟨(.type "code"), none, (.fields (Array.mk [(.str z214 883), (.str z214 884), (.str z1 885), (.int 317 0), (.int 2 0), (.int 0 0), (.int 0 0), (.int 3 0), (.ref 516), (.bool true), (.int 181 0), (.ref 517), .none, (.ref 518), (.ref 519), (.ref 520), (.int 888 0), (.int 317 0), (.str z1 889)])), (Array.mk [])⟩
noncomputable def x524 (p : Program) (P : Params) : Obj := ⟨(.type "function"), none, (.func ⟨z214, z214, (dF p 45).1, .stmts (dF p 45).2.1, (dF p 45).2.2, 3, [], .none, .none, .none, (.str z228 881), none, (.ref 521), .none, 0⟩), (Array.mk [])⟩
noncomputable def x525 (p : Program) (P : Params) : Obj := ⟨(.type "tuple"), none, (.seq (Array.mk []) 0), (Array.mk [])⟩
noncomputable def x526 (p : Program) (P : Params) : Obj := ⟨.none, none, (.fields (Array.mk [])), (Array.mk [])⟩
noncomputable def x527 (p : Program) (P : Params) : Obj := ⟨(.type "tuple"), none, (.seq (Array.mk [(.str z226 894), (.str z229 895), (.str z230 896), (.str z81 897), (.str z231 898), (.str z232 899)]) 0), (Array.mk [])⟩
noncomputable def x528 (p : Program) (P : Params) : Obj := ⟨(.type "tuple"), none, (.seq (Array.mk []) 0), (Array.mk [])⟩
noncomputable def x529 (p : Program) (P : Params) : Obj := ⟨.none, none, (.func ⟨z215, z215, (dF p 46).1, .stmts (dF p 46).2.1, (dF p 46).2.2, 0, [], .none, .none, .none, .none, none, .none, .none, 0⟩), (Array.mk [])⟩
noncomputable def x530 (p : Program) (P : Params) : Obj := ⟨(.type "code"), none, (.fields (Array.mk [(.str z215 891), (.str z215 892), (.str z1 893), (.int 319 0), (.int 3 0), (.int 0 0), (.int 0 0), (.int 3 0), (.ref 523), (.bool true), (.int 181 0), (.ref 524), .none, (.ref 525), (.ref 526), (.ref 527), (.int 900 0), (.int 319 0), (.str z1 901)])), (Array.mk [])⟩
noncomputable def x531 (p : Program) (P : Params) : Obj := ⟨(.type "function"), none, (.func ⟨z215, z215, (dF p 46).1, .stmts (dF p 46).2.1, (dF p 46).2.2, 3, [], .none, .none, .none, (.str z228 881), none, (.ref 528), .none, 0⟩), (Array.mk [])⟩
noncomputable def x532 (p : Program) (P : Params) : Obj := ⟨(.type "tuple"), none, (.seq (Array.mk []) 0), (Array.mk [])⟩
noncomputable def x533 (p : Program) (P : Params) : Obj := ⟨.none, none, (.fields (Array.mk [])), (Array.mk [])⟩
noncomputable def x534 (p : Program) (P : Params) : Obj := ⟨.none, none, (.func ⟨z216, z216, (dF p 47).1, .stmts (dF p 47).2.1, (dF p 47).2.2, 0, [], .none, .none, .none, .none, none, .none, .none, 0⟩), (Array.mk [])⟩
noncomputable def x535 (p : Program) (P : Params) : Obj := ⟨(.type "code"), none, (.fields (Array.mk [(.str z216 903), (.str z216 904), (.str z1 905), (.int 332 0), (.int 2 0), (.int 0 0), (.int 0 0), (.int 3 0), (.ref 530), (.bool true), (.int 181 0), (.ref 531), .none, .none, .none, (.ref 532), (.int 906 0), (.int 332 0), (.str z1 907)])), (Array.mk [])⟩
noncomputable def x536 (p : Program) (P : Params) : Obj := ⟨(.type "function"), none, (.func ⟨z216, z216, (dF p 47).1, .stmts (dF p 47).2.1, (dF p 47).2.2, 3, [], .none, .none, .none, (.str z228 881), none, (.ref 533), .none, 0⟩), (Array.mk [])⟩
noncomputable def x537 (p : Program) (P : Params) : Obj := ⟨(.type "tuple"), none, (.seq (Array.mk [.none, (.int 1 915), (.int 0 916), (.int 2 917)]) 0), (Array.mk [])⟩
noncomputable def x538 (p : Program) (P : Params) : Obj := ⟨(.type "tuple"), none, (.seq (Array.mk []) 0), (Array.mk [])⟩
noncomputable def x539 (p : Program) (P : Params) : Obj := ⟨(.type "builtin_function_or_method"), none, (.fields (Array.mk [(.builtin "type.__prepare__"), (.type "type")])), (Array.mk [])⟩
noncomputable def x540 (p : Program) (P : Params) : Obj := ⟨(.type "dict"), none, (.dict (Array.mk [⟨PyData.keyHash P z21, (.str z21 926), (.str z208 909)⟩, ⟨PyData.keyHash P z22, (.str z22 928), (.str z220 927)⟩, ⟨PyData.keyHash P z23, (.str z23 930), (.int 338 929)⟩, ⟨PyData.keyHash P z24, (.str z24 941), (.ref 549)⟩, ⟨PyData.keyHash P z35, (.str z35 948), (.ref 550)⟩]) 5), (Array.mk [])⟩
noncomputable def x541 (p : Program) (P : Params) : Obj := ⟨(.type "tuple"), none, (.seq (Array.mk []) 0), (Array.mk [])⟩
noncomputable def x542 (p : Program) (P : Params) : Obj := ⟨.none, none, (.fields (Array.mk [(.int 340 0), (.int 4 0), (.ref 548)])), (Array.mk [])⟩
noncomputable def x543 (p : Program) (P : Params) : Obj := ⟨(.type "code"), none, (.fields (Array.mk [(.str z220 921), (.str z220 922), (.str z1 923), (.int 338 0), (.int 0 0), (.int 0 0), (.int 0 0), (.int 0 0), (.ref 539), (.bool false), (.int 181 0), (.ref 540), .none, .none, .none, .none, (.int 924 0), (.int 338 0), (.str z1 925)])), (Array.mk [])⟩
noncomputable def x544 (p : Program) (P : Params) : Obj := ⟨(.type "frame"), none, .plain, (Array.mk [(some (.ref 541)), (some (.ref 3)), (some (.ref 538)), none, (some (.str z208 909)), none, (some (.ref 0))])⟩
noncomputable def x545 (p : Program) (P : Params) : Obj := ⟨(.type "tuple"), none, (.seq (Array.mk []) 0), (Array.mk [])⟩
noncomputable def x546 (p : Program) (P : Params) : Obj := ⟨.none, none, (.fields (Array.mk [])), (Array.mk [])⟩
noncomputable def x547 (p : Program) (P : Params) : Obj := ⟨(.type "tuple"), none, (.seq (Array.mk [(.str z36 934), (.str z190 935), (.str z233 936), (.str z38 937), (.str z234 938)]) 0), (Array.mk [])⟩
noncomputable def x548 (p : Program) (P : Params) : Obj := ⟨(.type "tuple"), none, (.seq (Array.mk []) 0), (Array.mk [])⟩
noncomputable def x549 (p : Program) (P : Params) : Obj := ⟨.none, none, (.func ⟨z24, z235, (dM p 52 0).1, .stmts (dM p 52 0).2.1, (dM p 52 0).2.2, 0, [], .none, .none, .none, .none, none, .none, .none, 0⟩), (Array.mk [])⟩
noncomputable def x550 (p : Program) (P : Params) : Obj := ⟨(.type "code"), none, (.fields (Array.mk [(.str z24 931), (.str z235 932), (.str z1 933), (.int 340 0), (.int 5 0), (.int 0 0), (.int 0 0), (.int 3 0), (.ref 543), (.bool true), (.int 181 0), (.ref 544), .none, (.ref 545), (.ref 546), (.ref 547), (.int 939 0), (.int 340 0), (.str z1 940)])), (Array.mk [])⟩
noncomputable def x551 (p : Program) (P : Params) : Obj := ⟨(.type "function"), none, (.func ⟨z24, z235, (dM p 52 0).1, .stmts (dM p 52 0).2.1, (dM p 52 0).2.2, 3, [], .none, .none, .none, (.str z208 909), none, (.ref 548), .none, 0⟩), (Array.mk [])⟩
noncomputable def x552 (p : Program) (P : Params) : Obj := ⟨(.type "tuple"), none, (.seq (Array.mk [(.str z234 942), (.str z55 943), (.str z210 944), (.str z190 945), (.str z38 946), (.str z233 947)]) 0), (Array.mk [])⟩
noncomputable def x553 (p : Program) (P : Params) : Obj := ⟨(.type "dict"), none, (.dict (Array.mk [⟨PyData.keyHash P z21, (.str z21 926), (.str z208 909)⟩, ⟨PyData.keyHash P z23, (.str z23 930), (.int 338 929)⟩, ⟨PyData.keyHash P z24, (.str z24 941), (.ref 549)⟩, ⟨PyData.keyHash P z35, (.str z35 948), (.ref 550)⟩, ⟨PyData.keyHash P z59, (.str z59 950), (.ref 553)⟩, ⟨PyData.keyHash P z60, (.str z60 952), (.ref 554)⟩, ⟨PyData.keyHash P z5, (.str z5 953), .none⟩]) 4), (Array.mk [])⟩
noncomputable def x554 (p : Program) (P : Params) : Obj := ⟨(.type "type"), none, (.cls ⟨z220, [(.type "object")], [(.ref 552), (.type "object")], 551, z220, true, [], [], false, none, false⟩), (Array.mk [none, none, (some (.str z220 919)), (some (.str z220 927)), (some (.builtin "object.__new__")), (some (.bool true))])⟩
noncomputable def x555 (p : Program) (P : Params) : Obj := ⟨(.type "getset_descriptor"), none, (.fields (Array.mk [(.str z59 949), (.ref 552), (.builtin "function.__dict__"), (.builtin "function.__dict__#set")])), (Array.mk [])⟩
noncomputable def x556 (p : Program) (P : Params) : Obj := ⟨(.type "getset_descriptor"), none, (.fields (Array.mk [(.str z60 951), (.ref 552), (.builtin "ExceptionGroup.__weakref__"), .none])), (Array.mk [])⟩
noncomputable def x557 (p : Program) (P : Params) : Obj := ⟨(.type "super"), none, (.fields (Array.mk [(.ref 552), (.ref 552), (.ref 552)])), (Array.mk [])⟩
noncomputable def x558 (p : Program) (P : Params) : Obj := ⟨(.type "builtin_function_or_method"), none, (.fields (Array.mk [(.builtin "object.__init_subclass__"), (.ref 552)])), (Array.mk [])⟩
noncomputable def x559 (p : Program) (P : Params) : Obj := ⟨(.type "dict"), none, (.dict (Array.mk [⟨PyData.keyHash P z3, (.str z3 165), (.str z236 1151)⟩, ⟨PyData.keyHash P z5, (.str z5 166), .none⟩, ⟨PyData.keyHash P z6, (.str z6 167), .none⟩, ⟨PyData.keyHash P z7, (.str z7 168), (.builtin "__main__.__loader__#\x6fpaque")⟩, ⟨PyData.keyHash P z8, (.str z8 169), .none⟩, ⟨PyData.keyHash P z9, (.str z9 170), (.ref 6)⟩, ⟨PyData.keyHash P z10, (.str z10 171), (.ref 4)⟩, ⟨PyData.keyHash P z11, (.str z11 173), (.str z1 172)⟩, ⟨PyData.keyHash P z12, (.str z12 174), .none⟩, ⟨PyData.keyHash P z13, (.str z13 193), (.ref 21)⟩, ⟨PyData.keyHash P z14, (.str z14 197), (.int 10 196)⟩, ⟨PyData.keyHash P z15, (.str z15 199), (.int 14720 198)⟩, ⟨PyData.keyHash P z16, (.str z16 201), (.int 2 200)⟩, ⟨PyData.keyHash P z17, (.str z17 208), (.ref 28)⟩, ⟨PyData.keyHash P z18, (.str z18 327), (.ref 115)⟩, ⟨PyData.keyHash P z62, (.str z62 333), (.ref 120)⟩, ⟨PyData.keyHash P z63, (.str z63 342), (.ref 127)⟩, ⟨PyData.keyHash P z64, (.str z64 352), (.ref 134)⟩, ⟨PyData.keyHash P z65, (.str z65 367), (.ref 141)⟩, ⟨PyData.keyHash P z66, (.str z66 373), (.ref 146)⟩, ⟨PyData.keyHash P z67, (.str z67 387), (.ref 153)⟩, ⟨PyData.keyHash P z68, (.str z68 397), (.ref 160)⟩, ⟨PyData.keyHash P z69, (.str z69 401), (.int 333000 400)⟩, ⟨PyData.keyHash P z70, (.str z70 403), (.int 1000 402)⟩, ⟨PyData.keyHash P z71, (.str z71 412), (.ref 167)⟩, ⟨PyData.keyHash P z72, (.str z72 487), (.ref 220)⟩, ⟨PyData.keyHash P z114, (.str z114 498), (.ref 231)⟩, ⟨PyData.keyHash P z115, (.str z115 507), (.ref 238)⟩, ⟨PyData.keyHash P z84, (.str z84 517), (.ref 245)⟩, ⟨PyData.keyHash P z87, (.str z87 524), (.ref 252)⟩, ⟨PyData.keyHash P z116, (.str z116 532), (.ref 259)⟩, ⟨PyData.keyHash P z117, (.str z117 538), (.ref 264)⟩, ⟨PyData.keyHash P z118, (.str z118 547), (.ref 271)⟩, ⟨PyData.keyHash P z119, (.str z119 578), (.ref 288)⟩, ⟨PyData.keyHash P z120, (.str z120 582), (.int 3 581)⟩, ⟨PyData.keyHash P z121, (.str z121 584), (.str z122 583)⟩, ⟨PyData.keyHash P z123, (.str z123 586), (.str z124 585)⟩, ⟨PyData.keyHash P z125, (.str z125 588), (.str z126 587)⟩, ⟨PyData.keyHash P z127, (.str z127 590), (.str z128 589)⟩, ⟨PyData.keyHash P z140, (.str z140 696), (.ref 371)⟩, ⟨PyData.keyHash P z168, (.str z168 848), (.ref 486)⟩, ⟨PyData.keyHash P z209, (.str z209 854), (.ref 491)⟩, ⟨PyData.keyHash P z210, (.str z210 861), (.ref 498)⟩, ⟨PyData.keyHash P z211, (.str z211 868), (.ref 505)⟩, ⟨PyData.keyHash P z212, (.str z212 874), (.ref 510)⟩, ⟨PyData.keyHash P z213, (.str z213 880), (.ref 515)⟩, ⟨PyData.keyHash P z214, (.str z214 890), (.ref 522)⟩, ⟨PyData.keyHash P z215, (.str z215 902), (.ref 529)⟩, ⟨PyData.keyHash P z216, (.str z216 908), (.ref 534)⟩, ⟨PyData.keyHash P z217, (.str z217 912), (.int 64 911)⟩, ⟨PyData.keyHash P z218, (.str z218 914), (.int 2 913)⟩, ⟨PyData.keyHash P z219, (.str z219 918), (.ref 535)⟩, ⟨PyData.keyHash P z220, (.str z220 955), (.ref 552)⟩, ⟨PyData.keyHash P z237, (.str z237 1143), (.ref 695)⟩, ⟨PyData.keyHash P z238, (.str z238 1150), (.ref 706)⟩, ⟨PyData.keyHash P z239, (.str z239 1160), (.ref 713)⟩, ⟨PyData.keyHash P z240, (.str z240 1166), (.ref 718)⟩, ⟨PyData.keyHash P z241, (.str z241 1186), (.ref 725)⟩]) 58), (Array.mk [])⟩
noncomputable def x560 (p : Program) (P : Params) : Obj := ⟨.none, none, (.fields (Array.mk [(.int 1 0), (.int 0 0), (.ref 20), (.int 8 0), (.int 0 0), (.ref 27), (.int 10 0), (.int 0 0), (.ref 34), (.int 51 0), (.int 0 0), (.ref 126), (.int 53 0), (.int 0 0), (.ref 133), (.int 60 0), (.int 0 0), (.ref 140), (.int 69 0), (.int 0 0), (.ref 145), (.int 71 0), (.int 0 0), (.ref 152), (.int 77 0), (.int 0 0), (.ref 159), (.int 87 0), (.int 0 0), (.ref 166), (.int 89 0), (.int 0 0), (.ref 173), (.int 127 0), (.int 0 0), (.ref 230), (.int 131 0), (.int 0 0), (.ref 237), (.int 136 0), (.int 0 0), (.ref 244), (.int 142 0), (.int 0 0), (.ref 251), (.int 144 0), (.int 0 0), (.ref 258), (.int 148 0), (.int 0 0), (.ref 263), (.int 155 0), (.int 0 0), (.ref 270), (.int 162 0), (.int 0 0), (.ref 277), (.int 173 0), (.int 0 0), (.ref 297), (.int 221 0), (.int 0 0), (.ref 381), (.int 308 0), (.int 0 0), (.ref 497), (.int 310 0), (.int 0 0), (.ref 504), (.int 312 0), (.int 0 0), (.ref 509), (.int 314 0), (.int 0 0), (.ref 514), (.int 317 0), (.int 0 0), (.ref 521), (.int 319 0), (.int 0 0), (.ref 528), (.int 332 0), (.int 0 0), (.ref 533), (.int 338 0), (.int 0 0), (.ref 541), (.int 347 0), (.int 0 0), (.ref 562), (.int 441 0), (.int 0 0), (.ref 705), (.int 446 0), (.int 0 0), (.ref 712), (.int 451 0), (.int 0 0), (.ref 717), (.int 461 0), (.int 0 0), (.ref 724)])), (Array.mk [])⟩
noncomputable def x561 (p : Program) (P : Params) : Obj := ⟨(.type "tuple"), none, (.seq (Array.mk []) 0), (Array.mk [])⟩
noncomputable def x562 (p : Program) (P : Params) : Obj := ⟨(.type "builtin_function_or_method"), none, (.fields (Array.mk [(.builtin "type.__prepare__"), (.type "type")])), (Array.mk [])⟩
noncomputable def x563 (p : Program) (P : Params) : Obj := ⟨(.type "dict"), none, (.dict (Array.mk [⟨PyData.keyHash P z21, (.str z21 963), (.str z208 909)⟩, ⟨PyData.keyHash P z22, (.str z22 965), (.str z237 964)⟩, ⟨PyData.keyHash P z23, (.str z23 967), (.int 347 966)⟩, ⟨PyData.keyHash P z24, (.str z24 975), (.ref 570)⟩, ⟨PyData.keyHash P z242, (.str z242 983), (.ref 577)⟩, ⟨PyData.keyHash P z143, (.str z143 996), (.ref 584)⟩, ⟨PyData.keyHash P z243, (.str z243 1005), (.ref 591)⟩, ⟨PyData.keyHash P z244, (.str z244 1012), (.ref 598)⟩, ⟨PyData.keyHash P z245, (.str z245 1019), (.ref 605)⟩, ⟨PyData.keyHash P z246, (.str z246 1026), (.ref 612)⟩, ⟨PyData.keyHash P z28, (.str z28 1038), (.ref 619)⟩, ⟨PyData.keyHash P z247, (.str z247 1044), (.ref 624)⟩, ⟨PyData.keyHash P z248, (.str z248 1052), (.ref 631)⟩, ⟨PyData.keyHash P z249, (.str z249 1060), (.ref 638)⟩, ⟨PyData.keyHash P z250, (.str z250 1068), (.ref 645)⟩, ⟨PyData.keyHash P z251, (.str z251 1076), (.ref 652)⟩, ⟨PyData.keyHash P z252, (.str z252 1084), (.ref 659)⟩, ⟨PyData.keyHash P z253, (.str z253 1090), (.ref 664)⟩, ⟨PyData.keyHash P z254, (.str z254 1097), (.ref 671)⟩, ⟨PyData.keyHash P z255, (.str z255 1104), (.ref 678)⟩, ⟨PyData.keyHash P z256, (.str z256 1111), (.ref 685)⟩, ⟨PyData.keyHash P z257, (.str z257 1118), (.ref 692)⟩, ⟨PyData.keyHash P z35, (.str z35 1136), (.ref 693)⟩]) 23), (Array.mk [])⟩
noncomputable def x564 (p : Program) (P : Params) : Obj := ⟨(.type "tuple"), none, (.seq (Array.mk []) 0), (Array.mk [])⟩
noncomputable def x565 (p : Program) (P : Params) : Obj := ⟨.none, none, (.fields (Array.mk [(.int 349 0), (.int 4 0), (.ref 569), (.int 368 0), (.int 4 0), (.ref 576), (.int 371 0), (.int 4 0), (.ref 583), (.int 388 0), (.int 4 0), (.ref 590), (.int 391 0), (.int 4 0), (.ref 597), (.int 394 0), (.int 4 0), (.ref 604), (.int 397 0), (.int 4 0), (.ref 611), (.int 401 0), (.int 4 0), (.ref 618), (.int 408 0), (.int 4 0), (.ref 623), (.int 412 0), (.int 4 0), (.ref 630), (.int 415 0), (.int 4 0), (.ref 637), (.int 418 0), (.int 4 0), (.ref 644), (.int 421 0), (.int 4 0), (.ref 651), (.int 424 0), (.int 4 0), (.ref 658), (.int 427 0), (.int 4 0), (.ref 663), (.int 430 0), (.int 4 0), (.ref 670), (.int 433 0), (.int 4 0), (.ref 677), (.int 436 0), (.int 4 0), (.ref 684), (.int 439 0), (.int 4 0), (.ref 691)])), (Array.mk [])⟩
noncomputable def x566 (p : Program) (P : Params) : Obj := ⟨(.type "code"), none, (.fields (Array.mk [(.str z237 958), (.str z237 959), (.str z1 960), (.int 347 0), (.int 0 0), (.int 0 0), (.int 0 0), (.int 0 0), (.ref 560), (.bool false), (.int 181 0), (.ref 561), .none, .none, .none, .none, (.int 961 0), (.int 347 0), (.str z1 962)])), (Array.mk [])⟩
noncomputable def x567 (p : Program) (P : Params) : Obj := ⟨(.type "frame"), none, .plain, (Array.mk [(some (.ref 562)), (some (.ref 3)), (some (.ref 559)), none, (some (.str z208 909)), none, (some (.ref 0))])⟩
noncomputable def x568 (p : Program) (P : Params) : Obj := ⟨(.type "tuple"), none, (.seq (Array.mk []) 0), (Array.mk [])⟩
noncomputable def x569 (p : Program) (P : Params) : Obj := ⟨.none, none, (.fields (Array.mk [])), (Array.mk [])⟩
noncomputable def x570 (p : Program) (P : Params) : Obj := ⟨(.type "tuple"), none, (.seq (Array.mk [(.str z36 971), (.str z133 972)]) 0), (Array.mk [])⟩
noncomputable def x571 (p : Program) (P : Params) : Obj := ⟨(.type "tuple"), none, (.seq (Array.mk []) 0), (Array.mk [])⟩
noncomputable def x572 (p : Program) (P : Params) : Obj := ⟨.none, none, (.func ⟨z24, z258, (dM p 53 0).1, .stmts (dM p 53 0).2.1, (dM p 53 0).2.2, 0, [], .none, .none, .none, .none, none, .none, .none, 0⟩), (Array.mk [])⟩
noncomputable def x573 (p : Program) (P : Params) : Obj := ⟨(.type "code"), none, (.fields (Array.mk [(.str z24 968), (.str z258 969), (.str z1 970), (.int 349 0), (.int 2 0), (.int 0 0), (.int 0 0), (.int 3 0), (.ref 564), (.bool true), (.int 181 0), (.ref 565), .none, (.ref 566), (.ref 567), (.ref 568), (.int 973 0), (.int 349 0), (.str z1 974)])), (Array.mk [])⟩
noncomputable def x574 (p : Program) (P : Params) : Obj := ⟨(.type "function"), none, (.func ⟨z24, z258, (dM p 53 0).1, .stmts (dM p 53 0).2.1, (dM p 53 0).2.2, 3, [], .none, .none, .none, (.str z208 909), none, (.ref 569), .none, 0⟩), (Array.mk [])⟩
noncomputable def x575 (p : Program) (P : Params) : Obj := ⟨(.type "tuple"), none, (.seq (Array.mk []) 0), (Array.mk [])⟩
noncomputable def x576 (p : Program) (P : Params) : Obj := ⟨.none, none, (.fields (Array.mk [])), (Array.mk [])⟩
noncomputable def x577 (p : Program) (P : Params) : Obj := ⟨(.type "tuple"), none, (.seq (Array.mk [(.str z36 979), (.str z190 980)]) 0), (Array.mk [])⟩
noncomputable def x578 (p : Program) (P : Params) : Obj := ⟨(.type "tuple"), none, (.seq (Array.mk []) 0), (Array.mk [])⟩
noncomputable def x579 (p : Program) (P : Params) : Obj := ⟨.none, none, (.func ⟨z242, z259, (dM p 53 1).1, .stmts (dM p 53 1).2.1, (dM p 53 1).2.2, 0, [], .none, .none, .none, .none, none, .none, .none, 0⟩), (Array.mk [])⟩
noncomputable def x580 (p : Program) (P : Params) : Obj := ⟨(.type "code"), none, (.fields (Array.mk [(.str z242 976), (.str z259 977), (.str z1 978), (.int 368 0), (.int 2 0), (.int 0 0), (.int 0 0), (.int 3 0), (.ref 571), (.bool true), (.int 181 0), (.ref 572), .none, (.ref 573), (.ref 574), (.ref 575), (.int 981 0), (.int 368 0), (.str z1 982)])), (Array.mk [])⟩
noncomputable def x581 (p : Program) (P : Params) : Obj := ⟨(.type "function"), none, (.func ⟨z242, z259, (dM p 53 1).1, .stmts (dM p 53 1).2.1, (dM p 53 1).2.2, 3, [], .none, .none, .none, (.str z208 909), none, (.ref 576), .none, 0⟩), (Array.mk [])⟩
noncomputable def x582 (p : Program) (P : Params) : Obj := ⟨(.type "tuple"), none, (.seq (Array.mk []) 0), (Array.mk [])⟩
noncomputable def x583 (p : Program) (P : Params) : Obj := ⟨.none, none, (.fields (Array.mk [])), (Array.mk [])⟩
noncomputable def x584 (p : Program) (P : Params) : Obj := ⟨(.type "tuple"), none, (.seq (Array.mk [(.str z36 987), (.str z190 988), (.str z46 989), (.str z260 990), (.str z261 991), (.str z262 992), (.str z226 993)]) 0), (Array.mk [])⟩
noncomputable def x585 (p : Program) (P : Params) : Obj := ⟨(.type "tuple"), none, (.seq (Array.mk []) 0), (Array.mk [])⟩
noncomputable def x586 (p : Program) (P : Params) : Obj := ⟨.none, none, (.func ⟨z143, z263, (dM p 53 2).1, .stmts (dM p 53 2).2.1, (dM p 53 2).2.2, 0, [], .none, .none, .none, .none, none, .none, .none, 0⟩), (Array.mk [])⟩
noncomputable def x587 (p : Program) (P : Params) : Obj := ⟨(.type "code"), none, (.fields (Array.mk [(.str z143 984), (.str z263 985), (.str z1 986), (.int 371 0), (.int 5 0), (.int 0 0), (.int 0 0), (.int 3 0), (.ref 578), (.bool true), (.int 181 0), (.ref 579), .none, (.ref 580), (.ref 581), (.ref 582), (.int 994 0), (.int 371 0), (.str z1 995)])), (Array.mk [])⟩
noncomputable def x588 (p : Program) (P : Params) : Obj := ⟨(.type "function"), none, (.func ⟨z143, z263, (dM p 53 2).1, .stmts (dM p 53 2).2.1, (dM p 53 2).2.2, 3, [], .none, .none, .none, (.str z208 909), none, (.ref 583), .none, 0⟩), (Array.mk [])⟩
noncomputable def x589 (p : Program) (P : Params) : Obj := ⟨(.type "tuple"), none, (.seq (Array.mk []) 0), (Array.mk [])⟩
noncomputable def x590 (p : Program) (P : Params) : Obj := ⟨.none, none, (.fields (Array.mk [])), (Array.mk [])⟩
noncomputable def x591 (p : Program) (P : Params) : Obj := ⟨(.type "tuple"), none, (.seq (Array.mk [(.str z36 1000), (.str z46 1001), (.str z264 1002)]) 0), (Array.mk [])⟩
noncomputable def x592 (p : Program) (P : Params) : Obj := ⟨(.type "tuple"), none, (.seq (Array.mk []) 0), (Array.mk [])⟩
noncomputable def x593 (p : Program) (P : Params) : Obj := ⟨.none, none, (.func ⟨z243, z265, (dM p 53 3).1, .stmts (dM p 53 3).2.1, (dM p 53 3).2.2, 0, [], .none, .none, .none, .none, none, .none, .none, 0⟩), (Array.mk [])⟩
noncomputable def x594 (p : Program) (P : Params) : Obj := ⟨(.type "code"), none, (.fields (Array.mk [(.str z243 997), (.str z265 998), (.str z1 999), (.int 388 0), (.int 3 0), (.int 0 0), (.int 0 0), (.int 3 0), (.ref 585), (.bool true), (.int 181 0), (.ref 586), .none, (.ref 587), (.ref 588), (.ref 589), (.int 1003 0), (.int 388 0), (.str z1 1004)])), (Array.mk [])⟩
noncomputable def x595 (p : Program) (P : Params) : Obj := ⟨(.type "function"), none, (.func ⟨z243, z265, (dM p 53 3).1, .stmts (dM p 53 3).2.1, (dM p 53 3).2.2, 3, [], .none, .none, .none, (.str z208 909), none, (.ref 590), .none, 0⟩), (Array.mk [])⟩
noncomputable def x596 (p : Program) (P : Params) : Obj := ⟨(.type "tuple"), none, (.seq (Array.mk []) 0), (Array.mk [])⟩
noncomputable def x597 (p : Program) (P : Params) : Obj := ⟨.none, none, (.fields (Array.mk [])), (Array.mk [])⟩
noncomputable def x598 (p : Program) (P : Params) : Obj := ⟨(.type "tuple"), none, (.seq (Array.mk [(.str z36 1009)]) 0), (Array.mk [])⟩
noncomputable def x599 (p : Program) (P : Params) : Obj := ⟨(.type "tuple"), none, (.seq (Array.mk []) 0), (Array.mk [])⟩
noncomputable def x600 (p : Program) (P : Params) : Obj := ⟨.none, none, (.func ⟨z244, z266, (dM p 53 4).1, .stmts (dM p 53 4).2.1, (dM p 53 4).2.2, 0, [], .none, .none, .none, .none, none, .none, .none, 0⟩), (Array.mk [])⟩
noncomputable def x601 (p : Program) (P : Params) : Obj := ⟨(.type "code"), none, (.fields (Array.mk [(.str z244 1006), (.str z266 1007), (.str z1 1008), (.int 391 0), (.int 1 0), (.int 0 0), (.int 0 0), (.int 3 0), (.ref 592), (.bool true), (.int 181 0), (.ref 593), .none, (.ref 594), (.ref 595), (.ref 596), (.int 1010 0), (.int 391 0), (.str z1 1011)])), (Array.mk [])⟩
noncomputable def x602 (p : Program) (P : Params) : Obj := ⟨(.type "function"), none, (.func ⟨z244, z266, (dM p 53 4).1, .stmts (dM p 53 4).2.1, (dM p 53 4).2.2, 3, [], .none, .none, .none, (.str z208 909), none, (.ref 597), .none, 0⟩), (Array.mk [])⟩
noncomputable def x603 (p : Program) (P : Params) : Obj := ⟨(.type "tuple"), none, (.seq (Array.mk []) 0), (Array.mk [])⟩
noncomputable def x604 (p : Program) (P : Params) : Obj := ⟨.none, none, (.fields (Array.mk [])), (Array.mk [])⟩
noncomputable def x605 (p : Program) (P : Params) : Obj := ⟨(.type "tuple"), none, (.seq (Array.mk [(.str z36 1016)]) 0), (Array.mk [])⟩
noncomputable def x606 (p : Program) (P : Params) : Obj := ⟨(.type "tuple"), none, (.seq (Array.mk []) 0), (Array.mk [])⟩
noncomputable def x607 (p : Program) (P : Params) : Obj := ⟨.none, none, (.func ⟨z245, z267, (dM p 53 5).1, .stmts (dM p 53 5).2.1, (dM p 53 5).2.2, 0, [], .none, .none, .none, .none, none, .none, .none, 0⟩), (Array.mk [])⟩
noncomputable def x608 (p : Program) (P : Params) : Obj := ⟨(.type "code"), none, (.fields (Array.mk [(.str z245 1013), (.str z267 1014), (.str z1 1015), (.int 394 0), (.int 1 0), (.int 0 0), (.int 0 0), (.int 3 0), (.ref 599), (.bool true), (.int 181 0), (.ref 600), .none, (.ref 601), (.ref 602), (.ref 603), (.int 1017 0), (.int 394 0), (.str z1 1018)])), (Array.mk [])⟩
noncomputable def x609 (p : Program) (P : Params) : Obj := ⟨(.type "function"), none, (.func ⟨z245, z267, (dM p 53 5).1, .stmts (dM p 53 5).2.1, (dM p 53 5).2.2, 3, [], .none, .none, .none, (.str z208 909), none, (.ref 604), .none, 0⟩), (Array.mk [])⟩
noncomputable def x610 (p : Program) (P : Params) : Obj := ⟨(.type "tuple"), none, (.seq (Array.mk []) 0), (Array.mk [])⟩
noncomputable def x611 (p : Program) (P : Params) : Obj := ⟨.none, none, (.fields (Array.mk [])), (Array.mk [])⟩
noncomputable def x612 (p : Program) (P : Params) : Obj := ⟨(.type "tuple"), none, (.seq (Array.mk [(.str z36 1023)]) 0), (Array.mk [])⟩
noncomputable def x613 (p : Program) (P : Params) : Obj := ⟨(.type "tuple"), none, (.seq (Array.mk []) 0), (Array.mk [])⟩
noncomputable def x614 (p : Program) (P : Params) : Obj := ⟨.none, none, (.func ⟨z246, z268, (dM p 53 6).1, .stmts (dM p 53 6).2.1, (dM p 53 6).2.2, 0, [], .none, .none, .none, .none, none, .none, .none, 0⟩), (Array.mk [])⟩
noncomputable def x615 (p : Program) (P : Params) : Obj := ⟨(.type "code"), none, (.fields (Array.mk [(.str z246 1020), (.str z268 1021), (.str z1 1022), (.int 397 0), (.int 1 0), (.int 0 0), (.int 0 0), (.int 3 0), (.ref 606), (.bool true), (.int 181 0), (.ref 607), .none, (.ref 608), (.ref 609), (.ref 610), (.int 1024 0), (.int 397 0), (.str z1 1025)])), (Array.mk [])⟩
noncomputable def x616 (p : Program) (P : Params) : Obj := ⟨(.type "function"), none, (.func ⟨z246, z268, (dM p 53 6).1, .stmts (dM p 53 6).2.1, (dM p 53 6).2.2, 3, [], .none, .none, .none, (.str z208 909), none, (.ref 611), .none, 0⟩), (Array.mk [])⟩
noncomputable def x617 (p : Program) (P : Params) : Obj := ⟨(.type "tuple"), none, (.seq (Array.mk []) 0), (Array.mk [])⟩
noncomputable def x618 (p : Program) (P : Params) : Obj := ⟨.none, none, (.fields (Array.mk [])), (Array.mk [])⟩
noncomputable def x619 (p : Program) (P : Params) : Obj := ⟨(.type "tuple"), none, (.seq (Array.mk [(.str z36 1030), (.str z190 1031), (.str z46 1032), (.str z38 1033), (.str z234 1034), (.str z269 1035)]) 0), (Array.mk [])⟩
noncomputable def x620 (p : Program) (P : Params) : Obj := ⟨(.type "tuple"), none, (.seq (Array.mk []) 0), (Array.mk [])⟩
noncomputable def x621 (p : Program) (P : Params) : Obj := ⟨.none, none, (.func ⟨z28, z270, (dM p 53 7).1, .stmts (dM p 53 7).2.1, (dM p 53 7).2.2, 0, [], .none, .none, .none, .none, none, .none, .none, 0⟩), (Array.mk [])⟩
noncomputable def x622 (p : Program) (P : Params) : Obj := ⟨(.type "code"), none, (.fields (Array.mk [(.str z28 1027), (.str z270 1028), (.str z1 1029), (.int 401 0), (.int 5 0), (.int 0 0), (.int 0 0), (.int 3 0), (.ref 613), (.bool true), (.int 181 0), (.ref 614), .none, (.ref 615), (.ref 616), (.ref 617), (.int 1036 0), (.int 401 0), (.str z1 1037)])), (Array.mk [])⟩
noncomputable def x623 (p : Program) (P : Params) : Obj := ⟨(.type "function"), none, (.func ⟨z28, z270, (dM p 53 7).1, .stmts (dM p 53 7).2.1, (dM p 53 7).2.2, 3, [], .none, .none, .none, (.str z208 909), none, (.ref 618), .none, 0⟩), (Array.mk [])⟩
noncomputable def x624 (p : Program) (P : Params) : Obj := ⟨(.type "tuple"), none, (.seq (Array.mk []) 0), (Array.mk [])⟩
noncomputable def x625 (p : Program) (P : Params) : Obj := ⟨.none, none, (.fields (Array.mk [])), (Array.mk [])⟩
noncomputable def x626 (p : Program) (P : Params) : Obj := ⟨.none, none, (.func ⟨z247, z271, (dM p 53 8).1, .stmts (dM p 53 8).2.1, (dM p 53 8).2.2, 0, [], .none, .none, .none, .none, none, .none, .none, 0⟩), (Array.mk [])⟩
noncomputable def x627 (p : Program) (P : Params) : Obj := ⟨(.type "code"), none, (.fields (Array.mk [(.str z247 1039), (.str z271 1040), (.str z1 1041), (.int 408 0), (.int 2 0), (.int 0 0), (.int 0 0), (.int 3 0), (.ref 620), (.bool true), (.int 181 0), (.ref 621), .none, .none, .none, (.ref 622), (.int 1042 0), (.int 408 0), (.str z1 1043)])), (Array.mk [])⟩
noncomputable def x628 (p : Program) (P : Params) : Obj := ⟨(.type "function"), none, (.func ⟨z247, z271, (dM p 53 8).1, .stmts (dM p 53 8).2.1, (dM p 53 8).2.2, 3, [], .none, .none, .none, (.str z208 909), none, (.ref 623), .none, 0⟩), (Array.mk [])⟩
noncomputable def x629 (p : Program) (P : Params) : Obj := ⟨(.type "tuple"), none, (.seq (Array.mk []) 0), (Array.mk [])⟩
noncomputable def x630 (p : Program) (P : Params) : Obj := ⟨.none, none, (.fields (Array.mk [])), (Array.mk [])⟩
noncomputable def x631 (p : Program) (P : Params) : Obj := ⟨(.type "tuple"), none, (.seq (Array.mk [(.str z36 1048), (.str z226 1049)]) 0), (Array.mk [])⟩
noncomputable def x632 (p : Program) (P : Params) : Obj := ⟨(.type "tuple"), none, (.seq (Array.mk []) 0), (Array.mk [])⟩
noncomputable def x633 (p : Program) (P : Params) : Obj := ⟨.none, none, (.func ⟨z248, z272, (dM p 53 9).1, .stmts (dM p 53 9).2.1, (dM p 53 9).2.2, 0, [], .none, .none, .none, .none, none, .none, .none, 0⟩), (Array.mk [])⟩
noncomputable def x634 (p : Program) (P : Params) : Obj := ⟨(.type "code"), none, (.fields (Array.mk [(.str z248 1045), (.str z272 1046), (.str z1 1047), (.int 412 0), (.int 2 0), (.int 0 0), (.int 0 0), (.int 3 0), (.ref 625), (.bool true), (.int 181 0), (.ref 626), .none, (.ref 627), (.ref 628), (.ref 629), (.int 1050 0), (.int 412 0), (.str z1 1051)])), (Array.mk [])⟩
noncomputable def x635 (p : Program) (P : Params) : Obj := ⟨(.type "function"), none, (.func ⟨z248, z272, (dM p 53 9).1, .stmts (dM p 53 9).2.1, (dM p 53 9).2.2, 3, [], .none, .none, .none, (.str z208 909), none, (.ref 630), .none, 0⟩), (Array.mk [])⟩
noncomputable def x636 (p : Program) (P : Params) : Obj := ⟨(.type "tuple"), none, (.seq (Array.mk []) 0), (Array.mk [])⟩
noncomputable def x637 (p : Program) (P : Params) : Obj := ⟨.none, none, (.fields (Array.mk [])), (Array.mk [])⟩
noncomputable def x638 (p : Program) (P : Params) : Obj := ⟨(.type "tuple"), none, (.seq (Array.mk [(.str z36 1056), (.str z273 1057)]) 0), (Array.mk [])⟩
noncomputable def x639 (p : Program) (P : Params) : Obj := ⟨(.type "tuple"), none, (.seq (Array.mk []) 0), (Array.mk [])⟩
noncomputable def x640 (p : Program) (P : Params) : Obj := ⟨.none, none, (.func ⟨z249, z274, (dM p 53 10).1, .stmts (dM p 53 10).2.1, (dM p 53 10).2.2, 0, [], .none, .none, .none, .none, none, .none, .none, 0⟩), (Array.mk [])⟩
noncomputable def x641 (p : Program) (P : Params) : Obj := ⟨(.type "code"), none, (.fields (Array.mk [(.str z249 1053), (.str z274 1054), (.str z1 1055), (.int 415 0), (.int 2 0), (.int 0 0), (.int 0 0), (.int 3 0), (.ref 632), (.bool true), (.int 181 0), (.ref 633), .none, (.ref 634), (.ref 635), (.ref 636), (.int 1058 0), (.int 415 0), (.str z1 1059)])), (Array.mk [])⟩
noncomputable def x642 (p : Program) (P : Params) : Obj := ⟨(.type "function"), none, (.func ⟨z249, z274, (dM p 53 10).1, .stmts (dM p 53 10).2.1, (dM p 53 10).2.2, 3, [], .none, .none, .none, (.str z208 909), none, (.ref 637), .none, 0⟩), (Array.mk [])⟩
noncomputable def x643 (p : Program) (P : Params) : Obj := ⟨(.type "tuple"), none, (.seq (Array.mk []) 0), (Array.mk [])⟩
noncomputable def x644 (p : Program) (P : Params) : Obj := ⟨.none, none, (.fields (Array.mk [])), (Array.mk [])⟩
noncomputable def x645 (p : Program) (P : Params) : Obj := ⟨(.type "tuple"), none, (.seq (Array.mk [(.str z36 1064), (.str z226 1065)]) 0), (Array.mk [])⟩
noncomputable def x646 (p : Program) (P : Params) : Obj := ⟨(.type "tuple"), none, (.seq (Array.mk []) 0), (Array.mk [])⟩
noncomputable def x647 (p : Program) (P : Params) : Obj := ⟨.none, none, (.func ⟨z250, z275, (dM p 53 11).1, .stmts (dM p 53 11).2.1, (dM p 53 11).2.2, 0, [], .none, .none, .none, .none, none, .none, .none, 0⟩), (Array.mk [])⟩
noncomputable def x648 (p : Program) (P : Params) : Obj := ⟨(.type "code"), none, (.fields (Array.mk [(.str z250 1061), (.str z275 1062), (.str z1 1063), (.int 418 0), (.int 2 0), (.int 0 0), (.int 0 0), (.int 3 0), (.ref 639), (.bool true), (.int 181 0), (.ref 640), .none, (.ref 641), (.ref 642), (.ref 643), (.int 1066 0), (.int 418 0), (.str z1 1067)])), (Array.mk [])⟩
noncomputable def x649 (p : Program) (P : Params) : Obj := ⟨(.type "function"), none, (.func ⟨z250, z275, (dM p 53 11).1, .stmts (dM p 53 11).2.1, (dM p 53 11).2.2, 3, [], .none, .none, .none, (.str z208 909), none, (.ref 644), .none, 0⟩), (Array.mk [])⟩
noncomputable def x650 (p : Program) (P : Params) : Obj := ⟨(.type "tuple"), none, (.seq (Array.mk []) 0), (Array.mk [])⟩
noncomputable def x651 (p : Program) (P : Params) : Obj := ⟨.none, none, (.fields (Array.mk [])), (Array.mk [])⟩
noncomputable def x652 (p : Program) (P : Params) : Obj := ⟨(.type "tuple"), none, (.seq (Array.mk [(.str z36 1072), (.str z226 1073)]) 0), (Array.mk [])⟩
noncomputable def x653 (p : Program) (P : Params) : Obj := ⟨(.type "tuple"), none, (.seq (Array.mk []) 0), (Array.mk [])⟩
noncomputable def x654 (p : Program) (P : Params) : Obj := ⟨.none, none, (.func ⟨z251, z276, (dM p 53 12).1, .stmts (dM p 53 12).2.1, (dM p 53 12).2.2, 0, [], .none, .none, .none, .none, none, .none, .none, 0⟩), (Array.mk [])⟩
noncomputable def x655 (p : Program) (P : Params) : Obj := ⟨(.type "code"), none, (.fields (Array.mk [(.str z251 1069), (.str z276 1070), (.str z1 1071), (.int 421 0), (.int 2 0), (.int 0 0), (.int 0 0), (.int 3 0), (.ref 646), (.bool true), (.int 181 0), (.ref 647), .none, (.ref 648), (.ref 649), (.ref 650), (.int 1074 0), (.int 421 0), (.str z1 1075)])), (Array.mk [])⟩
noncomputable def x656 (p : Program) (P : Params) : Obj := ⟨(.type "function"), none, (.func ⟨z251, z276, (dM p 53 12).1, .stmts (dM p 53 12).2.1, (dM p 53 12).2.2, 3, [], .none, .none, .none, (.str z208 909), none, (.ref 651), .none, 0⟩), (Array.mk [])⟩
noncomputable def x657 (p : Program) (P : Params) : Obj := ⟨(.type "tuple"), none, (.seq (Array.mk []) 0), (Array.mk [])⟩
noncomputable def x658 (p : Program) (P : Params) : Obj := ⟨.none, none, (.fields (Array.mk [])), (Array.mk [])⟩
noncomputable def x659 (p : Program) (P : Params) : Obj := ⟨(.type "tuple"), none, (.seq (Array.mk [(.str z36 1080), (.str z190 1081)]) 0), (Array.mk [])⟩
noncomputable def x660 (p : Program) (P : Params) : Obj := ⟨(.type "tuple"), none, (.seq (Array.mk []) 0), (Array.mk [])⟩
noncomputable def x661 (p : Program) (P : Params) : Obj := ⟨.none, none, (.func ⟨z252, z277, (dM p 53 13).1, .stmts (dM p 53 13).2.1, (dM p 53 13).2.2, 0, [], .none, .none, .none, .none, none, .none, .none, 0⟩), (Array.mk [])⟩
noncomputable def x662 (p : Program) (P : Params) : Obj := ⟨(.type "code"), none, (.fields (Array.mk [(.str z252 1077), (.str z277 1078), (.str z1 1079), (.int 424 0), (.int 2 0), (.int 0 0), (.int 0 0), (.int 3 0), (.ref 653), (.bool true), (.int 181 0), (.ref 654), .none, (.ref 655), (.ref 656), (.ref 657), (.int 1082 0), (.int 424 0), (.str z1 1083)])), (Array.mk [])⟩
noncomputable def x663 (p : Program) (P : Params) : Obj := ⟨(.type "function"), none, (.func ⟨z252, z277, (dM p 53 13).1, .stmts (dM p 53 13).2.1, (dM p 53 13).2.2, 3, [], .none, .none, .none, (.str z208 909), none, (.ref 658), .none, 0⟩), (Array.mk [])⟩
noncomputable def x664 (p : Program) (P : Params) : Obj := ⟨(.type "tuple"), none, (.seq (Array.mk []) 0), (Array.mk [])⟩
noncomputable def x665 (p : Program) (P : Params) : Obj := ⟨.none, none, (.fields (Array.mk [])), (Array.mk [])⟩
noncomputable def x666 (p : Program) (P : Params) : Obj := ⟨.none, none, (.func ⟨z253, z278, (dM p 53 14).1, .stmts (dM p 53 14).2.1, (dM p 53 14).2.2, 0, [], .none, .none, .none, .none, none, .none, .none, 0⟩), (Array.mk [])⟩
noncomputable def x667 (p : Program) (P : Params) : Obj := ⟨(.type "code"), none, (.fields (Array.mk [(.str z253 1085), (.str z278 1086), (.str z1 1087), (.int 427 0), (.int 1 0), (.int 0 0), (.int 0 0), (.int 3 0), (.ref 660), (.bool true), (.int 181 0), (.ref 661), .none, .none, .none, (.ref 662), (.int 1088 0), (.int 427 0), (.str z1 1089)])), (Array.mk [])⟩
noncomputable def x668 (p : Program) (P : Params) : Obj := ⟨(.type "function"), none, (.func ⟨z253, z278, (dM p 53 14).1, .stmts (dM p 53 14).2.1, (dM p 53 14).2.2, 3, [], .none, .none, .none, (.str z208 909), none, (.ref 663), .none, 0⟩), (Array.mk [])⟩
noncomputable def x669 (p : Program) (P : Params) : Obj := ⟨(.type "tuple"), none, (.seq (Array.mk []) 0), (Array.mk [])⟩
noncomputable def x670 (p : Program) (P : Params) : Obj := ⟨.none, none, (.fields (Array.mk [])), (Array.mk [])⟩
noncomputable def x671 (p : Program) (P : Params) : Obj := ⟨(.type "tuple"), none, (.seq (Array.mk [(.str z36 1094)]) 0), (Array.mk [])⟩
noncomputable def x672 (p : Program) (P : Params) : Obj := ⟨(.type "tuple"), none, (.seq (Array.mk []) 0), (Array.mk [])⟩
noncomputable def x673 (p : Program) (P : Params) : Obj := ⟨.none, none, (.func ⟨z254, z279, (dM p 53 15).1, .stmts (dM p 53 15).2.1, (dM p 53 15).2.2, 0, [], .none, .none, .none, .none, none, .none, .none, 0⟩), (Array.mk [])⟩
noncomputable def x674 (p : Program) (P : Params) : Obj := ⟨(.type "code"), none, (.fields (Array.mk [(.str z254 1091), (.str z279 1092), (.str z1 1093), (.int 430 0), (.int 1 0), (.int 0 0), (.int 0 0), (.int 3 0), (.ref 665), (.bool true), (.int 181 0), (.ref 666), .none, (.ref 667), (.ref 668), (.ref 669), (.int 1095 0), (.int 430 0), (.str z1 1096)])), (Array.mk [])⟩
noncomputable def x675 (p : Program) (P : Params) : Obj := ⟨(.type "function"), none, (.func ⟨z254, z279, (dM p 53 15).1, .stmts (dM p 53 15).2.1, (dM p 53 15).2.2, 3, [], .none, .none, .none, (.str z208 909), none, (.ref 670), .none, 0⟩), (Array.mk [])⟩
noncomputable def x676 (p : Program) (P : Params) : Obj := ⟨(.type "tuple"), none, (.seq (Array.mk []) 0), (Array.mk [])⟩
noncomputable def x677 (p : Program) (P : Params) : Obj := ⟨.none, none, (.fields (Array.mk [])), (Array.mk [])⟩
noncomputable def x678 (p : Program) (P : Params) : Obj := ⟨(.type "tuple"), none, (.seq (Array.mk [(.str z36 1101)]) 0), (Array.mk [])⟩
noncomputable def x679 (p : Program) (P : Params) : Obj := ⟨(.type "tuple"), none, (.seq (Array.mk []) 0), (Array.mk [])⟩
noncomputable def x680 (p : Program) (P : Params) : Obj := ⟨.none, none, (.func ⟨z255, z280, (dM p 53 16).1, .stmts (dM p 53 16).2.1, (dM p 53 16).2.2, 0, [], .none, .none, .none, .none, none, .none, .none, 0⟩), (Array.mk [])⟩
noncomputable def x681 (p : Program) (P : Params) : Obj := ⟨(.type "code"), none, (.fields (Array.mk [(.str z255 1098), (.str z280 1099), (.str z1 1100), (.int 433 0), (.int 1 0), (.int 0 0), (.int 0 0), (.int 3 0), (.ref 672), (.bool true), (.int 181 0), (.ref 673), .none, (.ref 674), (.ref 675), (.ref 676), (.int 1102 0), (.int 433 0), (.str z1 1103)])), (Array.mk [])⟩
noncomputable def x682 (p : Program) (P : Params) : Obj := ⟨(.type "function"), none, (.func ⟨z255, z280, (dM p 53 16).1, .stmts (dM p 53 16).2.1, (dM p 53 16).2.2, 3, [], .none, .none, .none, (.str z208 909), none, (.ref 677), .none, 0⟩), (Array.mk [])⟩
noncomputable def x683 (p : Program) (P : Params) : Obj := ⟨(.type "tuple"), none, (.seq (Array.mk []) 0), (Array.mk [])⟩
noncomputable def x684 (p : Program) (P : Params) : Obj := ⟨.none, none, (.fields (Array.mk [])), (Array.mk [])⟩
noncomputable def x685 (p : Program) (P : Params) : Obj := ⟨(.type "tuple"), none, (.seq (Array.mk [(.str z36 1108)]) 0), (Array.mk [])⟩
noncomputable def x686 (p : Program) (P : Params) : Obj := ⟨(.type "tuple"), none, (.seq (Array.mk []) 0), (Array.mk [])⟩
noncomputable def x687 (p : Program) (P : Params) : Obj := ⟨.none, none, (.func ⟨z256, z281, (dM p 53 17).1, .stmts (dM p 53 17).2.1, (dM p 53 17).2.2, 0, [], .none, .none, .none, .none, none, .none, .none, 0⟩), (Array.mk [])⟩
noncomputable def x688 (p : Program) (P : Params) : Obj := ⟨(.type "code"), none, (.fields (Array.mk [(.str z256 1105), (.str z281 1106), (.str z1 1107), (.int 436 0), (.int 1 0), (.int 0 0), (.int 0 0), (.int 3 0), (.ref 679), (.bool true), (.int 181 0), (.ref 680), .none, (.ref 681), (.ref 682), (.ref 683), (.int 1109 0), (.int 436 0), (.str z1 1110)])), (Array.mk [])⟩
noncomputable def x689 (p : Program) (P : Params) : Obj := ⟨(.type "function"), none, (.func ⟨z256, z281, (dM p 53 17).1, .stmts (dM p 53 17).2.1, (dM p 53 17).2.2, 3, [], .none, .none, .none, (.str z208 909), none, (.ref 684), .none, 0⟩), (Array.mk [])⟩
noncomputable def x690 (p : Program) (P : Params) : Obj := ⟨(.type "tuple"), none, (.seq (Array.mk []) 0), (Array.mk [])⟩
noncomputable def x691 (p : Program) (P : Params) : Obj := ⟨.none, none, (.fields (Array.mk [])), (Array.mk [])⟩
noncomputable def x692 (p : Program) (P : Params) : Obj := ⟨(.type "tuple"), none, (.seq (Array.mk [(.str z36 1115)]) 0), (Array.mk [])⟩
noncomputable def x693 (p : Program) (P : Params) : Obj := ⟨(.type "tuple"), none, (.seq (Array.mk []) 0), (Array.mk [])⟩
noncomputable def x694 (p : Program) (P : Params) : Obj := ⟨.none, none, (.func ⟨z257, z282, (dM p 53 18).1, .stmts (dM p 53 18).2.1, (dM p 53 18).2.2, 0, [], .none, .none, .none, .none, none, .none, .none, 0⟩), (Array.mk [])⟩
noncomputable def x695 (p : Program) (P : Params) : Obj := ⟨(.type "code"), none, (.fields (Array.mk [(.str z257 1112), (.str z282 1113), (.str z1 1114), (.int 439 0), (.int 1 0), (.int 0 0), (.int 0 0), (.int 3 0), (.ref 686), (.bool true), (.int 181 0), (.ref 687), .none, (.ref 688), (.ref 689), (.ref 690), (.int 1116 0), (.int 439 0), (.str z1 1117)])), (Array.mk [])⟩
noncomputable def x696 (p : Program) (P : Params) : Obj := ⟨(.type "function"), none, (.func ⟨z257, z282, (dM p 53 18).1, .stmts (dM p 53 18).2.1, (dM p 53 18).2.2, 3, [], .none, .none, .none, (.str z208 909), none, (.ref 691), .none, 0⟩), (Array.mk [])⟩
noncomputable def x697 (p : Program) (P : Params) : Obj := ⟨(.type "tuple"), none, (.seq (Array.mk [(.str z283 1119), (.str z284 1120), (.str z285 1121), (.str z286 1122), (.str z287 1123), (.str z288 1124), (.str z289 1125), (.str z290 1126), (.str z291 1127), (.str z292 1128), (.str z293 1129), (.str z133 1130), (.str z294 1131), (.str z164 1132), (.str z165 1133), (.str z295 1134), (.str z296 1135)]) 0), (Array.mk [])⟩
noncomputable def x698 (p : Program) (P : Params) : Obj := ⟨(.type "dict"), none, (.dict (Array.mk [⟨PyData.keyHash P z21, (.str z21 963), (.str z208 909)⟩, ⟨PyData.keyHash P z23, (.str z23 967), (.int 347 966)⟩, ⟨PyData.keyHash P z24, (.str z24 975), (.ref 570)⟩, ⟨PyData.keyHash P z242, (.str z242 983), (.ref 577)⟩, ⟨PyData.keyHash P z143, (.str z143 996), (.ref 584)⟩, ⟨PyData.keyHash P z243, (.str z243 1005), (.ref 591)⟩, ⟨PyData.keyHash P z244, (.str z244 1012), (.ref 598)⟩, ⟨PyData.keyHash P z245, (.str z245 1019), (.ref 605)⟩, ⟨PyData.keyHash P z246, (.str z246 1026), (.ref 612)⟩, ⟨PyData.keyHash P z28, (.str z28 1038), (.ref 619)⟩, ⟨PyData.keyHash P z247, (.str z247 1044), (.ref 624)⟩, ⟨PyData.keyHash P z248, (.str z248 1052), (.ref 631)⟩, ⟨PyData.keyHash P z249, (.str z249 1060), (.ref 638)⟩, ⟨PyData.keyHash P z250, (.str z250 1068), (.ref 645)⟩, ⟨PyData.keyHash P z251, (.str z251 1076), (.ref 652)⟩, ⟨PyData.keyHash P z252, (.str z252 1084), (.ref 659)⟩, ⟨PyData.keyHash P z253, (.str z253 1090), (.ref 664)⟩, ⟨PyData.keyHash P z254, (.str z254 1097), (.ref 671)⟩, ⟨PyData.keyHash P z255, (.str z255 1104), (.ref 678)⟩, ⟨PyData.keyHash P z256, (.str z256 1111), (.ref 685)⟩, ⟨PyData.keyHash P z257, (.str z257 1118), (.ref 692)⟩, ⟨PyData.keyHash P z35, (.str z35 1136), (.ref 693)⟩, ⟨PyData.keyHash P z59, (.str z59 1138), (.ref 696)⟩, ⟨PyData.keyHash P z60, (.str z60 1140), (.ref 697)⟩, ⟨PyData.keyHash P z5, (.str z5 1141), .none⟩]) 4), (Array.mk [])⟩
noncomputable def x699 (p : Program) (P : Params) : Obj := ⟨(.type "type"), none, (.cls ⟨z237, [(.type "object")], [(.ref 695), (.type "object")], 694, z237, true, [], [], false, none, false⟩), (Array.mk [none, none, (some (.str z237 956)), (some (.str z237 964)), (some (.builtin "object.__new__")), (some (.bool true))])⟩
noncomputable def x700 (p : Program) (P : Params) : Obj := ⟨(.type "getset_descriptor"), none, (.fields (Array.mk [(.str z59 1137), (.ref 695), (.builtin "function.__dict__"), (.builtin "function.__dict__#set")])), (Array.mk [])⟩
noncomputable def x701 (p : Program) (P : Params) : Obj := ⟨(.type "getset_descriptor"), none, (.fields (Array.mk [(.str z60 1139), (.ref 695), (.builtin "ExceptionGroup.__weakref__"), .none])), (Array.mk [])⟩
noncomputable def x702 (p : Program) (P : Params) : Obj := ⟨(.type "super"), none, (.fields (Array.mk [(.ref 695), (.ref 695), (.ref 695)])), (Array.mk [])⟩
noncomputable def x703 (p : Program) (P : Params) : Obj := ⟨(.type "builtin_function_or_method"), none, (.fields (Array.mk [(.builtin "object.__init_subclass__"), (.ref 695)])), (Array.mk [])⟩
noncomputable def x704 (p : Program) (P : Params) : Obj := ⟨(.type "tuple"), none, (.seq (Array.mk []) 0), (Array.mk [])⟩
noncomputable def x705 (p : Program) (P : Params) : Obj := ⟨.none, none, (.fields (Array.mk [])), (Array.mk [])⟩
noncomputable def x706 (p : Program) (P : Params) : Obj := ⟨(.type "tuple"), none, (.seq (Array.mk [(.str z226 1147)]) 0), (Array.mk [])⟩
noncomputable def x707 (p : Program) (P : Params) : Obj := ⟨(.type "tuple"), none, (.seq (Array.mk []) 0), (Array.mk [])⟩
noncomputable def x708 (p : Program) (P : Params) : Obj := ⟨.none, none, (.func ⟨z238, z238, (dF p 54).1, .stmts (dF p 54).2.1, (dF p 54).2.2, 0, [], .none, .none, .none, .none, none, .none, .none, 0⟩), (Array.mk [])⟩
noncomputable def x709 (p : Program) (P : Params) : Obj := ⟨(.type "code"), none, (.fields (Array.mk [(.str z238 1144), (.str z238 1145), (.str z1 1146), (.int 441 0), (.int 1 0), (.int 0 0), (.int 0 0), (.int 3 0), (.ref 700), (.bool true), (.int 181 0), (.ref 701), .none, (.ref 702), (.ref 703), (.ref 704), (.int 1148 0), (.int 441 0), (.str z1 1149)])), (Array.mk [])⟩
noncomputable def x710 (p : Program) (P : Params) : Obj := ⟨(.type "function"), none, (.func ⟨z238, z238, (dF p 54).1, .stmts (dF p 54).2.1, (dF p 54).2.2, 3, [], .none, .none, .none, (.str z208 909), none, (.ref 705), .none, 0⟩), (Array.mk [])⟩
noncomputable def x711 (p : Program) (P : Params) : Obj := ⟨(.type "tuple"), none, (.seq (Array.mk []) 0), (Array.mk [])⟩
noncomputable def x712 (p : Program) (P : Params) : Obj := ⟨.none, none, (.fields (Array.mk [])), (Array.mk [])⟩
noncomputable def x713 (p : Program) (P : Params) : Obj := ⟨(.type "tuple"), none, (.seq (Array.mk [(.str z297 1156), (.str z298 1157)]) 0), (Array.mk [])⟩
noncomputable def x714 (p : Program) (P : Params) : Obj := ⟨(.type "tuple"), none, (.seq (Array.mk []) 0), (Array.mk [])⟩
noncomputable def x715 (p : Program) (P : Params) : Obj := ⟨.none, none, (.func ⟨z239, z239, (dF p 56).1, .stmts (dF p 56).2.1, (dF p 56).2.2, 0, [], .none, .none, .none, .none, none, .none, .none, 0⟩), (Array.mk [])⟩
noncomputable def x716 (p : Program) (P : Params) : Obj := ⟨(.type "code"), none, (.fields (Array.mk [(.str z239 1153), (.str z239 1154), (.str z1 1155), (.int 446 0), (.int 2 0), (.int 0 0), (.int 0 0), (.int 3 0), (.ref 707), (.bool true), (.int 181 0), (.ref 708), .none, (.ref 709), (.ref 710), (.ref 711), (.int 1158 0), (.int 446 0), (.str z1 1159)])), (Array.mk [])⟩
noncomputable def x717 (p : Program) (P : Params) : Obj := ⟨(.type "function"), none, (.func ⟨z239, z239, (dF p 56).1, .stmts (dF p 56).2.1, (dF p 56).2.2, 3, [], .none, .none, .none, (.str z236 1151), none, (.ref 712), .none, 0⟩), (Array.mk [])⟩
noncomputable def x718 (p : Program) (P : Params) : Obj := ⟨(.type "tuple"), none, (.seq (Array.mk []) 0), (Array.mk [])⟩
noncomputable def x719 (p : Program) (P : Params) : Obj := ⟨.none, none, (.fields (Array.mk [])), (Array.mk [])⟩
noncomputable def x720 (p : Program) (P : Params) : Obj := ⟨.none, none, (.func ⟨z240, z240, (dF p 57).1, .stmts (dF p 57).2.1, (dF p 57).2.2, 0, [], .none, .none, .none, .none, none, .none, .none, 0⟩), (Array.mk [])⟩
noncomputable def x721 (p : Program) (P : Params) : Obj := ⟨(.type "code"), none, (.fields (Array.mk [(.str z240 1161), (.str z240 1162), (.str z1 1163), (.int 451 0), (.int 2 0), (.int 0 0), (.int 0 0), (.int 3 0), (.ref 714), (.bool true), (.int 181 0), (.ref 715), .none, .none, .none, (.ref 716), (.int 1164 0), (.int 451 0), (.str z1 1165)])), (Array.mk [])⟩
noncomputable def x722 (p : Program) (P : Params) : Obj := ⟨(.type "function"), none, (.func ⟨z240, z240, (dF p 57).1, .stmts (dF p 57).2.1, (dF p 57).2.2, 3, [], .none, .none, .none, (.str z236 1151), none, (.ref 717), .none, 0⟩), (Array.mk [])⟩
noncomputable def x723 (p : Program) (P : Params) : Obj := ⟨(.type "tuple"), none, (.seq (Array.mk []) 0), (Array.mk [])⟩
noncomputable def x724 (p : Program) (P : Params) : Obj := ⟨.none, none, (.fields (Array.mk [])), (Array.mk [])⟩
noncomputable def x725 (p : Program) (P : Params) : Obj := ⟨(.type "tuple"), none, (.seq (Array.mk [(.str z299 1170), (.str z297 1171), (.str z141 1172), (.str z78 1173), (.str z300 1174), (.str z129 1175), (.str z134 1176), (.str z301 1177), (.str z302 1178), (.str z303 1179), (.str z304 1180), (.str z305 1181), (.str z306 1182), (.str z307 1183)]) 0), (Array.mk [])⟩
noncomputable def x726 (p : Program) (P : Params) : Obj := ⟨(.type "tuple"), none, (.seq (Array.mk []) 0), (Array.mk [])⟩
noncomputable def x727 (p : Program) (P : Params) : Obj := ⟨.none, none, (.func ⟨z241, z241, (dF p 58).1, .stmts (dF p 58).2.1, (dF p 58).2.2, 0, [], .none, .none, .none, .none, none, .none, .none, 0⟩), (Array.mk [])⟩
noncomputable def x728 (p : Program) (P : Params) : Obj := ⟨(.type "code"), none, (.fields (Array.mk [(.str z241 1167), (.str z241 1168), (.str z1 1169), (.int 461 0), (.int 1 0), (.int 0 0), (.int 0 0), (.int 3 0), (.ref 719), (.bool true), (.int 181 0), (.ref 720), .none, (.ref 721), (.ref 722), (.ref 723), (.int 1184 0), (.int 461 0), (.str z1 1185)])), (Array.mk [])⟩
noncomputable def x729 (p : Program) (P : Params) : Obj := ⟨(.type "function"), none, (.func ⟨z241, z241, (dF p 58).1, .stmts (dF p 58).2.1, (dF p 58).2.2, 3, [], .none, .none, .none, (.str z236 1151), none, (.ref 724), .none, 0⟩), (Array.mk [])⟩
noncomputable def t0 (p : Program) (P : Params) : BT := (.node (boot_o_0 P) (.node (boot_o_1 P) (.node (boot_o_3 P) (.node (boot_o_7 P) .nil .nil) (.node (x0 p P) .nil .nil)) (.node (boot_o_5 P) (.node (boot_o_9 P) .nil .nil) (.node (x2 p P) .nil .nil))) (.node (boot_o_2 P) (.node (boot_o_4 P) (.node (boot_o_8 P) .nil .nil) (.node (x1 p P) .nil .nil)) (.node (boot_o_6 P) (.node (boot_o_10 P) .nil .nil) (.node (x3 p P) .nil .nil))))
noncomputable def t1 (p : Program) (P : Params) : BT := (.node (boot_o_0 P) (.node (boot_o_1 P) (.node (x4 p P) (.node (boot_o_7 P) (.node (x6 p P) (.node (x22 p P) (.node (x54 p P) .nil .nil) (.node (x86 p P) .nil .nil)) (.node (x38 p P) (.node (x70 p P) .nil .nil) (.node (x102 p P) .nil .nil))) (.node (x14 p P) (.node (x30 p P) (.node (x62 p P) .nil .nil) (.node (x94 p P) .nil .nil)) (.node (x46 p P) (.node (x78 p P) .nil .nil) (.node (x110 p P) .nil .nil)))) (.node (x0 p P) (.node (x10 p P) (.node (x26 p P) (.node (x58 p P) .nil .nil) (.node (x90 p P) .nil .nil)) (.node (x42 p P) (.node (x74 p P) .nil .nil) (.node (x106 p P) .nil .nil))) (.node (x18 p P) (.node (x34 p P) (.node (x66 p P) .nil .nil) (.node (x98 p P) .nil .nil)) (.node (x50 p P) (.node (x82 p P) .nil .nil) .nil)))) (.node (boot_o_5 P) (.node (boot_o_9 P) (.node (x8 p P) (.node (x24 p P) (.node (x56 p P) .nil .nil) (.node (x88 p P) .nil .nil)) (.node (x40 p P) (.node (x72 p P) .nil .nil) (.node (x104 p P) .nil .nil))) (.node (x16 p P) (.node (x32 p P) (.node (x64 p P) .nil .nil) (.node (x96 p P) .nil .nil)) (.node (x48 p P) (.node (x80 p P) .nil .nil) .nil))) (.node (x2 p P) (.node (x12 p P) (.node (x28 p P) (.node (x60 p P) .nil .nil) (.node (x92 p P) .nil .nil)) (.node (x44 p P) (.node (x76 p P) .nil .nil) (.node (x108 p P) .nil .nil))) (.node (x20 p P) (.node (x36 p P) (.node (x68 p P) .nil .nil) (.node (x100 p P) .nil .nil)) (.node (x52 p P) (.node (x84 p P) .nil .nil) .nil))))) (.node (boot_o_2 P) (.node (boot_o_4 P) (.node (boot_o_8 P) (.node (x7 p P) (.node (x23 p P) (.node (x55 p P) .nil .nil) (.node (x87 p P) .nil .nil)) (.node (x39 p P) (.node (x71 p P) .nil .nil) (.node (x103 p P) .nil .nil))) (.node (x15 p P) (.node (x31 p P) (.node (x63 p P) .nil .nil) (.node (x95 p P) .nil .nil)) (.node (x47 p P) (.node (x79 p P) .nil .nil) .nil))) (.node (x5 p P) (.node (x11 p P) (.node (x27 p P) (.node (x59 p P) .nil .nil) (.node (x91 p P) .nil .nil)) (.node (x43 p P) (.node (x75 p P) .nil .nil) (.node (x107 p P) .nil .nil))) (.node (x19 p P) (.node (x35 p P) (.node (x67 p P) .nil .nil) (.node (x99 p P) .nil .nil)) (.node (x51 p P) (.node (x83 p P) .nil .nil) .nil)))) (.node (boot_o_6 P) (.node (boot_o_10 P) (.node (x9 p P) (.node (x25 p P) (.node (x57 p P) .nil .nil) (.node (x89 p P) .nil .nil)) (.node (x41 p P) (.node (x73 p P) .nil .nil) (.node (x105 p P) .nil .nil))) (.node (x17 p P) (.node (x33 p P) (.node (x65 p P) .nil .nil) (.node (x97 p P) .nil .nil)) (.node (x49 p P) (.node (x81 p P) .nil .nil) .nil))) (.node (x3 p P) (.node (x13 p P) (.node (x29 p P) (.node (x61 p P) .nil .nil) (.node (x93 p P) .nil .nil)) (.node (x45 p P) (.node (x77 p P) .nil .nil) (.node (x109 p P) .nil .nil))) (.node (x21 p P) (.node (x37 p P) (.node (x69 p P) .nil .nil) (.node (x101 p P) .nil .nil)) (.node (x53 p P) (.node (x85 p P) .nil .nil) .nil))))))
noncomputable def t2 (p : Program) (P : Params) : BT := (.node (boot_o_0 P) (.node (boot_o_1 P) (.node (x111 p P) (.node (boot_o_7 P) (.node (x6 p P) (.node (x22 p P) (.node (x54 p P) (.node (x120 p P) .nil .nil) (.node (x184 p P) .nil .nil)) (.node (x86 p P) (.node (x152 p P) .nil .nil) (.node (x216 p P) .nil .nil))) (.node (x38 p P) (.node (x70 p P) (.node (x136 p P) .nil .nil) (.node (x200 p P) .nil .nil)) (.node (x102 p P) (.node (x168 p P) .nil .nil) .nil))) (.node (x14 p P) (.node (x30 p P) (.node (x62 p P) (.node (x128 p P) .nil .nil) (.node (x192 p P) .nil .nil)) (.node (x94 p P) (.node (x160 p P) .nil .nil) .nil)) (.node (x46 p P) (.node (x78 p P) (.node (x144 p P) .nil .nil) (.node (x208 p P) .nil .nil)) (.node (x110 p P) (.node (x176 p P) .nil .nil) .nil)))) (.node (x0 p P) (.node (x10 p P) (.node (x26 p P) (.node (x58 p P) (.node (x124 p P) .nil .nil) (.node (x188 p P) .nil .nil)) (.node (x90 p P) (.node (x156 p P) .nil .nil) .nil)) (.node (x42 p P) (.node (x74 p P) (.node (x140 p P) .nil .nil) (.node (x204 p P) .nil .nil)) (.node (x106 p P) (.node (x172 p P) .nil .nil) .nil))) (.node (x18 p P) (.node (x34 p P) (.node (x66 p P) (.node (x132 p P) .nil .nil) (.node (x196 p P) .nil .nil)) (.node (x98 p P) (.node (x164 p P) .nil .nil) .nil)) (.node (x50 p P) (.node (x82 p P) (.node (x148 p P) .nil .nil) (.node (x212 p P) .nil .nil)) (.node (x116 p P) (.node (x180 p P) .nil .nil) .nil))))) (.node (boot_o_5 P) (.node (boot_o_9 P) (.node (x8 p P) (.node (x24 p P) (.node (x56 p P) (.node (x122 p P) .nil .nil) (.node (x186 p P) .nil .nil)) (.node (x88 p P) (.node (x154 p P) .nil .nil) .nil)) (.node (x40 p P) (.node (x72 p P) (.node (x138 p P) .nil .nil) (.node (x202 p P) .nil .nil)) (.node (x104 p P) (.node (x170 p P) .nil .nil) .nil))) (.node (x16 p P) (.node (x32 p P) (.node (x64 p P) (.node (x130 p P) .nil .nil) (.node (x194 p P) .nil .nil)) (.node (x96 p P) (.node (x162 p P) .nil .nil) .nil)) (.node (x48 p P) (.node (x80 p P) (.node (x146 p P) .nil .nil) (.node (x210 p P) .nil .nil)) (.node (x114 p P) (.node (x178 p P) .nil .nil) .nil)))) (.node (x2 p P) (.node (x12 p P) (.node (x28 p P) (.node (x60 p P) (.node (x126 p P) .nil .nil) (.node (x190 p P) .nil .nil)) (.node (x92 p P) (.node (x158 p P) .nil .nil) .nil)) (.node (x44 p P) (.node (x76 p P) (.node (x142 p P) .nil .nil) (.node (x206 p P) .nil .nil)) (.node (x108 p P) (.node (x174 p P) .nil .nil) .nil))) (.node (x20 p P) (.node (x36 p P) (.node (x68 p P) (.node (x134 p P) .nil .nil) (.node (x198 p P) .nil .nil)) (.node (x100 p P) (.node (x166 p P) .nil .nil) .nil)) (.node (x52 p P) (.node (x84 p P) (.node (x150 p P) .nil .nil) (.node (x214 p P) .nil .nil)) (.node (x118 p P) (.node (x182 p P) .nil .nil) .nil)))))) (.node (boot_o_2 P) (.node (boot_o_4 P) (.node (boot_o_8 P) (.node (x7 p P) (.node (x23 p P) (.node (x55 p P) (.node (x121 p P) .nil .nil) (.node (x185 p P) .nil .nil)) (.node (x87 p P) (.node (x153 p P) .nil .nil) (.node (x217 p P) .nil .nil))) (.node (x39 p P) (.node (x71 p P) (.node (x137 p P) .nil .nil) (.node (x201 p P) .nil .nil)) (.node (x103 p P) (.node (x169 p P) .nil .nil) .nil))) (.node (x15 p P) (.node (x31 p P) (.node (x63 p P) (.node (x129 p P) .nil .nil) (.node (x193 p P) .nil .nil)) (.node (x95 p P) (.node (x161 p P) .nil .nil) .nil)) (.node (x47 p P) (.node (x79 p P) (.node (x145 p P) .nil .nil) (.node (x209 p P) .nil .nil)) (.node (x113 p P) (.node (x177 p P) .nil .nil) .nil)))) (.node (x112 p P) (.node (x11 p P) (.node (x27 p P) (.node (x59 p P) (.node (x125 p P) .nil .nil) (.node (x189 p P) .nil .nil)) (.node (x91 p P) (.node (x157 p P) .nil .nil) .nil)) (.node (x43 p P) (.node (x75 p P) (.node (x141 p P) .nil .nil) (.node (x205 p P) .nil .nil)) (.node (x107 p P) (.node (x173 p P) .nil .nil) .nil))) (.node (x19 p P) (.node (x35 p P) (.node (x67 p P) (.node (x133 p P) .nil .nil) (.node (x197 p P) .nil .nil)) (.node (x99 p P) (.node (x165 p P) .nil .nil) .nil)) (.node (x51 p P) (.node (x83 p P) (.node (x149 p P) .nil .nil) (.node (x213 p P) .nil .nil)) (.node (x117 p P) (.node (x181 p P) .nil .nil) .nil))))) (.node (boot_o_6 P) (.node (boot_o_10 P) (.node (x9 p P) (.node (x25 p P) (.node (x57 p P) (.node (x123 p P) .nil .nil) (.node (x187 p P) .nil .nil)) (.node (x89 p P) (.node (x155 p P) .nil .nil) .nil)) (.node (x41 p P) (.node (x73 p P) (.node (x139 p P) .nil .nil) (.node (x203 p P) .nil .nil)) (.node (x105 p P) (.node (x171 p P) .nil .nil) .nil))) (.node (x17 p P) (.node (x33 p P) (.node (x65 p P) (.node (x131 p P) .nil .nil) (.node (x195 p P) .nil .nil)) (.node (x97 p P) (.node (x163 p P) .nil .nil) .nil)) (.node (x49 p P) (.node (x81 p P) (.node (x147 p P) .nil .nil) (.node (x211 p P) .nil .nil)) (.node (x115 p P) (.node (x179 p P) .nil .nil) .nil)))) (.node (x3 p P) (.node (x13 p P) (.node (x29 p P) (.node (x61 p P) (.node (x127 p P) .nil .nil) (.node (x191 p P) .nil .nil)) (.node (x93 p P) (.node (x159 p P) .nil .nil) .nil)) (.node (x45 p P) (.node (x77 p P) (.node (x143 p P) .nil .nil) (.node (x207 p P) .nil .nil)) (.node (x109 p P) (.node (x175 p P) .nil .nil) .nil))) (.node (x21 p P) (.node (x37 p P) (.node (x69 p P) (.node (x135 p P) .nil .nil) (.node (x199 p P) .nil .nil)) (.node (x101 p P) (.node (x167 p P) .nil .nil) .nil)) (.node (x53 p P) (.node (x85 p P) (.node (x151 p P) .nil .nil) (.node (x215 p P) .nil .nil)) (.node (x119 p P) (.node (x183 p P) .nil .nil) .nil)))))))
noncomputable def t3 (p : Program) (P : Params) : BT := (.node (boot_o_0 P) (.node (boot_o_1 P) (.node (x219 p P) (.node (boot_o_7 P) (.node (x6 p P) (.node (x22 p P) (.node (x54 p P) (.node (x120 p P) (.node (x251 p P) .nil .nil) .nil) (.node (x184 p P) .nil .nil)) (.node (x86 p P) (.node (x152 p P) (.node (x283 p P) .nil .nil) .nil) (.node (x216 p P) .nil .nil))) (.node (x38 p P) (.node (x70 p P) (.node (x136 p P) (.node (x267 p P) .nil .nil) .nil) (.node (x200 p P) .nil .nil)) (.node (x102 p P) (.node (x168 p P) .nil .nil) (.node (x235 p P) .nil .nil)))) (.node (x14 p P) (.node (x30 p P) (.node (x62 p P) (.node (x128 p P) (.node (x259 p P) .nil .nil) .nil) (.node (x192 p P) .nil .nil)) (.node (x94 p P) (.node (x160 p P) .nil .nil) (.node (x227 p P) .nil .nil))) (.node (x46 p P) (.node (x78 p P) (.node (x144 p P) (.node (x275 p P) .nil .nil) .nil) (.node (x208 p P) .nil .nil)) (.node (x110 p P) (.node (x176 p P) .nil .nil) (.node (x243 p P) .nil .nil))))) (.node (x0 p P) (.node (x10 p P) (.node (x26 p P) (.node (x58 p P) (.node (x124 p P) (.node (x255 p P) .nil .nil) .nil) (.node (x188 p P) .nil .nil)) (.node (x90 p P) (.node (x156 p P) (.node (x287 p P) .nil .nil) .nil) (.node (x223 p P) .nil .nil))) (.node (x42 p P) (.node (x74 p P) (.node (x140 p P) (.node (x271 p P) .nil .nil) .nil) (.node (x204 p P) .nil .nil)) (.node (x106 p P) (.node (x172 p P) .nil .nil) (.node (x239 p P) .nil .nil)))) (.node (x18 p P) (.node (x34 p P) (.node (x66 p P) (.node (x132 p P) (.node (x263 p P) .nil .nil) .nil) (.node (x196 p P) .nil .nil)) (.node (x98 p P) (.node (x164 p P) .nil .nil) (.node (x231 p P) .nil .nil))) (.node (x50 p P) (.node (x82 p P) (.node (x148 p P) (.node (x279 p P) .nil .nil) .nil) (.node (x212 p P) .nil .nil)) (.node (x116 p P) (.node (x180 p P) .nil .nil) (.node (x247 p P) .nil .nil)))))) (.node (boot_o_5 P) (.node (boot_o_9 P) (.node (x8 p P) (.node (x24 p P) (.node (x56 p P) (.node (x122 p P) (.node (x253 p P) .nil .nil) .nil) (.node (x186 p P) .nil .nil)) (.node (x88 p P) (.node (x154 p P) (.node (x285 p P) .nil .nil) .nil) (.node (x221 p P) .nil .nil))) (.node (x40 p P) (.node (x72 p P) (.node (x138 p P) (.node (x269 p P) .nil .nil) .nil) (.node (x202 p P) .nil .nil)) (.node (x104 p P) (.node (x170 p P) .nil .nil) (.node (x237 p P) .nil .nil)))) (.node (x16 p P) (.node (x32 p P) (.node (x64 p P) (.node (x130 p P) (.node (x261 p P) .nil .nil) .nil) (.node (x194 p P) .nil .nil)) (.node (x96 p P) (.node (x162 p P) .nil .nil) (.node (x229 p P) .nil .nil))) (.node (x48 p P) (.node (x80 p P) (.node (x146 p P) (.node (x277 p P) .nil .nil) .nil) (.node (x210 p P) .nil .nil)) (.node (x114 p P) (.node (x178 p P) .nil .nil) (.node (x245 p P) .nil .nil))))) (.node (x2 p P) (.node (x12 p P) (.node (x28 p P) (.node (x60 p P) (.node (x126 p P) (.node (x257 p P) .nil .nil) .nil) (.node (x190 p P) .nil .nil)) (.node (x92 p P) (.node (x158 p P) .nil .nil) (.node (x225 p P) .nil .nil))) (.node (x44 p P) (.node (x76 p P) (.node (x142 p P) (.node (x273 p P) .nil .nil) .nil) (.node (x206 p P) .nil .nil)) (.node (x108 p P) (.node (x174 p P) .nil .nil) (.node (x241 p P) .nil .nil)))) (.node (x20 p P) (.node (x36 p P) (.node (x68 p P) (.node (x134 p P) (.node (x265 p P) .nil .nil) .nil) (.node (x198 p P) .nil .nil)) (.node (x100 p P) (.node (x166 p P) .nil .nil) (.node (x233 p P) .nil .nil))) (.node (x52 p P) (.node (x84 p P) (.node (x150 p P) (.node (x281 p P) .nil .nil) .nil) (.node (x214 p P) .nil .nil)) (.node (x118 p P) (.node (x182 p P) .nil .nil) (.node (x249 p P) .nil .nil))))))) (.node (x218 p P) (.node (boot_o_4 P) (.node (boot_o_8 P) (.node (x7 p P) (.node (x23 p P) (.node (x55 p P) (.node (x121 p P) (.node (x252 p P) .nil .nil) .nil) (.node (x185 p P) .nil .nil)) (.node (x87 p P) (.node (x153 p P) (.node (x284 p P) .nil .nil) .nil) (.node (x217 p P) .nil .nil))) (.node (x39 p P) (.node (x71 p P) (.node (x137 p P) (.node (x268 p P) .nil .nil) .nil) (.node (x201 p P) .nil .nil)) (.node (x103 p P) (.node (x169 p P) .nil .nil) (.node (x236 p P) .nil .nil)))) (.node (x15 p P) (.node (x31 p P) (.node (x63 p P) (.node (x129 p P) (.node (x260 p P) .nil .nil) .nil) (.node (x193 p P) .nil .nil)) (.node (x95 p P) (.node (x161 p P) .nil .nil) (.node (x228 p P) .nil .nil))) (.node (x47 p P) (.node (x79 p P) (.node (x145 p P) (.node (x276 p P) .nil .nil) .nil) (.node (x209 p P) .nil .nil)) (.node (x113 p P) (.node (x177 p P) .nil .nil) (.node (x244 p P) .nil .nil))))) (.node (x220 p P) (.node (x11 p P) (.node (x27 p P) (.node (x59 p P) (.node (x125 p P) (.node (x256 p P) .nil .nil) .nil) (.node (x189 p P) .nil .nil)) (.node (x91 p P) (.node (x157 p P) .nil .nil) (.node (x224 p P) .nil .nil))) (.node (x43 p P) (.node (x75 p P) (.node (x141 p P) (.node (x272 p P) .nil .nil) .nil) (.node (x205 p P) .nil .nil)) (.node (x107 p P) (.node (x173 p P) .nil .nil) (.node (x240 p P) .nil .nil)))) (.node (x19 p P) (.node (x35 p P) (.node (x67 p P) (.node (x133 p P) (.node (x264 p P) .nil .nil) .nil) (.node (x197 p P) .nil .nil)) (.node (x99 p P) (.node (x165 p P) .nil .nil) (.node (x232 p P) .nil .nil))) (.node (x51 p P) (.node (x83 p P) (.node (x149 p P) (.node (x280 p P) .nil .nil) .nil) (.node (x213 p P) .nil .nil)) (.node (x117 p P) (.node (x181 p P) .nil .nil) (.node (x248 p P) .nil .nil)))))) (.node (boot_o_6 P) (.node (boot_o_10 P) (.node (x9 p P) (.node (x25 p P) (.node (x57 p P) (.node (x123 p P) (.node (x254 p P) .nil .nil) .nil) (.node (x187 p P) .nil .nil)) (.node (x89 p P) (.node (x155 p P) (.node (x286 p P) .nil .nil) .nil) (.node (x222 p P) .nil .nil))) (.node (x41 p P) (.node (x73 p P) (.node (x139 p P) (.node (x270 p P) .nil .nil) .nil) (.node (x203 p P) .nil .nil)) (.node (x105 p P) (.node (x171 p P) .nil .nil) (.node (x238 p P) .nil .nil)))) (.node (x17 p P) (.node (x33 p P) (.node (x65 p P) (.node (x131 p P) (.node (x262 p P) .nil .nil) .nil) (.node (x195 p P) .nil .nil)) (.node (x97 p P) (.node (x163 p P) .nil .nil) (.node (x230 p P) .nil .nil))) (.node (x49 p P) (.node (x81 p P) (.node (x147 p P) (.node (x278 p P) .nil .nil) .nil) (.node (x211 p P) .nil .nil)) (.node (x115 p P) (.node (x179 p P) .nil .nil) (.node (x246 p P) .nil .nil))))) (.node (x3 p P) (.node (x13 p P) (.node (x29 p P) (.node (x61 p P) (.node (x127 p P) (.node (x258 p P) .nil .nil) .nil) (.node (x191 p P) .nil .nil)) (.node (x93 p P) (.node (x159 p P) .nil .nil) (.node (x226 p P) .nil .nil))) (.node (x45 p P) (.node (x77 p P) (.node (x143 p P) (.node (x274 p P) .nil .nil) .nil) (.node (x207 p P) .nil .nil)) (.node (x109 p P) (.node (x175 p P) .nil .nil) (.node (x242 p P) .nil .nil)))) (.node (x21 p P) (.node (x37 p P) (.node (x69 p P) (.node (x135 p P) (.node (x266 p P) .nil .nil) .nil) (.node (x199 p P) .nil .nil)) (.node (x101 p P) (.node (x167 p P) .nil .nil) (.node (x234 p P) .nil .nil))) (.node (x53 p P) (.node (x85 p P) (.node (x151 p P) (.node (x282 p P) .nil .nil) .nil) (.node (x215 p P) .nil .nil)) (.node (x119 p P) (.node (x183 p P) .nil .nil) (.node (x250 p P) .nil .nil))))))))
noncomputable def t4 (p : Program) (P : Params) : BT := (.node (boot_o_0 P) (.node (boot_o_1 P) (.node (x288 p P) (.node (boot_o_7 P) (.node (x6 p P) (.node (x22 p P) (.node (x54 p P) (.node (x120 p P) (.node (x251 p P) .nil .nil) .nil) (.node (x184 p P) (.node (x317 p P) .nil .nil) .nil)) (.node (x86 p P) (.node (x152 p P) (.node (x283 p P) .nil .nil) .nil) (.node (x216 p P) (.node (x349 p P) .nil .nil) .nil))) (.node (x38 p P) (.node (x70 p P) (.node (x136 p P) (.node (x267 p P) .nil .nil) .nil) (.node (x200 p P) (.node (x333 p P) .nil .nil) .nil)) (.node (x102 p P) (.node (x168 p P) (.node (x301 p P) .nil .nil) .nil) (.node (x235 p P) (.node (x365 p P) .nil .nil) .nil)))) (.node (x14 p P) (.node (x30 p P) (.node (x62 p P) (.node (x128 p P) (.node (x259 p P) .nil .nil) .nil) (.node (x192 p P) (.node (x325 p P) .nil .nil) .nil)) (.node (x94 p P) (.node (x160 p P) (.node (x293 p P) .nil .nil) .nil) (.node (x227 p P) (.node (x357 p P) .nil .nil) .nil))) (.node (x46 p P) (.node (x78 p P) (.node (x144 p P) (.node (x275 p P) .nil .nil) .nil) (.node (x208 p P) (.node (x341 p P) .nil .nil) .nil)) (.node (x110 p P) (.node (x176 p P) (.node (x309 p P) .nil .nil) .nil) (.node (x243 p P) (.node (x373 p P) .nil .nil) .nil))))) (.node (x0 p P) (.node (x10 p P) (.node (x26 p P) (.node (x58 p P) (.node (x124 p P) (.node (x255 p P) .nil .nil) .nil) (.node (x188 p P) (.node (x321 p P) .nil .nil) .nil)) (.node (x90 p P) (.node (x156 p P) (.node (x287 p P) .nil .nil) .nil) (.node (x223 p P) (.node (x353 p P) .nil .nil) .nil))) (.node (x42 p P) (.node (x74 p P) (.node (x140 p P) (.node (x271 p P) .nil .nil) .nil) (.node (x204 p P) (.node (x337 p P) .nil .nil) .nil)) (.node (x106 p P) (.node (x172 p P) (.node (x305 p P) .nil .nil) .nil) (.node (x239 p P) (.node (x369 p P) .nil .nil) .nil)))) (.node (x18 p P) (.node (x34 p P) (.node (x66 p P) (.node (x132 p P) (.node (x263 p P) .nil .nil) .nil) (.node (x196 p P) (.node (x329 p P) .nil .nil) .nil)) (.node (x98 p P) (.node (x164 p P) (.node (x297 p P) .nil .nil) .nil) (.node (x231 p P) (.node (x361 p P) .nil .nil) .nil))) (.node (x50 p P) (.node (x82 p P) (.node (x148 p P) (.node (x279 p P) .nil .nil) .nil) (.node (x212 p P) (.node (x345 p P) .nil .nil) .nil)) (.node (x116 p P) (.node (x180 p P) (.node (x313 p P) .nil .nil) .nil) (.node (x247 p P) .nil .nil)))))) (.node (boot_o_5 P) (.node (boot_o_9 P) (.node (x8 p P) (.node (x24 p P) (.node (x56 p P) (.node (x122 p P) (.node (x253 p P) .nil .nil) .nil) (.node (x186 p P) (.node (x319 p P) .nil .nil) .nil)) (.node (x88 p P) (.node (x154 p P) (.node (x285 p P) .nil .nil) .nil) (.node (x221 p P) (.node (x351 p P) .nil .nil) .nil))) (.node (x40 p P) (.node (x72 p P) (.node (x138 p P) (.node (x269 p P) .nil .nil) .nil) (.node (x202 p P) (.node (x335 p P) .nil .nil) .nil)) (.node (x104 p P) (.node (x170 p P) (.node (x303 p P) .nil .nil) .nil) (.node (x237 p P) (.node (x367 p P) .nil .nil) .nil)))) (.node (x16 p P) (.node (x32 p P) (.node (x64 p P) (.node (x130 p P) (.node (x261 p P) .nil .nil) .nil) (.node (x194 p P) (.node (x327 p P) .nil .nil) .nil)) (.node (x96 p P) (.node (x162 p P) (.node (x295 p P) .nil .nil) .nil) (.node (x229 p P) (.node (x359 p P) .nil .nil) .nil))) (.node (x48 p P) (.node (x80 p P) (.node (x146 p P) (.node (x277 p P) .nil .nil) .nil) (.node (x210 p P) (.node (x343 p P) .nil .nil) .nil)) (.node (x114 p P) (.node (x178 p P) (.node (x311 p P) .nil .nil) .nil) (.node (x245 p P) .nil .nil))))) (.node (x2 p P) (.node (x12 p P) (.node (x28 p P) (.node (x60 p P) (.node (x126 p P) (.node (x257 p P) .nil .nil) .nil) (.node (x190 p P) (.node (x323 p P) .nil .nil) .nil)) (.node (x92 p P) (.node (x158 p P) (.node (x291 p P) .nil .nil) .nil) (.node (x225 p P) (.node (x355 p P) .nil .nil) .nil))) (.node (x44 p P) (.node (x76 p P) (.node (x142 p P) (.node (x273 p P) .nil .nil) .nil) (.node (x206 p P) (.node (x339 p P) .nil .nil) .nil)) (.node (x108 p P) (.node (x174 p P) (.node (x307 p P) .nil .nil) .nil) (.node (x241 p P) (.node (x371 p P) .nil .nil) .nil)))) (.node (x20 p P) (.node (x36 p P) (.node (x68 p P) (.node (x134 p P) (.node (x265 p P) .nil .nil) .nil) (.node (x198 p P) (.node (x331 p P) .nil .nil) .nil)) (.node (x100 p P) (.node (x166 p P) (.node (x299 p P) .nil .nil) .nil) (.node (x233 p P) (.node (x363 p P) .nil .nil) .nil))) (.node (x52 p P) (.node (x84 p P) (.node (x150 p P) (.node (x281 p P) .nil .nil) .nil) (.node (x214 p P) (.node (x347 p P) .nil .nil) .nil)) (.node (x118 p P) (.node (x182 p P) (.node (x315 p P) .nil .nil) .nil) (.node (x249 p P) .nil .nil))))))) (.node (x218 p P) (.node (boot_o_4 P) (.node (boot_o_8 P) (.node (x7 p P) (.node (x23 p P) (.node (x55 p P) (.node (x121 p P) (.node (x252 p P) .nil .nil) .nil) (.node (x185 p P) (.node (x318 p P) .nil .nil) .nil)) (.node (x87 p P) (.node (x153 p P) (.node (x284 p P) .nil .nil) .nil) (.node (x217 p P) (.node (x350 p P) .nil .nil) .nil))) (.node (x39 p P) (.node (x71 p P) (.node (x137 p P) (.node (x268 p P) .nil .nil) .nil) (.node (x201 p P) (.node (x334 p P) .nil .nil) .nil)) (.node (x103 p P) (.node (x169 p P) (.node (x302 p P) .nil .nil) .nil) (.node (x236 p P) (.node (x366 p P) .nil .nil) .nil)))) (.node (x15 p P) (.node (x31 p P) (.node (x63 p P) (.node (x129 p P) (.node (x260 p P) .nil .nil) .nil) (.node (x193 p P) (.node (x326 p P) .nil .nil) .nil)) (.node (x95 p P) (.node (x161 p P) (.node (x294 p P) .nil .nil) .nil) (.node (x228 p P) (.node (x358 p P) .nil .nil) .nil))) (.node (x47 p P) (.node (x79 p P) (.node (x145 p P) (.node (x276 p P) .nil .nil) .nil) (.node (x209 p P) (.node (x342 p P) .nil .nil) .nil)) (.node (x113 p P) (.node (x177 p P) (.node (x310 p P) .nil .nil) .nil) (.node (x244 p P) .nil .nil))))) (.node (x289 p P) (.node (x11 p P) (.node (x27 p P) (.node (x59 p P) (.node (x125 p P) (.node (x256 p P) .nil .nil) .nil) (.node (x189 p P) (.node (x322 p P) .nil .nil) .nil)) (.node (x91 p P) (.node (x157 p P) (.node (x290 p P) .nil .nil) .nil) (.node (x224 p P) (.node (x354 p P) .nil .nil) .nil))) (.node (x43 p P) (.node (x75 p P) (.node (x141 p P) (.node (x272 p P) .nil .nil) .nil) (.node (x205 p P) (.node (x338 p P) .nil .nil) .nil)) (.node (x107 p P) (.node (x173 p P) (.node (x306 p P) .nil .nil) .nil) (.node (x240 p P) (.node (x370 p P) .nil .nil) .nil)))) (.node (x19 p P) (.node (x35 p P) (.node (x67 p P) (.node (x133 p P) (.node (x264 p P) .nil .nil) .nil) (.node (x197 p P) (.node (x330 p P) .nil .nil) .nil)) (.node (x99 p P) (.node (x165 p P) (.node (x298 p P) .nil .nil) .nil) (.node (x232 p P) (.node (x362 p P) .nil .nil) .nil))) (.node (x51 p P) (.node (x83 p P) (.node (x149 p P) (.node (x280 p P) .nil .nil) .nil) (.node (x213 p P) (.node (x346 p P) .nil .nil) .nil)) (.node (x117 p P) (.node (x181 p P) (.node (x314 p P) .nil .nil) .nil) (.node (x248 p P) .nil .nil)))))) (.node (boot_o_6 P) (.node (boot_o_10 P) (.node (x9 p P) (.node (x25 p P) (.node (x57 p P) (.node (x123 p P) (.node (x254 p P) .nil .nil) .nil) (.node (x187 p P) (.node (x320 p P) .nil .nil) .nil)) (.node (x89 p P) (.node (x155 p P) (.node (x286 p P) .nil .nil) .nil) (.node (x222 p P) (.node (x352 p P) .nil .nil) .nil))) (.node (x41 p P) (.node (x73 p P) (.node (x139 p P) (.node (x270 p P) .nil .nil) .nil) (.node (x203 p P) (.node (x336 p P) .nil .nil) .nil)) (.node (x105 p P) (.node (x171 p P) (.node (x304 p P) .nil .nil) .nil) (.node (x238 p P) (.node (x368 p P) .nil .nil) .nil)))) (.node (x17 p P) (.node (x33 p P) (.node (x65 p P) (.node (x131 p P) (.node (x262 p P) .nil .nil) .nil) (.node (x195 p P) (.node (x328 p P) .nil .nil) .nil)) (.node (x97 p P) (.node (x163 p P) (.node (x296 p P) .nil .nil) .nil) (.node (x230 p P) (.node (x360 p P) .nil .nil) .nil))) (.node (x49 p P) (.node (x81 p P) (.node (x147 p P) (.node (x278 p P) .nil .nil) .nil) (.node (x211 p P) (.node (x344 p P) .nil .nil) .nil)) (.node (x115 p P) (.node (x179 p P) (.node (x312 p P) .nil .nil) .nil) (.node (x246 p P) .nil .nil))))) (.node (x3 p P) (.node (x13 p P) (.node (x29 p P) (.node (x61 p P) (.node (x127 p P) (.node (x258 p P) .nil .nil) .nil) (.node (x191 p P) (.node (x324 p P) .nil .nil) .nil)) (.node (x93 p P) (.node (x159 p P) (.node (x292 p P) .nil .nil) .nil) (.node (x226 p P) (.node (x356 p P) .nil .nil) .nil))) (.node (x45 p P) (.node (x77 p P) (.node (x143 p P) (.node (x274 p P) .nil .nil) .nil) (.node (x207 p P) (.node (x340 p P) .nil .nil) .nil)) (.node (x109 p P) (.node (x175 p P) (.node (x308 p P) .nil .nil) .nil) (.node (x242 p P) (.node (x372 p P) .nil .nil) .nil)))) (.node (x21 p P) (.node (x37 p P) (.node (x69 p P) (.node (x135 p P) (.node (x266 p P) .nil .nil) .nil) (.node (x199 p P) (.node (x332 p P) .nil .nil) .nil)) (.node (x101 p P) (.node (x167 p P) (.node (x300 p P) .nil .nil) .nil) (.node (x234 p P) (.node (x364 p P) .nil .nil) .nil))) (.node (x53 p P) (.node (x85 p P) (.node (x151 p P) (.node (x282 p P) .nil .nil) .nil) (.node (x215 p P) (.node (x348 p P) .nil .nil) .nil)) (.node (x119 p P) (.node (x183 p P) (.node (x316 p P) .nil .nil) .nil) (.node (x250 p P) .nil .nil))))))))
noncomputable def t5 (p : Program) (P : Params) : BT := (.node (boot_o_0 P) (.node (boot_o_1 P) (.node (x374 p P) (.node (boot_o_7 P) (.node (x6 p P) (.node (x22 p P) (.node (x54 p P) (.node (x120 p P) (.node (x251 p P) .nil .nil) (.node (x383 p P) .nil .nil)) (.node (x184 p P) (.node (x317 p P) .nil .nil) (.node (x447 p P) .nil .nil))) (.node (x86 p P) (.node (x152 p P) (.node (x283 p P) .nil .nil) (.node (x415 p P) .nil .nil)) (.node (x216 p P) (.node (x349 p P) .nil .nil) (.node (x479 p P) .nil .nil)))) (.node (x38 p P) (.node (x70 p P) (.node (x136 p P) (.node (x267 p P) .nil .nil) (.node (x399 p P) .nil .nil)) (.node (x200 p P) (.node (x333 p P) .nil .nil) (.node (x463 p P) .nil .nil))) (.node (x102 p P) (.node (x168 p P) (.node (x301 p P) .nil .nil) (.node (x431 p P) .nil .nil)) (.node (x235 p P) (.node (x365 p P) .nil .nil) .nil)))) (.node (x14 p P) (.node (x30 p P) (.node (x62 p P) (.node (x128 p P) (.node (x259 p P) .nil .nil) (.node (x391 p P) .nil .nil)) (.node (x192 p P) (.node (x325 p P) .nil .nil) (.node (x455 p P) .nil .nil))) (.node (x94 p P) (.node (x160 p P) (.node (x293 p P) .nil .nil) (.node (x423 p P) .nil .nil)) (.node (x227 p P) (.node (x357 p P) .nil .nil) (.node (x487 p P) .nil .nil)))) (.node (x46 p P) (.node (x78 p P) (.node (x144 p P) (.node (x275 p P) .nil .nil) (.node (x407 p P) .nil .nil)) (.node (x208 p P) (.node (x341 p P) .nil .nil) (.node (x471 p P) .nil .nil))) (.node (x110 p P) (.node (x176 p P) (.node (x309 p P) .nil .nil) (.node (x439 p P) .nil .nil)) (.node (x243 p P) (.node (x373 p P) .nil .nil) .nil))))) (.node (x0 p P) (.node (x10 p P) (.node (x26 p P) (.node (x58 p P) (.node (x124 p P) (.node (x255 p P) .nil .nil) (.node (x387 p P) .nil .nil)) (.node (x188 p P) (.node (x321 p P) .nil .nil) (.node (x451 p P) .nil .nil))) (.node (x90 p P) (.node (x156 p P) (.node (x287 p P) .nil .nil) (.node (x419 p P) .nil .nil)) (.node (x223 p P) (.node (x353 p P) .nil .nil) (.node (x483 p P) .nil .nil)))) (.node (x42 p P) (.node (x74 p P) (.node (x140 p P) (.node (x271 p P) .nil .nil) (.node (x403 p P) .nil .nil)) (.node (x204 p P) (.node (x337 p P) .nil .nil) (.node (x467 p P) .nil .nil))) (.node (x106 p P) (.node (x172 p P) (.node (x305 p P) .nil .nil) (.node (x435 p P) .nil .nil)) (.node (x239 p P) (.node (x369 p P) .nil .nil) .nil)))) (.node (x18 p P) (.node (x34 p P) (.node (x66 p P) (.node (x132 p P) (.node (x263 p P) .nil .nil) (.node (x395 p P) .nil .nil)) (.node (x196 p P) (.node (x329 p P) .nil .nil) (.node (x459 p P) .nil .nil))) (.node (x98 p P) (.node (x164 p P) (.node (x297 p P) .nil .nil) (.node (x427 p P) .nil .nil)) (.node (x231 p P) (.node (x361 p P) .nil .nil) .nil))) (.node (x50 p P) (.node (x82 p P) (.node (x148 p P) (.node (x279 p P) .nil .nil) (.node (x411 p P) .nil .nil)) (.node (x212 p P) (.node (x345 p P) .nil .nil) (.node (x475 p P) .nil .nil))) (.node (x116 p P) (.node (x180 p P) (.node (x313 p P) .nil .nil) (.node (x443 p P) .nil .nil)) (.node (x247 p P) (.node (x379 p P) .nil .nil) .nil)))))) (.node (boot_o_5 P) (.node (boot_o_9 P) (.node (x8 p P) (.node (x24 p P) (.node (x56 p P) (.node (x122 p P) (.node (x253 p P) .nil .nil) (.node (x385 p P) .nil .nil)) (.node (x186 p P) (.node (x319 p P) .nil .nil) (.node (x449 p P) .nil .nil))) (.node (x88 p P) (.node (x154 p P) (.node (x285 p P) .nil .nil) (.node (x417 p P) .nil .nil)) (.node (x221 p P) (.node (x351 p P) .nil .nil) (.node (x481 p P) .nil .nil)))) (.node (x40 p P) (.node (x72 p P) (.node (x138 p P) (.node (x269 p P) .nil .nil) (.node (x401 p P) .nil .nil)) (.node (x202 p P) (.node (x335 p P) .nil .nil) (.node (x465 p P) .nil .nil))) (.node (x104 p P) (.node (x170 p P) (.node (x303 p P) .nil .nil) (.node (x433 p P) .nil .nil)) (.node (x237 p P) (.node (x367 p P) .nil .nil) .nil)))) (.node (x16 p P) (.node (x32 p P) (.node (x64 p P) (.node (x130 p P) (.node (x261 p P) .nil .nil) (.node (x393 p P) .nil .nil)) (.node (x194 p P) (.node (x327 p P) .nil .nil) (.node (x457 p P) .nil .nil))) (.node (x96 p P) (.node (x162 p P) (.node (x295 p P) .nil .nil) (.node (x425 p P) .nil .nil)) (.node (x229 p P) (.node (x359 p P) .nil .nil) (.node (x489 p P) .nil .nil)))) (.node (x48 p P) (.node (x80 p P) (.node (x146 p P) (.node (x277 p P) .nil .nil) (.node (x409 p P) .nil .nil)) (.node (x210 p P) (.node (x343 p P) .nil .nil) (.node (x473 p P) .nil .nil))) (.node (x114 p P) (.node (x178 p P) (.node (x311 p P) .nil .nil) (.node (x441 p P) .nil .nil)) (.node (x245 p P) (.node (x377 p P) .nil .nil) .nil))))) (.node (x2 p P) (.node (x12 p P) (.node (x28 p P) (.node (x60 p P) (.node (x126 p P) (.node (x257 p P) .nil .nil) (.node (x389 p P) .nil .nil)) (.node (x190 p P) (.node (x323 p P) .nil .nil) (.node (x453 p P) .nil .nil))) (.node (x92 p P) (.node (x158 p P) (.node (x291 p P) .nil .nil) (.node (x421 p P) .nil .nil)) (.node (x225 p P) (.node (x355 p P) .nil .nil) (.node (x485 p P) .nil .nil)))) (.node (x44 p P) (.node (x76 p P) (.node (x142 p P) (.node (x273 p P) .nil .nil) (.node (x405 p P) .nil .nil)) (.node (x206 p P) (.node (x339 p P) .nil .nil) (.node (x469 p P) .nil .nil))) (.node (x108 p P) (.node (x174 p P) (.node (x307 p P) .nil .nil) (.node (x437 p P) .nil .nil)) (.node (x241 p P) (.node (x371 p P) .nil .nil) .nil)))) (.node (x20 p P) (.node (x36 p P) (.node (x68 p P) (.node (x134 p P) (.node (x265 p P) .nil .nil) (.node (x397 p P) .nil .nil)) (.node (x198 p P) (.node (x331 p P) .nil .nil) (.node (x461 p P) .nil .nil))) (.node (x100 p P) (.node (x166 p P) (.node (x299 p P) .nil .nil) (.node (x429 p P) .nil .nil)) (.node (x233 p P) (.node (x363 p P) .nil .nil) .nil))) (.node (x52 p P) (.node (x84 p P) (.node (x150 p P) (.node (x281 p P) .nil .nil) (.node (x413 p P) .nil .nil)) (.node (x214 p P) (.node (x347 p P) .nil .nil) (.node (x477 p P) .nil .nil))) (.node (x118 p P) (.node (x182 p P) (.node (x315 p P) .nil .nil) (.node (x445 p P) .nil .nil)) (.node (x249 p P) (.node (x381 p P) .nil .nil) .nil))))))) (.node (x218 p P) (.node (boot_o_4 P) (.node (boot_o_8 P) (.node (x7 p P) (.node (x23 p P) (.node (x55 p P) (.node (x121 p P) (.node (x252 p P) .nil .nil) (.node (x384 p P) .nil .nil)) (.node (x185 p P) (.node (x318 p P) .nil .nil) (.node (x448 p P) .nil .nil))) (.node (x87 p P) (.node (x153 p P) (.node (x284 p P) .nil .nil) (.node (x416 p P) .nil .nil)) (.node (x217 p P) (.node (x350 p P) .nil .nil) (.node (x480 p P) .nil .nil)))) (.node (x39 p P) (.node (x71 p P) (.node (x137 p P) (.node (x268 p P) .nil .nil) (.node (x400 p P) .nil .nil)) (.node (x201 p P) (.node (x334 p P) .nil .nil) (.node (x464 p P) .nil .nil))) (.node (x103 p P) (.node (x169 p P) (.node (x302 p P) .nil .nil) (.node (x432 p P) .nil .nil)) (.node (x236 p P) (.node (x366 p P) .nil .nil) .nil)))) (.node (x15 p P) (.node (x31 p P) (.node (x63 p P) (.node (x129 p P) (.node (x260 p P) .nil .nil) (.node (x392 p P) .nil .nil)) (.node (x193 p P) (.node (x326 p P) .nil .nil) (.node (x456 p P) .nil .nil))) (.node (x95 p P) (.node (x161 p P) (.node (x294 p P) .nil .nil) (.node (x424 p P) .nil .nil)) (.node (x228 p P) (.node (x358 p P) .nil .nil) (.node (x488 p P) .nil .nil)))) (.node (x47 p P) (.node (x79 p P) (.node (x145 p P) (.node (x276 p P) .nil .nil) (.node (x408 p P) .nil .nil)) (.node (x209 p P) (.node (x342 p P) .nil .nil) (.node (x472 p P) .nil .nil))) (.node (x113 p P) (.node (x177 p P) (.node (x310 p P) .nil .nil) (.node (x440 p P) .nil .nil)) (.node (x244 p P) (.node (x376 p P) .nil .nil) .nil))))) (.node (x375 p P) (.node (x11 p P) (.node (x27 p P) (.node (x59 p P) (.node (x125 p P) (.node (x256 p P) .nil .nil) (.node (x388 p P) .nil .nil)) (.node (x189 p P) (.node (x322 p P) .nil .nil) (.node (x452 p P) .nil .nil))) (.node (x91 p P) (.node (x157 p P) (.node (x290 p P) .nil .nil) (.node (x420 p P) .nil .nil)) (.node (x224 p P) (.node (x354 p P) .nil .nil) (.node (x484 p P) .nil .nil)))) (.node (x43 p P) (.node (x75 p P) (.node (x141 p P) (.node (x272 p P) .nil .nil) (.node (x404 p P) .nil .nil)) (.node (x205 p P) (.node (x338 p P) .nil .nil) (.node (x468 p P) .nil .nil))) (.node (x107 p P) (.node (x173 p P) (.node (x306 p P) .nil .nil) (.node (x436 p P) .nil .nil)) (.node (x240 p P) (.node (x370 p P) .nil .nil) .nil)))) (.node (x19 p P) (.node (x35 p P) (.node (x67 p P) (.node (x133 p P) (.node (x264 p P) .nil .nil) (.node (x396 p P) .nil .nil)) (.node (x197 p P) (.node (x330 p P) .nil .nil) (.node (x460 p P) .nil .nil))) (.node (x99 p P) (.node (x165 p P) (.node (x298 p P) .nil .nil) (.node (x428 p P) .nil .nil)) (.node (x232 p P) (.node (x362 p P) .nil .nil) .nil))) (.node (x51 p P) (.node (x83 p P) (.node (x149 p P) (.node (x280 p P) .nil .nil) (.node (x412 p P) .nil .nil)) (.node (x213 p P) (.node (x346 p P) .nil .nil) (.node (x476 p P) .nil .nil))) (.node (x117 p P) (.node (x181 p P) (.node (x314 p P) .nil .nil) (.node (x444 p P) .nil .nil)) (.node (x248 p P) (.node (x380 p P) .nil .nil) .nil)))))) (.node (boot_o_6 P) (.node (boot_o_10 P) (.node (x9 p P) (.node (x25 p P) (.node (x57 p P) (.node (x123 p P) (.node (x254 p P) .nil .nil) (.node (x386 p P) .nil .nil)) (.node (x187 p P) (.node (x320 p P) .nil .nil) (.node (x450 p P) .nil .nil))) (.node (x89 p P) (.node (x155 p P) (.node (x286 p P) .nil .nil) (.node (x418 p P) .nil .nil)) (.node (x222 p P) (.node (x352 p P) .nil .nil) (.node (x482 p P) .nil .nil)))) (.node (x41 p P) (.node (x73 p P) (.node (x139 p P) (.node (x270 p P) .nil .nil) (.node (x402 p P) .nil .nil)) (.node (x203 p P) (.node (x336 p P) .nil .nil) (.node (x466 p P) .nil .nil))) (.node (x105 p P) (.node (x171 p P) (.node (x304 p P) .nil .nil) (.node (x434 p P) .nil .nil)) (.node (x238 p P) (.node (x368 p P) .nil .nil) .nil)))) (.node (x17 p P) (.node (x33 p P) (.node (x65 p P) (.node (x131 p P) (.node (x262 p P) .nil .nil) (.node (x394 p P) .nil .nil)) (.node (x195 p P) (.node (x328 p P) .nil .nil) (.node (x458 p P) .nil .nil))) (.node (x97 p P) (.node (x163 p P) (.node (x296 p P) .nil .nil) (.node (x426 p P) .nil .nil)) (.node (x230 p P) (.node (x360 p P) .nil .nil) (.node (x490 p P) .nil .nil)))) (.node (x49 p P) (.node (x81 p P) (.node (x147 p P) (.node (x278 p P) .nil .nil) (.node (x410 p P) .nil .nil)) (.node (x211 p P) (.node (x344 p P) .nil .nil) (.node (x474 p P) .nil .nil))) (.node (x115 p P) (.node (x179 p P) (.node (x312 p P) .nil .nil) (.node (x442 p P) .nil .nil)) (.node (x246 p P) (.node (x378 p P) .nil .nil) .nil))))) (.node (x3 p P) (.node (x13 p P) (.node (x29 p P) (.node (x61 p P) (.node (x127 p P) (.node (x258 p P) .nil .nil) (.node (x390 p P) .nil .nil)) (.node (x191 p P) (.node (x324 p P) .nil .nil) (.node (x454 p P) .nil .nil))) (.node (x93 p P) (.node (x159 p P) (.node (x292 p P) .nil .nil) (.node (x422 p P) .nil .nil)) (.node (x226 p P) (.node (x356 p P) .nil .nil) (.node (x486 p P) .nil .nil)))) (.node (x45 p P) (.node (x77 p P) (.node (x143 p P) (.node (x274 p P) .nil .nil) (.node (x406 p P) .nil .nil)) (.node (x207 p P) (.node (x340 p P) .nil .nil) (.node (x470 p P) .nil .nil))) (.node (x109 p P) (.node (x175 p P) (.node (x308 p P) .nil .nil) (.node (x438 p P) .nil .nil)) (.node (x242 p P) (.node (x372 p P) .nil .nil) .nil)))) (.node (x21 p P) (.node (x37 p P) (.node (x69 p P) (.node (x135 p P) (.node (x266 p P) .nil .nil) (.node (x398 p P) .nil .nil)) (.node (x199 p P) (.node (x332 p P) .nil .nil) (.node (x462 p P) .nil .nil))) (.node (x101 p P) (.node (x167 p P) (.node (x300 p P) .nil .nil) (.node (x430 p P) .nil .nil)) (.node (x234 p P) (.node (x364 p P) .nil .nil) .nil))) (.node (x53 p P) (.node (x85 p P) (.node (x151 p P) (.node (x282 p P) .nil .nil) (.node (x414 p P) .nil .nil)) (.node (x215 p P) (.node (x348 p P) .nil .nil) (.node (x478 p P) .nil .nil))) (.node (x119 p P) (.node (x183 p P) (.node (x316 p P) .nil .nil) (.node (x446 p P) .nil .nil)) (.node (x250 p P) (.node (x382 p P) .nil .nil) .nil))))))))
noncomputable def t6 (p : Program) (P : Params) : BT := (.node (boot_o_0 P) (.node (boot_o_1 P) (.node (x491 p P) (.node (boot_o_7 P) (.node (x6 p P) (.node (x22 p P) (.node (x54 p P) (.node (x120 p P) (.node (x251 p P) (.node (x513 p P) .nil .nil) .nil) (.node (x383 p P) .nil .nil)) (.node (x184 p P) (.node (x317 p P) .nil .nil) (.node (x447 p P) .nil .nil))) (.node (x86 p P) (.node (x152 p P) (.node (x283 p P) (.node (x545 p P) .nil .nil) .nil) (.node (x415 p P) .nil .nil)) (.node (x216 p P) (.node (x349 p P) .nil .nil) (.node (x479 p P) .nil .nil)))) (.node (x38 p P) (.node (x70 p P) (.node (x136 p P) (.node (x267 p P) (.node (x529 p P) .nil .nil) .nil) (.node (x399 p P) .nil .nil)) (.node (x200 p P) (.node (x333 p P) .nil .nil) (.node (x463 p P) .nil .nil))) (.node (x102 p P) (.node (x168 p P) (.node (x301 p P) .nil .nil) (.node (x431 p P) .nil .nil)) (.node (x235 p P) (.node (x365 p P) .nil .nil) (.node (x497 p P) .nil .nil))))) (.node (x14 p P) (.node (x30 p P) (.node (x62 p P) (.node (x128 p P) (.node (x259 p P) (.node (x521 p P) .nil .nil) .nil) (.node (x391 p P) .nil .nil)) (.node (x192 p P) (.node (x325 p P) .nil .nil) (.node (x455 p P) .nil .nil))) (.node (x94 p P) (.node (x160 p P) (.node (x293 p P) (.node (x553 p P) .nil .nil) .nil) (.node (x423 p P) .nil .nil)) (.node (x227 p P) (.node (x357 p P) .nil .nil) (.node (x487 p P) .nil .nil)))) (.node (x46 p P) (.node (x78 p P) (.node (x144 p P) (.node (x275 p P) (.node (x537 p P) .nil .nil) .nil) (.node (x407 p P) .nil .nil)) (.node (x208 p P) (.node (x341 p P) .nil .nil) (.node (x471 p P) .nil .nil))) (.node (x110 p P) (.node (x176 p P) (.node (x309 p P) .nil .nil) (.node (x439 p P) .nil .nil)) (.node (x243 p P) (.node (x373 p P) .nil .nil) (.node (x505 p P) .nil .nil)))))) (.node (x0 p P) (.node (x10 p P) (.node (x26 p P) (.node (x58 p P) (.node (x124 p P) (.node (x255 p P) (.node (x517 p P) .nil .nil) .nil) (.node (x387 p P) .nil .nil)) (.node (x188 p P) (.node (x321 p P) .nil .nil) (.node (x451 p P) .nil .nil))) (.node (x90 p P) (.node (x156 p P) (.node (x287 p P) (.node (x549 p P) .nil .nil) .nil) (.node (x419 p P) .nil .nil)) (.node (x223 p P) (.node (x353 p P) .nil .nil) (.node (x483 p P) .nil .nil)))) (.node (x42 p P) (.node (x74 p P) (.node (x140 p P) (.node (x271 p P) (.node (x533 p P) .nil .nil) .nil) (.node (x403 p P) .nil .nil)) (.node (x204 p P) (.node (x337 p P) .nil .nil) (.node (x467 p P) .nil .nil))) (.node (x106 p P) (.node (x172 p P) (.node (x305 p P) .nil .nil) (.node (x435 p P) .nil .nil)) (.node (x239 p P) (.node (x369 p P) .nil .nil) (.node (x501 p P) .nil .nil))))) (.node (x18 p P) (.node (x34 p P) (.node (x66 p P) (.node (x132 p P) (.node (x263 p P) (.node (x525 p P) .nil .nil) .nil) (.node (x395 p P) .nil .nil)) (.node (x196 p P) (.node (x329 p P) .nil .nil) (.node (x459 p P) .nil .nil))) (.node (x98 p P) (.node (x164 p P) (.node (x297 p P) (.node (x557 p P) .nil .nil) .nil) (.node (x427 p P) .nil .nil)) (.node (x231 p P) (.node (x361 p P) .nil .nil) (.node (x493 p P) .nil .nil)))) (.node (x50 p P) (.node (x82 p P) (.node (x148 p P) (.node (x279 p P) (.node (x541 p P) .nil .nil) .nil) (.node (x411 p P) .nil .nil)) (.node (x212 p P) (.node (x345 p P) .nil .nil) (.node (x475 p P) .nil .nil))) (.node (x116 p P) (.node (x180 p P) (.node (x313 p P) .nil .nil) (.node (x443 p P) .nil .nil)) (.node (x247 p P) (.node (x379 p P) .nil .nil) (.node (x509 p P) .nil .nil))))))) (.node (boot_o_5 P) (.node (boot_o_9 P) (.node (x8 p P) (.node (x24 p P) (.node (x56 p P) (.node (x122 p P) (.node (x253 p P) (.node (x515 p P) .nil .nil) .nil) (.node (x385 p P) .nil .nil)) (.node (x186 p P) (.node (x319 p P) .nil .nil) (.node (x449 p P) .nil .nil))) (.node (x88 p P) (.node (x154 p P) (.node (x285 p P) (.node (x547 p P) .nil .nil) .nil) (.node (x417 p P) .nil .nil)) (.node (x221 p P) (.node (x351 p P) .nil .nil) (.node (x481 p P) .nil .nil)))) (.node (x40 p P) (.node (x72 p P) (.node (x138 p P) (.node (x269 p P) (.node (x531 p P) .nil .nil) .nil) (.node (x401 p P) .nil .nil)) (.node (x202 p P) (.node (x335 p P) .nil .nil) (.node (x465 p P) .nil .nil))) (.node (x104 p P) (.node (x170 p P) (.node (x303 p P) .nil .nil) (.node (x433 p P) .nil .nil)) (.node (x237 p P) (.node (x367 p P) .nil .nil) (.node (x499 p P) .nil .nil))))) (.node (x16 p P) (.node (x32 p P) (.node (x64 p P) (.node (x130 p P) (.node (x261 p P) (.node (x523 p P) .nil .nil) .nil) (.node (x393 p P) .nil .nil)) (.node (x194 p P) (.node (x327 p P) .nil .nil) (.node (x457 p P) .nil .nil))) (.node (x96 p P) (.node (x162 p P) (.node (x295 p P) (.node (x555 p P) .nil .nil) .nil) (.node (x425 p P) .nil .nil)) (.node (x229 p P) (.node (x359 p P) .nil .nil) (.node (x489 p P) .nil .nil)))) (.node (x48 p P) (.node (x80 p P) (.node (x146 p P) (.node (x277 p P) (.node (x539 p P) .nil .nil) .nil) (.node (x409 p P) .nil .nil)) (.node (x210 p P) (.node (x343 p P) .nil .nil) (.node (x473 p P) .nil .nil))) (.node (x114 p P) (.node (x178 p P) (.node (x311 p P) .nil .nil) (.node (x441 p P) .nil .nil)) (.node (x245 p P) (.node (x377 p P) .nil .nil) (.node (x507 p P) .nil .nil)))))) (.node (x2 p P) (.node (x12 p P) (.node (x28 p P) (.node (x60 p P) (.node (x126 p P) (.node (x257 p P) (.node (x519 p P) .nil .nil) .nil) (.node (x389 p P) .nil .nil)) (.node (x190 p P) (.node (x323 p P) .nil .nil) (.node (x453 p P) .nil .nil))) (.node (x92 p P) (.node (x158 p P) (.node (x291 p P) (.node (x551 p P) .nil .nil) .nil) (.node (x421 p P) .nil .nil)) (.node (x225 p P) (.node (x355 p P) .nil .nil) (.node (x485 p P) .nil .nil)))) (.node (x44 p P) (.node (x76 p P) (.node (x142 p P) (.node (x273 p P) (.node (x535 p P) .nil .nil) .nil) (.node (x405 p P) .nil .nil)) (.node (x206 p P) (.node (x339 p P) .nil .nil) (.node (x469 p P) .nil .nil))) (.node (x108 p P) (.node (x174 p P) (.node (x307 p P) .nil .nil) (.node (x437 p P) .nil .nil)) (.node (x241 p P) (.node (x371 p P) .nil .nil) (.node (x503 p P) .nil .nil))))) (.node (x20 p P) (.node (x36 p P) (.node (x68 p P) (.node (x134 p P) (.node (x265 p P) (.node (x527 p P) .nil .nil) .nil) (.node (x397 p P) .nil .nil)) (.node (x198 p P) (.node (x331 p P) .nil .nil) (.node (x461 p P) .nil .nil))) (.node (x100 p P) (.node (x166 p P) (.node (x299 p P) .nil .nil) (.node (x429 p P) .nil .nil)) (.node (x233 p P) (.node (x363 p P) .nil .nil) (.node (x495 p P) .nil .nil)))) (.node (x52 p P) (.node (x84 p P) (.node (x150 p P) (.node (x281 p P) (.node (x543 p P) .nil .nil) .nil) (.node (x413 p P) .nil .nil)) (.node (x214 p P) (.node (x347 p P) .nil .nil) (.node (x477 p P) .nil .nil))) (.node (x118 p P) (.node (x182 p P) (.node (x315 p P) .nil .nil) (.node (x445 p P) .nil .nil)) (.node (x249 p P) (.node (x381 p P) .nil .nil) (.node (x511 p P) .nil .nil)))))))) (.node (x218 p P) (.node (boot_o_4 P) (.node (boot_o_8 P) (.node (x7 p P) (.node (x23 p P) (.node (x55 p P) (.node (x121 p P) (.node (x252 p P) (.node (x514 p P) .nil .nil) .nil) (.node (x384 p P) .nil .nil)) (.node (x185 p P) (.node (x318 p P) .nil .nil) (.node (x448 p P) .nil .nil))) (.node (x87 p P) (.node (x153 p P) (.node (x284 p P) (.node (x546 p P) .nil .nil) .nil) (.node (x416 p P) .nil .nil)) (.node (x217 p P) (.node (x350 p P) .nil .nil) (.node (x480 p P) .nil .nil)))) (.node (x39 p P) (.node (x71 p P) (.node (x137 p P) (.node (x268 p P) (.node (x530 p P) .nil .nil) .nil) (.node (x400 p P) .nil .nil)) (.node (x201 p P) (.node (x334 p P) .nil .nil) (.node (x464 p P) .nil .nil))) (.node (x103 p P) (.node (x169 p P) (.node (x302 p P) .nil .nil) (.node (x432 p P) .nil .nil)) (.node (x236 p P) (.node (x366 p P) .nil .nil) (.node (x498 p P) .nil .nil))))) (.node (x15 p P) (.node (x31 p P) (.node (x63 p P) (.node (x129 p P) (.node (x260 p P) (.node (x522 p P) .nil .nil) .nil) (.node (x392 p P) .nil .nil)) (.node (x193 p P) (.node (x326 p P) .nil .nil) (.node (x456 p P) .nil .nil))) (.node (x95 p P) (.node (x161 p P) (.node (x294 p P) (.node (x554 p P) .nil .nil) .nil) (.node (x424 p P) .nil .nil)) (.node (x228 p P) (.node (x358 p P) .nil .nil) (.node (x488 p P) .nil .nil)))) (.node (x47 p P) (.node (x79 p P) (.node (x145 p P) (.node (x276 p P) (.node (x538 p P) .nil .nil) .nil) (.node (x408 p P) .nil .nil)) (.node (x209 p P) (.node (x342 p P) .nil .nil) (.node (x472 p P) .nil .nil))) (.node (x113 p P) (.node (x177 p P) (.node (x310 p P) .nil .nil) (.node (x440 p P) .nil .nil)) (.node (x244 p P) (.node (x376 p P) .nil .nil) (.node (x506 p P) .nil .nil)))))) (.node (x492 p P) (.node (x11 p P) (.node (x27 p P) (.node (x59 p P) (.node (x125 p P) (.node (x256 p P) (.node (x518 p P) .nil .nil) .nil) (.node (x388 p P) .nil .nil)) (.node (x189 p P) (.node (x322 p P) .nil .nil) (.node (x452 p P) .nil .nil))) (.node (x91 p P) (.node (x157 p P) (.node (x290 p P) (.node (x550 p P) .nil .nil) .nil) (.node (x420 p P) .nil .nil)) (.node (x224 p P) (.node (x354 p P) .nil .nil) (.node (x484 p P) .nil .nil)))) (.node (x43 p P) (.node (x75 p P) (.node (x141 p P) (.node (x272 p P) (.node (x534 p P) .nil .nil) .nil) (.node (x404 p P) .nil .nil)) (.node (x205 p P) (.node (x338 p P) .nil .nil) (.node (x468 p P) .nil .nil))) (.node (x107 p P) (.node (x173 p P) (.node (x306 p P) .nil .nil) (.node (x436 p P) .nil .nil)) (.node (x240 p P) (.node (x370 p P) .nil .nil) (.node (x502 p P) .nil .nil))))) (.node (x19 p P) (.node (x35 p P) (.node (x67 p P) (.node (x133 p P) (.node (x264 p P) (.node (x526 p P) .nil .nil) .nil) (.node (x396 p P) .nil .nil)) (.node (x197 p P) (.node (x330 p P) .nil .nil) (.node (x460 p P) .nil .nil))) (.node (x99 p P) (.node (x165 p P) (.node (x298 p P) (.node (x558 p P) .nil .nil) .nil) (.node (x428 p P) .nil .nil)) (.node (x232 p P) (.node (x362 p P) .nil .nil) (.node (x494 p P) .nil .nil)))) (.node (x51 p P) (.node (x83 p P) (.node (x149 p P) (.node (x280 p P) (.node (x542 p P) .nil .nil) .nil) (.node (x412 p P) .nil .nil)) (.node (x213 p P) (.node (x346 p P) .nil .nil) (.node (x476 p P) .nil .nil))) (.node (x117 p P) (.node (x181 p P) (.node (x314 p P) .nil .nil) (.node (x444 p P) .nil .nil)) (.node (x248 p P) (.node (x380 p P) .nil .nil) (.node (x510 p P) .nil .nil))))))) (.node (boot_o_6 P) (.node (boot_o_10 P) (.node (x9 p P) (.node (x25 p P) (.node (x57 p P) (.node (x123 p P) (.node (x254 p P) (.node (x516 p P) .nil .nil) .nil) (.node (x386 p P) .nil .nil)) (.node (x187 p P) (.node (x320 p P) .nil .nil) (.node (x450 p P) .nil .nil))) (.node (x89 p P) (.node (x155 p P) (.node (x286 p P) (.node (x548 p P) .nil .nil) .nil) (.node (x418 p P) .nil .nil)) (.node (x222 p P) (.node (x352 p P) .nil .nil) (.node (x482 p P) .nil .nil)))) (.node (x41 p P) (.node (x73 p P) (.node (x139 p P) (.node (x270 p P) (.node (x532 p P) .nil .nil) .nil) (.node (x402 p P) .nil .nil)) (.node (x203 p P) (.node (x336 p P) .nil .nil) (.node (x466 p P) .nil .nil))) (.node (x105 p P) (.node (x171 p P) (.node (x304 p P) .nil .nil) (.node (x434 p P) .nil .nil)) (.node (x238 p P) (.node (x368 p P) .nil .nil) (.node (x500 p P) .nil .nil))))) (.node (x17 p P) (.node (x33 p P) (.node (x65 p P) (.node (x131 p P) (.node (x262 p P) (.node (x524 p P) .nil .nil) .nil) (.node (x394 p P) .nil .nil)) (.node (x195 p P) (.node (x328 p P) .nil .nil) (.node (x458 p P) .nil .nil))) (.node (x97 p P) (.node (x163 p P) (.node (x296 p P) (.node (x556 p P) .nil .nil) .nil) (.node (x426 p P) .nil .nil)) (.node (x230 p P) (.node (x360 p P) .nil .nil) (.node (x490 p P) .nil .nil)))) (.node (x49 p P) (.node (x81 p P) (.node (x147 p P) (.node (x278 p P) (.node (x540 p P) .nil .nil) .nil) (.node (x410 p P) .nil .nil)) (.node (x211 p P) (.node (x344 p P) .nil .nil) (.node (x474 p P) .nil .nil))) (.node (x115 p P) (.node (x179 p P) (.node (x312 p P) .nil .nil) (.node (x442 p P) .nil .nil)) (.node (x246 p P) (.node (x378 p P) .nil .nil) (.node (x508 p P) .nil .nil)))))) (.node (x3 p P) (.node (x13 p P) (.node (x29 p P) (.node (x61 p P) (.node (x127 p P) (.node (x258 p P) (.node (x520 p P) .nil .nil) .nil) (.node (x390 p P) .nil .nil)) (.node (x191 p P) (.node (x324 p P) .nil .nil) (.node (x454 p P) .nil .nil))) (.node (x93 p P) (.node (x159 p P) (.node (x292 p P) (.node (x552 p P) .nil .nil) .nil) (.node (x422 p P) .nil .nil)) (.node (x226 p P) (.node (x356 p P) .nil .nil) (.node (x486 p P) .nil .nil)))) (.node (x45 p P) (.node (x77 p P) (.node (x143 p P) (.node (x274 p P) (.node (x536 p P) .nil .nil) .nil) (.node (x406 p P) .nil .nil)) (.node (x207 p P) (.node (x340 p P) .nil .nil) (.node (x470 p P) .nil .nil))) (.node (x109 p P) (.node (x175 p P) (.node (x308 p P) .nil .nil) (.node (x438 p P) .nil .nil)) (.node (x242 p P) (.node (x372 p P) .nil .nil) (.node (x504 p P) .nil .nil))))) (.node (x21 p P) (.node (x37 p P) (.node (x69 p P) (.node (x135 p P) (.node (x266 p P) (.node (x528 p P) .nil .nil) .nil) (.node (x398 p P) .nil .nil)) (.node (x199 p P) (.node (x332 p P) .nil .nil) (.node (x462 p P) .nil .nil))) (.node (x101 p P) (.node (x167 p P) (.node (x300 p P) .nil .nil) (.node (x430 p P) .nil .nil)) (.node (x234 p P) (.node (x364 p P) .nil .nil) (.node (x496 p P) .nil .nil)))) (.node (x53 p P) (.node (x85 p P) (.node (x151 p P) (.node (x282 p P) (.node (x544 p P) .nil .nil) .nil) (.node (x414 p P) .nil .nil)) (.node (x215 p P) (.node (x348 p P) .nil .nil) (.node (x478 p P) .nil .nil))) (.node (x119 p P) (.node (x183 p P) (.node (x316 p P) .nil .nil) (.node (x446 p P) .nil .nil)) (.node (x250 p P) (.node (x382 p P) .nil .nil) (.node (x512 p P) .nil .nil)))))))))
noncomputable def t7 (p : Program) (P : Params) : BT := (.node (boot_o_0 P) (.node (boot_o_1 P) (.node (x559 p P) (.node (boot_o_7 P) (.node (x6 p P) (.node (x22 p P) (.node (x54 p P) (.node (x120 p P) (.node (x251 p P) (.node (x513 p P) .nil .nil) .nil) (.node (x383 p P) (.node (x643 p P) .nil .nil) .nil)) (.node (x184 p P) (.node (x317 p P) (.node (x579 p P) .nil .nil) .nil) (.node (x447 p P) (.node (x707 p P) .nil .nil) .nil))) (.node (x86 p P) (.node (x152 p P) (.node (x283 p P) (.node (x545 p P) .nil .nil) .nil) (.node (x415 p P) (.node (x675 p P) .nil .nil) .nil)) (.node (x216 p P) (.node (x349 p P) (.node (x611 p P) .nil .nil) .nil) (.node (x479 p P) .nil .nil)))) (.node (x38 p P) (.node (x70 p P) (.node (x136 p P) (.node (x267 p P) (.node (x529 p P) .nil .nil) .nil) (.node (x399 p P) (.node (x659 p P) .nil .nil) .nil)) (.node (x200 p P) (.node (x333 p P) (.node (x595 p P) .nil .nil) .nil) (.node (x463 p P) (.node (x723 p P) .nil .nil) .nil))) (.node (x102 p P) (.node (x168 p P) (.node (x301 p P) (.node (x563 p P) .nil .nil) .nil) (.node (x431 p P) (.node (x691 p P) .nil .nil) .nil)) (.node (x235 p P) (.node (x365 p P) (.node (x627 p P) .nil .nil) .nil) (.node (x497 p P) .nil .nil))))) (.node (x14 p P) (.node (x30 p P) (.node (x62 p P) (.node (x128 p P) (.node (x259 p P) (.node (x521 p P) .nil .nil) .nil) (.node (x391 p P) (.node (x651 p P) .nil .nil) .nil)) (.node (x192 p P) (.node (x325 p P) (.node (x587 p P) .nil .nil) .nil) (.node (x455 p P) (.node (x715 p P) .nil .nil) .nil))) (.node (x94 p P) (.node (x160 p P) (.node (x293 p P) (.node (x553 p P) .nil .nil) .nil) (.node (x423 p P) (.node (x683 p P) .nil .nil) .nil)) (.node (x227 p P) (.node (x357 p P) (.node (x619 p P) .nil .nil) .nil) (.node (x487 p P) .nil .nil)))) (.node (x46 p P) (.node (x78 p P) (.node (x144 p P) (.node (x275 p P) (.node (x537 p P) .nil .nil) .nil) (.node (x407 p P) (.node (x667 p P) .nil .nil) .nil)) (.node (x208 p P) (.node (x341 p P) (.node (x603 p P) .nil .nil) .nil) (.node (x471 p P) .nil .nil))) (.node (x110 p P) (.node (x176 p P) (.node (x309 p P) (.node (x571 p P) .nil .nil) .nil) (.node (x439 p P) (.node (x699 p P) .nil .nil) .nil)) (.node (x243 p P) (.node (x373 p P) (.node (x635 p P) .nil .nil) .nil) (.node (x505 p P) .nil .nil)))))) (.node (x0 p P) (.node (x10 p P) (.node (x26 p P) (.node (x58 p P) (.node (x124 p P) (.node (x255 p P) (.node (x517 p P) .nil .nil) .nil) (.node (x387 p P) (.node (x647 p P) .nil .nil) .nil)) (.node (x188 p P) (.node (x321 p P) (.node (x583 p P) .nil .nil) .nil) (.node (x451 p P) (.node (x711 p P) .nil .nil) .nil))) (.node (x90 p P) (.node (x156 p P) (.node (x287 p P) (.node (x549 p P) .nil .nil) .nil) (.node (x419 p P) (.node (x679 p P) .nil .nil) .nil)) (.node (x223 p P) (.node (x353 p P) (.node (x615 p P) .nil .nil) .nil) (.node (x483 p P) .nil .nil)))) (.node (x42 p P) (.node (x74 p P) (.node (x140 p P) (.node (x271 p P) (.node (x533 p P) .nil .nil) .nil) (.node (x403 p P) (.node (x663 p P) .nil .nil) .nil)) (.node (x204 p P) (.node (x337 p P) (.node (x599 p P) .nil .nil) .nil) (.node (x467 p P) (.node (x727 p P) .nil .nil) .nil))) (.node (x106 p P) (.node (x172 p P) (.node (x305 p P) (.node (x567 p P) .nil .nil) .nil) (.node (x435 p P) (.node (x695 p P) .nil .nil) .nil)) (.node (x239 p P) (.node (x369 p P) (.node (x631 p P) .nil .nil) .nil) (.node (x501 p P) .nil .nil))))) (.node (x18 p P) (.node (x34 p P) (.node (x66 p P) (.node (x132 p P) (.node (x263 p P) (.node (x525 p P) .nil .nil) .nil) (.node (x395 p P) (.node (x655 p P) .nil .nil) .nil)) (.node (x196 p P) (.node (x329 p P) (.node (x591 p P) .nil .nil) .nil) (.node (x459 p P) (.node (x719 p P) .nil .nil) .nil))) (.node (x98 p P) (.node (x164 p P) (.node (x297 p P) (.node (x557 p P) .nil .nil) .nil) (.node (x427 p P) (.node (x687 p P) .nil .nil) .nil)) (.node (x231 p P) (.node (x361 p P) (.node (x623 p P) .nil .nil) .nil) (.node (x493 p P) .nil .nil)))) (.node (x50 p P) (.node (x82 p P) (.node (x148 p P) (.node (x279 p P) (.node (x541 p P) .nil .nil) .nil) (.node (x411 p P) (.node (x671 p P) .nil .nil) .nil)) (.node (x212 p P) (.node (x345 p P) (.node (x607 p P) .nil .nil) .nil) (.node (x475 p P) .nil .nil))) (.node (x116 p P) (.node (x180 p P) (.node (x313 p P) (.node (x575 p P) .nil .nil) .nil) (.node (x443 p P) (.node (x703 p P) .nil .nil) .nil)) (.node (x247 p P) (.node (x379 p P) (.node (x639 p P) .nil .nil) .nil) (.node (x509 p P) .nil .nil))))))) (.node (boot_o_5 P) (.node (boot_o_9 P) (.node (x8 p P) (.node (x24 p P) (.node (x56 p P) (.node (x122 p P) (.node (x253 p P) (.node (x515 p P) .nil .nil) .nil) (.node (x385 p P) (.node (x645 p P) .nil .nil) .nil)) (.node (x186 p P) (.node (x319 p P) (.node (x581 p P) .nil .nil) .nil) (.node (x449 p P) (.node (x709 p P) .nil .nil) .nil))) (.node (x88 p P) (.node (x154 p P) (.node (x285 p P) (.node (x547 p P) .nil .nil) .nil) (.node (x417 p P) (.node (x677 p P) .nil .nil) .nil)) (.node (x221 p P) (.node (x351 p P) (.node (x613 p P) .nil .nil) .nil) (.node (x481 p P) .nil .nil)))) (.node (x40 p P) (.node (x72 p P) (.node (x138 p P) (.node (x269 p P) (.node (x531 p P) .nil .nil) .nil) (.node (x401 p P) (.node (x661 p P) .nil .nil) .nil)) (.node (x202 p P) (.node (x335 p P) (.node (x597 p P) .nil .nil) .nil) (.node (x465 p P) (.node (x725 p P) .nil .nil) .nil))) (.node (x104 p P) (.node (x170 p P) (.node (x303 p P) (.node (x565 p P) .nil .nil) .nil) (.node (x433 p P) (.node (x693 p P) .nil .nil) .nil)) (.node (x237 p P) (.node (x367 p P) (.node (x629 p P) .nil .nil) .nil) (.node (x499 p P) .nil .nil))))) (.node (x16 p P) (.node (x32 p P) (.node (x64 p P) (.node (x130 p P) (.node (x261 p P) (.node (x523 p P) .nil .nil) .nil) (.node (x393 p P) (.node (x653 p P) .nil .nil) .nil)) (.node (x194 p P) (.node (x327 p P) (.node (x589 p P) .nil .nil) .nil) (.node (x457 p P) (.node (x717 p P) .nil .nil) .nil))) (.node (x96 p P) (.node (x162 p P) (.node (x295 p P) (.node (x555 p P) .nil .nil) .nil) (.node (x425 p P) (.node (x685 p P) .nil .nil) .nil)) (.node (x229 p P) (.node (x359 p P) (.node (x621 p P) .nil .nil) .nil) (.node (x489 p P) .nil .nil)))) (.node (x48 p P) (.node (x80 p P) (.node (x146 p P) (.node (x277 p P) (.node (x539 p P) .nil .nil) .nil) (.node (x409 p P) (.node (x669 p P) .nil .nil) .nil)) (.node (x210 p P) (.node (x343 p P) (.node (x605 p P) .nil .nil) .nil) (.node (x473 p P) .nil .nil))) (.node (x114 p P) (.node (x178 p P) (.node (x311 p P) (.node (x573 p P) .nil .nil) .nil) (.node (x441 p P) (.node (x701 p P) .nil .nil) .nil)) (.node (x245 p P) (.node (x377 p P) (.node (x637 p P) .nil .nil) .nil) (.node (x507 p P) .nil .nil)))))) (.node (x2 p P) (.node (x12 p P) (.node (x28 p P) (.node (x60 p P) (.node (x126 p P) (.node (x257 p P) (.node (x519 p P) .nil .nil) .nil) (.node (x389 p P) (.node (x649 p P) .nil .nil) .nil)) (.node (x190 p P) (.node (x323 p P) (.node (x585 p P) .nil .nil) .nil) (.node (x453 p P) (.node (x713 p P) .nil .nil) .nil))) (.node (x92 p P) (.node (x158 p P) (.node (x291 p P) (.node (x551 p P) .nil .nil) .nil) (.node (x421 p P) (.node (x681 p P) .nil .nil) .nil)) (.node (x225 p P) (.node (x355 p P) (.node (x617 p P) .nil .nil) .nil) (.node (x485 p P) .nil .nil)))) (.node (x44 p P) (.node (x76 p P) (.node (x142 p P) (.node (x273 p P) (.node (x535 p P) .nil .nil) .nil) (.node (x405 p P) (.node (x665 p P) .nil .nil) .nil)) (.node (x206 p P) (.node (x339 p P) (.node (x601 p P) .nil .nil) .nil) (.node (x469 p P) (.node (x729 p P) .nil .nil) .nil))) (.node (x108 p P) (.node (x174 p P) (.node (x307 p P) (.node (x569 p P) .nil .nil) .nil) (.node (x437 p P) (.node (x697 p P) .nil .nil) .nil)) (.node (x241 p P) (.node (x371 p P) (.node (x633 p P) .nil .nil) .nil) (.node (x503 p P) .nil .nil))))) (.node (x20 p P) (.node (x36 p P) (.node (x68 p P) (.node (x134 p P) (.node (x265 p P) (.node (x527 p P) .nil .nil) .nil) (.node (x397 p P) (.node (x657 p P) .nil .nil) .nil)) (.node (x198 p P) (.node (x331 p P) (.node (x593 p P) .nil .nil) .nil) (.node (x461 p P) (.node (x721 p P) .nil .nil) .nil))) (.node (x100 p P) (.node (x166 p P) (.node (x299 p P) (.node (x561 p P) .nil .nil) .nil) (.node (x429 p P) (.node (x689 p P) .nil .nil) .nil)) (.node (x233 p P) (.node (x363 p P) (.node (x625 p P) .nil .nil) .nil) (.node (x495 p P) .nil .nil)))) (.node (x52 p P) (.node (x84 p P) (.node (x150 p P) (.node (x281 p P) (.node (x543 p P) .nil .nil) .nil) (.node (x413 p P) (.node (x673 p P) .nil .nil) .nil)) (.node (x214 p P) (.node (x347 p P) (.node (x609 p P) .nil .nil) .nil) (.node (x477 p P) .nil .nil))) (.node (x118 p P) (.node (x182 p P) (.node (x315 p P) (.node (x577 p P) .nil .nil) .nil) (.node (x445 p P) (.node (x705 p P) .nil .nil) .nil)) (.node (x249 p P) (.node (x381 p P) (.node (x641 p P) .nil .nil) .nil) (.node (x511 p P) .nil .nil)))))))) (.node (x218 p P) (.node (boot_o_4 P) (.node (boot_o_8 P) (.node (x7 p P) (.node (x23 p P) (.node (x55 p P) (.node (x121 p P) (.node (x252 p P) (.node (x514 p P) .nil .nil) .nil) (.node (x384 p P) (.node (x644 p P) .nil .nil) .nil)) (.node (x185 p P) (.node (x318 p P) (.node (x580 p P) .nil .nil) .nil) (.node (x448 p P) (.node (x708 p P) .nil .nil) .nil))) (.node (x87 p P) (.node (x153 p P) (.node (x284 p P) (.node (x546 p P) .nil .nil) .nil) (.node (x416 p P) (.node (x676 p P) .nil .nil) .nil)) (.node (x217 p P) (.node (x350 p P) (.node (x612 p P) .nil .nil) .nil) (.node (x480 p P) .nil .nil)))) (.node (x39 p P) (.node (x71 p P) (.node (x137 p P) (.node (x268 p P) (.node (x530 p P) .nil .nil) .nil) (.node (x400 p P) (.node (x660 p P) .nil .nil) .nil)) (.node (x201 p P) (.node (x334 p P) (.node (x596 p P) .nil .nil) .nil) (.node (x464 p P) (.node (x724 p P) .nil .nil) .nil))) (.node (x103 p P) (.node (x169 p P) (.node (x302 p P) (.node (x564 p P) .nil .nil) .nil) (.node (x432 p P) (.node (x692 p P) .nil .nil) .nil)) (.node (x236 p P) (.node (x366 p P) (.node (x628 p P) .nil .nil) .nil) (.node (x498 p P) .nil .nil))))) (.node (x15 p P) (.node (x31 p P) (.node (x63 p P) (.node (x129 p P) (.node (x260 p P) (.node (x522 p P) .nil .nil) .nil) (.node (x392 p P) (.node (x652 p P) .nil .nil) .nil)) (.node (x193 p P) (.node (x326 p P) (.node (x588 p P) .nil .nil) .nil) (.node (x456 p P) (.node (x716 p P) .nil .nil) .nil))) (.node (x95 p P) (.node (x161 p P) (.node (x294 p P) (.node (x554 p P) .nil .nil) .nil) (.node (x424 p P) (.node (x684 p P) .nil .nil) .nil)) (.node (x228 p P) (.node (x358 p P) (.node (x620 p P) .nil .nil) .nil) (.node (x488 p P) .nil .nil)))) (.node (x47 p P) (.node (x79 p P) (.node (x145 p P) (.node (x276 p P) (.node (x538 p P) .nil .nil) .nil) (.node (x408 p P) (.node (x668 p P) .nil .nil) .nil)) (.node (x209 p P) (.node (x342 p P) (.node (x604 p P) .nil .nil) .nil) (.node (x472 p P) .nil .nil))) (.node (x113 p P) (.node (x177 p P) (.node (x310 p P) (.node (x572 p P) .nil .nil) .nil) (.node (x440 p P) (.node (x700 p P) .nil .nil) .nil)) (.node (x244 p P) (.node (x376 p P) (.node (x636 p P) .nil .nil) .nil) (.node (x506 p P) .nil .nil)))))) (.node (x560 p P) (.node (x11 p P) (.node (x27 p P) (.node (x59 p P) (.node (x125 p P) (.node (x256 p P) (.node (x518 p P) .nil .nil) .nil) (.node (x388 p P) (.node (x648 p P) .nil .nil) .nil)) (.node (x189 p P) (.node (x322 p P) (.node (x584 p P) .nil .nil) .nil) (.node (x452 p P) (.node (x712 p P) .nil .nil) .nil))) (.node (x91 p P) (.node (x157 p P) (.node (x290 p P) (.node (x550 p P) .nil .nil) .nil) (.node (x420 p P) (.node (x680 p P) .nil .nil) .nil)) (.node (x224 p P) (.node (x354 p P) (.node (x616 p P) .nil .nil) .nil) (.node (x484 p P) .nil .nil)))) (.node (x43 p P) (.node (x75 p P) (.node (x141 p P) (.node (x272 p P) (.node (x534 p P) .nil .nil) .nil) (.node (x404 p P) (.node (x664 p P) .nil .nil) .nil)) (.node (x205 p P) (.node (x338 p P) (.node (x600 p P) .nil .nil) .nil) (.node (x468 p P) (.node (x728 p P) .nil .nil) .nil))) (.node (x107 p P) (.node (x173 p P) (.node (x306 p P) (.node (x568 p P) .nil .nil) .nil) (.node (x436 p P) (.node (x696 p P) .nil .nil) .nil)) (.node (x240 p P) (.node (x370 p P) (.node (x632 p P) .nil .nil) .nil) (.node (x502 p P) .nil .nil))))) (.node (x19 p P) (.node (x35 p P) (.node (x67 p P) (.node (x133 p P) (.node (x264 p P) (.node (x526 p P) .nil .nil) .nil) (.node (x396 p P) (.node (x656 p P) .nil .nil) .nil)) (.node (x197 p P) (.node (x330 p P) (.node (x592 p P) .nil .nil) .nil) (.node (x460 p P) (.node (x720 p P) .nil .nil) .nil))) (.node (x99 p P) (.node (x165 p P) (.node (x298 p P) (.node (x558 p P) .nil .nil) .nil) (.node (x428 p P) (.node (x688 p P) .nil .nil) .nil)) (.node (x232 p P) (.node (x362 p P) (.node (x624 p P) .nil .nil) .nil) (.node (x494 p P) .nil .nil)))) (.node (x51 p P) (.node (x83 p P) (.node (x149 p P) (.node (x280 p P) (.node (x542 p P) .nil .nil) .nil) (.node (x412 p P) (.node (x672 p P) .nil .nil) .nil)) (.node (x213 p P) (.node (x346 p P) (.node (x608 p P) .nil .nil) .nil) (.node (x476 p P) .nil .nil))) (.node (x117 p P) (.node (x181 p P) (.node (x314 p P) (.node (x576 p P) .nil .nil) .nil) (.node (x444 p P) (.node (x704 p P) .nil .nil) .nil)) (.node (x248 p P) (.node (x380 p P) (.node (x640 p P) .nil .nil) .nil) (.node (x510 p P) .nil .nil))))))) (.node (boot_o_6 P) (.node (boot_o_10 P) (.node (x9 p P) (.node (x25 p P) (.node (x57 p P) (.node (x123 p P) (.node (x254 p P) (.node (x516 p P) .nil .nil) .nil) (.node (x386 p P) (.node (x646 p P) .nil .nil) .nil)) (.node (x187 p P) (.node (x320 p P) (.node (x582 p P) .nil .nil) .nil) (.node (x450 p P) (.node (x710 p P) .nil .nil) .nil))) (.node (x89 p P) (.node (x155 p P) (.node (x286 p P) (.node (x548 p P) .nil .nil) .nil) (.node (x418 p P) (.node (x678 p P) .nil .nil) .nil)) (.node (x222 p P) (.node (x352 p P) (.node (x614 p P) .nil .nil) .nil) (.node (x482 p P) .nil .nil)))) (.node (x41 p P) (.node (x73 p P) (.node (x139 p P) (.node (x270 p P) (.node (x532 p P) .nil .nil) .nil) (.node (x402 p P) (.node (x662 p P) .nil .nil) .nil)) (.node (x203 p P) (.node (x336 p P) (.node (x598 p P) .nil .nil) .nil) (.node (x466 p P) (.node (x726 p P) .nil .nil) .nil))) (.node (x105 p P) (.node (x171 p P) (.node (x304 p P) (.node (x566 p P) .nil .nil) .nil) (.node (x434 p P) (.node (x694 p P) .nil .nil) .nil)) (.node (x238 p P) (.node (x368 p P) (.node (x630 p P) .nil .nil) .nil) (.node (x500 p P) .nil .nil))))) (.node (x17 p P) (.node (x33 p P) (.node (x65 p P) (.node (x131 p P) (.node (x262 p P) (.node (x524 p P) .nil .nil) .nil) (.node (x394 p P) (.node (x654 p P) .nil .nil) .nil)) (.node (x195 p P) (.node (x328 p P) (.node (x590 p P) .nil .nil) .nil) (.node (x458 p P) (.node (x718 p P) .nil .nil) .nil))) (.node (x97 p P) (.node (x163 p P) (.node (x296 p P) (.node (x556 p P) .nil .nil) .nil) (.node (x426 p P) (.node (x686 p P) .nil .nil) .nil)) (.node (x230 p P) (.node (x360 p P) (.node (x622 p P) .nil .nil) .nil) (.node (x490 p P) .nil .nil)))) (.node (x49 p P) (.node (x81 p P) (.node (x147 p P) (.node (x278 p P) (.node (x540 p P) .nil .nil) .nil) (.node (x410 p P) (.node (x670 p P) .nil .nil) .nil)) (.node (x211 p P) (.node (x344 p P) (.node (x606 p P) .nil .nil) .nil) (.node (x474 p P) .nil .nil))) (.node (x115 p P) (.node (x179 p P) (.node (x312 p P) (.node (x574 p P) .nil .nil) .nil) (.node (x442 p P) (.node (x702 p P) .nil .nil) .nil)) (.node (x246 p P) (.node (x378 p P) (.node (x638 p P) .nil .nil) .nil) (.node (x508 p P) .nil .nil)))))) (.node (x3 p P) (.node (x13 p P) (.node (x29 p P) (.node (x61 p P) (.node (x127 p P) (.node (x258 p P) (.node (x520 p P) .nil .nil) .nil) (.node (x390 p P) (.node (x650 p P) .nil .nil) .nil)) (.node (x191 p P) (.node (x324 p P) (.node (x586 p P) .nil .nil) .nil) (.node (x454 p P) (.node (x714 p P) .nil .nil) .nil))) (.node (x93 p P) (.node (x159 p P) (.node (x292 p P) (.node (x552 p P) .nil .nil) .nil) (.node (x422 p P) (.node (x682 p P) .nil .nil) .nil)) (.node (x226 p P) (.node (x356 p P) (.node (x618 p P) .nil .nil) .nil) (.node (x486 p P) .nil .nil)))) (.node (x45 p P) (.node (x77 p P) (.node (x143 p P) (.node (x274 p P) (.node (x536 p P) .nil .nil) .nil) (.node (x406 p P) (.node (x666 p P) .nil .nil) .nil)) (.node (x207 p P) (.node (x340 p P) (.node (x602 p P) .nil .nil) .nil) (.node (x470 p P) .nil .nil))) (.node (x109 p P) (.node (x175 p P) (.node (x308 p P) (.node (x570 p P) .nil .nil) .nil) (.node (x438 p P) (.node (x698 p P) .nil .nil) .nil)) (.node (x242 p P) (.node (x372 p P) (.node (x634 p P) .nil .nil) .nil) (.node (x504 p P) .nil .nil))))) (.node (x21 p P) (.node (x37 p P) (.node (x69 p P) (.node (x135 p P) (.node (x266 p P) (.node (x528 p P) .nil .nil) .nil) (.node (x398 p P) (.node (x658 p P) .nil .nil) .nil)) (.node (x199 p P) (.node (x332 p P) (.node (x594 p P) .nil .nil) .nil) (.node (x462 p P) (.node (x722 p P) .nil .nil) .nil))) (.node (x101 p P) (.node (x167 p P) (.node (x300 p P) (.node (x562 p P) .nil .nil) .nil) (.node (x430 p P) (.node (x690 p P) .nil .nil) .nil)) (.node (x234 p P) (.node (x364 p P) (.node (x626 p P) .nil .nil) .nil) (.node (x496 p P) .nil .nil)))) (.node (x53 p P) (.node (x85 p P) (.node (x151 p P) (.node (x282 p P) (.node (x544 p P) .nil .nil) .nil) (.node (x414 p P) (.node (x674 p P) .nil .nil) .nil)) (.node (x215 p P) (.node (x348 p P) (.node (x610 p P) .nil .nil) .nil) (.node (x478 p P) .nil .nil))) (.node (x119 p P) (.node (x183 p P) (.node (x316 p P) (.node (x578 p P) .nil .nil) .nil) (.node (x446 p P) (.node (x706 p P) .nil .nil) .nil)) (.node (x250 p P) (.node (x382 p P) (.node (x642 p P) .nil .nil) .nil) (.node (x512 p P) .nil .nil)))))))))
noncomputable def envM (p : Program) : Env := { scope := p.main.scope, locals := mainNs, globals := mainNs, cells := [], code := .ref 13, frame := some 14 }
noncomputable abbrev cM (p : Program) : Code := .body (behindTheImports p) (envM p)
noncomputable abbrev pcs (p : Program) (a b : Nat) (q : Pos) : Thread := piecesOf ((p.main.body.drop a).take b) (envM p) (cM p) q [topFrame ⟨0, 0, 0, 0⟩]
theorem g0 (w : World) (os : OsState) : PySem.W.Fast.tw10110043849684766642 PySem.W.Fast.tw14364793385576792824 pF w 11 (some (.ref 6)) 1 647 ⟨t0 pF w.params, 15, {}, Array.mk [], boot_drawn, 187, os⟩ (pcs pF 0 7 ⟨0, 0, 0, 0⟩) = some (.next, ⟨t1 pF w.params, 120, {}, Array.mk [], boot_drawn, 328, os⟩, cM pF, ⟨10, 0, 48, 16⟩) := by kernel_rfl
theorem g1 (w : World) (os : OsState) : PySem.W.Fast.tw10110043849684766642 PySem.W.Fast.tw14364793385576792824 pF w 11 (some (.ref 6)) 1 664 ⟨t1 pF w.params, 120, {}, Array.mk [], boot_drawn, 328, os⟩ (pcs pF 7 13 ⟨10, 0, 48, 16⟩) = some (.next, ⟨t2 pF w.params, 225, {}, Array.mk [], boot_drawn, 488, os⟩, cM pF, ⟨89, 0, 125, 65⟩) := by kernel_rfl
theorem g2 (w : World) (os : OsState) : PySem.W.Fast.tw10110043849684766642 PySem.W.Fast.tw14364793385576792824 pF w 11 (some (.ref 6)) 1 511 ⟨t2 pF w.params, 225, {}, Array.mk [], boot_drawn, 488, os⟩ (pcs pF 20 16 ⟨89, 0, 125, 65⟩) = some (.next, ⟨t3 pF w.params, 292, {}, Array.mk [], boot_drawn, 591, os⟩, cM pF, ⟨172, 0, 172, 11⟩) := by kernel_rfl
theorem g3 (w : World) (os : OsState) : PySem.W.Fast.tw10110043849684766642 PySem.W.Fast.tw14364793385576792824 pF w 11 (some (.ref 6)) 1 516 ⟨t3 pF w.params, 292, {}, Array.mk [], boot_drawn, 591, os⟩ (pcs pF 36 1 ⟨172, 0, 172, 11⟩) = some (.next, ⟨t4 pF w.params, 376, {}, Array.mk [], boot_drawn, 697, os⟩, cM pF, ⟨173, 0, 220, 38⟩) := by kernel_rfl
theorem g4 (w : World) (os : OsState) : PySem.W.Fast.tw10110043849684766642 PySem.W.Fast.tw14364793385576792824 pF w 11 (some (.ref 6)) 1 678 ⟨t4 pF w.params, 376, {}, Array.mk [], boot_drawn, 697, os⟩ (pcs pF 37 1 ⟨173, 0, 220, 38⟩) = some (.next, ⟨t5 pF w.params, 491, {}, Array.mk [], boot_drawn, 849, os⟩, cM pF, ⟨221, 0, 305, 21⟩) := by kernel_rfl
theorem g5 (w : World) (os : OsState) : PySem.W.Fast.tw10110043849684766642 PySem.W.Fast.tw14364793385576792824 pF w 11 (some (.ref 6)) 1 502 ⟨t5 pF w.params, 491, {}, Array.mk [], boot_drawn, 849, os⟩ (pcs pF 38 15 ⟨221, 0, 305, 21⟩) = some (.next, ⟨t6 pF w.params, 557, {}, Array.mk [], boot_drawn, 956, os⟩, cM pF, ⟨338, 0, 346, 46⟩) := by kernel_rfl
theorem g6 (w : World) (os : OsState) : PySem.W.Fast.tw10110043849684766642 PySem.W.Fast.tw14364793385576792824 pF w 11 (some (.ref 6)) 1 946 ⟨t6 pF w.params, 557, {}, Array.mk [], boot_drawn, 956, os⟩ (pcs pF 53 6 ⟨338, 0, 346, 46⟩) = some (.next, ⟨t7 pF w.params, 726, {}, Array.mk [], boot_drawn, 1187, os⟩, cM pF, ⟨461, 0, 494, 41⟩) := by kernel_rfl
end Mine
end

section
open PySem PySem.W PyProof.Rows
set_option maxRecDepth 100000
set_option maxHeartbeats 0
namespace Mine
/-- the program -/
noncomputable abbrev pP := PySem.Challenge.pw_pf0277_01
theorem seg_plain {w : World} {n : Nat} {s s' : SharedT} {t : Thread} {f : Flow} {c : Code} {q : Pos}
    (h : PySem.W.Fast.tw10110043849684766642 PySem.W.Fast.tw14364793385576792824 pP w 11 (some (.ref 6)) 1 n s t = some (f, s', c, q)) :
    segRun treeTable pP w 11 (some (.ref 6)) 1 n s.abs t = some (f, s'.abs, c, q) := by
  rw [← PySem.W.Fast.te10110043849684766642, ← PySem.W.Fast.te14364793385576792824] at h
  exact segRun_of h
noncomputable abbrev stM (k : BT) (n tk : Nat) (os : OsState) : SharedT := ⟨k, n, {}, Array.mk [], boot_drawn, tk, os⟩
theorem preF (w : World) (os : OsState) : PySem.W.Fast.tw15667345088766844465 PySem.W.Fast.tw14364793385576792824 pF w 11 (some (.ref 6)) 12 ⟨boot_heap w.params, Array.mk [], boot_drawn, boot_toks, os⟩ (topStub pF) =
    some ((stM (t0 pF w.params) 15 187 os).abs, ⟨PySem.W.Fast.tw11892475500146522536 PySem.W.Fast.tw14364793385576792824 (cM pF), cM pF, ⟨0, 0, 0, 0⟩, [topFrame ⟨0, 0, 0, 0⟩]⟩) := by kernel_rfl
theorem pre (w : World) (os : OsState) : topGo treeTable pP w 11 (some (.ref 6)) 12 ⟨boot_heap w.params, Array.mk [], boot_drawn, boot_toks, os⟩ (topStub pP) =
    some ((stM (t0 pP w.params) 15 187 os).abs, ⟨denote treeTable (cM pP), cM pP, ⟨0, 0, 0, 0⟩, [topFrame ⟨0, 0, 0, 0⟩]⟩) := by
  have h := preF w os
  rw [← PySem.W.Fast.te15667345088766844465, ← PySem.W.Fast.te11892475500146522536, ← PySem.W.Fast.te14364793385576792824, ← pF_eq] at h
  exact h
theorem blk (w : World) (os : OsState) : segRun treeTable pP w 11 (some (.ref 6)) 1 1 (stM (t0 pP w.params) 15 187 os).abs (blockOf (behindTheImports pP) (envM pP) (cM pP) ⟨0, 0, 0, 0⟩ [topFrame ⟨0, 0, 0, 0⟩]) =
    some (.next, (stM (t0 pP w.params) 15 187 os).abs, cM pP, ⟨0, 0, 0, 0⟩) := by kernel_rfl
theorem fin (w : World) (s : Shared) (q : Pos) : topRun treeTable pP w 11 (some (.ref 6)) 2 s ⟨doneF .next, cM pP, q, [topFrame ⟨0, 0, 0, 0⟩]⟩ = some s := by kernel_rfl
theorem cells : behindTheImports pP = ((pP.main.body.drop 0).take 7) ++ (((pP.main.body.drop 7).take 13) ++ (((pP.main.body.drop 20).take 16) ++ (((pP.main.body.drop 36).take 1) ++ (((pP.main.body.drop 37).take 1) ++ (((pP.main.body.drop 38).take 15) ++ (((pP.main.body.drop 53).take 6) ++ [])))))) := by kernel_rfl
theorem runAll (w : World) (os : OsState) : topRun treeTable pP w 11 (some (.ref 6)) (12 + (1 + (647 + (664 + (511 + (516 + (678 + (502 + (946 + 2))))))))) ⟨boot_heap w.params, Array.mk [], boot_drawn, boot_toks, os⟩ (topStub pP) = some ⟨absHeap (t7 pP w.params) 726 {}, Array.mk [], boot_drawn, 1187, os⟩ := by
  refine go_top (pre w os) (piece_block (blk w os) ?_)
  have e : restOf (behindTheImports pP) (envM pP) (cM pP) ⟨0, 0, 0, 0⟩ [topFrame ⟨0, 0, 0, 0⟩] = _ := congrArg (fun b => restOf b (envM pP) (cM pP) ⟨0, 0, 0, 0⟩ [topFrame ⟨0, 0, 0, 0⟩]) cells
  rw [e]
  have h0 := g0 w os
  have h1 := g1 w os
  have h2 := g2 w os
  have h3 := g3 w os
  have h4 := g4 w os
  have h5 := g5 w os
  have h6 := g6 w os
  rw [← pF_eq] at h0 h1 h2 h3 h4 h5 h6
  exact piece_app (seg_plain h0) (piece_app (seg_plain h1) (piece_app (seg_plain h2) (piece_app (seg_plain h3) (piece_app (seg_plain h4) (piece_app (seg_plain h5) (piece_app (seg_plain h6) (piece_nil (fin w _ _))))))))
theorem look1F (w : World) : (staticsOk (PySem.W.Fast.tw5923862056798008813 pF.main.body) (boot_heap w.params) (absHeap (t7 pF w.params) 726 {}) && namesBound pF (absHeap (t7 pF w.params) 726 {}) && laidKept (boot_heap w.params) (absHeap (t7 pF w.params) 726 {})) = true := by kernel_rfl
theorem look2F (w : World) (os : OsState) : PySem.W.Fast.tw4187177175401517315 (view pF keep) loF (PySem.W.Fast.tw5923862056798008813 pF.main.body) (fun s => xlAt (view pF keep) [] s && recOk [] s) true ⟨absHeap (t7 pF w.params) 726 {}, Array.mk [], boot_drawn, 1187, os⟩ = openGood (view pF keep) loF := by kernel_rfl
noncomputable def vq : Program := view PySem.Challenge.pw_pf0277_01 keep
theorem left_final (H : Hook) (look3 : ∀ (w : World) (os : OsState), H.obs ⟨absHeap (t7 pP w.params) 726 {}, Array.mk [], boot_drawn, 1187, os⟩ = H.val w) :
    LeftO pP vq loF (fun s => xlAt vq [] s && recOk [] s) H.obs H.val 9040 true := by
  have e1 : opening pP = plainProg pP.main.scope.names := by kernel_rfl
  have e2 : ∀ s, fenceModules? pP s = some s := fun s => by kernel_rfl
  refine LeftO.of_pieces (H₀ := boot_heap) (H₁ := fun P => absHeap (t7 pP P) 726 {}) (boot_open e1 (by decide) e2) (fun w => by kernel_rfl) runAll (by decide) fun w => funext fun os => ?_
  have a := look1F w
  have b := look2F w os
  rw [← PySem.W.Fast.te5923862056798008813, ← pF_eq] at a b
  rw [← PySem.W.Fast.te4187177175401517315] at b
  simp only [Bool.and_eq_true] at a
  obtain ⟨⟨a1, a2⟩, a3⟩ := a
  refine Prod.ext ?_ (Prod.ext b (look3 w os))
  show (_ && _ && gensDone _ && _) = true
  rw [a1, a2, a3]
  rfl
end Mine
end

section
open PySem PySem.W PyProof.Rows
set_option maxRecDepth 100000
set_option maxHeartbeats 0
namespace Mine
local macro_rules | `(tactic| o_head $H) => `(tactic| (
  refine holds_open (q := vq) (loose := loF) (Xt := fun s => xlAt vq [] s && recOk [] s) (XP := XL vq []) (Yf := Hook.obs $H) (Ya := Hook.val $H) (YP := Hook.says $H) (N := 9040) ?hl (Hook.of $H) (Hook.keeps $H) (fun s e => xl_of s (Bool.and_eq_true_iff.mp e).1) XL.keeps (by rfl) (by rfl) (by rfl) (fun s e => recFacts_of (Bool.and_eq_true_iff.mp e).2) (by rfl) (by assumption) (by decide +kernel) ⟨rfl, rfl, rfl, rfl, rfl, by decide +kernel⟩ ?hw ?hc
  case hl => exact left_final $H (fun w os => by kernel_rfl)))
open_top hd for PySem.Challenge.rw_pf0277_01
end Mine
end

section
set_option maxRecDepth 100000
namespace Mine
open PySem

/-! A small executor over the law's own subset of the language. It is written for the kernel: recursors, small parts, continuations. -/

noncomputable def ifB {α : Type} (b : Bool) (t f : α) : α := Bool.rec f t b
/-- a tree by place -/
inductive T (α : Type) where
  | nil
  | node (v : Option α) (l r : T α)
namespace T
variable {α : Type}
noncomputable def get (t : T α) : Nat → Option α :=
  T.rec (fun _ => none) (fun v _ _ gl gr i => Bool.rec (Bool.rec (gr (Nat.sub (Nat.div i 2) 1)) (gl (Nat.div i 2)) (Nat.beq (Nat.mod i 2) 1)) v (Nat.beq i 0)) t
/-- puts at place i (f: a bound of the depth) -/
noncomputable def put (f : Nat) : T α → Nat → α → T α :=
  Nat.rec (fun t _ _ => t) (fun _ ih t i a =>
    T.rec (Bool.rec (Bool.rec (.node none .nil (ih .nil (Nat.sub (Nat.div i 2) 1) a)) (.node none (ih .nil (Nat.div i 2) a) .nil) (Nat.beq (Nat.mod i 2) 1)) (.node (some a) .nil .nil) (Nat.beq i 0))
      (fun v l r _ _ => Bool.rec (Bool.rec (.node v l (ih r (Nat.sub (Nat.div i 2) 1) a)) (.node v (ih l (Nat.div i 2) a) r) (Nat.beq (Nat.mod i 2) 1)) (.node (some a) l r) (Nat.beq i 0)) t) f
end T

/-- an int: c + k₀ * x₀ + k₁ * x₁ + .., the x the law's unknown numbers -/
inductive LI where
  | mk (c : Int) (ks : List Int)
/-- a value -/
inductive AV where
  | none
  | bool (b : Bool)
  | int (i : LI)
  | str (k : Nat)
  | byt
  | ref (l : Nat)
  | oth (i : Int)   -- an int that is not i
/-- an object -/
inductive AO where
  | inst (C : Nat) (d : Nat)
  | dict (es : List (AV × AV))
  | list (xs : List AV)
  | tup (xs : List AV)
  | lam (j : Nat)
  | ints
  | tab (k : Nat)
/-- the objects; the next place; the places that may not be written now -/
structure H where
  t : T AO
  n : Nat
  lock : List Nat
noncomputable abbrev Loc := List (Nat × AV)

/-- expressions; p, q: places in the text, packed -/
inductive CE where
  | nil
  | cons (a r : CE)
  | none (k p : Nat)
  | bool (b : Bool) (k p : Nat)
  | int (i : Nat) (k p : Nat)
  | str (x : Nat) (k p : Nat)
  | byt (k p : Nat)
  | loc (x p : Nat)
  | glob (x p : Nat)
  | attr (e : CE) (a p : Nat)
  | sub (e i : CE) (p : Nat)
  | tail (e : CE) (i : CE) (q p : Nat)
  | callF (x f : Nat) (args : CE) (q p : Nat)
  | callC (x c : Nat) (args : CE) (q p : Nat)
  | callB (x b : Nat) (args : CE) (q p : Nat)
  | callM (e : CE) (a : Nat) (args : CE) (q p : Nat)
  | bin (op : Operator) (a b : CE) (p : Nat)
  | cmp (op : CmpOp) (a b : CE) (p : Nat)
  | andor (op : BoolOp) (es : CE) (p : Nat)
  | not (e : CE) (p : Nat)
  | neg (e : CE) (p : Nat)
  | ife (t a b : CE) (p : Nat)
  | list (es : CE) (p : Nat)
  | tup (es : CE) (k p : Nat)
  | dict (ks vs : CE) (p : Nat)
  | comp (elt : CE) (x px : Nat) (it ifs : CE) (sc p : Nat)
  | compV (elt : CE) (x px : Nat) (e : CE) (a q r : Nat) (ifs : CE) (sc p : Nat)
  | lam (j p : Nat)
/-- statements -/
inductive CS where
  | nil
  | cons (s r : CS)
  | expr (e : CE) (p : Nat)
  | asN (x px : Nat) (e : CE) (p : Nat)
  | asA (o : CE) (a pa : Nat) (e : CE) (p : Nat)
  | asI (o i : CE) (pt : Nat) (e : CE) (p : Nat)
  | asT (ts : CE) (k pt : Nat) (es : CE) (k' pe p : Nat)
  | augA (o : CE) (a pa : Nat) (op : Operator) (e : CE) (p : Nat)
  | ifs (t : CE) (b o : CS) (p : Nat)
  | for_ (x px : Nat) (it : CE) (b : CS) (p : Nat)
  | forR (x px y : Nat) (e : CE) (q r : Nat) (b : CS) (p : Nat)
  | ret (e : CE) (p : Nat)
  | ret0 (p : Nat)
  | cont (p : Nat)
  | raise (e : CE) (p : Nat)
inductive Fl where
  | next | cont | ret (v : AV)

structure Fn where
  params : List Nat
  dflt : Nat            -- how many last parameters default to None
  body : CS
/-- what the executor knows of the text -/
structure Txt where
  fns : T Fn
  meths : T (List (Nat × Nat))     -- of a class: name, function
  inits : T Nat                    -- of a class: its __init__
  globs : List (Nat × AV)
  lams : T AV
  take : Nat                        -- the number of _law_take
  bs : List (Int × Int)             -- the unknown numbers' bounds
  pows : List (LI × LI × LI)
  menus : List (List AV × LI × AV)
  draws : List (Nat × AV)           -- what _law_take is asked and gives, draw by draw
  nAppend : Nat
  nGet : Nat
  nValues : Nat

section
variable {β : Type}
noncomputable def look (l : List (Nat × β)) (x : Nat) : Option β :=
  List.rec .none (fun p _ ih => Bool.rec ih (some p.2) (Nat.beq p.1 x)) l
end
/-- a value that is the str x? -/
noncomputable def AV.isS (v : AV) (x : Nat) : Bool := AV.rec false (fun _ => false) (fun _ => false) (fun y => Nat.beq y x) false (fun _ => false) (fun _ => false) v
/-- a dict's value by a key that is a str -/
noncomputable def findS (es : List (AV × AV)) (x : Nat) : Option AV :=
  List.rec .none (fun p _ ih => Bool.rec ih (some p.2) (p.1.isS x)) es
noncomputable def putS (es : List (AV × AV)) (x : Nat) (v : AV) : List (AV × AV) :=
  List.rec [(.str x, v)] (fun p r ih => Bool.rec (p :: ih) ((p.1, v) :: r) (p.1.isS x)) es
/-- are all keys strs? -/
noncomputable def allS (es : List (AV × AV)) : Bool := List.rec true (fun p _ ih => AV.rec false (fun _ => false) (fun _ => false) (fun _ => ih) false (fun _ => false) (fun _ => false) p.1) es
/-- are all keys ints? -/
noncomputable def allI : List (AV × AV) → Bool
  | [] => true
  | (.int (.mk _ []), _) :: r => allI r
  | _ => false
noncomputable def intEq (a b : Int) : Bool := match a, b with
  | .ofNat m, .ofNat n => Nat.beq m n
  | .ofNat _, .negSucc _ => false
  | .negSucc _, .ofNat _ => false
  | .negSucc m, .negSucc n => Nat.beq m n
noncomputable def intLt (a b : Int) : Bool := match a, b with
  | .ofNat m, .ofNat n => Nat.blt m n
  | .ofNat _, .negSucc _ => false
  | .negSucc _, .ofNat _ => true
  | .negSucc m, .negSucc n => Nat.blt n m
noncomputable def addK : List Int → List Int → List Int
  | [], b => b
  | x :: a, [] => x :: a
  | x :: a, y :: b => Int.add x y :: addK a b
noncomputable def mulK (k : Int) : List Int → List Int
  | [] => []
  | x :: a => Int.mul k x :: mulK k a
noncomputable def LI.sub : LI → LI → LI
  | .mk a ks, .mk b js => .mk (Int.sub a b) (addK ks (mulK (Int.negSucc 0) js))
/-- the least and the greatest of k₀ * x₀ + .. -/
noncomputable def rngK : List (Int × Int) → List Int → Option (Int × Int)
  | _, [] => some (Int.ofNat 0, Int.ofNat 0)
  | [], _ :: _ => none
  | b :: bs, k :: ks => match rngK bs ks with
    | some r => match intLt k (Int.ofNat 0) with
      | true => some (Int.add (Int.mul k b.2) r.1, Int.add (Int.mul k b.1) r.2)
      | false => some (Int.add (Int.mul k b.1) r.1, Int.add (Int.mul k b.2) r.2)
    | none => none
/-- is it 0? -/
noncomputable def sgn0 (lo hi : Int) : Option Bool := match intLt (Int.ofNat 0) lo, intLt hi (Int.ofNat 0), intEq lo (Int.ofNat 0), intEq hi (Int.ofNat 0) with
  | true, _, _, _ => some false
  | _, true, _, _ => some false
  | _, _, true, true => some true
  | _, _, _, _ => none
/-- is it above 0? -/
noncomputable def sgn1 (lo hi : Int) : Option Bool := match intLt (Int.ofNat 0) lo, intLt (Int.ofNat 0) hi with
  | true, _ => some true
  | _, false => some false
  | _, _ => none
noncomputable def LI.lt (bs : List (Int × Int)) : LI → LI → Option Bool
  | .mk a [], .mk b [] => some (intLt a b)
  | a, b => match b.sub a with
    | .mk c ks => match rngK bs ks with
      | some r => sgn1 (Int.add c r.1) (Int.add c r.2)
      | none => none
noncomputable def LI.eq (bs : List (Int × Int)) : LI → LI → Option Bool
  | .mk a [], .mk b [] => some (intEq a b)
  | a, b => match b.sub a with
    | .mk c ks => match rngK bs ks with
      | some r => sgn0 (Int.add c r.1) (Int.add c r.2)
      | none => none
noncomputable def sameK : List Int → List Int → Bool
  | [], [] => true
  | x :: a, y :: b => match intEq x y with
    | true => sameK a b
    | false => false
  | _, _ => false
noncomputable def LI.same : LI → LI → Bool
  | .mk a ks, .mk b js => match intEq a b with
    | true => sameK ks js
    | false => false
noncomputable def powOf : List (LI × LI × LI) → LI → LI → Option LI
  | [], _, _ => none
  | p :: r, a, b => match p.1.same a with
    | true => match p.2.1.same b with
      | true => some p.2.2
      | false => powOf r a b
    | false => powOf r a b
noncomputable def LI.bin (pw : List (LI × LI × LI)) : Operator → LI → LI → Option LI
  | .Add, .mk a ks, .mk b js => some (.mk (Int.add a b) (addK ks js))
  | .Sub, a, b => some (a.sub b)
  | .Mult, .mk (.ofNat a) [], .mk b js => match Nat.blt a 1000000000 with
    | true => some (.mk (Int.mul (.ofNat a) b) (mulK (.ofNat a) js))
    | false => none
  | .FloorDiv, .mk (.ofNat a) [], .mk (.ofNat (b + 1)) [] => match Nat.blt b 1000 with
    | true => some (.mk (.ofNat (Nat.div a (b + 1))) [])
    | false => none
  | .Pow, a, b => powOf pw a b
  | _, _, _ => none
noncomputable def asRefB (v : AV) (κ : Nat → Bool) : Bool := match v with
  | .ref k => κ k
  | _ => false
noncomputable def AV.eqFlat (bs : List (Int × Int)) : AV → AV → Option Bool
  | .none, .none => some true
  | .none, .bool _ => some false
  | .none, .int _ => some false
  | .none, .str _ => some false
  | .int _, .none => some false
  | .str _, .none => some false
  | .bool a, .bool b => some (match a, b with | true, true => true | false, false => true | _, _ => false)
  | .int a, .int b => a.eq bs b
  | .str a, .str b => some (Nat.beq a b)
  | .oth i, .int (.mk j []) => match intEq i j with
    | true => some false
    | false => .none
  | _, _ => .none
noncomputable def eqAll (bs : List (Int × Int)) : List AV → List AV → Option Bool
  | [], [] => some true
  | a :: r, b :: q => match a.eqFlat bs b with
    | some true => eqAll bs r q
    | some false => some false
    | .none => .none
  | _, _ => .none
/-- neither an object nor bytes nor a half-known int -/
noncomputable def flatOk : AV → Bool
  | .byt => false
  | .ref _ => false
  | .oth _ => false
  | _ => true
noncomputable def allFlat (xs : List AV) : Bool := List.rec true (fun x _ ih => Bool.rec false ih (flatOk x)) xs
noncomputable def isFlatTup (h : H) (a : AV) : Bool := asRefB a fun l => Option.rec false (fun ob => AO.rec (fun _ _ => false) (fun _ => false) (fun _ => false) allFlat (fun _ => false) false (fun _ => false) ob) (h.t.get l)
noncomputable def allFlatTup (h : H) (xs : List AV) : Bool := List.rec true (fun x _ ih => Bool.rec false ih (isFlatTup h x)) xs
noncomputable def ifO (b : Bool) (o : Option Bool) : Option Bool := match b with
  | true => o
  | false => .none
noncomputable def AV.eqV (bs : List (Int × Int)) (h : H) (a b : AV) : Option Bool := match a, b with
  | .ref x, .ref y => match h.t.get x, h.t.get y with
    | some (.tup xs), some (.tup ys) => ifO (allFlat xs) (ifO (allFlat ys) (eqAll bs xs ys))
    | some (.list xs), some (.list []) => ifO (allFlatTup h xs) (some (match xs with | [] => true | _ => false))
    | _, _ => .none
  | .ref x, .none => ifO (isFlatTup h (.ref x)) (some false)
  | .none, .ref x => ifO (isFlatTup h (.ref x)) (some false)
  | a, b => a.eqFlat bs b
noncomputable def notO : Option Bool → Option Bool
  | some b => some (match b with | true => false | false => true)
  | none => none
noncomputable def inStrs : List AV → Nat → Option Bool
  | [], _ => some false
  | .str y :: r, x => match inStrs r x with
    | some t => some (match Nat.beq y x with | true => true | false => t)
    | none => none
  | _, _ => none
noncomputable def isIn (h : H) (a b : AV) : Option Bool := match a, b with
  | .str x, .ref l => match h.t.get l with
    | some (.tup xs) => inStrs xs x
    | some (.dict []) => some false
    | _ => none
  | _, _ => none
noncomputable def cmpV (bs : List (Int × Int)) (h : H) (op : CmpOp) (a b : AV) : Option Bool := match op with
  | .Is => match b with
    | .none => some (match a with | .none => true | _ => false)
    | _ => none
  | .IsNot => match b with
    | .none => some (match a with | .none => false | _ => true)
    | _ => none
  | .Eq => a.eqV bs h b
  | .NotEq => notO (a.eqV bs h b)
  | .Lt => match a, b with | .int x, .int y => x.lt bs y | _, _ => none
  | .Gt => match a, b with | .int x, .int y => y.lt bs x | _, _ => none
  | .LtE => match a, b with | .int x, .int y => notO (y.lt bs x) | _, _ => none
  | .GtE => match a, b with | .int x, .int y => notO (x.lt bs y) | _, _ => none
  | .In => isIn h a b
  | .NotIn => notO (isIn h a b)

noncomputable def memN (l : List Nat) (x : Nat) : Bool := List.rec false (fun y _ ih => Bool.rec ih true (Nat.beq y x)) l
/-- small enough -/
noncomputable def okSize : AO → Bool
  | .dict es => Nat.blt es.length 100
  | .list xs => Nat.blt xs.length 100
  | .tup xs => Nat.blt xs.length 100
  | _ => true
noncomputable def H.set (h : H) (l : Nat) (o : AO) (κ : H → Bool) : Bool := Bool.rec false
  (List.rec (κ ⟨T.put 12 h.t l o, h.n, []⟩) (fun y ys _ => Bool.rec (κ ⟨T.put 12 h.t l o, h.n, y :: ys⟩) false (memN (y :: ys) l)) h.lock) (okSize o)
noncomputable def H.new (h : H) (o : AO) (κ : AV → H → Bool) : Bool := Bool.rec false (Bool.rec false
  (List.rec (κ (.ref h.n) ⟨T.put 12 h.t h.n o, Nat.succ h.n, []⟩) (fun y ys _ => κ (.ref h.n) ⟨T.put 12 h.t h.n o, Nat.succ h.n, y :: ys⟩) h.lock) (okSize o)) (Nat.blt h.n 4000)
noncomputable def H.locked (h : H) (l : Nat) : H := ⟨h.t, h.n, l :: h.lock⟩
noncomputable def H.free (h : H) (k : List Nat) : H := ⟨h.t, h.n, k⟩
noncomputable def H.at (h : H) (l : Nat) (κ : AO → Bool) : Bool := Option.rec false κ (h.t.get l)
noncomputable def nth (xs : List AV) : Nat → Option AV :=
  List.rec (fun _ => .none) (fun a _ ih i => Bool.rec (ih (Nat.sub i 1)) (some a) (Nat.beq i 0)) xs
noncomputable def onS {α : Type} (o : Option α) (κ : α → Bool) : Bool := match o with
  | some a => κ a
  | none => false
/-- an int that is a number from 0 up -/
noncomputable def asNat (v : AV) (κ : Nat → Bool) : Bool := match v with
  | .int (.mk (.ofNat k) []) => κ k
  | _ => false
noncomputable def asStr (v : AV) (κ : Nat → Bool) : Bool := match v with
  | .str k => κ k
  | _ => false
noncomputable def asInt (v : AV) (κ : LI → Bool) : Bool := match v with
  | .int k => κ k
  | _ => false
noncomputable def asRef (v : AV) (κ : Nat → Bool) : Bool := match v with
  | .ref k => κ k
  | _ => false
noncomputable def truth (v : AV) (κ : Bool → Bool) : Bool := match v with
  | .bool b => κ b
  | _ => false
/-- the items of the law's menus at an unknown place -/
noncomputable def sameV : AV → AV → Bool
  | .none, .none => true
  | .int a, .int b => a.same b
  | _, _ => false
noncomputable def sameVs : List AV → List AV → Bool
  | [], [] => true
  | a :: r, b :: q => match sameV a b with
    | true => sameVs r q
    | false => false
  | _, _ => false
noncomputable def menuOf : List (List AV × LI × AV) → List AV → LI → Option AV
  | [], _, _ => .none
  | p :: r, xs, i => match p.2.1.same i with
    | true => match sameVs p.1 xs with
      | true => some p.2.2
      | false => menuOf r xs i
    | false => menuOf r xs i
noncomputable def listItem (mn : List (List AV × LI × AV)) (xs : List AV) (i : LI) (κ : AV → Bool) : Bool := match i with
  | .mk (.ofNat k) [] => onS (nth xs k) κ
  | i => onS (menuOf mn xs i) κ
noncomputable def getItem (mn : List (List AV × LI × AV)) (h : H) (o i : AV) (κ : AV → Bool) : Bool := asRef o fun l => h.at l fun ob => match ob with
  | .tup xs => asNat i fun k => onS (nth xs k) κ
  | .list xs => asInt i fun i => listItem mn xs i κ
  | .dict es => Bool.rec false (asStr i fun x => onS (findS es x) κ) (allS es)
  | _ => false
noncomputable def atInst (ob : AO) (κ : Nat → Nat → Bool) : Bool := match ob with
  | .inst C d => κ C d
  | _ => false
noncomputable def atDict (ob : AO) (κ : List (AV × AV) → Bool) : Bool := match ob with
  | .dict es => κ es
  | _ => false
noncomputable def atList (ob : AO) (κ : List AV → Bool) : Bool := match ob with
  | .list es => κ es
  | _ => false
noncomputable def atTup (ob : AO) (κ : List AV → Bool) : Bool := match ob with
  | .tup es => κ es
  | _ => false
noncomputable def noneB {α : Type} (o : Option α) (b : Bool) : Bool := match o with
  | some _ => false
  | none => b
/-- the field of an object that holds it itself -/
noncomputable def getA (tx : Txt) (h : H) (o : AV) (a : Nat) (κ : AV → Bool) : Bool :=
  asRef o fun l => h.at l fun ob => atInst ob fun C d => onS (tx.meths.get C) fun ms => noneB (look ms a) (h.at d fun ob => atDict ob fun es => onS (findS es a) κ)
noncomputable def setA (tx : Txt) (h : H) (o : AV) (a : Nat) (v : AV) (κ : H → Bool) : Bool :=
  asRef o fun l => h.at l fun ob => atInst ob fun C d => onS (tx.meths.get C) fun ms => noneB (look ms a) <| h.at d fun ob => atDict ob fun es => h.set d (.dict (putS es a v)) κ
/-- a dict's store by a key that is an int: new keys alone -/
noncomputable def freshI : List (AV × AV) → Int → Bool
  | [], _ => true
  | p :: r, i => match p.1 with
    | .int (.mk j []) => match intEq i j with
      | true => false
      | false => freshI r i
    | _ => false
noncomputable def isNew (es : List (AV × AV)) (i : AV) : Bool := match i with
  | .int (.mk j []) => freshI es j
  | _ => false
noncomputable def setI (h : H) (o i v : AV) (κ : H → Bool) : Bool := asRef o fun l => h.at l fun ob => atDict ob fun es => match i with
  | .str x => Bool.rec false (h.set l (.dict (putS es x v)) κ) (allS es)
  | i => match isNew es i with
    | true => h.set l (.dict (List.append es [(i, v)])) κ
    | false => false
noncomputable def keysOf (es : List (AV × AV)) : List AV := List.rec [] (fun p _ ih => p.1 :: ih) es
noncomputable def valsOf (es : List (AV × AV)) : List AV := List.rec [] (fun p _ ih => p.2 :: ih) es
/-- what a for or a comprehension runs over -/
noncomputable def itemsOf (h : H) (v : AV) (κ : Nat → List AV → Bool) : Bool := asRef v fun l => h.at l fun ob => match ob with
  | .list xs => κ l xs
  | .tup xs => κ l xs
  | .dict es => Bool.rec false (κ l (keysOf es)) (allS es)
  | _ => false
noncomputable def anyT : List AV → Option Bool
  | [] => some false
  | .bool b :: r => match anyT r with
    | some t => some (match b with | true => true | false => t)
    | none => none
  | _ => none
/-- the pairs that dict(..) is given: strs as keys, all apart -/
noncomputable def pairsOf (h : H) : List AV → List (AV × AV) → Option (List (AV × AV))
  | [], acc => some acc
  | .ref l :: r, acc => match h.t.get l with
    | some (.tup [.str x, v]) => match findS acc x with
      | none => pairsOf h r (List.append acc [(.str x, v)])
      | some _ => none
    | _ => none
  | _, _ => none
noncomputable def bindArgs : List Nat → Nat → List AV → Option Loc
  | [], _, [] => some []
  | x :: r, d, v :: vs => match bindArgs r d vs with
    | some l => some ((x, v) :: l)
    | none => none
  | x :: r, d, [] => match Nat.ble (List.length (x :: r)) d with
    | true => match bindArgs r d [] with
      | some l => some ((x, .none) :: l)
      | none => none
    | false => none
  | [], _, _ :: _ => none
noncomputable def rangeL : Nat → Nat → List AV
  | 0, _ => []
  | n + 1, i => .int (.mk (.ofNat i) []) :: rangeL n (Nat.succ i)


/-- what an expression means here: its value; as a list of expressions; as a test; a chain of and / or; as a target -/
structure Den where
  ev : Loc → H → (AV → H → Bool) → Bool
  evs : Loc → H → (List AV → H → Bool) → Bool
  tst : Loc → H → (Bool → H → Bool) → Bool
  isNil : Bool
  ors : BoolOp → Loc → H → (AV → H → Bool) → Bool
  tors : BoolOp → Loc → H → (Bool → H → Bool) → Bool
  sto : AV → Loc → H → (Loc → H → Bool) → Bool
  stos : List AV → Loc → H → (Loc → H → Bool) → Bool
structure DenS where
  ex : Loc → H → (Fl → Loc → H → Bool) → Bool
  exs : Loc → H → (Fl → Loc → H → Bool) → Bool
noncomputable abbrev Ev := Loc → H → (AV → H → Bool) → Bool
noncomputable abbrev Call := Nat → List AV → H → (AV → H → Bool) → Bool
noncomputable def noEv : Ev := fun _ _ _ => false
noncomputable def noEvs : Loc → H → (List AV → H → Bool) → Bool := fun _ _ _ => false
noncomputable def noOrs : BoolOp → Loc → H → (AV → H → Bool) → Bool := fun _ _ _ _ => false
noncomputable def noTors : BoolOp → Loc → H → (Bool → H → Bool) → Bool := fun _ _ _ _ => false
noncomputable def noSto : AV → Loc → H → (Loc → H → Bool) → Bool := fun _ _ _ _ => false
noncomputable def noStos : List AV → Loc → H → (Loc → H → Bool) → Bool := fun _ _ _ _ => false
noncomputable def tstOf (ev : Ev) : Loc → H → (Bool → H → Bool) → Bool := fun loc h κ => ev loc h fun v h => truth v fun t => κ t h
noncomputable def leaf (ev : Ev) : Den := ⟨ev, noEvs, tstOf ev, false, noOrs, noTors, noSto, noStos⟩
noncomputable def leafT (ev : Ev) (t : Loc → H → (Bool → H → Bool) → Bool) : Den := ⟨ev, noEvs, t, false, noOrs, noTors, noSto, noStos⟩
noncomputable def leafS (ev : Ev) (s : AV → Loc → H → (Loc → H → Bool) → Bool) : Den := ⟨ev, noEvs, tstOf ev, false, noOrs, noTors, s, noStos⟩
noncomputable def drawAt : List (Nat × AV) → Nat → Nat → Option AV
  | [], _, _ => none
  | p :: r, k, m => match k with
    | 0 => match Nat.beq p.1 m with
      | true => some p.2
      | false => none
    | k + 1 => drawAt r k m
/-- what _law_take gives -/
noncomputable def draw (dr : List (Nat × AV)) (h : H) (vs : List AV) (κ : AV → H → Bool) : Bool := match vs with
  | [.ref b, .int (.mk (.ofNat m) [])] => match h.t.get b with
    | some (.list [.ref q, .int (.mk (.ofNat k) [])]) => match h.t.get q with
      | some .ints => onS (drawAt dr k m) fun v => h.set b (.list [.ref q, .int (.mk (.ofNat (Nat.succ k)) [])]) fun h => κ v h
      | _ => false
    | _ => false
  | _ => false
noncomputable def bi1 (b : Nat) (xs : List AV) (h : H) (κ : AV → H → Bool) : Bool := match b with
  | 0 => κ (.int (.mk (.ofNat xs.length) [])) h
  | 1 => onS (anyT xs) fun r => κ (.bool r) h
  | 2 => onS (pairsOf h xs []) fun es => h.new (.dict es) κ
  | _ => false
noncomputable def builtin (bs : List (Int × Int)) (b : Nat) (vs : List AV) (h : H) (κ : AV → H → Bool) : Bool := match vs with
  | [.ref l] => h.at l fun ob => atList ob fun xs => bi1 b xs h κ
  | [.int x, .int y] => match b with
    | 3 => onS (y.lt bs x) fun r => Bool.rec (κ (.int y) h) (κ (.int x) h) r
    | _ => false
  | _ => false
noncomputable def Fl.val : Fl → AV
  | .ret v => v
  | _ => .none
noncomputable def notB (b : Bool) : Bool := match b with | true => false | false => true
noncomputable def stops (op : BoolOp) (t : Bool) (yes no : Bool) : Bool := match op, t with
  | .And, false => yes
  | .Or, true => yes
  | _, _ => no
noncomputable def start (op : BoolOp) : Bool := match op with | .And => true | .Or => false
noncomputable def made (o : AV) (r : AV) (h : H) (κ : AV → H → Bool) : Bool := match r with
  | .none => κ o h
  | _ => false
noncomputable def one (vs : List AV) (κ : AV → Bool) : Bool := match vs with
  | [v] => κ v
  | _ => false
noncomputable def nil0 (vs : List AV) (b : Bool) : Bool := match vs with
  | [] => b
  | _ => false
noncomputable def getOr (o : Option AV) (h : H) (κ : AV → H → Bool) : Bool := match o with
  | some v => κ v h
  | none => κ .none h
noncomputable def negV (v : AV) (h : H) (κ : AV → H → Bool) : Bool := match v with
  | .int (.mk c []) => κ (.int (.mk (Int.neg c) [])) h
  | _ => false
noncomputable def rest (xs : List AV) (κ : List AV → Bool) : Bool := match xs with
  | [] => false
  | _ :: r => κ r
noncomputable def isTab (ob : AO) (κ : Nat → Bool) : Bool := match ob with
  | .tab k => κ k
  | _ => false

section
variable (tx : Txt) (call : Call)
noncomputable def cLoc (x : Nat) : Ev := fun loc h κ => onS (look loc x) fun v => κ v h
noncomputable def cGlob (x : Nat) : Ev := fun _ h κ => onS (look tx.globs x) fun v => κ v h
noncomputable def cAttr (e : Den) (a : Nat) : Ev := fun loc h κ => e.ev loc h fun o h => getA tx h o a fun v => κ v h
noncomputable def cSub (e i : Den) : Ev := fun loc h κ => e.ev loc h fun o h => i.ev loc h fun i h => getItem tx.menus h o i fun v => κ v h
noncomputable def cTail (e i : Den) : Ev := fun loc h κ =>
  e.ev loc h fun o h => i.ev loc h fun i h => asRef o fun l => asNat i fun k => Bool.rec false (h.at l fun ob => atTup ob fun xs => rest xs fun r => h.new (.tup r) κ) (Nat.beq k 1)
noncomputable def cCallF (f : Nat) (args : Den) : Ev := fun loc h κ => Bool.rec false (args.evs loc h fun vs h => call f vs h κ) (Nat.blt f 100)
noncomputable def cCallC (c : Nat) (args : Den) : Ev := fun loc h κ =>
  args.evs loc h fun vs h => h.new (.dict []) fun d h => asRef d fun d => h.new (.inst c d) fun o h => onS (tx.inits.get c) fun f => call f (o :: vs) h fun r h => made o r h κ
noncomputable def cCallB (b : Nat) (args : Den) : Ev := fun loc h κ => Bool.rec false (args.evs loc h fun vs h => builtin tx.bs b vs h κ) (Nat.blt b 4)
end
section
variable (tx : Txt) (call : Call)
/-- a method that is a field of the object itself: a lambda without arguments -/
noncomputable def ownCall (q : Nat) (args : Den) (loc : Loc) (h : H) (κ : AV → H → Bool) : Bool :=
  args.evs loc h fun vs h => nil0 vs (h.at q fun ob => match ob with
    | .lam j => onS (tx.lams.get j) fun v => κ v h
    | _ => false)
noncomputable def instCall (l C d a : Nat) (args : Den) (loc : Loc) (h : H) (κ : AV → H → Bool) : Bool :=
  onS (tx.meths.get C) fun ms => match look ms a with
    | some f => h.at d fun ob => atDict ob fun es => noneB (findS es a) (args.evs loc h fun vs h => call f (.ref l :: vs) h κ)
    | none => h.at d fun ob => atDict ob fun es => onS (findS es a) fun v => asRef v fun q => ownCall tx q args loc h κ
noncomputable def listCall (l a : Nat) (args : Den) (loc : Loc) (h : H) (κ : AV → H → Bool) : Bool :=
  Bool.rec false (args.evs loc h fun vs h => one vs fun v => h.at l fun ob => atList ob fun xs => h.set l (.list (List.append xs [v])) fun h => κ .none h) (Nat.beq a tx.nAppend)
noncomputable def dictCall (l a : Nat) (args : Den) (loc : Loc) (h : H) (κ : AV → H → Bool) : Bool :=
  Bool.rec false (args.evs loc h fun vs h => one vs fun v => h.at l fun ob => atDict ob fun es => Bool.rec false (asStr v fun x => getOr (findS es x) h κ) (allS es)) (Nat.beq a tx.nGet)
noncomputable def methCall (o : AV) (a : Nat) (args : Den) (loc : Loc) (h : H) (κ : AV → H → Bool) : Bool :=
  asRef o fun l => h.at l fun ob => match ob with
    | .inst C d => instCall tx call l C d a args loc h κ
    | .list _ => listCall tx l a args loc h κ
    | .dict _ => dictCall tx l a args loc h κ
    | _ => false
noncomputable def cCallM (e : Den) (a : Nat) (args : Den) : Ev := fun loc h κ => e.ev loc h fun o h => methCall tx call o a args loc h κ
noncomputable def cBin (op : Operator) (a b : Den) : Ev := fun loc h κ => a.ev loc h fun a h => b.ev loc h fun b h => asInt a fun x => asInt b fun y => onS (LI.bin tx.pows op x y) fun r => κ (.int r) h
noncomputable def cCmp (op : CmpOp) (a b : Den) : Ev := fun loc h κ => a.ev loc h fun a h => b.ev loc h fun b h => onS (cmpV tx.bs h op a b) fun r => κ (.bool r) h
noncomputable def cNot (e : Den) : Ev := fun loc h κ => e.ev loc h fun v h => truth v fun t => κ (.bool (notB t)) h
noncomputable def tNot (e : Den) : Loc → H → (Bool → H → Bool) → Bool := fun loc h κ => e.tst loc h fun t h => κ (notB t) h
noncomputable def cNeg (e : Den) : Ev := fun loc h κ => e.ev loc h fun v h => negV v h κ
noncomputable def cIfe (t a b : Den) : Ev := fun loc h κ => t.tst loc h fun t h => Bool.rec (b.ev loc h κ) (a.ev loc h κ) t
noncomputable def tIfe (t a b : Den) : Loc → H → (Bool → H → Bool) → Bool := fun loc h κ => t.tst loc h fun t h => Bool.rec (b.tst loc h κ) (a.tst loc h κ) t
noncomputable def cList (es : Den) : Ev := fun loc h κ => es.evs loc h fun vs h => h.new (.list vs) κ
noncomputable def cTup (es : Den) : Ev := fun loc h κ => es.evs loc h fun vs h => h.new (.tup vs) κ
noncomputable def cDict (ks vs : Den) : Ev := fun loc h κ => Bool.rec
  (ks.evs loc h fun ks h => vs.evs loc h fun vs h => one ks fun k => one vs fun v => asStr k fun x => h.new (.dict [(.str x, v)]) κ)
  (Bool.rec false (h.new (.dict []) κ) vs.isNil) ks.isNil
noncomputable def compL (elt ifs : Den) (x : Nat) (loc : Loc) (xs : List AV) : H → (List AV → H → Bool) → Bool :=
  List.rec (fun h κ => κ [] h) (fun v _ ih h κ => ifs.tors .And ((x, v) :: loc) h fun t h =>
    Bool.rec (ih h κ) (elt.ev ((x, v) :: loc) h fun y h => ih h fun ys h => κ (y :: ys) h) t) xs
noncomputable def compEnd (elt ifs : Den) (x : Nat) (loc : Loc) (h : H) (κ : AV → H → Bool) (l : Nat) (xs : List AV) : Bool :=
  compL elt ifs x loc xs (h.locked l) fun vs h' => (h'.free h.lock).new (.list vs) κ
noncomputable def cComp (elt : Den) (x : Nat) (it ifs : Den) : Ev := fun loc h κ => it.ev loc h fun o h => itemsOf h o (compEnd elt ifs x loc h κ)
noncomputable def cCompV (elt : Den) (x : Nat) (e : Den) (a : Nat) (ifs : Den) : Ev := fun loc h κ =>
  Bool.rec false (e.ev loc h fun o h => asRef o fun l => h.at l fun ob => atDict ob fun es => Bool.rec false (compEnd elt ifs x loc h κ l (valsOf es)) (allI es)) (Nat.beq a tx.nValues)
noncomputable def cLam (j : Nat) : Ev := fun _ h κ => h.at 4 fun ob => isTab ob fun k => Bool.rec false (h.set 4 (.tab (Nat.succ k)) fun h => h.new (.lam j) κ) (Nat.beq k j)
noncomputable def sLoc (x : Nat) : AV → Loc → H → (Loc → H → Bool) → Bool := fun v loc h κ => κ ((x, v) :: loc) h
noncomputable def sAttr (o : Den) (a : Nat) : AV → Loc → H → (Loc → H → Bool) → Bool := fun v loc h κ => o.ev loc h fun o h => setA tx h o a v fun h => κ loc h
noncomputable def lCons (a r : Den) : Den where
  ev := noEv
  evs loc h κ := a.ev loc h fun v h => r.evs loc h fun vs h => κ (v :: vs) h
  tst := fun _ _ _ => false
  isNil := false
  ors op loc h κ := Bool.rec (a.ev loc h fun v h => truth v fun t => stops op t (κ v h) (r.ors op loc h κ)) (a.ev loc h κ) r.isNil
  tors op loc h κ := a.tst loc h fun t h => stops op t (κ t h) (r.tors op loc h κ)
  sto := noSto
  stos vs loc h κ := List.rec false (fun v vs _ => a.sto v loc h fun loc h => r.stos vs loc h κ) vs
noncomputable def lNil : Den where
  ev := noEv
  evs _ h κ := κ [] h
  tst := fun _ _ _ => false
  isNil := true
  ors := noOrs
  tors op _ h κ := κ (start op) h
  sto := noSto
  stos vs loc h κ := nil0 vs (κ loc h)
noncomputable def den (e : CE) : Den := CE.rec (motive := fun _ => Den)
  (nil := lNil)
  (cons := fun _ _ a r => lCons a r)
  (none := fun _ _ => leaf fun _ h κ => κ .none h)
  (bool := fun b _ _ => leaf fun _ h κ => κ (.bool b) h)
  (int := fun i _ _ => leaf fun _ h κ => κ (.int (.mk (.ofNat i) [])) h)
  (str := fun x _ _ => leaf fun _ h κ => κ (.str x) h)
  (byt := fun _ _ => leaf fun _ h κ => κ .byt h)
  (loc := fun x _ => leafS (cLoc x) (sLoc x))
  (glob := fun x _ => leaf (cGlob tx x))
  (attr := fun _ a _ e => leafS (cAttr tx e a) (sAttr tx e a))
  (sub := fun _ _ _ e i => leaf (cSub tx e i))
  (tail := fun _ _ _ _ e i => leaf (cTail e i))
  (callF := fun _ f _ _ _ args => leaf (cCallF call f args))
  (callC := fun _ c _ _ _ args => leaf (cCallC tx call c args))
  (callB := fun _ b _ _ _ args => leaf (cCallB tx b args))
  (callM := fun _ a _ _ _ e args => leaf (cCallM tx call e a args))
  (bin := fun op _ _ _ a b => leaf (cBin tx op a b))
  (cmp := fun op _ _ _ a b => leaf (cCmp tx op a b))
  (andor := fun op _ _ es => leafT (es.ors op) (es.tors op))
  (not := fun _ _ e => leafT (cNot e) (tNot e))
  (neg := fun _ _ e => leaf (cNeg e))
  (ife := fun _ _ _ _ t a b => leafT (cIfe t a b) (tIfe t a b))
  (list := fun _ _ es => leaf (cList es))
  (tup := fun _ _ _ es => leaf (cTup es))
  (dict := fun _ _ _ ks vs => leaf (cDict ks vs))
  (comp := fun _ x _ _ _ _ _ elt it ifs => leaf (cComp elt x it ifs))
  (compV := fun _ x _ _ a _ _ _ _ _ elt e ifs => leaf (cCompV tx elt x e a ifs))
  (lam := fun j _ => leaf (cLam j)) e

noncomputable def noExs : Loc → H → (Fl → Loc → H → Bool) → Bool := fun _ _ _ => false
noncomputable def stm (ex : Loc → H → (Fl → Loc → H → Bool) → Bool) : DenS := ⟨ex, noExs⟩
noncomputable def goOn (fl : Fl) (stay go : Bool) : Bool := match fl with
  | .next => go
  | _ => stay
noncomputable def turnEnd (fl : Fl) (stay go : Bool) : Bool := match fl with
  | .ret _ => stay
  | _ => go
noncomputable def xExpr (e : Den) : Loc → H → (Fl → Loc → H → Bool) → Bool := fun loc h κ => e.ev loc h fun _ h => κ .next loc h
noncomputable def xAsN (x : Nat) (e : Den) : Loc → H → (Fl → Loc → H → Bool) → Bool := fun loc h κ => e.ev loc h fun v h => κ .next ((x, v) :: loc) h
noncomputable def xAsA (o : Den) (a : Nat) (e : Den) : Loc → H → (Fl → Loc → H → Bool) → Bool := fun loc h κ =>
  e.ev loc h fun v h => o.ev loc h fun o h => setA tx h o a v fun h => κ .next loc h
noncomputable def xAsI (o i e : Den) : Loc → H → (Fl → Loc → H → Bool) → Bool := fun loc h κ =>
  e.ev loc h fun v h => o.ev loc h fun o h => i.ev loc h fun i h => setI h o i v fun h => κ .next loc h
noncomputable def xAsT (ts es : Den) : Loc → H → (Fl → Loc → H → Bool) → Bool := fun loc h κ =>
  es.evs loc h fun vs h => ts.stos vs loc h fun loc h => κ .next loc h
noncomputable def xAugA (o : Den) (a : Nat) (op : Operator) (e : Den) : Loc → H → (Fl → Loc → H → Bool) → Bool := fun loc h κ =>
  o.ev loc h fun o h => getA tx h o a fun old => e.ev loc h fun v h => asInt old fun x => asInt v fun y => onS (LI.bin tx.pows op x y) fun r => setA tx h o a (.int r) fun h => κ .next loc h
noncomputable def xIf (t : Den) (b o : DenS) : Loc → H → (Fl → Loc → H → Bool) → Bool := fun loc h κ =>
  t.tst loc h fun t h => Bool.rec (o.exs loc h κ) (b.exs loc h κ) t
noncomputable def forL (b : DenS) (x : Nat) (xs : List AV) : Loc → H → (Fl → Loc → H → Bool) → Bool :=
  List.rec (fun loc h κ => κ .next loc h) (fun v _ ih loc h κ => b.exs ((x, v) :: loc) h fun fl loc h => turnEnd fl (κ fl loc h) (ih loc h κ)) xs
noncomputable def xFor (x : Nat) (it : Den) (b : DenS) : Loc → H → (Fl → Loc → H → Bool) → Bool := fun loc h κ =>
  it.ev loc h fun o h => itemsOf h o fun l xs => forL b x xs loc (h.locked l) fun fl loc h' => κ fl loc (h'.free h.lock)
noncomputable def xForR (x : Nat) (e : Den) (b : DenS) : Loc → H → (Fl → Loc → H → Bool) → Bool := fun loc h κ =>
  e.ev loc h fun v h => asNat v fun n => Bool.rec false (forL b x (rangeL n 0) loc h κ) (Nat.blt n 9)
noncomputable def xRet (e : Den) : Loc → H → (Fl → Loc → H → Bool) → Bool := fun loc h κ => e.ev loc h fun v h => κ (.ret v) loc h
noncomputable def bCons (s r : DenS) : Loc → H → (Fl → Loc → H → Bool) → Bool := fun loc h κ =>
  s.ex loc h fun fl loc h => goOn fl (κ fl loc h) (r.exs loc h κ)
noncomputable def denS (s : CS) : DenS := CS.rec (motive := fun _ => DenS)
  (nil := ⟨noExs, fun loc h κ => κ .next loc h⟩)
  (cons := fun _ _ s r => ⟨noExs, bCons s r⟩)
  (expr := fun e _ => stm (xExpr (den tx call e)))
  (asN := fun x _ e _ => stm (xAsN x (den tx call e)))
  (asA := fun o a _ e _ => stm (xAsA tx (den tx call o) a (den tx call e)))
  (asI := fun o i _ e _ => stm (xAsI (den tx call o) (den tx call i) (den tx call e)))
  (asT := fun ts _ _ es _ _ _ => stm (xAsT (den tx call ts) (den tx call es)))
  (augA := fun o a _ op e _ => stm (xAugA tx (den tx call o) a op (den tx call e)))
  (ifs := fun t _ _ _ b o => stm (xIf (den tx call t) b o))
  (for_ := fun x _ it _ _ b => stm (xFor x (den tx call it) b))
  (forR := fun x _ _ e _ _ _ _ b => stm (xForR x (den tx call e) b))
  (ret := fun e _ => stm (xRet (den tx call e)))
  (ret0 := fun _ => stm fun loc h κ => κ (.ret .none) loc h)
  (cont := fun _ => stm fun loc h κ => κ .cont loc h)
  (raise := fun _ _ => stm noExs) s
noncomputable def defCall (f : Nat) (vs : List AV) (h : H) (κ : AV → H → Bool) : Bool :=
  onS (tx.fns.get f) fun fn => onS (bindArgs fn.params fn.dflt vs) fun loc => (denS tx call fn.body).exs loc h fun fl _ h => κ fl.val h
noncomputable def stCall : Call := fun f vs h κ => Bool.rec (defCall tx call f vs h κ) (draw tx.draws h vs κ) (Nat.beq f tx.take)
end
/-- calls, n deep -/
noncomputable def run (tx : Txt) (n : Nat) : Call := Nat.rec (fun _ _ _ _ => false) (fun _ ih => stCall tx ih) n
end Mine
end

section
set_option maxRecDepth 100000
namespace Mine
open PySem
/-! printed by wip/Gen.lean and wip/mkcode.py -/
noncomputable def nameTab : List Str := [(Str.ofString "is_proven"), (Str.ofString "count"), (Str.ofString "conn"), (Str.ofString "shake"), (Str.ofString "state"), (Str.ofString "Space"), (Str.ofString "spaces"), (Str.ofString "name"), (Str.ofString "initial"), (Str.ofString "handshake"), (Str.ofString "application"), (Str.ofString "dict"), (Str.ofString "rtt"), (Str.ofString "paths"), (Str.ofString "Rtt"), (Str.ofString "server"), (Str.ofString "home"), (Str.ofString "Paths"), (Str.ofString "sample"), (Str.ofString "keys"), (Str.ofString "config"), (Str.ofString "timer"), (Str.ofString "probe_count"), (Str.ofString "is_confirmed"), (Str.ofString "is_client"), (Str.ofString "most_delay"), (Str.ofString "way"), (Str.ofString "script"), (Str.ofString "asked"), (Str.ofString "box"), (Str.ofString "_law_take"), (Str.ofString "_law_state"), (Str.ofString "place"), (Str.ofString "turn"), (Str.ofString "range"), (Str.ofString "asks"), (Str.ofString "on_sent"), (Str.ofString "take_number"), (Str.ofString "ping"), (Str.ofString "ack"), (Str.ofString "loss_time"), (Str.ofString "came"), (Str.ofString "went"), (Str.ofString "late"), (Str.ofString "on_datagram"), (Str.ofString "away"), (Str.ofString "on_packet"), (Str.ofString "active"), (Str.ofString "challenge"), (Str.ofString "free"), (Str.ofString "probe"), (Str.ofString "loss"), (Str.ofString "bound"), (Str.ofString "set_timer"), (Str.ofString "is_path_lost"), (Str.ofString "address"), (Str.ofString "next_time"), (Str.ofString "base"), (Str.ofString "times"), (Str.ofString "found"), (Str.ofString "space"), (Str.ofString "SPACE_ORDER"), (Str.ofString "told"), (Str.ofString "get"), (Str.ofString "last_asked"), (Str.ofString "sent_at"), (Str.ofString "delay"), (Str.ofString "probe_period"), (Str.ofString "any"), (Str.ofString "is_validated"), (Str.ofString "has_handshake_keys"), (Str.ofString "now"), (Str.ofString "is_anything_asked"), (Str.ofString "probe_times"), (Str.ofString "earliest_of"), (Str.ofString "loss_times"), (Str.ofString "told_probe"), (Str.ofString "is_blocked"), (Str.ofString "begin_anew"), (Str.ofString "is_gone"), (Str.ofString "eliciting_left"), (Str.ofString "last_eliciting_time"), (Str.ofString "largest_acked"), (Str.ofString "elder"), (Str.ofString "newer"), (Str.ofString "losses"), (Str.ofString "probe_base"), (Str.ofString "probe_due"), (Str.ofString "room"), (Str.ofString "next_timer"), (Str.ofString "is_same_probe"), (Str.ofString "on_time"), (Str.ofString "back"), (Str.ofString "renew_way"), (Str.ofString "lost"), (Str.ofString "f"), (Str.ofString "NOT_ELICITING"), (Str.ofString "close"), (Str.ofString "row"), (Str.ofString "is_eliciting"), (Str.ofString "counts_in_flight"), (Str.ofString "self"), (Str.ofString "since"), (Str.ofString "latest"), (Str.ofString "least"), (Str.ofString "smoothed8"), (Str.ofString "INITIAL_RTT"), (Str.ofString "variance4"), (Str.ofString "first_at"), (Str.ofString "ack_delay"), (Str.ofString "min"), (Str.ofString "adjusted"), (Str.ofString "without_delay"), (Str.ofString "apart"), (Str.ofString "smoothed"), (Str.ofString "abs"), (Str.ofString "GRANULARITY"), (Str.ofString "max"), (Str.ofString "PATH_PROVEN"), (Str.ofString "PATH_UNPROVEN"), (Str.ofString "is_free"), (Str.ofString "received"), (Str.ofString "sent"), (Str.ofString "challenges"), (Str.ofString "deadline"), (Str.ofString "wants_more"), (Str.ofString "TIMES_RECEIVED"), (Str.ofString "size"), (Str.ofString "data"), (Str.ofString "wait"), (Str.ofString "PATH_TRYING"), (Str.ofString "append"), (Str.ofString "PATH_FAILED"), (Str.ofString "role"), (Str.ofString "may_move"), (Str.ofString "known"), (Str.ofString "Path"), (Str.ofString "last_proven"), (Str.ofString "highest"), (Str.ofString "answers"), (Str.ofString "path"), (Str.ofString "path_of"), (Str.ofString "client"), (Str.ofString "an address that is not known"), (Str.ofString "PacketRefused"), (Str.ofString "opened"), (Str.ofString "on_received"), (Str.ofString "number"), (Str.ofString "is_probing"), (Str.ofString "is_newest"), (Str.ofString "renew"), (Str.ofString "len"), (Str.ofString "fail"), (Str.ofString "same"), (Str.ofString "shown"), (Str.ofString "time"), (Str.ofString "frames"), (Str.ofString "any_eliciting"), (Str.ofString "in_flight"), (Str.ofString "any_in_flight"), (Str.ofString "next_number"), (Str.ofString "acked"), (Str.ofString "largest_seen"), (Str.ofString "largest_time"), (Str.ofString "floor"), (Str.ofString "first_unacked"), (Str.ofString "unacked"), (Str.ofString "wants_now"), (Str.ofString "has_new"), (Str.ofString "ecn"), (Str.ofString "packet"), (Str.ofString "SentPacket"), (Str.ofString "values"), (Str.ofString "unproven"), (Str.ofString "trying"), (Str.ofString "proven"), (Str.ofString "failed"), (Str.ofString "padding")]
noncomputable def sc0 : Scope := ⟨.function, [((Str.ofString ".0"), .local), ((Str.ofString "name"), .local), ((Str.ofString "Space"), .globalImplicit)], false, false, []⟩
noncomputable def sc1 : Scope := ⟨.function, [((Str.ofString ".0"), .local), ((Str.ofString "space"), .local), ((Str.ofString "last_asked"), .free)], false, false, []⟩
noncomputable def sc2 : Scope := ⟨.function, [((Str.ofString ".0"), .local), ((Str.ofString "name"), .local), ((Str.ofString "conn"), .free)], false, false, []⟩
noncomputable def sc3 : Scope := ⟨.function, [((Str.ofString ".0"), .local), ((Str.ofString "f"), .local), ((Str.ofString "is_eliciting"), .globalImplicit)], false, false, []⟩
noncomputable def sc4 : Scope := ⟨.function, [((Str.ofString ".0"), .local), ((Str.ofString "f"), .local), ((Str.ofString "counts_in_flight"), .globalImplicit)], false, false, []⟩
noncomputable def sc5 : Scope := ⟨.function, [((Str.ofString ".0"), .local), ((Str.ofString "path"), .local)], false, false, []⟩
noncomputable def sc6 : Scope := ⟨.function, [((Str.ofString ".0"), .local), ((Str.ofString "path"), .local)], false, false, []⟩
noncomputable def sc7 : Scope := ⟨.function, [((Str.ofString ".0"), .local), ((Str.ofString "packet"), .local)], false, false, []⟩
noncomputable def lam0 : CE := (.bool false 0 4580080458013)
noncomputable def lamSc0 : Scope := ⟨.function, [], false, false, []⟩
-- args 0 0
noncomputable def lam1 : CE := (.int 25000 0 4590080459013)
noncomputable def lamSc1 : Scope := ⟨.function, [], false, false, []⟩
-- args 0 0
/-- _law_state, dF 57 -/
noncomputable def f1 : Fn := ⟨[0, 1], 0, (.cons (.asT (.cons (.loc 2 4520040452008) (.cons (.loc 3 4520100452015) .nil)) 0 4520040452015 (.cons (.callC 5 4 (.cons (.str 4 0 4520250452032) .nil) 4520190452024 4520190452033) (.cons (.callC 5 4 (.cons (.str 3 0 4520410452048) .nil) 4520350452040 4520350452049) .nil)) 0 4520180452050 4520040452050) (.cons (.asA (.loc 2 4530040453008) 6 4530040453015 (.callB 11 2 (.cons (.comp (.tup (.cons (.loc 7 4530250453029) (.cons (.callC 5 4 (.cons (.loc 7 4530370453041) .nil) 4530310453036 4530310453042) .nil)) 0 4530240453043) 7 4530480453052 (.tup (.cons (.str 8 0 4530570453066) (.cons (.str 9 0 4530680453079) (.cons (.str 10 0 4530810453094) .nil))) 0 4530560453095) .nil 0 4530230453096) .nil) 4530180453022 4530180453097) 4530040453097) (.cons (.asT (.cons (.attr (.loc 2 4540040454008) 12 4540040454012) (.cons (.attr (.loc 2 4540140454018) 13 4540140454024) (.cons (.attr (.loc 2 4540260454030) 3 4540260454036) .nil))) 0 4540040454036 (.cons (.callC 14 0 .nil 4540400454043 4540400454045) (.cons (.callC 17 2 (.cons (.str 15 0 4540530454061) (.cons (.str 16 0 4540630454069) (.cons (.loc 0 4540710454080) (.cons (.bool true 0 4540820454086) .nil)))) 4540470454052 4540470454087) (.cons (.loc 3 4540890454094) .nil))) 0 4540390454095 4540040454095) (.cons (.expr (.callM (.attr (.loc 2 4550040455008) 12 4550040455012) 18 (.cons (.int 100 0 4550200455023) (.cons (.int 0 0 4550250455026) (.cons (.none 0 4550280455032) (.cons (.int 0 0 4550340455035) .nil)))) 4550040455019 4550040455036) 4550040455036) (.cons (.asT (.cons (.attr (.loc 2 4560040456008) 19 4560040456013) (.cons (.attr (.loc 2 4560150456019) 20 4560150456026) (.cons (.attr (.loc 2 4560280456032) 21 4560280456038) (.cons (.attr (.loc 2 4560400456044) 22 4560400456056) (.cons (.attr (.loc 3 4560580456063) 23 4560580456076) .nil))))) 0 4560040456076 (.cons (.dict .nil .nil 4560800456082) (.cons (.dict (.cons (.str 8 0 4560850456094) .nil) (.cons (.int 1200 0 4560960456100) .nil) 4560840456101) (.cons (.none 0 4561030456107) (.cons (.loc 1 4561090456114) (.cons (.bool true 0 4561160456120) .nil))))) 0 4560790456121 4560040456121) (.cons (.asT (.cons (.attr (.loc 2 4570040457008) 24 4570040457018) (.cons (.attr (.loc 2 4570200457024) 25 4570200457035) (.cons (.attr (.loc 2 4570370457041) 26 4570370457045) .nil))) 0 4570040457045 (.cons (.lam 0 4580000458013) (.cons (.lam 1 4590000459013) (.cons (.str 16 0 4590160459022) .nil))) 0 4570480459023 4570040459023) (.cons (.ret (.loc 2 4600110460015) 4600040460015) .nil)))))))⟩
noncomputable def law1 : CS := (.asT (.cons (.loc 0 4630040463013) (.cons (.loc 1 4630150463020) (.cons (.loc 28 4630220463027) .nil))) 0 4630040463027 (.cons (.cmp .NotEq (.callF 30 0 (.cons (.loc 29 4630410463044) (.cons (.int 4 0 4630460463047) .nil)) 4630310463040 4630310463048) (.int 1 0 4630520463053) 4630310463053) (.cons (.callF 30 0 (.cons (.loc 29 4630650463068) (.cons (.int 3 0 4630700463071) .nil)) 4630550463064 4630550463072) (.cons (.none 0 4630740463078) .nil))) 0 4630300463079 4630040463079)
noncomputable def law2 : CS := (.asN 2 4640040464008 (.callF 31 1 (.cons (.loc 0 4640220464031) (.cons (.loc 1 4640330464038) .nil)) 4640110464021 4640110464039) 4640040464039)
noncomputable def law3 : CS := (.asN 32 4650040465009 (.sub (.attr (.loc 2 4650120465016) 6 4650120465023) (.str 10 0 4650240465037) 4650120465038) 4650040465038)
noncomputable def law4 : CS := (.forR 33 4660080466012 34 (.callF 30 0 (.cons (.loc 29 4660320466035) (.cons (.int 4 0 4660370466038) .nil)) 4660220466031 4660220466039) 4660160466021 4660160466040 (.cons (.asN 35 4670080467012 (.cmp .NotEq (.callF 30 0 (.cons (.loc 29 4670250467028) (.cons (.int 3 0 4670300467031) .nil)) 4670150467024 4670150467032) (.int 0 0 4670360467037) 4670150467037) 4670080467037) (.cons (.expr (.callM (.loc 32 4680080468013) 36 (.cons (.callM (.loc 32 4680220468027) 37 .nil 4680220468039 4680220468041) (.cons (.bin .Add (.int 10 0 4680430468045) (.loc 33 4680480468052) 4680430468052) (.cons (.int 100 0 4680540468057) (.cons (.ife (.loc 35 4680740468078) (.list (.cons (.tup (.cons (.str 38 0 4680610468067) .nil) 0 4680600468069) .nil) 4680590468070) (.list (.cons (.tup (.cons (.str 39 0 4680860468091) (.cons (.int 0 0 4680930468094) (.cons (.list (.cons (.tup (.cons (.int 0 0 4680980468099) (.cons (.int 0 0 4681010468102) .nil)) 0 4680970468103) .nil) 4680960468104) (.cons (.none 0 4681060468110) .nil)))) 0 4680850468111) .nil) 4680840468112) 4680590468112) .nil)))) 4680080468021 4680080468113) 4680080468113) (.cons (.asN 28 4690080469013 (.ife (.loc 35 4690290469033) (.bin .Add (.int 10 0 4690160469018) (.loc 33 4690210469025) 4690160469025) (.loc 28 4690390469044) 4690160469044) 4690080469044) .nil))) 4660040469044)
noncomputable def law5 : CS := (.asA (.loc 32 4700040470009) 40 4700040470019 (.sub (.list (.cons (.none 0 4700230470027) (.cons (.none 0 4700290470033) (.cons (.int 2500 0 4700350470039) (.cons (.int 5000 0 4700410470045) .nil)))) 4700220470046) (.callF 30 0 (.cons (.loc 29 4700570470060) (.cons (.int 4 0 4700620470063) .nil)) 4700470470056 4700470470064) 4700220470065) 4700040470065)
noncomputable def law6 : CS := (.asT (.cons (.loc 41 4710040471008) (.cons (.loc 42 4710100471014) .nil)) 0 4710040471014 (.cons (.sub (.list (.cons (.int 2000 0 4710190471023) (.cons (.int 400 0 4710250471028) (.cons (.int 500 0 4710300471033) (.cons (.int 100 0 4710350471038) .nil)))) 4710180471039) (.callF 30 0 (.cons (.loc 29 4710500471053) (.cons (.int 4 0 4710550471056) .nil)) 4710400471049 4710400471057) 4710180471058) (.cons (.sub (.list (.cons (.int 0 0 4710610471062) (.cons (.int 200 0 4710640471067) (.cons (.int 300 0 4710690471072) .nil))) 4710600471073) (.callF 30 0 (.cons (.loc 29 4710840471087) (.cons (.int 3 0 4710890471090) .nil)) 4710740471083 4710740471091) 4710600471092) .nil)) 0 4710170471093 4710040471093)
noncomputable def law7 : CS := (.asN 43 4720040472008 (.callF 30 0 (.cons (.loc 29 4720210472024) (.cons (.int 50 0 4720260472028) .nil)) 4720110472020 4720110472029) 4720040472029)
noncomputable def law8 : CS := (.expr (.callM (.attr (.loc 2 4730040473008) 13 4730040473014) 44 (.cons (.str 45 0 4730270473033) (.cons (.loc 41 4730350473039) .nil)) 4730040473026 4730040473040) 4730040473040)
noncomputable def law9 : CS := (.ifs (.not (.callM (.attr (.loc 2 4740110474015) 13 4740110474021) 46 (.cons (.str 45 0 4740320474038) (.cons (.int 5 0 4740400474041) (.cons (.bool false 0 4740430474048) .nil))) 4740110474031 4740110474049) 4740070474049) (.cons (.ret (.bool false 0 4750150475020) 4750080475020) .nil) .nil 4740040475020)
noncomputable def law10 : CS := (.expr (.callM (.attr (.attr (.loc 2 4760040476008) 13 4760040476014) 47 4760040476021) 48 (.cons (.byt 0 4760320476043) (.cons (.int 1000 0 4760450476049) (.cons (.int 3000 0 4760510476055) .nil))) 4760040476031 4760040476056) 4760040476056)
noncomputable def law11 : CS := (.expr (.callM (.attr (.attr (.loc 2 4770040477008) 13 4770040477014) 47 4770040477021) 36 (.cons (.loc 42 4770300477034) .nil) 4770040477029 4770040477035) 4770040477035)
noncomputable def law12 : CS := (.asN 49 4780040478008 (.ife (.cmp .Is (.loc 28 4780190478024) (.none 0 4780280478032) 4780190478032) (.none 0 4780110478015) (.tup (.cons (.bin .Add (.loc 28 4780390478044) (.bin .Mult (.bin .Add (.int 1100 0 4780480478052) (.int 25000 0 4780550478060) 4780480478060) (.bin .Pow (.int 2 0 4780640478065) (.loc 1 4780690478074) 4780640478074) 4780470478074) 4780390478074) (.cons (.str 10 0 4780760478089) (.cons (.str 50 0 4780910478098) .nil))) 0 4780380478099) 4780110478099) 4780040478099)
noncomputable def law13 : CS := (.ifs (.cmp .IsNot (.attr (.loc 32 4790070479012) 40 4790070479022) (.none 0 4790300479034) 4790070479034) (.cons (.asN 49 4800080480012 (.tup (.cons (.attr (.loc 32 4800160480021) 40 4800160480031) (.cons (.str 10 0 4800330480046) (.cons (.str 51 0 4800480480054) .nil))) 0 4800150480055) 4800080480055) .nil) .nil 4790040480055)
noncomputable def law14 : CS := (.asN 52 4810040481009 (.ife (.andor .Or (.cons (.cmp .IsNot (.attr (.loc 32 4810200481025) 40 4810200481035) (.none 0 4810430481047) 4810200481047) (.cons (.cmp .GtE (.bin .Sub (.bin .Mult (.int 3 0 4810510481052) (.loc 41 4810550481059) 4810510481059) (.loc 42 4810620481066) 4810510481066) (.int 1200 0 4810700481074) 4810510481074) .nil)) 4810200481074) (.loc 49 4810120481016) (.none 0 4810800481084) 4810120481084) 4810040481084)
noncomputable def law15 : CS := (.expr (.callF 53 13 (.cons (.loc 2 4820140482018) (.cons (.int 1000 0 4820200482024) .nil)) 4820040482013 4820040482025) 4820040482025)
noncomputable def law16 : CS := (.ifs (.andor .Or (.cons (.cmp .NotEq (.attr (.loc 2 4830070483011) 21 4830070483017) (.loc 52 4830210483026) 4830070483026) (.cons (.callF 54 14 (.cons (.loc 2 4830430483047) (.cons (.int 3999 0 4830490483053) .nil)) 4830300483042 4830300483054) (.cons (.cmp .NotEq (.attr (.loc 2 4830580483062) 21 4830580483068) (.loc 52 4830720483077) 4830580483077) (.cons (.cmp .NotEq (.attr (.attr (.attr (.loc 2 4830820483086) 13 4830820483092) 47 4830820483099) 55 4830820483107) (.str 45 0 4831110483117) 4830820483117) .nil)))) 4830070483118) (.cons (.ret (.bool false 0 4840150484020) 4840080484020) .nil) .nil 4830040484020)
noncomputable def law17 : CS := (.ifs (.cmp .Eq (.callF 54 14 (.cons (.loc 2 4850200485024) (.cons (.bin .Add (.int 4000 0 4850260485030) (.loc 43 4850330485037) 4850260485037) .nil)) 4850070485019 4850070485038) (.loc 0 4850420485051) 4850070485051) (.cons (.ret (.bool false 0 4860150486020) 4860080486020) .nil) .nil 4850040486020)
noncomputable def law18 : CS := (.forR 33 4870080487012 34 (.int 2 0 4870220487023) 4870160487021 4870160487024 (.cons (.ifs (.cmp .NotEq (.attr (.loc 2 4880110488015) 21 4880110488021) (.ife (.loc 0 4880340488043) (.loc 49 4880260488030) (.loc 52 4880490488054) 4880260488054) 4880110488055) (.cons (.ret (.bool false 0 4890190489024) 4890120489024) .nil) .nil 4880080489024) (.cons (.ifs (.cmp .NotEq (.attr (.attr (.attr (.loc 2 4900110490015) 13 4900110490021) 47 4900110490028) 55 4900110490036) (.ife (.loc 0 4900510490060) (.str 16 0 4900410490047) (.str 45 0 4900660490072) 4900410490072) 4900110490073) (.cons (.ret (.bool false 0 4910190491024) 4910120491024) .nil) .nil 4900080491024) (.cons (.ifs (.cmp .Eq (.callF 54 14 (.cons (.loc 2 4920240492028) (.cons (.bin .Add (.int 9000 0 4920300492034) (.loc 33 4920370492041) 4920300492041) .nil)) 4920110492023 4920110492042) (.loc 0 4920460492055) 4920110492055) (.cons (.ret (.bool false 0 4930190493024) 4930120493024) .nil) .nil 4920080493024) .nil))) 4870040493024)
noncomputable def law19 : CS := (.ret (.cmp .Is (.callM (.attr (.loc 2 4940110494015) 13 4940110494021) 56 .nil 4940110494031 4940110494033) (.none 0 4940370494041) 4940110494041) 4940040494041)
/-- probe_period, dF 9 -/
noncomputable def f3 : Fn := ⟨[57, 25, 1], 0, (.cons (.ret (.bin .Mult (.bin .Add (.loc 57 520120052016) (.loc 25 520190052029) 520120052029) (.bin .Pow (.int 2 0 520330052034) (.loc 1 520380052043) 520330052043) 520110052043) 520040052043) .nil)⟩
/-- earliest_of, dF 10 -/
noncomputable def f4 : Fn := ⟨[58], 0, (.cons (.asN 59 540040054009 (.none 0 540120054016) 540040054016) (.cons (.for_ 60 550080055013 (.glob 61 550170055028) (.cons (.asN 62 560080056012 (.callM (.loc 58 560150056020) 63 (.cons (.loc 60 560250056030) .nil) 560150056024 560150056031) 560080056031) (.cons (.ifs (.andor .And (.cons (.cmp .IsNot (.loc 62 570110057015) (.none 0 570230057027) 570110057027) (.cons (.andor .Or (.cons (.cmp .Is (.loc 59 570330057038) (.none 0 570420057046) 570330057046) (.cons (.cmp .Lt (.loc 62 570500057054) (.sub (.loc 59 570570057062) (.int 0 0 570630057064) 570570057065) 570500057065) .nil)) 570330057065) .nil)) 570110057066) (.cons (.asN 59 580120058017 (.tup (.cons (.loc 62 580210058025) (.cons (.loc 60 580270058032) .nil)) 0 580200058033) 580120058033) .nil) .nil 570080058033) .nil)) 550040058033) (.cons (.ret (.loc 59 590110059016) 590040059016) .nil)))⟩
/-- probe_times, dF 11 -/
noncomputable def f5 : Fn := ⟨[64, 57, 25, 1, 23], 0, (.cons (.asN 59 610040061009 (.dict .nil .nil 610120061014) 610040061014) (.cons (.for_ 60 620080062013 (.glob 61 620170062028) (.cons (.asN 65 630080063015 (.callM (.loc 64 630180063028) 63 (.cons (.loc 60 630330063038) .nil) 630180063032 630180063039) 630080063039) (.cons (.ifs (.andor .Or (.cons (.cmp .Is (.loc 65 640110064018) (.none 0 640220064026) 640110064026) (.cons (.andor .And (.cons (.cmp .Eq (.loc 60 640310064036) (.str 10 0 640400064053) 640310064053) (.cons (.not (.loc 23 640630064075) 640590064075) .nil)) 640310064076) .nil)) 640110064077) (.cons (.cont 650120065020) .nil) .nil 640080065020) (.cons (.asN 66 660080066013 (.ife (.cmp .Eq (.loc 60 660300066035) (.str 10 0 660390066052) 660300066052) (.loc 25 660160066026) (.int 0 0 660580066059) 660160066059) 660080066059) (.cons (.asI (.loc 59 670080067013) (.loc 60 670140067019) 670080067020 (.bin .Add (.loc 65 670230067030) (.callF 67 3 (.cons (.loc 57 670460067050) (.cons (.loc 66 670520067057) (.cons (.loc 1 670590067064) .nil))) 670330067045 670330067065) 670230067065) 670080067065) .nil)))) 620040067065) (.cons (.ret (.loc 59 680110068016) 680040068016) .nil)))⟩
/-- is_anything_asked, dF 12 -/
noncomputable def f6 : Fn := ⟨[64], 0, (.cons (.ret (.callB 68 1 (.cons (.comp (.cmp .IsNot (.callM (.loc 64 700160070026) 63 (.cons (.loc 60 700310070036) .nil) 700160070030 700160070037) (.none 0 700450070049) 700160070049) 60 700540070059 (.glob 61 700630070074) .nil 1 700150070075) .nil) 700110070014 700110070076) 700040070076) .nil)⟩
/-- probe_due, dF 13 -/
noncomputable def f7 : Fn := ⟨[64, 57, 25, 1, 23, 69, 70, 71], 0, (.cons (.ifs (.callF 72 6 (.cons (.loc 64 720250072035) .nil) 720070072024 720070072036) (.cons (.ret (.callF 74 4 (.cons (.callF 73 5 (.cons (.loc 64 730390073049) (.cons (.loc 57 730510073055) (.cons (.loc 25 730570073067) (.cons (.loc 1 730690073074) (.cons (.loc 23 730760073088) .nil))))) 730270073038 730270073089) .nil) 730150073026 730150073090) 730080073090) .nil) .nil 720040073090) (.cons (.ifs (.loc 69 740070074019) (.cons (.ret (.none 0 750150075019) 750080075019) .nil) .nil 740040075019) (.cons (.ret (.tup (.cons (.bin .Add (.loc 71 760120076015) (.callF 67 3 (.cons (.loc 57 760310076035) (.cons (.int 0 0 760370076038) (.cons (.loc 1 760400076045) .nil))) 760180076030 760180076046) 760120076046) (.cons (.ife (.loc 70 760630076081) (.str 9 0 760480076059) (.str 8 0 760870076096) 760480076096) .nil)) 0 760110076097) 760040076097) .nil)))⟩
/-- next_timer, dF 14 -/
noncomputable def f8 : Fn := ⟨[75, 76, 77], 0, (.cons (.asN 62 780040078008 (.callF 74 4 (.cons (.loc 75 780230078033) .nil) 780110078022 780110078034) 780040078034) (.cons (.ifs (.cmp .IsNot (.loc 62 790070079011) (.none 0 790190079023) 790070079023) (.cons (.ret (.tup (.cons (.sub (.loc 62 800160080020) (.int 0 0 800210080022) 800160080023) (.cons (.sub (.loc 62 800250080029) (.int 1 0 800300080031) 800250080032) (.cons (.str 51 0 800340080040) .nil))) 0 800150080041) 800080080041) .nil) .nil 790040080041) (.cons (.ifs (.andor .Or (.cons (.loc 77 810070081017) (.cons (.cmp .Is (.loc 76 810210081031) (.none 0 810350081039) 810210081039) .nil)) 810070081039) (.cons (.ret (.none 0 820150082019) 820080082019) .nil) .nil 810040082019) (.cons (.ret (.tup (.cons (.sub (.loc 76 830120083022) (.int 0 0 830230083024) 830120083025) (.cons (.sub (.loc 76 830270083037) (.int 1 0 830380083039) 830270083040) (.cons (.str 50 0 830420083049) .nil))) 0 830110083050) 830040083050) .nil))))⟩
/-- renew_way, dF 22 -/
noncomputable def f9 : Fn := ⟨[2, 71], 0, (.cons (.asN 47 1320040132010 (.attr (.attr (.loc 2 1320130132017) 13 1320130132023) 47 1320130132030) 1320040132030) (.cons (.ifs (.andor .And (.cons (.callM (.loc 47 1330070133013) 0 .nil 1330070133023 1330070133025) (.cons (.cmp .NotEq (.attr (.loc 47 1330300133036) 55 1330300133044) (.attr (.loc 2 1330480133052) 26 1330480133056) 1330300133056) .nil)) 1330070133056) (.cons (.asA (.loc 2 1340080134012) 26 1340080134016 (.attr (.loc 47 1340190134025) 55 1340190134033) 1340080134033) (.cons (.expr (.callF 78 999 (.cons (.loc 2 1350190135023) (.cons (.loc 71 1350250135028) .nil)) 1350080135018 1350080135029) 1350080135029) .nil)) .nil 1330040135029) .nil))⟩
/-- last_asked, dF 23 -/
noncomputable def f10 : Fn := ⟨[2], 0, (.cons (.asN 59 1370040137009 (.dict .nil .nil 1370120137014) 1370040137014) (.cons (.for_ 7 1380080138012 (.attr (.loc 2 1380160138020) 6 1380160138027) (.cons (.asN 32 1390080139013 (.sub (.attr (.loc 2 1390160139020) 6 1390160139027) (.loc 7 1390280139032) 1390160139033) 1390080139033) (.cons (.asI (.loc 59 1400080140013) (.loc 7 1400140140018) 1400080140019 (.ife (.andor .And (.cons (.not (.attr (.loc 32 1400550140060) 79 1400550140068) 1400510140068) (.cons (.callM (.loc 32 1400730140078) 80 .nil 1400730140093 1400730140095) .nil)) 1400510140095) (.attr (.loc 32 1400220140027) 81 1400220140047) (.none 0 1401010140105) 1400220140105) 1400080140105) .nil)) 1380040140105) (.cons (.ret (.loc 59 1410110141016) 1410040141016) .nil)))⟩
/-- is_validated, dF 24 -/
noncomputable def f11 : Fn := ⟨[2], 0, (.cons (.ret (.andor .Or (.cons (.not (.callM (.loc 2 1430150143019) 24 .nil 1430150143029 1430150143031) 1430110143031) (.cons (.attr (.attr (.loc 2 1430350143039) 3 1430350143045) 23 1430350143058) (.cons (.cmp .IsNot (.attr (.sub (.attr (.loc 2 1430620143066) 6 1430620143073) (.str 9 0 1430740143085) 1430620143086) 82 1430620143100) (.none 0 1431080143112) 1430620143112) .nil))) 1430110143112) 1430040143112) .nil)⟩
/-- is_same_probe, dF 25 -/
noncomputable def f12 : Fn := ⟨[83, 84], 0, (.cons (.ifs (.andor .Or (.cons (.cmp .Is (.loc 83 1450070145012) (.none 0 1450160145020) 1450070145020) (.cons (.cmp .Is (.loc 84 1450240145029) (.none 0 1450330145037) 1450240145037) .nil)) 1450070145037) (.cons (.ret (.bool false 0 1460150146020) 1460080146020) .nil) .nil 1450040146020) (.cons (.ret (.andor .And (.cons (.cmp .Eq (.sub (.loc 83 1470110147016) (.int 2 0 1470170147018) 1470110147019) (.str 50 0 1470230147030) 1470110147030) (.cons (.cmp .Eq (.tail (.loc 83 1470350147040) (.int 1 0 1470410147042) 1470410147043 1470350147044) (.tail (.loc 84 1470480147053) (.int 1 0 1470540147055) 1470540147056 1470480147057) 1470350147057) (.cons (.cmp .LtE (.sub (.loc 83 1470630147068) (.int 0 0 1470690147070) 1470630147071) (.sub (.loc 84 1470750147080) (.int 0 0 1470810147082) 1470750147083) 1470630147083) .nil))) 1470110147084) 1470040147084) .nil))⟩
/-- set_timer, dF 26 -/
noncomputable def f13 : Fn := ⟨[2, 71], 0, (.cons (.asT (.cons (.loc 85 1490040149010) (.cons (.loc 28 1490120149017) .nil)) 0 1490040149017 (.cons (.callB 11 2 (.cons (.comp (.tup (.cons (.loc 7 1490280149032) (.cons (.attr (.sub (.attr (.loc 2 1490340149038) 6 1490340149045) (.loc 7 1490460149050) 1490340149051) 40 1490340149061) .nil)) 0 1490270149062) 7 1490670149071 (.attr (.loc 2 1490750149079) 6 1490750149086) .nil 2 1490260149087) .nil) 1490210149025 1490210149088) (.cons (.callF 64 10 (.cons (.loc 2 1491010149105) .nil) 1490900149100 1490900149106) .nil)) 0 1490200149107 1490040149107) (.cons (.asN 62 1500040150008 (.callF 87 7 (.cons (.loc 28 1500210150026) (.cons (.callM (.attr (.loc 2 1500280150032) 12 1500280150036) 86 .nil 1500280150047 1500280150049) (.cons (.callM (.loc 2 1500510150055) 25 .nil 1500510150066 1500510150068) (.cons (.attr (.loc 2 1500700150074) 22 1500700150086) (.cons (.attr (.attr (.loc 2 1500880150092) 3 1500880150098) 23 1500880150111) (.cons (.callF 69 11 (.cons (.loc 2 1501260150130) .nil) 1501130150125 1501130150131) (.cons (.cmp .In (.str 9 0 1501330150144) (.attr (.loc 2 1501480150152) 19 1501480150157) 1501330150157) (.cons (.loc 71 1501590150162) .nil)))))))) 1500110150020 1500110150163) 1500040150163) (.cons (.asN 88 1510040151008 (.callM (.attr (.attr (.loc 2 1510110151015) 13 1510110151021) 47 1510110151028) 88 .nil 1510110151033 1510110151035) 1510040151035) (.cons (.asN 84 1520040152009 (.callF 89 8 (.cons (.loc 85 1520230152029) (.cons (.loc 62 1520310152035) (.cons (.andor .And (.cons (.cmp .IsNot (.loc 88 1520370152041) (.none 0 1520490152053) 1520370152053) (.cons (.cmp .Lt (.loc 88 1520580152062) (.sub (.attr (.loc 2 1520650152069) 20 1520650152076) (.str 8 0 1520770152086) 1520650152087) 1520580152087) .nil)) 1520370152087) .nil))) 1520120152022 1520120152088) 1520040152088) (.cons (.ifs (.andor .Or (.cons (.callF 72 6 (.cons (.loc 28 1530250153030) .nil) 1530070153024 1530070153031) (.cons (.not (.callF 90 12 (.cons (.attr (.loc 2 1530530153057) 21 1530530153063) (.cons (.loc 84 1530650153070) .nil)) 1530390153052 1530390153071) 1530350153071) .nil)) 1530070153071) (.cons (.asA (.loc 2 1540080154012) 21 1540080154018 (.loc 84 1540210154026) 1540080154026) .nil) .nil 1530040154026) .nil)))))⟩
/-- is_path_lost, dF 27 -/
noncomputable def f14 : Fn := ⟨[2, 71], 0, (.cons (.asN 62 1560040156008 (.callM (.attr (.loc 2 1560110156015) 13 1560110156021) 91 (.cons (.loc 71 1560300156033) .nil) 1560110156029 1560110156034) 1560040156034) (.cons (.ifs (.cmp .Eq (.loc 62 1570070157011) (.str 92 0 1570150157021) 1570070157021) (.cons (.expr (.callF 93 9 (.cons (.loc 2 1580180158022) (.cons (.loc 71 1580240158027) .nil)) 1580080158017 1580080158028) 1580080158028) (.cons (.expr (.callF 53 13 (.cons (.loc 2 1590180159022) (.cons (.loc 71 1590240159027) .nil)) 1590080159017 1590080159028) 1590080159028) .nil)) .nil 1570040159028) (.cons (.ret (.cmp .Eq (.loc 62 1600110160015) (.str 94 0 1600190160025) 1600110160025) 1600040160025) .nil)))⟩
/-- is_eliciting, dF 40 -/
noncomputable def f15 : Fn := ⟨[95], 0, (.cons (.ret (.cmp .NotIn (.sub (.loc 95 3090110309012) (.int 0 0 3090130309014) 3090110309015) (.glob 96 3090230309036) 3090110309036) 3090040309036) .nil)⟩
/-- counts_in_flight, dF 41 -/
noncomputable def f16 : Fn := ⟨[95], 0, (.cons (.ret (.cmp .NotIn (.sub (.loc 95 3110110311012) (.int 0 0 3110130311014) 3110110311015) (.tup (.cons (.str 39 0 3110240311029) (.cons (.str 97 0 3110310311038) .nil)) 0 3110230311039) 3110110311039) 3110040311039) .nil)⟩
/-- any_eliciting, dF 42 -/
noncomputable def f17 : Fn := ⟨[98], 0, (.cons (.ret (.cmp .NotEq (.comp (.loc 95 3130120313013) 95 3130180313019 (.loc 98 3130230313026) (.cons (.callF 99 15 (.cons (.loc 95 3130430313044) .nil) 3130300313042 3130300313045) .nil) 3 3130110313046) (.list .nil 3130500313052) 3130110313052) 3130040313052) .nil)⟩
/-- any_in_flight, dF 43 -/
noncomputable def f18 : Fn := ⟨[98], 0, (.cons (.ret (.cmp .NotEq (.comp (.loc 95 3150120315013) 95 3150180315019 (.loc 98 3150230315026) (.cons (.callF 100 16 (.cons (.loc 95 3150470315048) .nil) 3150300315046 3150300315049) .nil) 4 3150110315050) (.list .nil 3150540315056) 3150110315056) 3150040315056) .nil)⟩
/-- Rtt.__init__, dM 19 0 -/
noncomputable def f19 : Fn := ⟨[101, 102], 1, (.cons (.asA (.loc 101 920080092012) 102 920080092018 (.loc 102 920210092026) 920080092026) (.cons (.asA (.loc 101 930080093012) 103 930080093019 (.int 0 0 930220093023) 930080093023) (.cons (.asA (.loc 101 940080094012) 104 940080094018 (.int 0 0 940210094022) 940080094022) (.cons (.asA (.loc 101 950080095012) 105 950080095022 (.bin .Mult (.int 8 0 950250095026) (.glob 106 950290095040) 950250095040) 950080095040) (.cons (.asA (.loc 101 960080096012) 107 960080096022 (.bin .Mult (.int 2 0 960250096026) (.glob 106 960290096040) 960250096040) 960080096040) (.cons (.asA (.loc 101 970080097012) 108 970080097021 (.none 0 970240097028) 970080097028) .nil))))))⟩
/-- Rtt.sample, dM 19 3 -/
noncomputable def f20 : Fn := ⟨[101, 103, 109, 25, 71], 0, (.cons (.asA (.loc 101 1060080106012) 103 1060080106019 (.loc 103 1060220106028) 1060080106028) (.cons (.ifs (.cmp .Is (.attr (.loc 101 1070110107015) 108 1070110107024) (.none 0 1070280107032) 1070110107032) (.cons (.asA (.loc 101 1080120108016) 108 1080120108025 (.loc 71 1080280108031) 1080120108031) (.cons (.asA (.loc 101 1090120109016) 104 1090120109022 (.loc 103 1090250109031) 1090120109031) (.cons (.asA (.loc 101 1100120110016) 105 1100120110026 (.bin .Mult (.int 8 0 1100290110030) (.loc 103 1100330110039) 1100290110039) 1100120110039) (.cons (.asA (.loc 101 1110120111016) 107 1110120111026 (.bin .Mult (.int 2 0 1110290111030) (.loc 103 1110330111039) 1110290111039) 1110120111039) (.cons (.ret0 1120120112018) .nil))))) .nil 1070080112018) (.cons (.asA (.loc 101 1130080113012) 104 1130080113018 (.callB 110 4 (.cons (.attr (.loc 101 1130250113029) 104 1130250113035) (.cons (.loc 103 1130370113043) .nil)) 1130210113024 1130210113044) 1130080113044) (.cons (.ifs (.cmp .IsNot (.loc 25 1140110114021) (.none 0 1140290114033) 1140110114033) (.cons (.asN 109 1150120115021 (.callB 110 4 (.cons (.loc 109 1150280115037) (.cons (.loc 25 1150390115049) .nil)) 1150240115027 1150240115050) 1150120115050) .nil) .nil 1140080115050) (.cons (.asN 111 1160080116016 (.callF 112 999 (.cons (.loc 103 1160330116039) (.cons (.attr (.loc 101 1160410116045) 104 1160410116051) (.cons (.loc 109 1160530116062) .nil))) 1160190116032 1160190116063) 1160080116063) (.cons (.asN 113 1170080117013 (.callB 115 5 (.cons (.bin .Sub (.callM (.loc 101 1170200117024) 114 .nil 1170200117033 1170200117035) (.loc 111 1170380117046) 1170200117046) .nil) 1170160117019 1170160117047) 1170080117047) (.cons (.asA (.loc 101 1180080118012) 107 1180080118022 (.bin .Add (.bin .Sub (.attr (.loc 101 1180250118029) 107 1180250118039) (.bin .FloorDiv (.attr (.loc 101 1180420118046) 107 1180420118056) (.int 4 0 1180600118061) 1180420118061) 1180250118061) (.loc 113 1180640118069) 1180250118069) 1180080118069) (.cons (.asA (.loc 101 1190080119012) 105 1190080119022 (.bin .Add (.bin .Sub (.attr (.loc 101 1190250119029) 105 1190250119039) (.bin .FloorDiv (.attr (.loc 101 1190420119046) 105 1190420119056) (.int 8 0 1190600119061) 1190420119061) 1190250119061) (.loc 111 1190640119072) 1190250119072) 1190080119072) .nil))))))))⟩
/-- Rtt.smoothed, dM 19 1 -/
noncomputable def f21 : Fn := ⟨[101], 0, (.cons (.ret (.bin .FloorDiv (.attr (.loc 101 1000150100019) 105 1000150100029) (.int 8 0 1000330100034) 1000150100034) 1000080100034) .nil)⟩
/-- Rtt.probe_base, dM 19 5 -/
noncomputable def f22 : Fn := ⟨[101], 0, (.cons (.ret (.bin .Add (.callM (.loc 101 1250150125019) 114 .nil 1250150125028 1250150125030) (.callB 117 3 (.cons (.attr (.loc 101 1250370125041) 107 1250370125051) (.cons (.glob 116 1250530125064) .nil)) 1250330125036 1250330125065) 1250150125065) 1250080125065) .nil)⟩
/-- Path.__init__, dM 36 0 -/
noncomputable def f23 : Fn := ⟨[101, 55, 0], 0, (.cons (.asA (.loc 101 1760080176012) 55 1760080176020 (.loc 55 1760230176030) 1760080176030) (.cons (.asA (.loc 101 1770080177012) 4 1770080177018 (.ife (.loc 0 1770360177045) (.glob 118 1770210177032) (.glob 119 1770510177064) 1770210177064) 1770080177064) (.cons (.asA (.loc 101 1780080178012) 120 1780080178020 (.loc 0 1780230178032) 1780080178032) (.cons (.asA (.loc 101 1790080179012) 121 1790080179021 (.int 0 0 1790240179025) 1790080179025) (.cons (.asA (.loc 101 1800080180012) 122 1800080180017 (.int 0 0 1800200180021) 1800080180021) (.cons (.asA (.loc 101 1810080181012) 123 1810080181023 (.list .nil 1810260181028) 1810080181028) (.cons (.asA (.loc 101 1820080182012) 124 1820080182021 (.none 0 1820240182028) 1820080182028) (.cons (.asA (.loc 101 1830080183012) 125 1830080183023 (.bool false 0 1830260183031) 1830080183031) .nil))))))))⟩
/-- Path.is_proven, dM 36 1 -/
noncomputable def f24 : Fn := ⟨[101], 0, (.cons (.ret (.cmp .Eq (.attr (.loc 101 1860150186019) 4 1860150186025) (.glob 118 1860290186040) 1860150186040) 1860080186040) .nil)⟩
/-- Path.room, dM 36 2 -/
noncomputable def f25 : Fn := ⟨[101], 0, (.cons (.ret (.ife (.attr (.loc 101 1890230189027) 120 1890230189035) (.none 0 1890150189019) (.callB 117 3 (.cons (.int 0 0 1890450189046) (.cons (.bin .Sub (.bin .Mult (.glob 126 1890480189062) (.attr (.loc 101 1890650189069) 121 1890650189078) 1890480189078) (.attr (.loc 101 1890810189085) 122 1890810189090) 1890480189090) .nil)) 1890410189044 1890410189091) 1890150189091) 1890080189091) .nil)⟩
/-- Path.on_received, dM 36 4 -/
noncomputable def f26 : Fn := ⟨[101, 127], 0, (.cons (.augA (.loc 101 1950080195012) 121 1950080195021 .Add (.loc 127 1950250195029) 1950080195029) .nil)⟩
/-- Path.on_sent, dM 36 5 -/
noncomputable def f27 : Fn := ⟨[101, 127], 0, (.cons (.augA (.loc 101 1980080198012) 122 1980080198017 .Add (.loc 127 1980210198025) 1980080198025) .nil)⟩
/-- Path.challenge, dM 36 7 -/
noncomputable def f28 : Fn := ⟨[101, 128, 71, 129], 0, (.cons (.ifs (.cmp .NotEq (.attr (.loc 101 2040110204015) 4 2040110204021) (.glob 130 2040250204036) 2040110204036) (.cons (.asA (.loc 101 2050120205016) 4 2050120205022 (.glob 130 2050250205036) 2050120205036) (.cons (.asA (.loc 101 2060120206016) 123 2060120206027 (.list .nil 2060300206032) 2060120206032) (.cons (.asA (.loc 101 2070120207016) 124 2070120207025 (.bin .Add (.loc 71 2070280207031) (.loc 129 2070340207038) 2070280207038) 2070120207038) .nil))) .nil 2040080207038) (.cons (.expr (.callM (.attr (.loc 101 2080080208012) 123 2080080208023) 131 (.cons (.loc 128 2080310208035) .nil) 2080080208030 2080080208036) 2080080208036) (.cons (.asA (.loc 101 2090080209012) 125 2090080209023 (.bool false 0 2090260209031) 2090080209031) .nil)))⟩
/-- Path.fail, dM 36 8 -/
noncomputable def f29 : Fn := ⟨[101], 0, (.cons (.asA (.loc 101 2120080212012) 4 2120080212018 (.glob 132 2120210212032) 2120080212032) (.cons (.asA (.loc 101 2130080213012) 120 2130080213020 (.bool false 0 2130230213028) 2130080213028) (.cons (.asA (.loc 101 2140080214012) 123 2140080214023 (.list .nil 2140260214028) 2140080214028) (.cons (.asA (.loc 101 2150080215012) 124 2150080215021 (.none 0 2150240215028) 2150080215028) (.cons (.asA (.loc 101 2160080216012) 125 2160080216023 (.bool false 0 2160260216031) 2160080216031) .nil)))))⟩
/-- Path.renew, dM 36 9 -/
noncomputable def f30 : Fn := ⟨[101], 0, (.cons (.ifs (.cmp .Eq (.attr (.loc 101 2190110219015) 4 2190110219021) (.glob 132 2190250219036) 2190110219036) (.cons (.asA (.loc 101 2200120220016) 4 2200120220022 (.glob 119 2200250220038) 2200120220038) .nil) .nil 2190080220038) .nil)⟩
/-- Paths.__init__, dM 37 0 -/
noncomputable def f31 : Fn := ⟨[101, 133, 55, 0, 134], 0, (.cons (.asA (.loc 101 2240080224012) 133 2240080224017 (.loc 133 2240200224024) 2240080224024) (.cons (.asA (.loc 101 2250080225012) 134 2250080225021 (.loc 134 2250240225032) 2250080225032) (.cons (.asA (.loc 101 2260080226012) 135 2260080226018 (.list (.cons (.callC 136 1 (.cons (.loc 55 2260270226034) (.cons (.loc 0 2260360226045) .nil)) 2260220226026 2260220226046) .nil) 2260210226047) 2260080226047) (.cons (.asA (.loc 101 2270080227012) 47 2270080227019 (.sub (.attr (.loc 101 2270220227026) 135 2270220227032) (.int 0 0 2270330227034) 2270220227035) 2270080227035) (.cons (.asA (.loc 101 2280080228012) 137 2280080228024 (.ife (.loc 0 2280420228051) (.attr (.loc 101 2280270228031) 47 2280270228038) (.none 0 2280570228061) 2280270228061) 2280080228061) (.cons (.asA (.loc 101 2290080229012) 138 2290080229020 (.neg (.int 1 0 2290240229025) 2290230229025) 2290080229025) (.cons (.asA (.loc 101 2300080230012) 139 2300080230020 (.list .nil 2300230230025) 2300080230025) .nil)))))))⟩
/-- Paths.path_of, dM 37 1 -/
noncomputable def f32 : Fn := ⟨[101, 55], 0, (.cons (.for_ 140 2330120233016 (.attr (.loc 101 2330200233024) 135 2330200233030) (.cons (.ifs (.cmp .Eq (.attr (.loc 140 2340150234019) 55 2340150234027) (.loc 55 2340310234038) 2340150234038) (.cons (.ret (.loc 140 2350230235027) 2350160235027) .nil) .nil 2340120235027) .nil) 2330080235027) (.cons (.ret (.none 0 2360150236019) 2360080236019) .nil))⟩
/-- Paths.opened, dM 37 2 -/
noncomputable def f33 : Fn := ⟨[101, 55], 0, (.cons (.asN 59 2390080239013 (.callM (.loc 101 2390160239020) 141 (.cons (.loc 55 2390290239036) .nil) 2390160239028 2390160239037) 2390080239037) (.cons (.ifs (.cmp .Is (.loc 59 2400110240016) (.none 0 2400200240024) 2400110240024) (.cons (.asN 59 2410120241017 (.callC 136 1 (.cons (.loc 55 2410250241032) (.cons (.bool false 0 2410340241039) .nil)) 2410200241024 2410200241040) 2410120241040) (.cons (.expr (.callM (.attr (.loc 101 2420120242016) 135 2420120242022) 131 (.cons (.loc 59 2420300242035) .nil) 2420120242029 2420120242036) 2420120242036) .nil)) .nil 2400080242036) (.cons (.ret (.loc 59 2430150243020) 2430080243020) .nil)))⟩
/-- Paths.on_datagram, dM 37 3 -/
noncomputable def f34 : Fn := ⟨[101, 55, 127], 0, (.cons (.ifs (.andor .And (.cons (.cmp .Is (.callM (.loc 101 2460110246015) 141 (.cons (.loc 55 2460240246031) .nil) 2460110246023 2460110246032) (.none 0 2460360246040) 2460110246040) (.cons (.andor .Or (.cons (.cmp .Eq (.attr (.loc 101 2460460246050) 133 2460460246055) (.str 142 0 2460590246067) 2460460246067) (.cons (.not (.attr (.loc 101 2460750246079) 134 2460750246088) 2460710246088) .nil)) 2460460246088) .nil)) 2460110246089) (.cons (.raise (.callF 144 999 (.cons (.str 143 0 2470320247062) .nil) 2470180247031 2470180247063) 2470120247063) .nil) .nil 2460080247063) (.cons (.asN 140 2480080248012 (.callM (.loc 101 2480150248019) 145 (.cons (.loc 55 2480270248034) .nil) 2480150248026 2480150248035) 2480080248035) (.cons (.expr (.callM (.loc 140 2490080249012) 146 (.cons (.loc 127 2490250249029) .nil) 2490080249024 2490080249030) 2490080249030) (.cons (.ret (.loc 140 2500150250019) 2500080250019) .nil))))⟩
/-- Paths.on_packet, dM 37 4 -/
noncomputable def f35 : Fn := ⟨[101, 55, 147, 148], 0, (.cons (.asN 149 2530080253017 (.cmp .Gt (.loc 147 2530200253026) (.attr (.loc 101 2530290253033) 138 2530290253041) 2530200253041) 2530080253041) (.cons (.asA (.loc 101 2540080254012) 138 2540080254020 (.callB 117 3 (.cons (.attr (.loc 101 2540270254031) 138 2540270254039) (.cons (.loc 147 2540410254047) .nil)) 2540230254026 2540230254048) 2540080254048) (.cons (.asN 140 2550080255012 (.callM (.loc 101 2550150255019) 141 (.cons (.loc 55 2550280255035) .nil) 2550150255027 2550150255036) 2550080255036) (.cons (.ifs (.andor .Or (.cons (.cmp .Eq (.attr (.loc 101 2560110256015) 133 2560110256020) (.str 142 0 2560240256032) 2560110256032) (.cons (.loc 148 2560360256046) (.cons (.not (.loc 149 2560550256064) 2560510256064) (.cons (.cmp .Eq (.attr (.loc 140 2560700256074) 55 2560700256082) (.attr (.attr (.loc 101 2560860256090) 47 2560860256097) 55 2560860256105) 2560700256105) .nil)))) 2560110256106) (.cons (.ret (.bool false 0 2570190257024) 2570120257024) .nil) .nil 2560080257024) (.cons (.ifs (.callM (.attr (.loc 101 2580110258015) 47 2580110258022) 0 .nil 2580110258032 2580110258034) (.cons (.asA (.loc 101 2590120259016) 137 2590120259028 (.attr (.loc 101 2590310259035) 47 2590310259042) 2590120259042) .nil) .nil 2580080259042) (.cons (.expr (.callM (.loc 140 2600080260012) 150 .nil 2600080260018 2600080260020) 2600080260020) (.cons (.asA (.loc 101 2610080261012) 47 2610080261019 (.loc 140 2610220261026) 2610080261026) (.cons (.ret (.bool true 0 2620150262019) 2620080262019) .nil))))))))⟩
/-- Paths.next_time, dM 37 13 -/
noncomputable def f36 : Fn := ⟨[101], 0, (.cons (.asN 58 2890080289013 (.comp (.attr (.loc 140 2890170289021) 124 2890170289030) 140 2890350289039 (.attr (.loc 101 2890430289047) 135 2890430289053) (.cons (.cmp .IsNot (.attr (.loc 140 2890570289061) 124 2890570289070) (.none 0 2890780289082) 2890570289082) .nil) 5 2890160289083) 2890080289083) (.cons (.ret (.ife (.cmp .Gt (.callB 151 0 (.cons (.loc 58 2900330290038) .nil) 2900290290032 2900290290039) (.int 0 0 2900420290043) 2900290290043) (.callB 110 4 (.cons (.loc 58 2900190290024) .nil) 2900150290018 2900150290025) (.none 0 2900490290053) 2900150290053) 2900080290053) .nil))⟩
/-- Paths.on_time, dM 37 14 -/
noncomputable def f37 : Fn := ⟨[101, 71], 0, (.cons (.for_ 140 2930120293016 (.attr (.loc 101 2930200293024) 135 2930200293030) (.cons (.ifs (.andor .And (.cons (.cmp .IsNot (.attr (.loc 140 2940150294019) 124 2940150294028) (.none 0 2940360294040) 2940150294040) (.cons (.cmp .LtE (.attr (.loc 140 2940450294049) 124 2940450294058) (.loc 71 2940620294065) 2940450294065) .nil)) 2940150294065) (.cons (.expr (.callM (.loc 140 2950160295020) 152 .nil 2950160295025 2950160295027) 2950160295027) .nil) .nil 2940120295027) .nil) 2930080295027) (.cons (.ifs (.cmp .NotEq (.attr (.attr (.loc 101 2960110296015) 47 2960110296022) 4 2960110296028) (.glob 132 2960320296043) 2960110296043) (.cons (.ret (.str 153 0 2970190297025) 2970120297025) .nil) .nil 2960080297025) (.cons (.asN 92 2980080298012 (.attr (.loc 101 2980150298019) 137 2980150298031) 2980080298031) (.cons (.ifs (.andor .Or (.cons (.cmp .Is (.loc 92 2990110299015) (.none 0 2990190299023) 2990110299023) (.cons (.not (.attr (.loc 92 2990310299035) 120 2990310299043) 2990270299043) .nil)) 2990110299043) (.cons (.asN 154 3000120300017 (.comp (.loc 140 3000210300025) 140 3000300300034 (.attr (.loc 101 3000380300042) 135 3000380300048) (.cons (.callM (.loc 140 3000520300056) 0 .nil 3000520300066 3000520300068) .nil) 6 3000200300069) 3000120300069) (.cons (.asN 92 3010120301016 (.ife (.cmp .Gt (.callB 151 0 (.cons (.loc 154 3010360301041) .nil) 3010320301035 3010320301042) (.int 0 0 3010450301046) 3010320301046) (.sub (.loc 154 3010190301024) (.neg (.int 1 0 3010260301027) 3010250301027) 3010190301028) (.none 0 3010520301056) 3010190301056) 3010120301056) .nil)) .nil 2990080301056) (.cons (.ifs (.cmp .Is (.loc 92 3020110302015) (.none 0 3020190302023) 3020110302023) (.cons (.ret (.str 94 0 3030190303025) 3030120303025) .nil) .nil 3020080303025) (.cons (.asA (.loc 101 3040080304012) 47 3040080304019 (.loc 92 3040220304026) 3040080304026) (.cons (.ret (.str 92 0 3050150305021) 3050080305021) .nil)))))))⟩
/-- SentPacket.__init__, dM 52 0 -/
noncomputable def f38 : Fn := ⟨[101, 147, 155, 127, 156], 0, (.cons (.asA (.loc 101 3410080341012) 147 3410080341019 (.loc 147 3410220341028) 3410080341028) (.cons (.asA (.loc 101 3420080342012) 155 3420080342017 (.loc 155 3420200342024) 3420080342024) (.cons (.asA (.loc 101 3430080343012) 127 3430080343017 (.loc 127 3430200343024) 3430080343024) (.cons (.asA (.loc 101 3440080344012) 156 3440080344019 (.loc 156 3440220344028) 3440080344028) (.cons (.asA (.loc 101 3450080345012) 99 3450080345025 (.callF 157 17 (.cons (.loc 156 3450420345048) .nil) 3450280345041 3450280345049) 3450080345049) (.cons (.asA (.loc 101 3460080346012) 158 3460080346022 (.callF 159 18 (.cons (.loc 156 3460390346045) .nil) 3460250346038 3460250346046) 3460080346046) .nil))))))⟩
/-- Space.__init__, dM 53 0 -/
noncomputable def f39 : Fn := ⟨[101, 7], 0, (.cons (.asA (.loc 101 3500080350012) 7 3500080350017 (.loc 7 3500200350024) 3500080350024) (.cons (.asA (.loc 101 3510080351012) 160 3510080351024 (.int 0 0 3510270351028) 3510080351028) (.cons (.asA (.loc 101 3520080352012) 122 3520080352017 (.dict .nil .nil 3520200352022) 3520080352022) (.cons (.asA (.loc 101 3530080353012) 82 3530080353026 (.none 0 3530290353033) 3530080353033) (.cons (.asA (.loc 101 3540080354012) 161 3540080354018 (.list .nil 3540210354023) 3540080354023) (.cons (.asA (.loc 101 3550080355012) 81 3550080355032 (.none 0 3550350355039) 3550080355039) (.cons (.asA (.loc 101 3560080356012) 40 3560080356022 (.none 0 3560250356029) 3560080356029) (.cons (.asA (.loc 101 3570080357012) 121 3570080357021 (.list .nil 3570240357026) 3570080357026) (.cons (.asA (.loc 101 3580080358012) 162 3580080358025 (.none 0 3580280358032) 3580080358032) (.cons (.asA (.loc 101 3590080359012) 163 3590080359025 (.none 0 3590280359032) 3590080359032) (.cons (.asA (.loc 101 3600080360012) 164 3600080360018 (.int 0 0 3600210360022) 3600080360022) (.cons (.asA (.loc 101 3610080361012) 165 3610080361026 (.none 0 3610290361033) 3610080361033) (.cons (.asA (.loc 101 3620080362012) 166 3620080362020 (.int 0 0 3620230362024) 3620080362024) (.cons (.asA (.loc 101 3630080363012) 167 3630080363022 (.bool false 0 3630250363030) 3630080363030) (.cons (.asA (.loc 101 3640080364012) 168 3640080364020 (.bool false 0 3640230364028) 3640080364028) (.cons (.asA (.loc 101 3650080365012) 169 3650080365016 (.list (.cons (.int 0 0 3650200365021) (.cons (.int 0 0 3650230365024) (.cons (.int 0 0 3650260365027) .nil))) 3650190365028) 3650080365028) (.cons (.asA (.loc 101 3660080366012) 79 3660080366020 (.bool false 0 3660230366028) 3660080366028) .nil)))))))))))))))))⟩
/-- Space.take_number, dM 53 6 -/
noncomputable def f40 : Fn := ⟨[101], 0, (.cons (.augA (.loc 101 3980080398012) 160 3980080398024 .Add (.int 1 0 3980280398029) 3980080398029) (.cons (.ret (.bin .Sub (.attr (.loc 101 3990150399019) 160 3990150399031) (.int 1 0 3990340399035) 3990150399035) 3990080399035) .nil))⟩
/-- Space.on_sent, dM 53 7 -/
noncomputable def f41 : Fn := ⟨[101, 147, 71, 127, 156], 0, (.cons (.asN 170 4020080402014 (.callC 171 3 (.cons (.loc 147 4020280402034) (.cons (.loc 71 4020360402039) (.cons (.loc 127 4020410402045) (.cons (.loc 156 4020470402053) .nil)))) 4020170402027 4020170402054) 4020080402054) (.cons (.asI (.attr (.loc 101 4030080403012) 122 4030080403017) (.loc 147 4030180403024) 4030080403025 (.loc 170 4030280403034) 4030080403034) (.cons (.ifs (.attr (.loc 170 4040110404017) 99 4040110404030) (.cons (.asA (.loc 101 4050120405016) 81 4050120405036 (.loc 71 4050390405042) 4050120405042) .nil) .nil 4040080405042) (.cons (.ret (.loc 170 4060150406021) 4060080406021) .nil))))⟩
/-- Space.eliciting_left, dM 53 14 -/
noncomputable def f42 : Fn := ⟨[101], 0, (.cons (.ret (.cmp .Gt (.callB 151 0 (.cons (.compV (.int 1 0 4280200428021) 170 4280260428032 (.attr (.loc 101 4280360428040) 122 4280360428045) 172 4280360428052 4280360428054 (.cons (.attr (.loc 170 4280580428064) 99 4280580428077) .nil) 7 4280190428078) .nil) 4280150428018 4280150428079) (.int 0 0 4280820428083) 4280150428083) 4280080428083) .nil)⟩
noncomputable def fnT : T Fn := (.node none (.node (some f1) (.node (some f3) (.node (some f7) (.node (some f15) (.node (some f31) .nil .nil) .nil) (.node (some f23) (.node (some f39) .nil .nil) .nil)) (.node (some f11) (.node (some f19) (.node (some f35) .nil .nil) .nil) (.node (some f27) .nil .nil))) (.node (some f5) (.node (some f9) (.node (some f17) (.node (some f33) .nil .nil) .nil) (.node (some f25) (.node (some f41) .nil .nil) .nil)) (.node (some f13) (.node (some f21) (.node (some f37) .nil .nil) .nil) (.node (some f29) .nil .nil)))) (.node none (.node (some f4) (.node (some f8) (.node (some f16) (.node (some f32) .nil .nil) .nil) (.node (some f24) (.node (some f40) .nil .nil) .nil)) (.node (some f12) (.node (some f20) (.node (some f36) .nil .nil) .nil) (.node (some f28) .nil .nil))) (.node (some f6) (.node (some f10) (.node (some f18) (.node (some f34) .nil .nil) .nil) (.node (some f26) (.node (some f42) .nil .nil) .nil)) (.node (some f14) (.node (some f22) (.node (some f38) .nil .nil) .nil) (.node (some f30) .nil .nil)))))
/-- one of the law's cases: the unknown numbers are late, count, 2 ** count, came, the room, the time of a loss, and three places in menus -/
noncomputable abbrev un (i : Nat) : LI := .mk 0 (List.append (List.replicate i 0) [1])
noncomputable abbrev num (i : Nat) : LI := .mk (.ofNat i) []
noncomputable def tx (pv : Bool) (asks : List Bool) (loss hi : Bool) : Txt where
  fns := fnT
  meths := (.node (some [(18, 20), (114, 21), (86, 22)]) (.node (some [(0, 24), (88, 25), (146, 26), (36, 27), (48, 28), (152, 29), (150, 30)]) (.node (some []) .nil .nil) .nil) (.node (some [(141, 32), (145, 33), (44, 34), (46, 35), (56, 36), (91, 37)]) (.node (some [(37, 40), (36, 41), (80, 42), (146, 43)]) .nil .nil) .nil))
  inits := (.node (some 19) (.node (some 23) (.node (some 38) .nil .nil) .nil) (.node (some 31) (.node (some 39) .nil .nil) .nil))
  globs := [(61, .ref 0), (96, .ref 1), (106, .int (.mk 333000 [])), (116, .int (.mk 1000 [])), (126, .int (.mk 3 [])), (119, (.str 173)), (130, (.str 174)), (118, (.str 175)), (132, (.str 176))]
  lams := (.node (some (.bool false)) (.node (some (.int (.mk 25000 []))) .nil .nil) .nil)
  bs := [(0, 49), (0, 2), (1, 4), (100, 2000), (match hi with | true => (1200, 6000) | false => (0, 1199)), (2500, 5000), (0, 3), (0, 2), (0, 3)]
  pows := [(num 2, un 1, un 2)]
  menus := [([.none, .none, .int (num 2500), .int (num 5000)], un 8, match loss with | true => .int (un 5) | false => .none), ([.int (num 2000), .int (num 400), .int (num 500), .int (num 100)], un 6, .int (un 3)), ([.int (num 0), .int (num 200), .int (num 300)], un 7, .int (.mk 0 [0, 0, 0, 3, -1]))]
  draws := [(4, match pv with | true => .oth 1 | false => .int (num 1)), (3, .int (un 1)), (4, .int (num asks.length))] ++ asks.map (fun b => (3, match b with | true => .oth 0 | false => .int (num 0))) ++ [(4, .int (un 8)), (4, .int (un 6)), (3, .int (un 7)), (50, .int (un 0))]
  take := 0
  nAppend := 131
  nGet := 63
  nValues := 172
noncomputable def h0 : H := ⟨(.node (some (.tup [(.str 8), (.str 9), (.str 10)])) (.node (some (.tup [(.str 39), (.str 177), (.str 97)])) (.node (some (.list [.ref 2, .int (.mk 0 [])])) .nil .nil) .nil) (.node (some .ints) (.node (some (.tab 0)) .nil .nil) .nil)), 5, []⟩
noncomputable def loc0 : Loc := [(29, .ref 3)]
noncomputable def attrTab : List Nat := [6, 12, 13, 3, 18, 19, 20, 21, 22, 23, 24, 25, 26, 36, 37, 40, 44, 46, 47, 48, 55, 56, 63, 0, 79, 80, 81, 82, 86, 88, 91, 102, 103, 104, 105, 107, 108, 114, 4, 120, 121, 122, 123, 124, 125, 131, 133, 134, 135, 137, 138, 139, 141, 145, 146, 150, 152, 147, 155, 127, 156, 99, 158, 7, 160, 161, 162, 163, 164, 165, 166, 167, 168, 169, 172]
noncomputable def fnNames : List (Nat × Nat) := [(30, 0), (31, 1), (67, 3), (74, 4), (73, 5), (72, 6), (87, 7), (89, 8), (93, 9), (64, 10), (69, 11), (90, 12), (53, 13), (54, 14), (99, 15), (100, 16), (157, 17), (159, 18)]
noncomputable def clsNames : List (Nat × Nat) := [(14, 0), (136, 1), (17, 2), (171, 3), (5, 4)]
noncomputable def biNames : List (Nat × Nat) := [(151, 0), (68, 1), (11, 2), (117, 3), (34, 9)]
end Mine
end

section
namespace Mine
open PySem
set_option maxRecDepth 1000000
noncomputable def lawS : List CS := [law1,law2,law3,law4,law5,law6,law7,law8,law9,law10,law11,law12,law13,law14,law15,law16,law17,law18,law19]
noncomputable def block : List CS → CS
  | [] => .nil
  | s :: r => .cons s (block r)
noncomputable def lawAll : CS := block lawS
noncomputable def okEnd : Fl → Loc → H → Bool := fun fl _ h => match fl with | .ret (.bool true) => h.at 4 fun ob => isTab ob fun _ => true | _ => false
noncomputable def runs (pv : Bool) (asks : List Bool) (loss hi : Bool) : Bool := (denS (tx pv asks loss hi) (run (tx pv asks loss hi) 20) lawAll).exs loc0 h0 okEnd
noncomputable def cutAt (n : Nat) (pv : Bool) (asks : List Bool) (loss hi : Bool) : Bool := (denS (tx pv asks loss hi) (run (tx pv asks loss hi) 20) (block (lawS.take n))).exs loc0 h0 fun fl _ _ => match fl with | .next => true | _ => false

noncomputable def bb : List Bool := [true, false]
noncomputable def pats : List (List Bool) := [[]] ++ bb.map ([·]) ++ (bb.flatMap fun a => bb.map fun b => [a, b]) ++ (bb.flatMap fun a => bb.flatMap fun b => bb.map fun c => [a, b, c])
theorem all1 : (pats.all fun p => runs true p true true) = true := by decide +kernel
theorem all2 : (pats.all fun p => runs true p true false) = true := by decide +kernel
theorem all3 : (pats.all fun p => runs true p false true) = true := by decide +kernel
theorem all4 : (pats.all fun p => runs true p false false) = true := by decide +kernel
theorem all5 : (pats.all fun p => runs false p true true) = true := by decide +kernel
theorem all6 : (pats.all fun p => runs false p true false) = true := by decide +kernel
theorem all7 : (pats.all fun p => runs false p false true) = true := by decide +kernel
theorem all8 : (pats.all fun p => runs false p false false) = true := by decide +kernel
end Mine
end

section
open PySem PySem.W PyProof.Rows
set_option maxRecDepth 100000
set_option maxHeartbeats 1000000
namespace Mine

/-! ## the tree -/
namespace T
variable {α : Type}
theorem get_nil (i : Nat) : (nil : T α).get i = none := rfl
theorem ifB_true {β : Type} (x y : β) : ifB true x y = x := rfl
theorem ifB_false {β : Type} (x y : β) : ifB false x y = y := rfl
theorem ifB_eq {β : Type} (m n : Nat) (x y : β) : ifB (Nat.beq m n) x y = if m = n then x else y := by
  by_cases h : m = n
  · rw [if_pos h, show Nat.beq m n = true by rw [Nat.beq_eq]; exact h]; rfl
  · have e : Nat.beq m n = false := by
      cases e : Nat.beq m n with
      | false => rfl
      | true => exact absurd (Nat.eq_of_beq_eq_true e) h
    rw [if_neg h, e]; rfl
theorem get_node (v : Option α) (l r : T α) (i : Nat) : (node v l r).get i = if i = 0 then v else if i % 2 = 1 then l.get (i / 2) else r.get (i / 2 - 1) := by
  have e : (node v l r).get i = ifB (Nat.beq i 0) v (ifB (Nat.beq (i % 2) 1) (l.get (i / 2)) (r.get (i / 2 - 1))) := rfl
  rw [e, ifB_eq, ifB_eq]
theorem put_succ (f : Nat) (t : T α) (i : Nat) (a : α) : put (f + 1) t i a = match t with
    | nil => if i = 0 then node (some a) nil nil else if i % 2 = 1 then node none (put f nil (i / 2) a) nil else node none nil (put f nil (i / 2 - 1) a)
    | node v l r => if i = 0 then node (some a) l r else if i % 2 = 1 then node v (put f l (i / 2) a) r else node v l (put f r (i / 2 - 1) a) := by
  cases t with
  | nil =>
    have e : put (f + 1) nil i a = ifB (Nat.beq i 0) (node (some a) nil nil) (ifB (Nat.beq (i % 2) 1) (node none (put f nil (i / 2) a) nil) (node none nil (put f nil (i / 2 - 1) a))) := rfl
    rw [e, ifB_eq, ifB_eq]
  | node v l r =>
    have e : put (f + 1) (node v l r) i a = ifB (Nat.beq i 0) (node (some a) l r) (ifB (Nat.beq (i % 2) 1) (node v (put f l (i / 2) a) r) (node v l (put f r (i / 2 - 1) a))) := rfl
    rw [e, ifB_eq, ifB_eq]
theorem get_put : ∀ (f : Nat) (t : T α) (i : Nat) (a : α) (j : Nat), i + 1 < 2 ^ f → (put f t i a).get j = if j = i then some a else t.get j
  | 0, _, i, _, _, h => by simp at h
  | f + 1, t, i, a, j, h => by
    have hp : 2 ^ (f + 1) = 2 * 2 ^ f := by rw [Nat.pow_succ, Nat.mul_comm]
    rw [hp] at h
    rw [put_succ]
    by_cases hi : i = 0
    · subst hi
      cases t with
      | nil => by_cases hj : j = 0 <;> simp [get_node, hj, get_nil]
      | node v l r => by_cases hj : j = 0 <;> simp [get_node, hj]
    · by_cases q : i % 2 = 1
      · have ih : ∀ t' : T α, ∀ k, (put f t' (i / 2) a).get k = if k = i / 2 then some a else t'.get k := fun t' k => get_put f t' (i / 2) a k (by omega)
        cases t with
        | nil =>
          simp only [if_neg hi, if_pos q, get_node, ih, get_nil]
          by_cases hj : j = 0
          · subst hj; simp [Ne.symm hi]
          · by_cases qj : j % 2 = 1
            · simp only [if_neg hj, if_pos qj]; congr 1; apply propext; omega
            · have : j ≠ i := by omega
              simp [hj, qj, this]
        | node v l r =>
          simp only [if_neg hi, if_pos q, get_node, ih]
          by_cases hj : j = 0
          · subst hj; simp [Ne.symm hi]
          · by_cases qj : j % 2 = 1
            · simp only [if_neg hj, if_pos qj]
              have : (j / 2 = i / 2) = (j = i) := by apply propext; omega
              simp only [this]
            · have : j ≠ i := by omega
              simp [hj, qj, this]
      · have ih : ∀ t' : T α, ∀ k, (put f t' (i / 2 - 1) a).get k = if k = i / 2 - 1 then some a else t'.get k := fun t' k => get_put f t' (i / 2 - 1) a k (by omega)
        cases t with
        | nil =>
          simp only [if_neg hi, if_neg q, get_node, ih, get_nil]
          by_cases hj : j = 0
          · subst hj; simp [Ne.symm hi]
          · by_cases qj : j % 2 = 1
            · have : j ≠ i := by omega
              simp [hj, qj, this]
            · simp only [if_neg hj, if_neg qj]; congr 1; apply propext; omega
        | node v l r =>
          simp only [if_neg hi, if_neg q, get_node, ih]
          by_cases hj : j = 0
          · subst hj; simp [Ne.symm hi]
          · by_cases qj : j % 2 = 1
            · have : j ≠ i := by omega
              simp [hj, qj, this]
            · simp only [if_neg hj, if_neg qj]
              have : (j / 2 - 1 = i / 2 - 1) = (j = i) := by apply propext; omega
              simp only [this]
end T

/-! ## the text: from the executor's code to the language's -/
noncomputable def strAt : List Str → Nat → Option Str
  | [], _ => none
  | s :: _, 0 => some s
  | _ :: r, k + 1 => strAt r k
noncomputable def strOf (k : Nat) : Str := match strAt nameTab k with
  | some s => s
  | none => Str.mk (List.replicate (k + 1) 200).toArray
noncomputable def P (p : Nat) : Pos := ⟨p / 10000000000, p / 10000000 % 1000, p / 1000 % 10000, p % 1000⟩
noncomputable def scOf : Nat → Scope
  | 0 => sc0 | 1 => sc1 | 2 => sc2 | 3 => sc3 | 4 => sc4 | 5 => sc5 | 6 => sc6 | _ => sc7
noncomputable def noArgs : Arguments := ⟨[], [], none, [], [], none, []⟩
noncomputable def lamE : Nat → Expr
  | 0 => .Constant (.bool false) 0 ⟨458, 8, 458, 13⟩
  | _ => .Constant (.int 25000) 0 ⟨459, 8, 459, 13⟩
noncomputable def lamS : Nat → Scope
  | 0 => lamSc0
  | _ => lamSc1
noncomputable def theBytes : Const := .bytes [49, 50, 51, 52, 53, 54, 55, 56]
noncomputable def noE : Expr := .Constant .none 0 ⟨0, 0, 0, 0⟩
/-- an expression, and the expressions of a list -/
noncomputable def toR (e : CE) : Expr × List Expr := CE.rec (motive := fun _ => Expr × List Expr)
  (nil := (noE, []))
  (cons := fun _ _ a r => (noE, a.1 :: r.2))
  (none := fun k p => (.Constant .none k (P p), []))
  (bool := fun b k p => (.Constant (.bool b) k (P p), []))
  (int := fun i k p => (.Constant (.int (Int.ofNat i)) k (P p), []))
  (str := fun x k p => (.Constant (.str (strOf x)) k (P p), []))
  (byt := fun k p => (.Constant theBytes k (P p), []))
  (loc := fun x p => (.Name (strOf x) (P p), []))
  (glob := fun x p => (.Name (strOf x) (P p), []))
  (attr := fun _ a p e => (.Attribute e.1 (strOf a) (P p), []))
  (sub := fun _ _ p e i => (.Subscript e.1 i.1 (P p), []))
  (tail := fun _ _ q p e i => (.Subscript e.1 (.Slice (some i.1) none none (P q)) (P p), []))
  (callF := fun x _ _ q p args => (.Call (.Name (strOf x) (P q)) args.2 [] (P p), []))
  (callC := fun x _ _ q p args => (.Call (.Name (strOf x) (P q)) args.2 [] (P p), []))
  (callB := fun x _ _ q p args => (.Call (.Name (strOf x) (P q)) args.2 [] (P p), []))
  (callM := fun _ a _ q p e args => (.Call (.Attribute e.1 (strOf a) (P q)) args.2 [] (P p), []))
  (bin := fun op _ _ p a b => (.BinOp a.1 op b.1 (P p), []))
  (cmp := fun op _ _ p a b => (.Compare a.1 [op] [b.1] (P p), []))
  (andor := fun op _ p es => (.BoolOp op es.2 (P p), []))
  (not := fun _ p e => (.UnaryOp .Not e.1 (P p), []))
  (neg := fun _ p e => (.UnaryOp .USub e.1 (P p), []))
  (ife := fun _ _ _ p t a b => (.IfExp t.1 a.1 b.1 (P p), []))
  (list := fun _ p es => (.List es.2 (P p), []))
  (tup := fun _ k p es => (.Tuple es.2 k (P p), []))
  (dict := fun _ _ p ks vs => (.Dict (ks.2.map some) vs.2 (P p), []))
  (comp := fun _ x px _ _ sc p elt it ifs => (.ListComp elt.1 [⟨.Name (strOf x) (P px), it.1, ifs.2, 0⟩] (scOf sc) (P p), []))
  (compV := fun _ x px _ a q r _ sc p elt e ifs => (.ListComp elt.1 [⟨.Name (strOf x) (P px), .Call (.Attribute e.1 (strOf a) (P q)) [] [] (P r), ifs.2, 0⟩] (scOf sc) (P p), []))
  (lam := fun j p => (.Lambda noArgs (lamE j) (lamS j) (P p), [])) e
noncomputable def toE (e : CE) : Expr := (toR e).1
noncomputable def toEs (e : CE) : List Expr := (toR e).2
noncomputable def toQ (s : CS) : Stmt × List Stmt := CS.rec (motive := fun _ => Stmt × List Stmt)
  (nil := (.Pass ⟨0, 0, 0, 0⟩, []))
  (cons := fun _ _ s r => (.Pass ⟨0, 0, 0, 0⟩, s.1 :: r.2))
  (expr := fun e p => (.Expr (toE e) (P p), []))
  (asN := fun x px e p => (.Assign [.Name (strOf x) (P px)] (toE e) (P p), []))
  (asA := fun o a pa e p => (.Assign [.Attribute (toE o) (strOf a) (P pa)] (toE e) (P p), []))
  (asI := fun o i pt e p => (.Assign [.Subscript (toE o) (toE i) (P pt)] (toE e) (P p), []))
  (asT := fun ts k pt es k' pe p => (.Assign [.Tuple (toEs ts) k (P pt)] (.Tuple (toEs es) k' (P pe)) (P p), []))
  (augA := fun o a pa op e p => (.AugAssign (.Attribute (toE o) (strOf a) (P pa)) op (toE e) (P p), []))
  (ifs := fun t _ _ p b o => (.If (toE t) b.2 o.2 (P p), []))
  (for_ := fun x px it _ p b => (.For (.Name (strOf x) (P px)) (toE it) b.2 [] (P p), []))
  (forR := fun x px y e q r _ p b => (.For (.Name (strOf x) (P px)) (.Call (.Name (strOf y) (P q)) [toE e] [] (P r)) b.2 [] (P p), []))
  (ret := fun e p => (.Return (some (toE e)) (P p), []))
  (ret0 := fun p => (.Return none (P p), []))
  (cont := fun p => (.Continue (P p), []))
  (raise := fun e p => (.Raise (some (toE e)) none (P p), [])) s
noncomputable def toS (s : CS) : Stmt := (toQ s).1
noncomputable def toSs (s : CS) : List Stmt := (toQ s).2

/-! ## numbers -/
noncomputable def dot : List Int → List Int → Int
  | k :: ks, x :: xs => k * x + dot ks xs
  | _, _ => 0
noncomputable def LI.val (ν : List Int) : LI → Int
  | .mk c ks => c + dot ks ν
theorem dot_nil (ν : List Int) : dot [] ν = 0 := by cases ν <;> rfl
theorem dot_addK : ∀ (a b ν : List Int), dot (addK a b) ν = dot a ν + dot b ν
  | [], b, ν => by rw [addK, dot_nil]; omega
  | x :: a, [], ν => by rw [addK, dot_nil]; omega
  | x :: a, y :: b, [] => by simp [addK, dot]
  | x :: a, y :: b, v :: ν => by
    have ih := dot_addK a b ν
    simp only [addK, dot, ih]
    rw [show Int.add x y = x + y from rfl, Int.add_mul]
    omega
theorem dot_mulK (k : Int) : ∀ (a ν : List Int), dot (mulK k a) ν = k * dot a ν
  | [], ν => by rw [mulK, dot_nil]; simp
  | x :: a, [] => by simp [mulK, dot]
  | x :: a, v :: ν => by
    have ih := dot_mulK k a ν
    simp only [mulK, dot, ih]
    rw [show Int.mul k x = k * x from rfl, Int.mul_add, Int.mul_assoc]
theorem LI.val_sub (ν : List Int) (a b : LI) : (a.sub b).val ν = a.val ν - b.val ν := by
  obtain ⟨c, ks⟩ := a; obtain ⟨d, js⟩ := b
  show Int.sub c d + dot (addK ks (mulK (Int.negSucc 0) js)) ν = _
  rw [dot_addK, dot_mulK]
  show (c - d) + (dot ks ν + (-1) * dot js ν) = (c + dot ks ν) - (d + dot js ν)
  omega
theorem intEq_iff (a b : Int) : intEq a b = true ↔ a = b := by
  cases a with
  | ofNat m => cases b with
    | ofNat n => show Nat.beq m n = true ↔ _; rw [Nat.beq_eq]; constructor <;> intro h <;> first | exact congrArg _ h | exact Int.ofNat.inj h
    | negSucc n => show false = true ↔ _; constructor <;> intro h <;> cases h
  | negSucc m => cases b with
    | ofNat n => show false = true ↔ _; constructor <;> intro h <;> cases h
    | negSucc n => show Nat.beq m n = true ↔ _; rw [Nat.beq_eq]; constructor <;> intro h <;> first | exact congrArg _ h | exact Int.negSucc.inj h
theorem blt_iff (m n : Nat) : Nat.blt m n = true ↔ m < n := ⟨fun h => Nat.le_of_ble_eq_true h, fun h => Nat.ble_eq_true_of_le h⟩
theorem intLt_iff (a b : Int) : intLt a b = true ↔ a < b := by
  cases a with
  | ofNat m => cases b with
    | ofNat n => show Nat.blt m n = true ↔ _; rw [blt_iff]; show _ ↔ ((m : Int) < (n : Int)); omega
    | negSucc n => show false = true ↔ _; constructor <;> intro h <;> first | cases h | (exfalso; have : (m : Int) < Int.negSucc n := h; omega)
  | negSucc m => cases b with
    | ofNat n => show true = true ↔ _; constructor <;> intro _ <;> first | rfl | (show Int.negSucc m < (n : Int); omega)
    | negSucc n => show Nat.blt n m = true ↔ _; rw [blt_iff]; omega

/-- the numbers lie in their bounds -/
noncomputable def InB (bs : List (Int × Int)) (ν : List Int) : Prop := bs.length = ν.length ∧ ∀ (i : Nat) (b : Int × Int) (x : Int), bs[i]? = some b → ν[i]? = some x → b.1 ≤ x ∧ x ≤ b.2
theorem InB.tail {b : Int × Int} {bs : List (Int × Int)} {x : Int} {ν : List Int} (h : InB (b :: bs) (x :: ν)) : InB bs ν :=
  ⟨by have := h.1; simpa using this, fun i c y h1 h2 => h.2 (i + 1) c y (by simpa using h1) (by simpa using h2)⟩
theorem rngK_sound : ∀ {bs : List (Int × Int)} {ν ks : List Int} {r : Int × Int}, InB bs ν → rngK bs ks = some r → r.1 ≤ dot ks ν ∧ dot ks ν ≤ r.2
  | bs, ν, [], r, _, h => by
    have e : r = (Int.ofNat 0, Int.ofNat 0) := by cases bs <;> (simp only [rngK, Option.some.injEq] at h; exact h.symm)
    subst e; rw [dot_nil]; exact ⟨Int.le_refl _, Int.le_refl _⟩
  | [], ν, k :: ks, r, _, h => by cases h
  | b :: bs, [], k :: ks, r, hb, h => by have := hb.1; simp at this
  | b :: bs, x :: ν, k :: ks, r, hb, h => by
    have hx := hb.2 0 b x rfl rfl
    unfold rngK at h
    cases q : rngK bs ks with
    | none => rw [q] at h; cases h
    | some r' =>
      have ih := rngK_sound hb.tail q
      rw [q] at h
      show r.1 ≤ k * x + dot ks ν ∧ k * x + dot ks ν ≤ r.2
      cases hk : intLt k (Int.ofNat 0) with
      | true =>
        rw [hk] at h
        have hk' : k ≤ 0 := Int.le_of_lt ((intLt_iff _ _).mp hk)
        cases h
        have h1 : k * b.2 ≤ k * x := Int.mul_le_mul_of_nonpos_left hk' hx.2
        have h2 : k * x ≤ k * b.1 := Int.mul_le_mul_of_nonpos_left hk' hx.1
        exact ⟨Int.add_le_add h1 ih.1, Int.add_le_add h2 ih.2⟩
      | false =>
        rw [hk] at h
        have hk' : 0 ≤ k := by
          have : ¬ k < Int.ofNat 0 := fun z => by rw [(intLt_iff _ _).mpr z] at hk; cases hk
          exact Int.not_lt.mp this
        cases h
        have h1 : k * b.1 ≤ k * x := Int.mul_le_mul_of_nonneg_left hx.1 hk'
        have h2 : k * x ≤ k * b.2 := Int.mul_le_mul_of_nonneg_left hx.2 hk'
        exact ⟨Int.add_le_add h1 ih.1, Int.add_le_add h2 ih.2⟩
theorem of_intLt {a b : Int} {t : Bool} (h : intLt a b = t) : (a < b) = (t = true) := by
  subst h; exact propext (intLt_iff a b).symm
theorem of_intEq {a b : Int} {t : Bool} (h : intEq a b = t) : (a = b) = (t = true) := by
  subst h; exact propext (intEq_iff a b).symm
theorem sgn1_sound {lo hi x : Int} {t : Bool} (h : sgn1 lo hi = some t) (h1 : lo ≤ x) (h2 : x ≤ hi) : t = decide (0 < x) := by
  unfold sgn1 at h
  cases a : intLt (Int.ofNat 0) lo <;> cases b : intLt (Int.ofNat 0) hi <;> rw [a, b] at h <;> have a := of_intLt a <;> have b := of_intLt b <;> (try cases h) <;> simp at a b <;> symm
  · simp only [decide_eq_false_iff_not]; omega
  · simp only [decide_eq_true_eq]; omega
  · simp only [decide_eq_true_eq]; omega
theorem sgn0_sound {lo hi x : Int} {t : Bool} (h : sgn0 lo hi = some t) (h1 : lo ≤ x) (h2 : x ≤ hi) : t = decide (x = 0) := by
  unfold sgn0 at h
  cases a : intLt (Int.ofNat 0) lo <;> cases b : intLt hi (Int.ofNat 0) <;> cases c : intEq lo (Int.ofNat 0) <;> cases d : intEq hi (Int.ofNat 0) <;> rw [a, b, c, d] at h <;>
    have a := of_intLt a <;> have b := of_intLt b <;> have c := of_intEq c <;> have d := of_intEq d <;> (try cases h) <;> simp at a b c d <;> symm <;>
    first | (simp only [decide_eq_false_iff_not]; omega) | (simp only [decide_eq_true_eq]; omega)
theorem LI.lt_sound {bs : List (Int × Int)} {ν : List Int} (hb : InB bs ν) {a b : LI} {t : Bool} (h : LI.lt bs a b = some t) : t = decide (a.val ν < b.val ν) := by
  have gen : (match b.sub a with
    | .mk c ks => match rngK bs ks with
      | some r => sgn1 (Int.add c r.1) (Int.add c r.2)
      | none => none) = some t → t = decide (a.val ν < b.val ν) := by
    intro h
    have e := LI.val_sub ν b a
    cases q : b.sub a with
    | mk c ks =>
      rw [q] at h e
      dsimp only at h
      cases q2 : rngK bs ks with
      | none => rw [q2] at h; cases h
      | some r =>
        rw [q2] at h
        have z := rngK_sound hb q2
        have e' : c + dot ks ν = b.val ν - a.val ν := e
        have := sgn1_sound (x := b.val ν - a.val ν) h (by rw [← e']; exact Int.add_le_add_left z.1 c) (by rw [← e']; exact Int.add_le_add_left z.2 c)
        rw [this]; congr 1; apply propext; omega
  obtain ⟨c, ks⟩ := a; obtain ⟨d, js⟩ := b
  cases ks with
  | nil =>
    cases js with
    | nil =>
      have h : some (intLt c d) = some t := h
      cases h
      have : LI.val ν (.mk c []) = c := by show c + dot [] ν = c; rw [dot_nil]; omega
      have : LI.val ν (.mk d []) = d := by show d + dot [] ν = d; rw [dot_nil]; omega
      rw [‹LI.val ν (.mk c []) = c›, this]
      cases q : intLt c d with
      | true => exact (decide_eq_true ((intLt_iff _ _).mp q)).symm
      | false => exact (decide_eq_false fun z => by rw [(intLt_iff _ _).mpr z] at q; cases q).symm
    | cons => exact gen h
  | cons => exact gen h
theorem LI.eq_sound {bs : List (Int × Int)} {ν : List Int} (hb : InB bs ν) {a b : LI} {t : Bool} (h : LI.eq bs a b = some t) : t = decide (a.val ν = b.val ν) := by
  have gen : (match b.sub a with
    | .mk c ks => match rngK bs ks with
      | some r => sgn0 (Int.add c r.1) (Int.add c r.2)
      | none => none) = some t → t = decide (a.val ν = b.val ν) := by
    intro h
    have e := LI.val_sub ν b a
    cases q : b.sub a with
    | mk c ks =>
      rw [q] at h e
      dsimp only at h
      cases q2 : rngK bs ks with
      | none => rw [q2] at h; cases h
      | some r =>
        rw [q2] at h
        have z := rngK_sound hb q2
        have e' : c + dot ks ν = b.val ν - a.val ν := e
        have := sgn0_sound (x := b.val ν - a.val ν) h (by rw [← e']; exact Int.add_le_add_left z.1 c) (by rw [← e']; exact Int.add_le_add_left z.2 c)
        rw [this]; congr 1; apply propext; omega
  obtain ⟨c, ks⟩ := a; obtain ⟨d, js⟩ := b
  cases ks with
  | nil =>
    cases js with
    | nil =>
      have h : some (intEq c d) = some t := h
      cases h
      have : LI.val ν (.mk c []) = c := by show c + dot [] ν = c; rw [dot_nil]; omega
      have : LI.val ν (.mk d []) = d := by show d + dot [] ν = d; rw [dot_nil]; omega
      rw [‹LI.val ν (.mk c []) = c›, this]
      cases q : intEq c d with
      | true => exact (decide_eq_true ((intEq_iff _ _).mp q)).symm
      | false => exact (decide_eq_false fun z => by rw [(intEq_iff _ _).mpr z] at q; cases q).symm
    | cons => exact gen h
  | cons => exact gen h
theorem sameK_eq : ∀ {a b : List Int}, sameK a b = true → a = b
  | [], [], _ => rfl
  | x :: a, y :: b, h => by
    unfold sameK at h
    cases q : intEq x y with
    | false => rw [q] at h; cases h
    | true => rw [q] at h; rw [(intEq_iff _ _).mp q, sameK_eq h]
  | [], _ :: _, h => by cases h
  | _ :: _, [], h => by cases h
theorem LI.same_eq {a b : LI} (h : a.same b = true) : a = b := by
  obtain ⟨c, ks⟩ := a; obtain ⟨d, js⟩ := b
  have h : (match intEq c d with
      | true => sameK ks js
      | false => false) = true := h
  cases q : intEq c d with
  | false => rw [q] at h; cases h
  | true => rw [q] at h; rw [(intEq_iff _ _).mp q, sameK_eq h]
theorem LI.val_const (ν : List Int) (c : Int) : LI.val ν (.mk c []) = c := by show c + dot [] ν = c; rw [dot_nil]; omega
end Mine
end

section
open PySem PySem.W PyProof.Rows
set_option maxRecDepth 100000
set_option maxHeartbeats 1000000
namespace Mine

/-! ## names are apart -/
noncomputable def codeS (s : Str) : Nat := s.cps.toList.foldl (fun a c => a * 4194304 + c + 1) 0
noncomputable def inN : List Nat → Nat → Bool
  | [], _ => false
  | y :: r, x => match Nat.beq y x with
    | true => true
    | false => inN r x
noncomputable def nodupN : List Nat → Bool
  | [] => true
  | x :: r => match inN r x with
    | true => false
    | false => nodupN r
theorem inN_of_mem : ∀ {l : List Nat} {x : Nat}, x ∈ l → inN l x = true
  | y :: r, x, h => by
    unfold inN
    cases e : Nat.beq y x with
    | true => rfl
    | false =>
      rcases List.mem_cons.mp h with rfl | h
      · rw [Nat.beq_refl] at e; cases e
      · exact inN_of_mem h
theorem strAt_mem : ∀ {l : List Str} {k : Nat} {s : Str}, strAt l k = some s → s ∈ l
  | _ :: _, 0, _, h => by cases h; exact .head _
  | _ :: _, _ + 1, _, h => .tail _ (strAt_mem h)
theorem strAt_inj : ∀ {l : List Str} {a b : Nat} {s : Str}, nodupN (l.map codeS) = true → strAt l a = some s → strAt l b = some s → a = b
  | x :: l, 0, 0, _, _, _, _ => rfl
  | x :: l, 0, b + 1, s, hn, h1, h2 => by
    cases h1
    have : inN (l.map codeS) (codeS x) = true := inN_of_mem (List.mem_map_of_mem (strAt_mem h2))
    simp only [List.map_cons, nodupN, this] at hn
    cases hn
  | x :: l, a + 1, 0, s, hn, h1, h2 => by
    cases h2
    have : inN (l.map codeS) (codeS x) = true := inN_of_mem (List.mem_map_of_mem (strAt_mem h1))
    simp only [List.map_cons, nodupN, this] at hn
    cases hn
  | x :: l, a + 1, b + 1, s, hn, h1, h2 => by
    have : nodupN (l.map codeS) = true := by
      simp only [List.map_cons, nodupN] at hn
      cases e : inN (l.map codeS) (codeS x) with
      | true => rw [e] at hn; cases hn
      | false => rw [e] at hn; exact hn
    rw [strAt_inj this h1 h2]
theorem names_apart : nodupN (nameTab.map codeS) = true := by decide +kernel
theorem names_ascii : (nameTab.all fun s => s.cps.toList.all fun c => Nat.blt c 200) = true := by decide +kernel
theorem strOf_inj {a b : Nat} (h : strOf a = strOf b) : a = b := by
  have out : ∀ k s, strAt nameTab k = some s → ∀ j, s ≠ Str.mk (List.replicate (j + 1) 200).toArray := fun k s e j q => by
    have h1 := List.all_eq_true.mp names_ascii s (strAt_mem e)
    subst q
    have h2 := List.all_eq_true.mp h1 200 (by simp)
    have := (blt_iff _ _).mp h2
    omega
  unfold strOf at h
  cases p : strAt nameTab a with
  | none =>
    cases q : strAt nameTab b with
    | none =>
      rw [p, q] at h
      have h := congrArg (fun s : Str => s.cps.toList.length) h
      simp at h
      omega
    | some s => rw [p, q] at h; exact absurd h.symm (out b s q a)
  | some s =>
    cases q : strAt nameTab b with
    | none => rw [p, q] at h; exact absurd h (out a s p b)
    | some s' =>
      rw [p, q] at h
      have h : s = s' := h
      subst h
      exact strAt_inj names_apart p q
theorem strOk_of {s : Str} (h : s.cps.toList.all (fun c => Nat.blt c 1000) = true) : PySem.PyData.strOk s = true := by
  unfold PySem.PyData.strOk
  rw [← Array.all_toList]
  refine List.all_eq_true.mpr fun c hc => ?_
  have := (blt_iff _ _).mp (List.all_eq_true.mp h c hc)
  simp only [decide_eq_true_eq]; omega
theorem strOf_ok (k : Nat) : PySem.PyData.strOk (strOf k) = true := by
  refine strOk_of ?_
  unfold strOf
  cases p : strAt nameTab k with
  | none => simp [blt_iff]
  | some s =>
    have h1 := List.all_eq_true.mp names_ascii s (strAt_mem p)
    refine List.all_eq_true.mpr fun c hc => ?_
    have := (blt_iff _ _).mp (List.all_eq_true.mp h1 c hc)
    exact (blt_iff _ _).mpr (by omega)
theorem strOf_eq {a b : Nat} : strOf a = strOf b ↔ a = b := ⟨strOf_inj, fun h => by rw [h]⟩

/-! ## what is told of the world -/
structure Ctx where
  prog : Program
  w : World
  K : Frag
  h₀ : Heap
  mg : Str → Option Value
  mb : Str → Option Value
  /-- the unknown numbers -/
  ν : List Int
  tx : Txt
  /-- where the first objects lie -/
  ρ₀ : List Addr
  /-- the script's ints that are read -/
  ns : List Int
  /-- where the classes and the defs lie -/
  cls : Nat → Option Addr
  fn : Nat → Option Addr
  /-- the code of _law_state -/
  cc : Addr

noncomputable abbrev Ctx.M (G : Ctx) : Model := model G.prog G.w

noncomputable def VRel (ν : List Int) (ρ : List Addr) : AV → Value → Prop
  | .none, v => v = .none
  | .bool b, v => v = .bool b
  | .int i, v => ∃ t, v = .int (i.val ν) t
  | .str k, v => ∃ t, v = .str (strOf k) t
  | .byt, v => ∃ b t, v = .bytes b t
  | .ref l, v => ∃ a, ρ[l]? = some a ∧ v = .ref a
  | .oth i, v => ∃ j t, v = .int j t ∧ j ≠ i
theorem VRel.mono {ν : List Int} {ρ δ : List Addr} {a : AV} {v : Value} (h : VRel ν ρ a v) : VRel ν (ρ ++ δ) a v := by
  cases a with
  | ref l =>
    obtain ⟨a, h1, h2⟩ := h
    exact ⟨a, by rw [List.getElem?_append_left (List.getElem?_eq_some_iff.mp h1).1]; exact h1, h2⟩
  | _ => exact h
/-- two lists, item by item -/
inductive All2 {α β : Type} (R : α → β → Prop) : List α → List β → Prop
  | nil : All2 R [] []
  | cons {a b as bs} : R a b → All2 R as bs → All2 R (a :: as) (b :: bs)
namespace All2
variable {α β : Type} {R S : α → β → Prop}
theorem mono {as : List α} {bs : List β} (h : All2 R as bs) (f : ∀ a b, R a b → S a b) : All2 S as bs := by
  induction h with
  | nil => exact .nil
  | cons h _ ih => exact .cons (f _ _ h) ih
theorem length {as : List α} {bs : List β} (h : All2 R as bs) : as.length = bs.length := by
  induction h with
  | nil => rfl
  | cons _ _ ih => simp [ih]
theorem append {as as' : List α} {bs bs' : List β} (h : All2 R as bs) (h' : All2 R as' bs') : All2 R (as ++ as') (bs ++ bs') := by
  induction h with
  | nil => exact h'
  | cons h _ ih => exact .cons h ih
theorem get {as : List α} {bs : List β} (h : All2 R as bs) {i : Nat} {a : α} (e : as[i]? = some a) : ∃ b, bs[i]? = some b ∧ R a b := by
  induction h generalizing i with
  | nil => simp at e
  | @cons x y xs ys hr _ ih =>
    cases i with
    | zero => simp at e; subst e; exact ⟨y, rfl, hr⟩
    | succ i => simp at e; obtain ⟨b, h1, h2⟩ := ih e; exact ⟨b, by simpa using h1, h2⟩
end All2

noncomputable def KeyRel (w : World) : AV → DictEntry → Prop
  | .str x, e => ∃ t, e.key = .str (strOf x) t ∧ e.hash = hashStr w (strOf x)
  | .int (.mk j []), e => ∃ t, e.key = .int j t ∧ e.hash = hashInt j
  | _, _ => False
noncomputable def EntRel (w : World) (ν : List Int) (ρ : List Addr) (p : AV × AV) (e : DictEntry) : Prop := KeyRel w p.1 e ∧ VRel ν ρ p.2 e.val
theorem EntRel.mono {w : World} {ν : List Int} {ρ δ : List Addr} {p : AV × AV} {e : DictEntry} (h : EntRel w ν ρ p e) : EntRel w ν (ρ ++ δ) p e := ⟨h.1, h.2.mono⟩

/-- a lambda of the law's: what a call of it needs -/
noncomputable def LamObj (h : Heap) (j : Nat) (o : Obj) : Prop := ∃ fd c oc vs t, o.data = .func fd ∧ o.cls = .type "function" ∧ fd.body = .expr (lamE j) ∧ fd.params = noArgs ∧ fd.scope = lamS j ∧ fd.closure = [] ∧ fd.defaults = .none ∧ fd.kwdefaults = .none ∧
  fd.globals = mainGlobals ∧ fd.builtins = builtinsNs ∧ fd.code = .ref c ∧ h.get? c = some oc ∧ oc.cls = .type "code" ∧ oc.data = .fields vs ∧ vs[1]? = some (.str fd.qualname t)
/-- the table of codes: the lambdas made so far -/
noncomputable def TabOk : Nat → Array Value → Prop
  | 0, vs => vs = #[]
  | 1, vs => ∃ x, vs = #[rawInt 458, rawInt 0, .ref x]
  | _, _ => True
noncomputable def ORel (G : Ctx) (ρ : List Addr) (h : Heap) : AO → Obj → Prop
  | .inst C d, o => ∃ a dx, G.cls C = some a ∧ ρ[d]? = some dx ∧ o = instObj a dx
  | .dict es, o => ∃ des n, o = dictOf des n ∧ All2 (EntRel G.w G.ν ρ) es des ∧ (es.map (·.1)).Nodup
  | .list xs, o => ∃ vs : List Value, ∃ n, o = listOf vs.toArray n ∧ All2 (VRel G.ν ρ) xs vs
  | .tup xs, o => o.cls = .type "tuple" ∧ ∃ vs : List Value, ∃ n, o.data = .seq vs.toArray n ∧ All2 (VRel G.ν ρ) xs vs
  | .lam j, o => LamObj h j o
  | .ints, o => ∃ vs : List Value, ∃ n, o = listOf vs.toArray n ∧ IntsAre vs G.ns
  | .tab k, o => ∃ vs, o = tabObj vs ∧ TabOk k vs
noncomputable def mutA : AO → Bool
  | .dict _ => true
  | .list _ => true
  | .tab _ => true
  | _ => false
theorem ORel.mono {G : Ctx} {ρ δ : List Addr} {h : Heap} {ao : AO} {o : Obj} (x : ORel G ρ h ao o) : ORel G (ρ ++ δ) h ao o := by
  have up : ∀ {l a}, ρ[l]? = some a → (ρ ++ δ)[l]? = some a := fun e => by rw [List.getElem?_append_left (List.getElem?_eq_some_iff.mp e).1]; exact e
  cases ao with
  | inst C d => obtain ⟨a, dx, h1, h2, h3⟩ := x; exact ⟨a, dx, h1, up h2, h3⟩
  | dict es => obtain ⟨des, n, h1, h2, h3⟩ := x; exact ⟨des, n, h1, h2.mono fun _ _ z => z.mono, h3⟩
  | list xs => obtain ⟨vs, n, h1, h2⟩ := x; exact ⟨vs, n, h1, h2.mono fun _ _ z => z.mono⟩
  | tup xs => obtain ⟨h0, vs, n, h1, h2⟩ := x; exact ⟨h0, vs, n, h1, h2.mono fun _ _ z => z.mono⟩
  | _ => exact x
noncomputable def isCodeO (o : Obj) : Prop := o.cls = .type "code" ∧ ∃ vs, o.data = .fields vs
/-- the heap may grow, and one object that is no code may turn -/
theorem ORel.heap {G : Ctx} {ρ : List Addr} {h h' : Heap} {ao : AO} {o : Obj} (x : ORel G ρ h ao o) (k : ∀ b o, h.get? b = some o → isCodeO o → h'.get? b = some o) : ORel G ρ h' ao o := by
  cases ao with
  | lam j =>
    obtain ⟨fd, c, oc, vs, t, a1, a2, a3, a4, a5, a6, a7, a8, a9, b1, b2, b3, b4, b5⟩ := x
    exact ⟨fd, c, oc, vs, t, a1, a2, a3, a4, a5, a6, a7, a8, a9, b1, b2, k _ _ b3 ⟨b4, _, b5.1⟩, b4, b5⟩
  | tab => exact x
  | _ => exact x

structure Rel (G : Ctx) (ρ : List Addr) (σ : H) (h : Heap) : Prop where
  base : ∀ b o, G.h₀.get? b = some o → h.get? b = some o
  pre : ∃ δ, ρ = G.ρ₀ ++ δ
  n : σ.n = ρ.length
  n4 : σ.n ≤ 4000
  inj : ρ.Nodup
  live : ∀ a ∈ ρ, ∃ o, h.get? a = some o
  obj : ∀ l ao, σ.t.get l = some ao → ∃ a o, ρ[l]? = some a ∧ h.get? a = some o ∧ ORel G ρ h ao o ∧ okSize ao = true ∧ (mutA ao = true → G.h₀.get? a = none ∧ 2 ≤ a)

/-- what may have been turned: the objects that are at hand (not the locked ones), and those of L -/
structure Step (ρ : List Addr) (lock : List Nat) (L : Addr → Prop) (h : Heap) (ρ' : List Addr) (h' : Heap) : Prop where
  ext : ∃ δ, ρ' = ρ ++ δ ∧ ∀ a ∈ δ, h.get? a = none
  alive : ∀ b o, h.get? b = some o → ∃ o', h'.get? b = some o'
  keep : ∀ b o, h.get? b = some o → (b ∉ ρ ∨ ∃ l ∈ lock, ρ[l]? = some b) → ¬ L b → h'.get? b = some o
noncomputable abbrev none' : Addr → Prop := fun _ => False

theorem Step.refl {ρ : List Addr} {lock : List Nat} {L : Addr → Prop} {h : Heap} : Step ρ lock L h ρ h := ⟨⟨[], by simp, by simp⟩, fun _ o e => ⟨o, e⟩, fun _ _ e _ _ => e⟩
theorem Step.trans {ρ ρ₁ ρ₂ : List Addr} {lock : List Nat} {L : Addr → Prop} {h h₁ h₂ : Heap} (x : Step ρ lock L h ρ₁ h₁) (y : Step ρ₁ lock L h₁ ρ₂ h₂) : Step ρ lock L h ρ₂ h₂ := by
  obtain ⟨⟨δ, rfl, hδ⟩, s1, k1⟩ := x
  obtain ⟨⟨ε, rfl, hε⟩, s2, k2⟩ := y
  refine ⟨⟨δ ++ ε, by simp, fun a ha => ?_⟩, fun b o e => let ⟨o', e'⟩ := s1 b o e; s2 b o' e', fun b o e c nl => ?_⟩
  · rcases List.mem_append.mp ha with h | h
    · exact hδ a h
    · cases q : Heap.get? _ a with
      | none => rfl
      | some o =>
        obtain ⟨o', e'⟩ := s1 a o q
        rw [hε a h] at e'; cases e'
  · refine k2 b o (k1 b o e c nl) ?_ nl
    rcases c with c | ⟨l, hl, c⟩
    · left
      intro m
      rcases List.mem_append.mp m with m | m
      · exact c m
      · rw [hδ b m] at e; cases e
    · exact .inr ⟨l, hl, by rw [List.getElem?_append_left (List.getElem?_eq_some_iff.mp c).1]; exact c⟩
theorem Step.weaken {ρ ρ' : List Addr} {lock : List Nat} {L L' : Addr → Prop} {h h' : Heap} (x : Step ρ lock L h ρ' h') (k : ∀ b, L b → L' b) : Step ρ lock L' h ρ' h' :=
  ⟨x.ext, x.alive, fun b o e c nl => x.keep b o e c fun z => nl (k b z)⟩
theorem Step.fewer {ρ ρ' : List Addr} {lock lock' : List Nat} {L : Addr → Prop} {h h' : Heap} (x : Step ρ lock L h ρ' h') (k : ∀ l, l ∈ lock' → l ∈ lock) : Step ρ lock' L h ρ' h' :=
  ⟨x.ext, x.alive, fun b o e c nl => x.keep b o e (c.imp id fun ⟨l, h1, h2⟩ => ⟨l, k l h1, h2⟩) nl⟩
/-- the heap only grows -/
theorem Step.grow {ρ : List Addr} {lock : List Nat} {L : Addr → Prop} {h h' : Heap} (k : ∀ b o, h.get? b = some o → h'.get? b = some o) : Step ρ lock L h ρ h' :=
  ⟨⟨[], by simp, by simp⟩, fun b o e => ⟨o, k b o e⟩, fun b o e _ _ => k b o e⟩
/-- one object of L turns -/
theorem Step.own {ρ : List Addr} {lock : List Nat} {L : Addr → Prop} {h h' : Heap} {a : Addr} (hL : L a) (hs : Heap.ExtBut a h h') (ha : ∃ o, h'.get? a = some o) : Step ρ lock L h ρ h' :=
  ⟨⟨[], by simp, by simp⟩, fun b o e => by
    by_cases q : b = a
    · exact q ▸ ha
    · exact ⟨o, hs b o q e⟩, fun b o e _ nl => hs b o (fun q => nl (q ▸ hL)) e⟩
/-- what turned was not there at first -/
theorem Step.hide {ρ ρ' : List Addr} {lock : List Nat} {L L' : Addr → Prop} {h h' : Heap} (x : Step ρ lock L h ρ' h') (hL : ∀ b, L b → h.get? b = none) : Step ρ lock L' h ρ' h' :=
  ⟨x.ext, x.alive, fun b o e c _ => x.keep b o e c fun z => by rw [hL b z] at e; cases e⟩
theorem Step.vrel {ν : List Int} {ρ ρ' : List Addr} {lock : List Nat} {L : Addr → Prop} {h h' : Heap} (x : Step ρ lock L h ρ' h') {a : AV} {v : Value} (y : VRel ν ρ a v) : VRel ν ρ' a v := by
  obtain ⟨⟨δ, rfl, _⟩, _⟩ := x; exact y.mono
theorem Step.vrels {ν : List Int} {ρ ρ' : List Addr} {lock : List Nat} {L : Addr → Prop} {h h' : Heap} (x : Step ρ lock L h ρ' h') {a : List AV} {v : List Value} (y : All2 (VRel ν ρ) a v) : All2 (VRel ν ρ') a v :=
  y.mono fun _ _ z => x.vrel z
theorem Step.at {ρ ρ' : List Addr} {lock : List Nat} {L : Addr → Prop} {h h' : Heap} (x : Step ρ lock L h ρ' h') {l : Nat} {a : Addr} (y : ρ[l]? = some a) : ρ'[l]? = some a := by
  obtain ⟨⟨δ, rfl, _⟩, _⟩ := x; rw [List.getElem?_append_left (List.getElem?_eq_some_iff.mp y).1]; exact y
/-- an address that is not at hand stays so -/
theorem Step.out {ρ ρ' : List Addr} {lock : List Nat} {L : Addr → Prop} {h h' : Heap} (x : Step ρ lock L h ρ' h') {a : Addr} {o : Obj} (y : a ∉ ρ) (z : h.get? a = some o) : a ∉ ρ' := by
  obtain ⟨⟨δ, rfl, hδ⟩, _⟩ := x
  intro m
  rcases List.mem_append.mp m with m | m
  · exact y m
  · rw [hδ a m] at z; cases z

namespace Rel
variable {G : Ctx} {ρ : List Addr} {σ : H} {h h' : Heap}
theorem at_ (R : Rel G ρ σ h) {l : Nat} {ao : AO} (e : σ.t.get l = some ao) : ∃ a o, ρ[l]? = some a ∧ h.get? a = some o ∧ ORel G ρ h ao o ∧ okSize ao = true ∧ (mutA ao = true → G.h₀.get? a = none ∧ 2 ≤ a) := R.obj l ao e
theorem grow (R : Rel G ρ σ h) (k : ∀ b o, h.get? b = some o → h'.get? b = some o) : Rel G ρ σ h' :=
  ⟨fun b o e => k b o (R.base b o e), R.pre, R.n, R.n4, R.inj, fun a ha => let ⟨o, e⟩ := R.live a ha; ⟨o, k _ _ e⟩, fun l ao e => by
    obtain ⟨a, o, h1, h2, h3, h4, h5⟩ := R.obj l ao e
    exact ⟨a, o, h1, k _ _ h2, h3.heap fun b o e _ => k b o e, h4, h5⟩⟩
/-- one object that is not at hand turns (no code, nothing of the ground) -/
theorem turn (R : Rel G ρ σ h) {a : Addr} {oa : Obj} (ha : h.get? a = some oa) (hc : ¬ isCodeO oa) (h0 : G.h₀.get? a = none) (hn : a ∉ ρ) (hs : Heap.ExtBut a h h') : Rel G ρ σ h' :=
  ⟨fun b o e => hs b o (fun z => by rw [z, h0] at e; cases e) (R.base b o e), R.pre, R.n, R.n4, R.inj, fun b hb => let ⟨o, e⟩ := R.live b hb; ⟨o, hs b _ (fun z => hn (z ▸ hb)) e⟩, fun l ao e => by
    obtain ⟨b, o, h1, h2, h3, h4, h5⟩ := R.obj l ao e
    refine ⟨b, o, h1, hs b _ (fun z => hn (z ▸ List.mem_of_getElem? h1)) h2, h3.heap fun c oc e q => hs c _ (fun z => ?_) e, h4, h5⟩
    subst z
    rw [ha] at e; cases e; exact hc q⟩
/-- an object is taken to hand -/
theorem adopt (R : Rel G ρ σ h) {a : Addr} {o : Obj} {ao : AO} (ho : h.get? a = some o) (hn : a ∉ ρ) (hr : ORel G ρ h ao o) (hz : okSize ao = true) (hm : mutA ao = true → G.h₀.get? a = none ∧ 2 ≤ a) (h4 : σ.n < 4000) :
    Rel G (ρ ++ [a]) ⟨T.put 12 σ.t σ.n ao, Nat.succ σ.n, σ.lock⟩ h := by
  refine ⟨R.base, ?_, ?_, h4, ?_, fun b hb => ?_, fun l ao' e => ?_⟩
  · obtain ⟨δ, e⟩ := R.pre; exact ⟨δ ++ [a], by rw [e]; simp⟩
  · show Nat.succ σ.n = _; rw [R.n]; simp
  · rw [List.nodup_append]
    exact ⟨R.inj, by simp, fun x hx y hy => by rw [List.mem_singleton.mp hy]; rintro rfl; exact hn hx⟩
  · rcases List.mem_append.mp hb with hb | hb
    · exact R.live b hb
    · rw [List.mem_singleton.mp hb]; exact ⟨o, ho⟩
  · have e : (T.put 12 σ.t σ.n ao).get l = some ao' := e
    rw [T.get_put 12 σ.t σ.n ao l (by omega)] at e
    by_cases q : l = σ.n
    · rw [if_pos q] at e
      cases e
      refine ⟨a, o, ?_, ho, hr.mono, hz, hm⟩
      rw [q, R.n]; simp
    · rw [if_neg q] at e
      obtain ⟨b, o', h1, h2, h3, h4, h5⟩ := R.obj l ao' e
      exact ⟨b, o', by rw [List.getElem?_append_left (List.getElem?_eq_some_iff.mp h1).1]; exact h1, h2, h3.mono, h4, h5⟩
/-- an object at hand turns -/
theorem update (R : Rel G ρ σ h) {l : Nat} {a : Addr} {o o' : Obj} {ao ao' : AO} {lk : List Nat} (e : σ.t.get l = some ao) (ha : ρ[l]? = some a) (hm : mutA ao = true) (ho : h.get? a = some o) (hc : o.cls ≠ .type "code")
    (hs : Heap.ExtBut a h h') (ho' : h'.get? a = some o') (hr : ORel G ρ h' ao' o') (hz : okSize ao' = true) : Rel G ρ ⟨T.put 12 σ.t l ao', σ.n, lk⟩ h' := by
  obtain ⟨a', o₁, q1, q2, q3, q4, q5⟩ := R.obj l ao e
  rw [ha] at q1; cases q1
  have h0 := q5 hm
  have lt : l < σ.n := by rw [R.n]; exact (List.getElem?_eq_some_iff.mp ha).1
  refine ⟨fun b o e => hs b o (fun z => by rw [z, h0.1] at e; cases e) (R.base b o e), R.pre, R.n, R.n4, R.inj, fun b hb => ?_, fun k aok ek => ?_⟩
  · by_cases q : b = a
    · exact ⟨o', q ▸ ho'⟩
    · obtain ⟨x, e⟩ := R.live b hb; exact ⟨x, hs b _ q e⟩
  have ek : (T.put 12 σ.t l ao').get k = some aok := ek
  rw [T.get_put 12 σ.t l ao' k (by have := R.n4; omega)] at ek
  by_cases q : k = l
  · rw [if_pos q] at ek
    cases ek
    exact ⟨a, o', q ▸ ha, ho', hr, hz, fun _ => h0⟩
  · rw [if_neg q] at ek
    obtain ⟨b, ob, h1, h2, h3, h4, h5⟩ := R.obj k aok ek
    refine ⟨b, ob, h1, hs b _ (fun z => ?_) h2, h3.heap fun c oc e q => hs c _ (fun z => ?_) e, h4, h5⟩
    · subst z
      have i1 := (List.getElem?_eq_some_iff.mp h1)
      have i2 := (List.getElem?_eq_some_iff.mp ha)
      exact q ((List.getElem?_inj i1.1 R.inj).mp (h1.trans ha.symm))
    · subst z
      rw [ho] at e; cases e; exact hc q.1
theorem lock (R : Rel G ρ σ h) (lk : List Nat) : Rel G ρ ⟨σ.t, σ.n, lk⟩ h := ⟨R.base, R.pre, R.n, R.n4, R.inj, R.live, R.obj⟩
end Rel
end Mine
end

section
open PySem PySem.W PyProof.Rows PySem.Calls
set_option maxRecDepth 100000
set_option maxHeartbeats 1000000
namespace Mine

/-! ## names of the text -/
theorem strOf_ne {s : Str} (h : (nameTab.all fun t => !(t == s)) = true) (h2 : (s.cps.toList.all fun c => Nat.blt c 200) = true) (k : Nat) : (strOf k == s) = false := by
  rw [beq_eq_false_iff_ne]
  intro e
  unfold strOf at e
  cases p : strAt nameTab k with
  | none =>
    rw [p] at e
    have e : Str.mk (List.replicate (k + 1) 200).toArray = s := e
    subst e
    have := List.all_eq_true.mp h2 200 (by simp)
    have := (blt_iff _ _).mp this
    omega
  | some t =>
    rw [p] at e
    have e : t = s := e
    have := List.all_eq_true.mp h t (strAt_mem p)
    rw [e] at this
    simp at this
theorem no_debug (k : Nat) : (strOf k == ("__debug__" : Str)) = false := strOf_ne (by decide +kernel) (by decide +kernel) k
theorem no_classdict (k : Nat) : (strOf k == ("__classdict__" : Str)) = false := strOf_ne (by decide +kernel) (by decide +kernel) k
theorem no_dot0 (k : Nat) : (strOf k == (".0" : Str)) = false := strOf_ne (by decide +kernel) (by decide +kernel) k
theorem no_super (k : Nat) : (strOf k == ("super" : Str)) = false := strOf_ne (by decide +kernel) (by decide +kernel) k
theorem no_name (k : Nat) : strOf k ≠ "__name__" := by
  have := strOf_ne (s := ("__name__" : Str)) (by decide +kernel) (by decide +kernel) k
  rwa [beq_eq_false_iff_ne] at this

/-- is it a name of the block's own? -/
noncomputable def isLoc : Option NameKind → Bool
  | some .local => true
  | some .cell => true
  | some .free => true
  | _ => false
noncomputable def isGlob : Option NameKind → Bool
  | some .globalImplicit => true
  | _ => false
noncomputable def isLocal : Option NameKind → Bool
  | some .local => true
  | _ => false
noncomputable def isCell : Option NameKind → Bool
  | some .cell => true
  | _ => false
noncomputable def lenC (e : CE) : Nat := match e with
  | .cons _ r => lenC r + 1
  | _ => 0
/-- where the lambdas stand -/
noncomputable def lamP : Nat → Nat
  | 0 => 4580000458013
  | _ => 4590000459013
/-- the block of a comprehension -/
noncomputable def relN (ns names : List (Str × NameKind)) : List (Str × NameKind) := names.map fun p => match p.2 with
  | .free => match isCell (ns.lookup p.1) with
    | true => (p.1, .cell)
    | false => p
  | _ => p
noncomputable def scOk (names : List (Str × NameKind)) (sc : Scope) (x : Nat) : Bool :=
  (match sc.kind with | .function => true | _ => false) && isLocal (sc.names.lookup (strOf x)) && (match isLocal (sc.names.lookup (strOf 3)) with | true => false | false => true) &&
    sc.names.all fun p => match p.2 with
      | .local => (p.1 == strOf x || p.1 == (".0" : Str)) && isLocal (sc.names.lookup p.1)
      | .free => isCell (names.lookup p.1)
      | .cell => false
      | _ => true
noncomputable def isL : CE → Bool
  | .nil => true
  | .cons .. => true
  | _ => false
/-- a display of a dict: none, or one str and one number -/
noncomputable def smallDict : CE → CE → Bool
  | .nil, .nil => true
  | .cons (.str ..) .nil, .cons (.int ..) .nil => true
  | _, _ => false
/-- the code fits the block's names -/
noncomputable def wfE : CE → List (Str × NameKind) → Bool
  | .nil, _ => true
  | .cons a r, ns => wfE a ns && wfE r ns && isL r
  | .none .., _ => true
  | .bool .., _ => true
  | .int .., _ => true
  | .str .., _ => true
  | .byt .., _ => true
  | .loc x _, ns => isLoc (ns.lookup (strOf x))
  | .glob x _, ns => isGlob (ns.lookup (strOf x))
  | .attr e a _, ns => wfE e ns && inN attrTab a
  | .sub e i _, ns => wfE e ns && wfE i ns
  | .tail e i _ _, ns => wfE e ns && wfE i ns
  | .callF x f args _ _, ns => (Nat.ble 100 f || (isGlob (ns.lookup (strOf x)) && look fnNames x == some f)) && wfE args ns
  | .callC x c args _ _, ns => isGlob (ns.lookup (strOf x)) && look clsNames x == some c && wfE args ns
  | .callB x b args _ _, ns => (Nat.ble 4 b || (isGlob (ns.lookup (strOf x)) && look biNames x == some b)) && wfE args ns
  | .callM e a args q p, ns => wfE e ns && inN attrTab a && wfE args ns && Nat.blt (lenC args) 30 && Nat.beq (P q).endLine (P p).line
  | .bin _ a b _, ns => wfE a ns && wfE b ns
  | .cmp _ a b _, ns => wfE a ns && wfE b ns
  | .andor _ es _, ns => wfE es ns && isL es
  | .not e _, ns => wfE e ns
  | .neg e _, ns => wfE e ns
  | .ife t a b _, ns => wfE t ns && wfE a ns && wfE b ns
  | .list es _, ns => wfE es ns
  | .tup es _ _, ns => wfE es ns
  | .dict ks vs _, _ => smallDict ks vs
  | .comp elt x _ it ifs sc _, ns => scOk ns (scOf sc) x && wfE it ns && wfE elt (relN ns (scOf sc).names) && wfE ifs (relN ns (scOf sc).names)
  | .compV elt x _ e _ q r ifs sc _, ns => scOk ns (scOf sc) x && wfE e ns && wfE elt (relN ns (scOf sc).names) && wfE ifs (relN ns (scOf sc).names) && Nat.beq (P q).endLine (P r).line
  | .lam j p, ns => isLocal (ns.lookup (strOf 3)) && Nat.blt j 2 && Nat.beq p (lamP j)

/-! ## the frame -/
structure AOk (n : Nat) (A : Around) : Prop where
  hd : A.handled = none
  room : A.depth + 5 * n ≤ 900
  units : A.units + 30 * n ≤ 9000
theorem AOk.mark {n : Nat} {A : Around} (x : AOk n A) : AOk n (A.mark none) := ⟨by simp [Around.mark, x.hd], x.room, x.units⟩

structure FrE (G : Ctx) (ρ : List Addr) (env : Env) (h : Heap) : Prop where
  kind : env.scope.kind = .function
  glob : env.globals = mainGlobals
  bi : env.builtins = builtinsNs
  ns : ∃ m, h.Ns env.locals m
  out : env.locals ∉ ρ
  fresh : G.h₀.get? env.locals = none
  lam : isLocal (env.scope.names.lookup (strOf 3)) = true → env.code = .ref G.cc
  cells : ∀ x, isCell (env.scope.names.lookup x) = true → (env.cells.lookup x).isSome = true
  cell : ∀ x c, env.cells.lookup x = some c → (∃ v, h.IsCell c v) ∧ c ∉ ρ ∧ c ≠ env.locals ∧ G.h₀.get? c = none
  apart : ∀ x y c, env.cells.lookup x = some c → env.cells.lookup y = some c → x = y
noncomputable def NameAt (ρ : List Addr) (env : Env) (h : Heap) (x : Str) (v : Value) : Prop :=
  (env.kindOf x = some .local ∧ ∃ m, h.Ns env.locals m ∧ m x = some v) ∨
  ((env.kindOf x = some .cell ∨ env.kindOf x = some .free) ∧ ∃ c, env.cells.lookup x = some c ∧ h.IsCell c (some v) ∧ c ∉ ρ ∧ c ≠ env.locals)
noncomputable def LRel (G : Ctx) (ρ : List Addr) (env : Env) (h : Heap) (loc : Loc) : Prop :=
  ∀ k av, look loc k = some av → isLoc (env.scope.names.lookup (strOf k)) = true → ∃ v, VRel G.ν ρ av v ∧ NameAt ρ env h (strOf k) v
theorem NameAt.step {ρ ρ' : List Addr} {lock : List Nat} {env : Env} {h h' : Heap} {x : Str} {v : Value} (S : Step ρ lock none' h ρ' h') (ho : env.locals ∉ ρ) (y : NameAt ρ env h x v) : NameAt ρ' env h' x v := by
  rcases y with ⟨k, m, hn, hm⟩ | ⟨k, c, hc, hv, nc, ne⟩
  · refine .inl ⟨k, m, ?_, hm⟩
    obtain ⟨o, es, ep, ho', r⟩ := hn
    exact ⟨o, es, ep, S.keep _ _ ho' (.inl ho) (fun z => z), r⟩
  · obtain ⟨o, ho', hd⟩ := hv
    exact .inr ⟨k, c, hc, ⟨o, S.keep _ _ ho' (.inl nc) (fun z => z), hd⟩, S.out nc ho', ne⟩

/-- all that an expression's walk stands on -/
structure At (G : Ctx) (n : Nat) (A : Around) (env : Env) (ρ : List Addr) (loc : Loc) (σ : H) (h : Heap) : Prop where
  a : AOk n A
  f : FrE G ρ env h
  l : LRel G ρ env h loc
  r : Rel G ρ σ h
theorem At.step {G : Ctx} {n : Nat} {A : Around} {env : Env} {ρ ρ' : List Addr} {loc : Loc} {σ σ' : H} {lock : List Nat} {h h' : Heap} (x : At G n A env ρ loc σ h) (R : Rel G ρ' σ' h') (S : Step ρ lock none' h ρ' h') :
    At G n A env ρ' loc σ' h' := by
  obtain ⟨m, o, es, ep, ho', r⟩ := x.f.ns
  refine ⟨x.a, ⟨x.f.kind, x.f.glob, x.f.bi, ⟨m, o, es, ep, S.keep _ _ ho' (.inl x.f.out) (fun z => z), r⟩, S.out x.f.out ho', x.f.fresh, x.f.lam, x.f.cells, fun y c hc => ?_, x.f.apart⟩, fun k av e i => ?_, R⟩
  · obtain ⟨⟨v, oc, e1, e2⟩, c1, c2, c3⟩ := x.f.cell y c hc
    exact ⟨⟨v, oc, S.keep _ _ e1 (.inl c1) (fun z => z), e2⟩, S.out c1 e1, c2, c3⟩
  · obtain ⟨v, h1, h2⟩ := x.l k av e i
    exact ⟨v, S.vrel h1, h2.step S x.f.out⟩

/-- what is to follow -/
noncomputable def Then (G : Ctx) {α β : Type} (R : List Addr → α → β → Prop) (ρ : List Addr) (σ : H) (s : Shared) (κ : α → H → Bool) (Q : β → Shared → Prop) : Prop :=
  ∀ a σ' ρ' b h' tk', κ a σ' = true → σ'.lock = σ.lock → Rel G ρ' σ' h' → Step ρ σ.lock none' s.heap ρ' h' → R ρ' a b → Q b { s with heap := h', toks := tk' }
theorem Then.after {G : Ctx} {α β : Type} {R : List Addr → α → β → Prop} {ρ ρ₁ : List Addr} {σ σ₁ : H} {s : Shared} {h₁ : Heap} {tk₁ : Nat} {κ : α → H → Bool} {Q : β → Shared → Prop} (K : Then G R ρ σ s κ Q) (hl : σ₁.lock = σ.lock)
    (S : Step ρ σ.lock none' s.heap ρ₁ h₁) : Then G R ρ₁ σ₁ { s with heap := h₁, toks := tk₁ } κ Q :=
  fun a σ' ρ' b h' tk' hk hl' R' S' r => K a σ' ρ' b h' tk' hk (hl'.trans hl) R' (S.trans (hl ▸ S')) r
theorem Then.now {G : Ctx} {α β : Type} {R : List Addr → α → β → Prop} {ρ : List Addr} {σ : H} {s : Shared} {κ : α → H → Bool} {Q : β → Shared → Prop} (K : Then G R ρ σ s κ Q) {a : α} {b : β} {tk : Nat} (hk : κ a σ = true) (Rl : Rel G ρ σ s.heap)
    (r : R ρ a b) : Q b { s with toks := tk } := K a σ ρ b s.heap tk hk rfl Rl Step.refl r
theorem Then.now' {G : Ctx} {α β : Type} {R : List Addr → α → β → Prop} {ρ : List Addr} {σ : H} {s : Shared} {κ : α → H → Bool} {Q : β → Shared → Prop} (K : Then G R ρ σ s κ Q) {a : α} {b : β} (hk : κ a σ = true) (Rl : Rel G ρ σ s.heap)
    (r : R ρ a b) : Q b s := K a σ ρ b s.heap s.toks hk rfl Rl Step.refl r
/-- the heap has only grown -/
theorem Then.grown {G : Ctx} {α β : Type} {R : List Addr → α → β → Prop} {ρ : List Addr} {σ : H} {s : Shared} {κ : α → H → Bool} {Q : β → Shared → Prop} (K : Then G R ρ σ s κ Q) {a : α} {b : β} {h' : Heap} {tk : Nat} (hk : κ a σ = true) (Rl : Rel G ρ σ s.heap)
    (kp : ∀ b o, s.heap.get? b = some o → h'.get? b = some o) (r : R ρ a b) : Q b { s with heap := h', toks := tk } :=
  K a σ ρ b h' tk hk rfl (Rl.grow kp) (Step.grow kp) r
noncomputable abbrev VsRel (ν : List Int) (ρ : List Addr) := All2 (VRel ν ρ)
noncomputable abbrev BRel (_ : List Addr) (a b : Bool) : Prop := a = b

/-- an expression's (or a list's) walk is what its Den says -/
structure Sound (G : Ctx) (n : Nat) (e : CE) (d : Den) : Prop where
  ev : ∀ {A E env ρ loc σ s κ Q}, At G n A env ρ loc σ s.heap → wfE e env.scope.names = true → d.ev loc σ κ = true → Then G (VRel G.ν) ρ σ s κ Q → wpAny G.M A (eval (toE e) env) Q E s
  evs : ∀ {A E env ρ loc σ s κ Q pos}, At G n A env ρ loc σ s.heap → wfE e env.scope.names = true → d.evs loc σ κ = true → Then G (fun ρ as bs => VsRel G.ν ρ as bs ∧ as.length = lenC e) ρ σ s κ Q → wpAny G.M A (spliced (backTo pos (starEach (toEs e) env))) Q E s
  tst : ∀ {A E env ρ loc σ s κ Q}, At G n A env ρ loc σ s.heap → wfE e env.scope.names = true → d.tst loc σ κ = true → Then G BRel ρ σ s κ Q → wpAny G.M A (isTrue (toE e) env (eval (toE e) env)) Q E s
  nil : d.isNil = (match e with | .nil => true | _ => false)
  ors : ∀ {A E env ρ loc σ s κ Q op pos}, At G n A env ρ loc σ s.heap → wfE e env.scope.names = true → d.ors op loc σ κ = true → Then G (VRel G.ν) ρ σ s κ Q → wpAny G.M A (boolOp pos op (evalEach (toEs e) env)) Q E s
  tors : ∀ {A E env ρ loc σ s κ Q op}, At G n A env ρ loc σ s.heap → wfE e env.scope.names = true → d.tors op loc σ κ = true → Then G BRel ρ σ s κ Q → wpAny G.M A (allTrue op (toEs e) env) Q E s
  ifs : ∀ {A E env ρ loc σ s κ Q}, At G n A env ρ loc σ s.heap → wfE e env.scope.names = true → d.tors .And loc σ κ = true → Then G BRel ρ σ s κ Q →
    wpAny G.M A (forIn (toEs e) true fun c r => if r = true then do let ok ← isTrue c env (eval c env); pure (ForInStep.yield ok) else pure (ForInStep.yield r)) Q E s

noncomputable def biVal : Nat → Value
  | 0 => .builtin "len"
  | 1 => .builtin "any"
  | 2 => .type "dict"
  | 3 => .builtin "max"
  | _ => .type "range"
/-- what is told of a class -/
structure ClsOk (G : Ctx) (c : Nat) (a : Addr) : Prop where
  makes : makesIn G.K a = true
  keep : keepIn G.K (.ref a) = true
  ga : findIn G.K (.ref a) "__getattribute__" = some (some (.builtin "object.__getattribute__"))
  gt : findIn G.K (.ref a) "__getattr__" = some none
  sa : findIn G.K (.ref a) "__setattr__" = some (some (.builtin "object.__setattr__"))
  over : plainOver G.K a = true
  dict : hasDictIn G.K a = true
  none : ∀ ms k, G.tx.meths.get c = some ms → look ms k = .none → inN attrTab k = true → findIn G.K (.ref a) (strOf k) = some .none
  meth : ∀ ms k f, G.tx.meths.get c = some ms → look ms k = some f → ∃ fa, G.fn f = some fa ∧ findIn G.K (.ref a) (strOf k) = some (some (.ref fa)) ∧ typeIn G.K (.ref fa) = some (.type "function") ∧ fnIn G.K fa = true
  init : ∀ f, G.tx.inits.get c = some f → ∃ fa, G.fn f = some fa ∧ findIn G.K (.ref a) "__init__" = some (some (.ref fa)) ∧ typeIn G.K (.ref fa) = some (.type "function")
/-- what is told of the tables -/
structure Ctx.Ok (G : Ctx) : Prop where
  X : G.K.In G.h₀
  g : G.h₀.Ns mainGlobals G.mg
  b : G.h₀.Ns builtinsNs G.mb
  lim : G.h₀.NoLimit
  bnd : InB G.tx.bs G.ν
  globs : ∀ x av, look G.tx.globs x = some av → ∃ v, G.mg (strOf x) = some v ∧ VRel G.ν G.ρ₀ av v
  pows : ∀ a b r, powOf G.tx.pows a b = some r → 0 ≤ b.val G.ν ∧ (Builtin.Int.intBits (a.val G.ν) : Int) * b.val G.ν ≤ 2 ^ 27 ∧ r.val G.ν = a.val G.ν ^ (b.val G.ν).toNat
  menus : ∀ xs i r, menuOf G.tx.menus xs i = some r → ∃ k : Nat, i.val G.ν = k ∧ ∃ x, xs[k]? = some x ∧ ∀ ρ v, VRel G.ν ρ x v → VRel G.ν ρ r v
  cls : ∀ c a, G.cls c = some a → ClsOk G c a
  cnames : ∀ x c, look clsNames x = some c → ∃ a, G.cls c = some a ∧ G.mg (strOf x) = some (.ref a)
  fnames : ∀ x f, look fnNames x = some f → ∃ a, G.fn f = some a ∧ fnIn G.K a = true ∧ G.mg (strOf x) = some (.ref a)
  lams : ∀ j v, G.tx.lams.get j = some v → (j = 0 ∧ v = .bool false) ∨ (j = 1 ∧ v = .int (.mk 25000 []))
  names : strOf G.tx.nAppend = "append" ∧ strOf G.tx.nGet = "get" ∧ strOf G.tx.nValues = "values"
  code : ∃ a, G.ρ₀[4]? = some a ∧ CodeHd G.h₀ G.cc a
  bmain : ∃ bm ob, G.mg "__builtins__" = some (.ref bm) ∧ bm ≠ builtinsNs ∧ G.h₀.get? bm = some ob ∧ ob.cls = .type "module" ∧ ob.dict = some builtinsNs ∧ ob.data = .plain
  bnames : ∀ x b, look biNames x = some b → G.mg (strOf x) = none ∧ G.mb (strOf x) = some (biVal b)

section
variable {G : Ctx} {n : Nat} {A : Around} {E : Value → Shared → Prop} {env : Env} {ρ : List Addr} {loc : Loc} {σ : H} {s : Shared} {Q : Value → Shared → Prop}
theorem Rel.gns (O : G.Ok) (R : Rel G ρ σ s.heap) : s.heap.Ns mainGlobals G.mg := O.g.keeps R.base
theorem Rel.bns (O : G.Ok) (R : Rel G ρ σ s.heap) : s.heap.Ns builtinsNs G.mb := O.b.keeps R.base
theorem Rel.in_ (O : G.Ok) (R : Rel G ρ σ s.heap) : G.K.In s.heap := O.X.keeps R.base
theorem Rel.lim_ (O : G.Ok) (R : Rel G ρ σ s.heap) : s.heap.NoLimit := O.lim.keeps R.base
theorem isGlob_eq {o : Option NameKind} (h : isGlob o = true) : o = some .globalImplicit := by
  cases o with
  | none => cases h
  | some k => cases k <;> first | rfl | cases h
theorem isLocal_eq {o : Option NameKind} (h : isLocal o = true) : o = some .local := by
  cases o with
  | none => cases h
  | some k => cases k <;> first | rfl | cases h
theorem isCell_eq {o : Option NameKind} (h : isCell o = true) : o = some .cell := by
  cases o with
  | none => cases h
  | some k => cases k <;> first | rfl | cases h
/-- a name of the main module -/
theorem name_glob (O : G.Ok) (X : At G n A env ρ loc σ s.heap) {x : Nat} {pos : Pos} {v : Value} (hg : isGlob (env.scope.names.lookup (strOf x)) = true) (hm : G.mg (strOf x) = some v) (h : Q v s) : wpAny G.M A (eval (.Name (strOf x) pos) env) Q E s :=
  Name_function_global X.f.kind (isGlob_eq hg) (loadGlobal_global (env := env) (by rw [X.f.glob]; exact X.r.gns O) hm h) (no_debug x)
/-- a name of the built-ins -/
theorem name_bi (O : G.Ok) (X : At G n A env ρ loc σ s.heap) {x : Nat} {pos : Pos} {v : Value} (hg : isGlob (env.scope.names.lookup (strOf x)) = true) (hm : G.mg (strOf x) = none) (hb : G.mb (strOf x) = some v) (h : Q v s) :
    wpAny G.M A (eval (.Name (strOf x) pos) env) Q E s :=
  Name_function_global X.f.kind (isGlob_eq hg) (loadGlobal_builtin (env := env) (by rw [X.f.glob]; exact X.r.gns O) hm (by rw [X.f.bi]; exact X.r.bns O) hb h) (no_debug x)
theorem name_loc (X : At G n A env ρ loc σ s.heap) {x : Nat} {pos : Pos} {v : Value} (hn : NameAt ρ env s.heap (strOf x) v) (h : Q v s) : wpAny G.M A (eval (.Name (strOf x) pos) env) Q E s := by
  refine wpAny_Name ?_ (no_debug x)
  rcases hn with ⟨k, m, hn, hm⟩ | ⟨k | k, c, hc, hv, _⟩
  · exact wpAny_loadName_local X.f.kind k hn hm h
  · exact wpAny_loadName_cell X.f.kind k hc hv h
  · exact wpAny_loadName_free X.f.kind k hc hv h (no_classdict x)
end

/-! ### leaves: all but the value is of no use -/
theorem truth_true {v : AV} {κ : Bool → Bool} (h : truth v κ = true) : ∃ b, v = .bool b ∧ κ b = true := by
  cases v <;> first | exact ⟨_, rfl, h⟩ | cases h
section
variable {G : Ctx} {n : Nat} {e : CE}
noncomputable abbrev EvSound (G : Ctx) (n : Nat) (e : CE) (ev : Ev) : Prop := ∀ {A E env ρ loc σ s κ Q}, At G n A env ρ loc σ s.heap → wfE e env.scope.names = true → ev loc σ κ = true → Then G (VRel G.ν) ρ σ s κ Q → wpAny G.M A (eval (toE e) env) Q E s
noncomputable abbrev TstSound (G : Ctx) (n : Nat) (e : CE) (t : Loc → H → (Bool → H → Bool) → Bool) : Prop := ∀ {A E env ρ loc σ s κ Q}, At G n A env ρ loc σ s.heap → wfE e env.scope.names = true → t loc σ κ = true → Then G BRel ρ σ s κ Q → wpAny G.M A (isTrue (toE e) env (eval (toE e) env)) Q E s
/-- a value's truth -/
theorem tst_value {ev : Ev} (H : EvSound G n e ev) (he : ∀ env whole, isTrue (toE e) env whole = (do let v ← whole; standAt (toE e).pos; holding [v] (truthy v))) : TstSound G n e (tstOf ev) := by
  intro A E env ρ loc σ s κ Q X W hk K
  refine wpAny_isTrue_value (H X W hk fun av σ' ρ' v h' tk' hk' hl R' S' r => ?_) (he env _)
  obtain ⟨b, rfl, hk'⟩ := truth_true hk'
  have r : v = .bool b := r
  subst r
  exact wpAny_truthy_bool (K b σ' ρ' b h' tk' hk' hl R' S' rfl)
theorem Sound.leaf {ev : Ev} {t : Loc → H → (Bool → H → Bool) → Bool} {st : AV → Loc → H → (Loc → H → Bool) → Bool} (hn : (match e with | .nil => true | _ => false) = false) (H : EvSound G n e ev) (H2 : TstSound G n e t) :
    Sound G n e ⟨ev, noEvs, t, false, noOrs, noTors, st, noStos⟩ where
  ev := H
  evs := fun _ _ h _ => by cases h
  tst := H2
  nil := hn.symm
  ors := fun _ _ h _ => by cases h
  tors := fun _ _ h _ => by cases h
  ifs := fun _ _ h _ => by cases h
end

section
variable {G : Ctx} {n : Nat}
theorem s_none (k p : Nat) : Sound G n (.none k p) (leaf fun _ h κ => κ .none h) :=
  have H : EvSound G n (.none k p) (fun _ h κ => κ .none h) := fun X _ hk K => wpAny_Constant_none (K.now' hk X.r rfl)
  .leaf rfl H (tst_value H fun _ _ => rfl)
theorem s_bool (b : Bool) (k p : Nat) : Sound G n (.bool b k p) (leaf fun _ h κ => κ (.bool b) h) :=
  have H : EvSound G n (.bool b k p) (fun _ h κ => κ (.bool b) h) := fun X _ hk K => wpAny_Constant_bool (K.now' hk X.r rfl)
  .leaf rfl H (tst_value H fun _ _ => rfl)
theorem s_int (i k p : Nat) : Sound G n (.int i k p) (leaf fun _ h κ => κ (.int (.mk (.ofNat i) [])) h) :=
  have H : EvSound G n (.int i k p) (fun _ h κ => κ (.int (.mk (.ofNat i) [])) h) := fun X _ hk K => wpAny_Constant_int (K.now hk X.r ⟨_, by rw [LI.val_const]⟩)
  .leaf rfl H (tst_value H fun _ _ => rfl)
theorem s_str (x k p : Nat) : Sound G n (.str x k p) (leaf fun _ h κ => κ (.str x) h) :=
  have H : EvSound G n (.str x k p) (fun _ h κ => κ (.str x) h) := fun X _ hk K => wpAny_Constant_str (K.now hk X.r ⟨_, rfl⟩)
  .leaf rfl H (tst_value H fun _ _ => rfl)
theorem s_byt (k p : Nat) : Sound G n (.byt k p) (leaf fun _ h κ => κ .byt h) :=
  have H : EvSound G n (.byt k p) (fun _ h κ => κ .byt h) := fun {A E env ρ loc σ s κ Q} X _ hk K => by
    have z : Q (.bytes #[49, 50, 51, 52, 53, 54, 55, 56] s.toks) { s with toks := s.toks + 1 } := K.now hk X.r ⟨_, _, rfl⟩
    exact fun _ _ _ => z
  .leaf rfl H (tst_value H fun _ _ => rfl)
theorem onS_true {α : Type} {o : Option α} {κ : α → Bool} (h : onS o κ = true) : ∃ a, o = some a ∧ κ a = true := by
  cases o with
  | none => cases h
  | some a => exact ⟨a, rfl, h⟩
theorem s_loc (x p : Nat) : Sound G n (.loc x p) (leafS (cLoc x) (sLoc x)) :=
  have H : EvSound G n (.loc x p) (cLoc x) := fun X W hk K => by
    obtain ⟨av, h1, h2⟩ := onS_true hk
    obtain ⟨v, r, hn⟩ := X.l x av h1 W
    exact name_loc X hn (K.now' h2 X.r r)
  .leaf rfl H (tst_value H fun _ _ => rfl)
theorem s_glob (O : G.Ok) (x p : Nat) : Sound G n (.glob x p) (leaf (cGlob G.tx x)) :=
  have H : EvSound G n (.glob x p) (cGlob G.tx x) := fun X W hk K => by
    obtain ⟨av, h1, h2⟩ := onS_true hk
    obtain ⟨v, hm, r⟩ := O.globs x av h1
    obtain ⟨δ, e⟩ := X.r.pre
    exact name_glob O X W hm (K.now' h2 X.r (e ▸ r.mono))
  .leaf rfl H (tst_value H fun _ _ => rfl)
end
end Mine
end

section
open PySem PySem.W PyProof.Rows PySem.Calls
set_option maxRecDepth 100000
set_option maxHeartbeats 1000000
namespace Mine

/-! ## what a step that comes out says -/
theorem at_true {h : H} {l : Nat} {κ : AO → Bool} (e : h.at l κ = true) : ∃ ao, h.t.get l = some ao ∧ κ ao = true := by
  unfold H.at at e
  cases q : h.t.get l with
  | none => rw [q] at e; cases e
  | some ao => rw [q] at e; exact ⟨ao, rfl, e⟩
theorem asRef_true {v : AV} {κ : Nat → Bool} (e : asRef v κ = true) : ∃ l, v = .ref l ∧ κ l = true := by
  cases v <;> first | exact ⟨_, rfl, e⟩ | cases e
theorem asStr_true {v : AV} {κ : Nat → Bool} (e : asStr v κ = true) : ∃ l, v = .str l ∧ κ l = true := by
  cases v <;> first | exact ⟨_, rfl, e⟩ | cases e
theorem asInt_true {v : AV} {κ : LI → Bool} (e : asInt v κ = true) : ∃ l, v = .int l ∧ κ l = true := by
  cases v <;> first | exact ⟨_, rfl, e⟩ | cases e
theorem asNat_true {v : AV} {κ : Nat → Bool} (e : asNat v κ = true) : ∃ k, v = .int (.mk (.ofNat k) []) ∧ κ k = true := by
  cases v with
  | int i =>
    obtain ⟨c, ks⟩ := i
    cases c <;> cases ks <;> first | exact ⟨_, rfl, e⟩ | cases e
  | _ => cases e
theorem atInst_true {o : AO} {κ : Nat → Nat → Bool} (e : atInst o κ = true) : ∃ C d, o = .inst C d ∧ κ C d = true := by
  cases o <;> first | exact ⟨_, _, rfl, e⟩ | cases e
theorem atDict_true {o : AO} {κ : List (AV × AV) → Bool} (e : atDict o κ = true) : ∃ es, o = .dict es ∧ κ es = true := by
  cases o <;> first | exact ⟨_, rfl, e⟩ | cases e
theorem atList_true {o : AO} {κ : List AV → Bool} (e : atList o κ = true) : ∃ es, o = .list es ∧ κ es = true := by
  cases o <;> first | exact ⟨_, rfl, e⟩ | cases e
theorem atTup_true {o : AO} {κ : List AV → Bool} (e : atTup o κ = true) : ∃ es, o = .tup es ∧ κ es = true := by
  cases o <;> first | exact ⟨_, rfl, e⟩ | cases e
theorem noneB_true {α : Type} {o : Option α} {b : Bool} (e : noneB o b = true) : o = none ∧ b = true := by
  cases o <;> first | exact ⟨rfl, e⟩ | cases e
theorem rec_true {b t : Bool} (e : (Bool.rec false t b : Bool) = true) : b = true ∧ t = true := by
  cases b <;> first | exact ⟨rfl, e⟩ | cases e
theorem rec_false {b t : Bool} (e : (Bool.rec t false b : Bool) = true) : b = false ∧ t = true := by
  cases b <;> first | exact ⟨rfl, e⟩ | cases e
theorem one_true {vs : List AV} {κ : AV → Bool} (e : one vs κ = true) : ∃ v, vs = [v] ∧ κ v = true := by
  cases vs with
  | nil => cases e
  | cons v r => cases r <;> first | exact ⟨_, rfl, e⟩ | cases e
theorem nil0_true {vs : List AV} {b : Bool} (e : nil0 vs b = true) : vs = [] ∧ b = true := by
  cases vs <;> first | exact ⟨rfl, e⟩ | cases e
theorem new_true {h : H} {o : AO} {κ : AV → H → Bool} (e : h.new o κ = true) : okSize o = true ∧ h.n < 4000 ∧ κ (.ref h.n) ⟨T.put 12 h.t h.n o, Nat.succ h.n, h.lock⟩ = true := by
  obtain ⟨t, n, lk⟩ := h
  obtain ⟨e1, e⟩ := rec_true e
  obtain ⟨e2, e⟩ := rec_true e
  refine ⟨e2, (blt_iff _ _).mp e1, ?_⟩
  cases lk <;> exact e
theorem memN_false {l : List Nat} {x : Nat} (e : memN l x = false) : x ∉ l := by
  induction l with
  | nil => simp
  | cons y r ih =>
    have e : ifB (Nat.beq y x) true (memN r x) = false := e
    rw [T.ifB_eq] at e
    by_cases h : y = x
    · rw [if_pos h] at e; cases e
    · rw [if_neg h] at e
      intro m
      rcases List.mem_cons.mp m with rfl | m
      · exact h rfl
      · exact ih e m
theorem set_true {h : H} {l : Nat} {o : AO} {κ : H → Bool} (e : h.set l o κ = true) : okSize o = true ∧ l ∉ h.lock ∧ κ ⟨T.put 12 h.t l o, h.n, h.lock⟩ = true := by
  obtain ⟨t, n, lk⟩ := h
  obtain ⟨e1, e⟩ := rec_true e
  refine ⟨e1, ?_⟩
  cases lk with
  | nil => exact ⟨by simp, e⟩
  | cons y ys =>
    obtain ⟨e2, e⟩ := rec_false e
    exact ⟨memN_false e2, e⟩

/-! ## making and turning -/
theorem get_size (h : Heap) : h.get? h.objs.size = none := by
  cases q : h.get? h.objs.size with
  | none => rfl
  | some o => exact absurd (Heap.lt_size q) (Nat.lt_irrefl _)
theorem Rel.low {G : Ctx} {ρ : List Addr} {σ : H} {h : Heap} (O : G.Ok) (R : Rel G ρ σ h) {a : Addr} (ha : h.objs.size ≤ a) : G.h₀.get? a = none ∧ 2 ≤ a := by
  constructor
  · cases q : G.h₀.get? a with
    | none => rfl
    | some o => exact absurd (Heap.lt_size (R.base _ _ q)) (Nat.not_lt.mpr ha)
  · obtain ⟨mc, hn, _⟩ := O.lim
    obtain ⟨o, es, ep, ho, _⟩ := hn
    have : 2 < h.objs.size := Heap.lt_size (R.base _ _ ho)
    exact Nat.le_trans (Nat.le_of_lt this) ha
theorem Rel.notModules {G : Ctx} {ρ : List Addr} {σ : H} {h : Heap} {l : Nat} {ao : AO} {a : Addr} (R : Rel G ρ σ h) (e : σ.t.get l = some ao) (m : mutA ao = true) (ha : ρ[l]? = some a) : (a == sysModules) = false := by
  obtain ⟨a', _, h1, _, _, _, h5⟩ := R.obj l ao e
  rw [ha] at h1; cases h1
  have := (h5 m).2
  rw [beq_eq_false_iff_ne]
  rintro rfl
  exact absurd this (by decide)
section
variable {G : Ctx} {ρ : List Addr} {σ : H} {s : Shared} {κ : AV → H → Bool} {Q : Value → Shared → Prop}
/-- a new object comes to hand -/
theorem Then.made (K : Then G (VRel G.ν) ρ σ s κ Q) (R : Rel G ρ σ s.heap) {ao : AO} (hk : σ.new ao κ = true) {a : Addr} {o : Obj} {h' : Heap} {tk : Nat} (ha : s.heap.get? a = none) (hlow : G.h₀.get? a = none ∧ 2 ≤ a)
    (kp : ∀ b o, s.heap.get? b = some o → h'.get? b = some o) (ho : h'.get? a = some o) (hr : ORel G ρ h' ao o) : Q (.ref a) { s with heap := h', toks := tk } := by
  obtain ⟨hz, h4, hk⟩ := new_true hk
  have na : a ∉ ρ := fun m => by obtain ⟨o, e⟩ := R.live a m; rw [ha] at e; cases e
  refine K (.ref σ.n) _ (ρ ++ [a]) (.ref a) h' tk hk rfl ((R.grow kp).adopt ho na hr hz (fun _ => hlow) h4) ⟨⟨[a], rfl, fun b hb => by rw [List.mem_singleton.mp hb]; exact ha⟩, fun b o e => ⟨o, kp b o e⟩, fun b o e _ _ => kp b o e⟩ ⟨a, ?_, rfl⟩
  rw [R.n]; simp
/-- the next object -/
theorem Then.push (K : Then G (VRel G.ν) ρ σ s κ Q) (O : G.Ok) (R : Rel G ρ σ s.heap) {ao : AO} (hk : σ.new ao κ = true) {o : Obj} {tk : Nat} (hf : o.isFreed = false) (hr : ORel G ρ (s.heap.push o) ao o) : Q (.ref s.heap.objs.size) { s with heap := s.heap.push o, toks := tk } :=
  K.made R hk (get_size _) (R.low O (Nat.le_refl _)) (fun b o' e => Heap.get?_push_of_some _ e) (Heap.get?_push_size _ hf) hr
end
/-- an object at hand has turned: the step -/
theorem Step.turned {G : Ctx} {ρ : List Addr} {σ : H} {h h' : Heap} {l : Nat} {a : Addr} {L : Addr → Prop} (R : Rel G ρ σ h) (ha : ρ[l]? = some a) (nl : l ∉ σ.lock) (hs : Heap.ExtBut a h h') (hal : ∃ o, h'.get? a = some o) : Step ρ σ.lock L h ρ h' := by
  refine ⟨⟨[], by simp, by simp⟩, fun b o e => ?_, fun b o e c _ => hs b o (fun z => ?_) e⟩
  · by_cases q : b = a
    · exact q ▸ hal
    · exact ⟨o, hs b o q e⟩
  subst z
  rcases c with c | ⟨l', hl', c⟩
  · exact c (List.mem_of_getElem? ha)
  · have i1 := (List.getElem?_eq_some_iff.mp c)
    have : l' = l := (List.getElem?_inj i1.1 R.inj).mp (c.trans ha.symm)
    exact nl (this ▸ hl')

/-! ## dicts -/
theorem isS_eq (v : AV) (x : Nat) : v.isS x = true ↔ v = .str x := by
  cases v with
  | str y => show Nat.beq y x = true ↔ _; rw [Nat.beq_eq]; constructor <;> intro h <;> first | rw [h] | (cases h; rfl)
  | _ => constructor <;> intro h <;> cases h
theorem findS_cons (p : AV × AV) (r : List (AV × AV)) (x : Nat) : findS (p :: r) x = if p.1.isS x = true then some p.2 else findS r x := by
  have e : findS (p :: r) x = ifB (p.1.isS x) (some p.2) (findS r x) := rfl
  rw [e]; cases p.1.isS x <;> rfl
theorem putS_cons (p : AV × AV) (r : List (AV × AV)) (x : Nat) (v : AV) : putS (p :: r) x v = if p.1.isS x = true then (p.1, v) :: r else p :: putS r x v := by
  have e : putS (p :: r) x v = ifB (p.1.isS x) ((p.1, v) :: r) (p :: putS r x v) := rfl
  rw [e]; cases p.1.isS x <;> rfl
theorem allS_cons (p : AV × AV) (r : List (AV × AV)) (h : allS (p :: r) = true) : (∃ x, p.1 = .str x) ∧ allS r = true := by
  obtain ⟨k, v⟩ := p
  cases k <;> first | exact ⟨⟨_, rfl⟩, h⟩ | cases h
theorem KeyRel.isStr {w : World} {k : AV} {e : DictEntry} (h : KeyRel w k e) (x : Nat) : e.key.isStr (strOf x) = k.isS x := by
  cases k with
  | str y =>
    obtain ⟨t, h1, _⟩ := h
    rw [h1]
    show (strOf y == strOf x) = Nat.beq y x
    by_cases q : y = x
    · subst q; rw [Nat.beq_refl]; simp
    · have e1 : (strOf y == strOf x) = false := by rw [beq_eq_false_iff_ne]; exact fun z => q (strOf_inj z)
      have e2 : Nat.beq y x = false := by
        cases e : Nat.beq y x with
        | false => rfl
        | true => exact absurd (Nat.eq_of_beq_eq_true e) q
      rw [e1, e2]
  | int i =>
    obtain ⟨c, ks⟩ := i
    cases ks with
    | nil => obtain ⟨t, h1, _⟩ := h; rw [h1]; rfl
    | cons => exact h.elim
  | _ => exact h.elim
theorem KeyRel.noRef {w : World} {k : AV} {e : DictEntry} (h : KeyRel w k e) : e.refKey = false := by
  cases k with
  | str y => obtain ⟨t, h1, _⟩ := h; simp [DictEntry.refKey, h1]
  | int i =>
    obtain ⟨c, ks⟩ := i
    cases ks with
    | nil => obtain ⟨t, h1, _⟩ := h; simp [DictEntry.refKey, h1]
    | cons => exact h.elim
  | _ => exact h.elim
section
variable {w : World} {ν : List Int} {ρ : List Addr} {es : List (AV × AV)} {des : List DictEntry}
theorem getL_some (h : All2 (EntRel w ν ρ) es des) {x : Nat} {av : AV} (e : findS es x = some av) : ∃ v, getL (strOf x) des = some (some v) ∧ VRel ν ρ av v := by
  have key : ∃ en, des.find? (·.key.isStr (strOf x)) = some en ∧ VRel ν ρ av en.val := by
    induction h with
    | nil => cases e
    | @cons p en as bs hp _ ih =>
      rw [findS_cons] at e
      rw [List.find?_cons, hp.1.isStr x]
      cases q : p.1.isS x with
      | true => rw [q] at e; simp at e; subst e; exact ⟨en, rfl, hp.2⟩
      | false => rw [q] at e; simp at e; obtain ⟨en', a, b⟩ := ih e; exact ⟨en', a, b⟩
  obtain ⟨en, a, b⟩ := key
  exact ⟨en.val, by unfold getL; rw [a], b⟩
theorem getL_none (h : All2 (EntRel w ν ρ) es des) {x : Nat} (e : findS es x = none) : getL (strOf x) des = some none := by
  have key : des.find? (·.key.isStr (strOf x)) = none ∧ des.any (·.refKey) = false := by
    induction h with
    | nil => exact ⟨rfl, rfl⟩
    | @cons p en as bs hp _ ih =>
      rw [findS_cons] at e
      rw [List.find?_cons, hp.1.isStr x, List.any_cons, hp.1.noRef]
      cases q : p.1.isS x with
      | true => rw [q] at e; simp at e
      | false => rw [q] at e; simp at e; obtain ⟨a, b⟩ := ih e; exact ⟨a, by simpa using b⟩
  unfold getL; rw [key.1, key.2]; rfl
theorem putL_rel (h : All2 (EntRel w ν ρ) es des) {x : Nat} {av : AV} {v : Value} {t : Tok} (hv : VRel ν ρ av v) : All2 (EntRel w ν ρ) (putS es x av) (putL (strOf x) (hashStr w (strOf x)) (.str (strOf x) t) v des) := by
  induction h with
  | nil => exact .cons ⟨⟨t, rfl, rfl⟩, hv⟩ .nil
  | @cons p en as bs hp _ ih =>
    rw [putS_cons]
    unfold putL
    rw [hp.1.isStr x]
    cases q : p.1.isS x with
    | true =>
      simp only [if_true]
      refine .cons ⟨?_, hv⟩ ‹_›
      have := hp.1
      cases k : p.1 with
      | str y => rw [k] at this; exact this
      | int i => rw [k] at this; obtain ⟨c, ks⟩ := i; cases ks <;> exact this
      | _ => rw [k] at this; exact this.elim
    | false => simp only [Bool.false_eq_true, if_false]; exact .cons hp ih
theorem putS_mem (es : List (AV × AV)) (x : Nat) (av : AV) {k : AV} (h : k ∈ (putS es x av).map Prod.fst) : k ∈ es.map Prod.fst ∨ k = .str x := by
  induction es with
  | nil => exact .inr (by simpa [putS] using h)
  | cons p r ih =>
    rw [putS_cons] at h
    by_cases q : p.1.isS x = true
    · rw [if_pos q] at h; exact .inl h
    · rw [if_neg q] at h
      rcases List.mem_cons.mp h with h | h
      · exact .inl (by rw [h]; exact .head _)
      · exact (ih h).imp (fun z => .tail _ z) id
theorem putS_nodup {es : List (AV × AV)} (x : Nat) (av : AV) (h : (es.map Prod.fst).Nodup) : ((putS es x av).map Prod.fst).Nodup := by
  induction es with
  | nil => simp [putS]
  | cons p r ih =>
    rw [List.map_cons, List.nodup_cons] at h
    rw [putS_cons]
    by_cases q : p.1.isS x = true
    · rw [if_pos q]; exact List.nodup_cons.mpr h
    · rw [if_neg q]
      refine List.nodup_cons.mpr ⟨fun m => ?_, ih h.2⟩
      rcases putS_mem r x av m with m | m
      · exact h.1 m
      · exact q ((isS_eq _ _).mpr m)
theorem putS_length (es : List (AV × AV)) (x : Nat) (av : AV) : (putS es x av).length ≤ es.length + 1 := by
  induction es with
  | nil => simp [putS]
  | cons p r ih =>
    rw [putS_cons]
    split <;> simp <;> omega
end
end Mine
end

section
open PySem PySem.W PyProof.Rows PySem.Calls Builtin Builtin.ObjectAttr
set_option maxRecDepth 100000
set_option maxHeartbeats 1000000
namespace Mine
theorem VRel.handed {ν : List Int} {ρ : List Addr} {a : AV} {v : Value} (h : VRel ν ρ a v) : handedIn v = true := by
  cases a with
  | none => have h : v = .none := h; subst h; rfl
  | bool b => have h : v = .bool b := h; subst h; rfl
  | int i => obtain ⟨t, rfl⟩ := h; rfl
  | str k => obtain ⟨t, rfl⟩ := h; rfl
  | byt => obtain ⟨b, t, rfl⟩ := h; rfl
  | ref l => obtain ⟨a, _, rfl⟩ := h; rfl
  | oth i => obtain ⟨j, t, rfl, _⟩ := h; rfl
section
variable {G : Ctx} {A : Around} {E : Value → Shared → Prop} {ρ : List Addr} {σ : H} {s : Shared}
/-- an object of a class at hand, and its dict -/
theorem inst_at (R : Rel G ρ σ s.heap) {l C d : Nat} {es : List (AV × AV)} (e1 : σ.t.get l = some (.inst C d)) (e2 : σ.t.get d = some (.dict es)) :
    ∃ x c dx des n, ρ[l]? = some x ∧ ρ[d]? = some dx ∧ G.cls C = some c ∧ InstAt s.heap x (instObj c dx) c (some (dictOf des n)) ∧ All2 (EntRel G.w G.ν ρ) es des ∧ (es.map Prod.fst).Nodup ∧ s.heap.get? dx = some (dictOf des n) ∧ okSize (.dict es) = true := by
  obtain ⟨x, o, h1, h2, ⟨c, dx, h3, h4, h5⟩, _⟩ := R.obj _ _ e1
  obtain ⟨dx', o', q1, q2, ⟨des, n, q3, q4, q5⟩, q6, _⟩ := R.obj _ _ e2
  rw [h4] at q1; cases q1
  subst h5 q3
  exact ⟨x, c, dx, des, n, h1, h4, h3, ⟨h2, rfl, rfl, q2⟩, q4, q5, q2, q6⟩
theorem getA_sound (O : G.Ok) (R : Rel G ρ σ s.heap) {o : AV} {v : Value} {a : Nat} {κ : AV → Bool} {expr : Bool} {Q : Value → Shared → Prop} (hv : VRel G.ν ρ o v) (ha : inN attrTab a = true) (hk : getA G.tx σ o a κ = true)
    (h : ∀ av v' tk, κ av = true → VRel G.ν ρ av v' → Q v' { s with toks := tk }) : wpAny G.M A (getAttr v (strOf a) expr) Q E s := by
  obtain ⟨l, rfl, hk⟩ := asRef_true hk
  obtain ⟨ob, e1, hk⟩ := at_true hk
  obtain ⟨C, d, rfl, hk⟩ := atInst_true hk
  obtain ⟨ms, e3, hk⟩ := onS_true hk
  obtain ⟨e4, hk⟩ := noneB_true hk
  obtain ⟨od, e2, hk⟩ := at_true hk
  obtain ⟨es, rfl, hk⟩ := atDict_true hk
  obtain ⟨av, e5, hk⟩ := onS_true hk
  obtain ⟨x, c, dx, des, n, h1, h2, h3, I, h4, h5, h6, h7⟩ := inst_at R e1 e2
  obtain ⟨x', q, rfl⟩ := hv
  rw [h1] at q; cases q
  have C := O.cls _ _ h3
  obtain ⟨v', g1, g2⟩ := getL_some h4 e5
  exact get_value (R.in_ O) I C.ga (findObj_own C.dict (C.none ms a e3 e4 ha) rfl g1) g2.handed (h av v' _ hk g2)

theorem dict_nc : Value.type "dict" ≠ Value.type "code" := by decide
theorem list_nc : Value.type "list" ≠ Value.type "code" := by decide
theorem putL_length (name : Str) (hsh : Int) (key v : Value) (es : List DictEntry) : (putL name hsh key v es).length ≤ es.length + 1 := by
  induction es with
  | nil => simp [putL]
  | cons e r ih => unfold putL; split <;> simp <;> omega
theorem hash_eq (w : World) (x : Str) : PyData.keyHash w.params x = hashStr w x := rfl
/-- the dict of such an object takes a value -/
theorem set_inst (O : G.Ok) (R : Rel G ρ σ s.heap) {x c dx : Addr} {des : List DictEntry} {n : Nat} {cc : Nat} {name : Str} {v : Value} {Q : Unit → Shared → Prop} (C : ClsOk G cc c) (I : InstAt s.heap x (instObj c dx) c (some (dictOf des n)))
    (hf : findIn G.K (.ref c) name = some none) (hl : (getL name des).isSome = true) (hz : des.length ≤ 100) (hD : s.heap.get? dx = some (dictOf des n))
    (h : ∀ h' t n', Heap.SameBut dx s.heap h' → h'.get? dx = some (dictOf (putL name (hashStr G.w name) (.str name t) v des) n') → Q () { s with heap := h', toks := s.toks + 2 }) :
    wpAny G.M A (setAttr (.ref x) name v) Q E s := by
  have X := R.in_ O
  refine set_plain X I C.sa (osa_open (s := { s with toks := s.toks + 1 }) X I C.over (r := none) (by unfold takerIn; rw [hf]; rfl) fun b => ?_)
  obtain ⟨cd, hc, hd'⟩ := any_some C.dict
  have hx := I.at_
  have body : wpAny G.M A.in1 (storeInDict dx (.str name s.toks) name v) (fun fin s' => match fin with | .done f => (match (Except.ok f : Result) with | .ok (.ret _) => Q () s' | .ok _ => False | .error e => E e s') | .again _ => False)
      (fun e s' => E e s') { s with toks := s.toks + 1 } := by
    unfold storeInDict
    refine wpAny_bind (wpAny_pure (wpAny_bind ?_))
    unfold nsSet strHash
    refine wpAny_bind (wpAny_bind (wpAny_askSetting (wpAny_pure (wpAny_bind (wpAny_mkText (wpAny_bind (wpAny_loadPart hD ?_)))))))
    have hr : aRefKeyMayBeTheName name des.toArray = false := by
      rw [aRefKeyMayBeTheName_at, ← Array.any_toList, ← Array.any_toList]
      unfold getL at hl
      cases q : des.find? (·.key.isStr name) with
      | some e => rw [show (des.toArray.toList.any fun e => e.key.isStr name) = true from List.any_eq_true.mpr ⟨e, List.mem_of_find?_eq_some q, by have := List.find?_some q; exact this⟩]; rfl
      | none =>
        rw [q] at hl
        cases q2 : des.any (·.refKey) with
        | true => rw [q2] at hl; cases hl
        | false => exact Bool.and_false _
    dsimp only
    rw [hr]
    have he := putName_dict name (hashStr G.w name) (.str name (s.toks + 1)) v des n
    have hup : (s.heap.update dx (Obj.putName name (hashStr G.w name) (.str name (s.toks + 1)) v)).get? dx = some (dictOf (putL name (hashStr G.w name) (.str name (s.toks + 1)) v des) (putN name des n)) := by
      have := Heap.get?_update_self (Obj.putName name (hashStr G.w name) (.str name (s.toks + 1)) v) hD (by rw [he]; rfl)
      rw [this, he]
    refine wpAny_updatePart hD ?_
    refine wpAny_bind (wpAny_lookBehind hup (pastItsLine_dict ?_) ?_)
    · rw [List.size_toArray, sizeLine_eq]
      have := putL_length name (hashStr G.w name) (.str name (s.toks + 1)) v des
      omega
    · exact wpAny_pure (h _ _ _ (Heap.SameBut.update ..) hup)
  unfold storeInOwnDict
  refine wpAny_bind (wpAny_pure ?_)
  show wpAny _ _ (do
    match ← instanceDict x true with
    | some d => storeInDict d (.str name s.toks) name v
    | none => noDictFor (.ref x) (.ref c) name b) _ _ _
  refine wpAny_bind ?_
  unfold instanceDict
  refine wpAny_bind (wpAny_loadPart hx ?_)
  show wpAny _ _ (do if !(← classData c).hasDict then return none else pure (some dx)) _ _ _
  refine wpAny_bind (looks_clsIn X hc _ _ _ _ (fun _ _ e => e) ?_)
  rw [hd']
  exact wpAny_pure (wpAny_mono body (fun fin s' z => by cases fin <;> first | exact z | exact z.elim) fun _ _ z => z)
/-- a field is stored -/
theorem setA_sound (O : G.Ok) (R : Rel G ρ σ s.heap) {o : AV} {ov v : Value} {av : AV} {a : Nat} {κ : H → Bool} {L : Addr → Prop} {Q : Unit → Shared → Prop} (hv : VRel G.ν ρ o ov) (hw : VRel G.ν ρ av v) (ha : inN attrTab a = true) (hk : setA G.tx σ o a av κ = true)
    (h : ∀ σ' h' tk, κ σ' = true → σ'.lock = σ.lock → Rel G ρ σ' h' → Step ρ σ.lock L s.heap ρ h' → Q () { s with heap := h', toks := tk }) : wpAny G.M A (setAttr ov (strOf a) v) Q E s := by
  obtain ⟨l, rfl, hk⟩ := asRef_true hk
  obtain ⟨ob, e1, hk⟩ := at_true hk
  obtain ⟨C, d, rfl, hk⟩ := atInst_true hk
  obtain ⟨ms, e3, hk⟩ := onS_true hk
  obtain ⟨e4, hk⟩ := noneB_true hk
  obtain ⟨od, e2, hk⟩ := at_true hk
  obtain ⟨es, rfl, hk⟩ := atDict_true hk
  obtain ⟨hz', nl, hk⟩ := set_true hk
  obtain ⟨x, c, dx, des, n, h1, h2, h3, I, h4, h5, h6, h7⟩ := inst_at R e1 e2
  obtain ⟨x', q, rfl⟩ := hv
  rw [h1] at q; cases q
  have C := O.cls _ _ h3
  have hl : (getL (strOf a) des).isSome = true := by
    cases q : findS es a with
    | none => rw [getL_none h4 q]; rfl
    | some w => obtain ⟨w', g1, _⟩ := getL_some h4 q; rw [g1]; rfl
  have hlen : des.length ≤ 100 := by
    rw [← h4.length]
    exact Nat.le_of_lt ((blt_iff _ _).mp h7)
  refine set_inst O R C I (C.none ms a e3 e4 ha) hl hlen h6 fun h' t n' hs ho' => ?_
  have R' := R.update (lk := σ.lock) e2 h2 rfl h6 dict_nc hs.extBut ho' (ao' := .dict (putS es a av)) ⟨_, _, rfl, putL_rel h4 hw, putS_nodup _ _ h5⟩ hz'
  exact h _ h' _ hk rfl R' (Step.turned R h2 nl hs.extBut ⟨_, ho'⟩)
end
end Mine
end

section
open PySem PySem.W PyProof.Rows PySem.Calls PySem.Spec
set_option maxRecDepth 100000
set_option maxHeartbeats 1000000
namespace Mine
theorem nth_eq (xs : List AV) (k : Nat) : nth xs k = xs[k]? := by
  induction xs generalizing k with
  | nil => rfl
  | cons x r ih =>
    have e : nth (x :: r) k = ifB (Nat.beq k 0) (some x) (nth r (k - 1)) := rfl
    rw [e, T.ifB_eq]
    cases k with
    | zero => rfl
    | succ k => rw [if_neg (by omega), ih]; simp
theorem seqIndex_nat {k n : Nat} (h : k < n) : seqIndex? (k : Int) n = some k := by
  unfold seqIndex?
  have h0 : ¬ (k : Int) < 0 := by omega
  simp only [h0, if_false]
  have c : (decide (0 ≤ (k : Int)) && decide ((k : Int) < (n : Int))) = true := by
    simp only [Bool.and_eq_true, decide_eq_true_eq]; omega
  rw [if_pos c]; rfl
theorem ifO_some {b : Bool} {o : Option Bool} {r : Bool} (h : ifO b o = some r) : b = true ∧ o = some r := by
  cases b <;> first | exact ⟨rfl, h⟩ | cases h
section
variable {G : Ctx} {A : Around} {E : Value → Shared → Prop} {ρ : List Addr} {σ : H} {s : Shared}
theorem tup_at (R : Rel G ρ σ s.heap) {l : Nat} {xs : List AV} (e : σ.t.get l = some (.tup xs)) : ∃ a vs, ρ[l]? = some a ∧ IsTup s.heap a (List.toArray vs) ∧ All2 (VRel G.ν ρ) xs vs ∧ xs.length < 100 := by
  obtain ⟨a, o, h1, h2, ⟨h3, vs, n, h4, h5⟩, h6, _⟩ := R.obj _ _ e
  exact ⟨a, vs, h1, ⟨o, h2, h3, n, h4⟩, h5, (blt_iff _ _).mp h6⟩
theorem list_at (R : Rel G ρ σ s.heap) {l : Nat} {xs : List AV} (e : σ.t.get l = some (.list xs)) : ∃ a vs n, ρ[l]? = some a ∧ s.heap.get? a = some (listOf (List.toArray vs) n) ∧ All2 (VRel G.ν ρ) xs vs ∧ xs.length < 100 := by
  obtain ⟨a, o, h1, h2, ⟨vs, n, h4, h5⟩, h6, _⟩ := R.obj _ _ e
  exact ⟨a, vs, n, h1, h4 ▸ h2, h5, (blt_iff _ _).mp h6⟩
theorem dict_at (R : Rel G ρ σ s.heap) {l : Nat} {es : List (AV × AV)} (e : σ.t.get l = some (.dict es)) :
    ∃ a des n, ρ[l]? = some a ∧ s.heap.get? a = some (dictOf des n) ∧ All2 (EntRel G.w G.ν ρ) es des ∧ (es.map Prod.fst).Nodup ∧ es.length < 100 := by
  obtain ⟨a, o, h1, h2, ⟨des, n, h4, h5, h7⟩, h6, _⟩ := R.obj _ _ e
  exact ⟨a, des, n, h1, h4 ▸ h2, h5, h7, (blt_iff _ _).mp h6⟩
theorem isList_of {h : Heap} {a : Addr} {vs : Array Value} {n : Nat} (e : h.get? a = some (listOf vs n)) : h.IsList a vs := ⟨_, e, rfl, n, rfl⟩
theorem keys_str {w : World} {ν : List Int} {es : List (AV × AV)} {des : List DictEntry} (h : All2 (EntRel w ν ρ) es des) (hs : allS es = true) {prog : Program} : KeysOf (strKind prog w) des.toArray := by
  have key : ∀ e ∈ des, ∃ k, (strKind prog w).is k e.key = true ∧ e.hash = (strKind prog w).hash k := by
    induction h with
    | nil => intro e he; cases he
    | @cons p en as bs hp _ ih =>
      obtain ⟨⟨x, hx⟩, hr⟩ := allS_cons p as hs
      intro e he
      rcases List.mem_cons.mp he with rfl | he
      · have k := hp.1
        rw [hx] at k
        obtain ⟨t, k1, k2⟩ := k
        exact ⟨strOf x, by rw [k1]; exact strKind_is prog w _ t, k2⟩
      · exact ih hr e he
  intro e he
  exact key e (by simpa using he)
theorem find_str {w : World} {ν : List Int} {es : List (AV × AV)} {des : List DictEntry} (h : All2 (EntRel w ν ρ) es des) (x : Nat) :
    match findS es x with
    | some av => ∃ v, findBy Value.isStrOf des.toArray (strOf x) = some v ∧ VRel ν ρ av v
    | none => findBy Value.isStrOf des.toArray (strOf x) = none := by
  have fb : findBy Value.isStrOf des.toArray (strOf x) = (des.find? (·.key.isStr (strOf x))).map (·.val) := by
    unfold findBy
    rw [List.find?_toArray]
    congr 2
    funext e
    exact (isStr_of _ _).symm
  cases q : findS es x with
  | some av =>
    obtain ⟨v, h1, h2⟩ := getL_some h q
    refine ⟨v, ?_, h2⟩
    rw [fb]
    unfold getL at h1
    cases q2 : des.find? (·.key.isStr (strOf x)) with
    | some e => rw [q2] at h1; cases h1; rfl
    | none =>
      rw [q2] at h1
      by_cases z : (des.any fun x => x.refKey) = true
      · rw [if_pos z] at h1; cases h1
      · rw [if_neg z] at h1; cases h1
  | none =>
    have h1 := getL_none h q
    show findBy Value.isStrOf des.toArray (strOf x) = none
    rw [fb]
    unfold getL at h1
    cases q2 : des.find? (·.key.isStr (strOf x)) with
    | some e => rw [q2] at h1; cases h1
    | none => rfl
theorem mapOf_str {w : World} {ν : List Int} {es : List (AV × AV)} {des : List DictEntry} {h : Heap} {a : Addr} {n : Nat} {prog : Program} (ha : h.get? a = some (dictOf des n)) (hr : All2 (EntRel w ν ρ) es des) (hs : allS es = true) :
    h.MapOf (strKind prog w) a (fun k => findBy Value.isStrOf des.toArray k) := ⟨_, _, _, ha, ⟨rfl, rfl, rfl⟩, rfl, keys_str hr hs, fun _ => rfl⟩

/-- an item is read -/
theorem item_sound (O : G.Ok) (R : Rel G ρ σ s.heap) {o i : AV} {ov iv : Value} {κ : AV → Bool} {value slice : Expr} {Q : Value → Shared → Prop} (ho : VRel G.ν ρ o ov) (hi : VRel G.ν ρ i iv) (hk : getItem G.tx.menus σ o i κ = true)
    (hs : ∀ o i, subscripted slice false o i = operate [o, i] (PySem.getItem o i)) (h : ∀ av v tk, κ av = true → VRel G.ν ρ av v → Q v { s with toks := tk }) : wpAny G.M A (subscriptTail value slice ov iv) Q E s := by
  obtain ⟨l, rfl, hk⟩ := asRef_true hk
  obtain ⟨ob, e1, hk⟩ := at_true hk
  obtain ⟨a, ha, rfl⟩ := ho
  cases ob with
  | tup xs =>
    obtain ⟨k, rfl, hk⟩ := asNat_true hk
    obtain ⟨av, e2, hk⟩ := onS_true hk
    obtain ⟨a', vs, h1, h2, h3, h4⟩ := tup_at R e1
    rw [ha] at h1; cases h1
    obtain ⟨t, rfl⟩ := hi
    rw [nth_eq] at e2
    obtain ⟨v, g1, g2⟩ := h3.get e2
    have lk : k < vs.length := (List.getElem?_eq_some_iff.mp g1).1
    have l1 := h3.length
    rw [LI.val_const]
    exact item_tupleT (k := (k : Int)) h2 (by omega) (by omega) (j := k) (seqIndex_nat lk) g1 (h av v s.toks hk g2) (hs _ _)
  | list xs =>
    obtain ⟨li, rfl, hk⟩ := asInt_true hk
    obtain ⟨a', vs, n, h1, h2, h3, h4⟩ := list_at R e1
    rw [ha] at h1; cases h1
    obtain ⟨t, rfl⟩ := hi
    have l1 := h3.length
    have main : ∃ k : Nat, ∃ av v, li.val G.ν = k ∧ vs[k]? = some v ∧ VRel G.ν ρ av v ∧ κ av = true := by
      have menu : onS (menuOf G.tx.menus xs li) κ = true → ∃ k : Nat, ∃ av v, li.val G.ν = k ∧ vs[k]? = some v ∧ VRel G.ν ρ av v ∧ κ av = true := fun hk => by
        obtain ⟨av, e2, hk⟩ := onS_true hk
        obtain ⟨k, m1, x, m2, m3⟩ := O.menus _ _ _ e2
        obtain ⟨v, g1, g2⟩ := h3.get m2
        exact ⟨k, av, v, m1, g1, m3 _ _ g2, hk⟩
      obtain ⟨c, ks⟩ := li
      cases c with
      | ofNat k =>
        cases ks with
        | nil =>
          obtain ⟨av, e2, hk⟩ := onS_true hk
          rw [nth_eq] at e2
          obtain ⟨v, g1, g2⟩ := h3.get e2
          exact ⟨k, av, v, LI.val_const _ _, g1, g2, hk⟩
        | cons => exact menu hk
      | negSucc k => exact menu hk
    obtain ⟨k, av, v, m1, g1, g2, hk⟩ := main
    have lk : k < vs.length := (List.getElem?_eq_some_iff.mp g1).1
    rw [m1]
    exact tail_any (isList_of h2).typeIs slot_list_getitem.lookup (wpAny_getItem_list (isList_of h2) (by omega) (by omega) (by simpa using g1) (h av v s.toks hk g2)) (hs _ _)
  | dict es =>
    obtain ⟨e3, hk⟩ := rec_true hk
    obtain ⟨x, rfl, hk⟩ := asStr_true hk
    obtain ⟨av, e2, hk⟩ := onS_true hk
    obtain ⟨a', des, n, h1, h2, h3, h4, h5⟩ := dict_at R e1
    rw [ha] at h1; cases h1
    obtain ⟨t, rfl⟩ := hi
    have hm := mapOf_str (prog := G.prog) h2 h3 e3
    have f := find_str h3 x
    rw [e2] at f
    obtain ⟨v, f1, f2⟩ := f
    exact tail_any hm.typeIs slot_dict_getitem.lookup (wpAny_getItem_of (strKind_is G.prog G.w _ t) hm f1 (h av v _ hk f2)) (hs _ _)
  | _ => cases hk
end
end Mine
end

section
open PySem PySem.W PyProof.Rows PySem.Calls PySem.Spec
set_option maxRecDepth 100000
set_option maxHeartbeats 1000000
namespace Mine
/-! ## a dict's store -/
section
variable {prog : Program} {w : World} {K : Type} [DecidableEq K] {knd : KeyKind prog w K} {ν : List Int} {ρ : List Addr} {kr : AV → K → Prop}
noncomputable abbrev KV (ν : List Int) (ρ : List Addr) (kr : AV → K → Prop) (p : AV × AV) (kv : K × Value) : Prop := kr p.1 kv.1 ∧ VRel ν ρ p.2 kv.2
theorem toKvs {es : List (AV × AV)} {des : List DictEntry} (h : All2 (EntRel w ν ρ) es des) (hk : ∀ p ∈ es, ∃ kk, kr p.1 kk ∧ ∀ e : DictEntry, KeyRel w p.1 e → knd.is kk e.key = true ∧ e.hash = knd.hash kk) :
    ∃ kvs, Pairs knd des kvs ∧ All2 (KV ν ρ kr) es kvs ∧ ∀ e ∈ des, ∃ k, knd.is k e.key = true ∧ e.hash = knd.hash k := by
  induction h with
  | nil => exact ⟨[], .nil, .nil, by simp⟩
  | @cons p e es des hp _ ih =>
    obtain ⟨kvs, a, b, c⟩ := ih fun q hq => hk q (.tail _ hq)
    obtain ⟨kk, h1, h2⟩ := hk p (.head _)
    obtain ⟨h3, h4⟩ := h2 e hp.1
    refine ⟨(kk, e.val) :: kvs, .cons h3 rfl a, .cons ⟨h1, hp.2⟩ b, fun e' he => ?_⟩
    rcases List.mem_cons.mp he with rfl | he
    · exact ⟨kk, h3, h4⟩
    · exact c e' he
theorem ofKvs {es : List (AV × AV)} {des : List DictEntry} {kvs : List (K × Value)} (h1 : Pairs knd des kvs) (h2 : All2 (KV ν ρ kr) es kvs) (h3 : ∀ e ∈ des, ∃ k, knd.is k e.key = true ∧ e.hash = knd.hash k)
    (back : ∀ k kk (e : DictEntry), kr k kk → knd.is kk e.key = true → e.hash = knd.hash kk → KeyRel w k e) : All2 (EntRel w ν ρ) es des := by
  induction h1 generalizing es with
  | nil => cases h2; exact .nil
  | @cons e kv des kvs i1 i2 _ ih =>
    cases h2 with
    | @cons p _ es _ j1 j2 =>
      obtain ⟨k, q1, q2⟩ := h3 e (.head _)
      have : k = kv.1 := knd.inj _ _ _ q1 i1
      subst this
      exact .cons ⟨back _ _ _ j1.1 i1 q2, i2 ▸ j1.2⟩ (ih j2 fun e' he => h3 e' (.tail _ he))
omit [DecidableEq K] in
theorem kvs_nodup (inj : ∀ k k' kk, kr k kk → kr k' kk → k = k') {es : List (AV × AV)} {kvs : List (K × Value)} (h : All2 (KV ν ρ kr) es kvs) (hn : (es.map Prod.fst).Nodup) : (kvs.map (·.1)).Nodup := by
  have mem : ∀ {es : List (AV × AV)} {kvs : List (K × Value)}, All2 (KV ν ρ kr) es kvs → ∀ kk ∈ kvs.map (·.1), ∃ k ∈ es.map Prod.fst, kr k kk := by
    intro es kvs h
    induction h with
    | nil => intro kk hk; simp at hk
    | @cons p kv es kvs hp _ ih =>
      intro kk hk
      rcases List.mem_cons.mp hk with rfl | hk
      · exact ⟨p.1, .head _, hp.1⟩
      · obtain ⟨k, a, b⟩ := ih kk hk; exact ⟨k, .tail _ a, b⟩
  induction h with
  | nil => simp
  | @cons p kv es kvs hp ht ih =>
    rw [List.map_cons, List.nodup_cons] at hn ⊢
    refine ⟨fun m => ?_, ih hn.2⟩
    obtain ⟨k, a, b⟩ := mem ht _ m
    exact hn.1 (inj _ _ _ b hp.1 ▸ a)
end
noncomputable def krS (k : AV) (s : Str) : Prop := ∃ x, k = .str x ∧ s = strOf x
noncomputable def krI (k : AV) (i : Int) : Prop := k = .int (.mk i [])
theorem krS_inj (k k' : AV) (s : Str) (h : krS k s) (h' : krS k' s) : k = k' := by
  obtain ⟨x, rfl, rfl⟩ := h; obtain ⟨y, rfl, e⟩ := h'; rw [strOf_inj e]
theorem krI_inj (k k' : AV) (s : Int) (h : krI k s) (h' : krI k' s) : k = k' := by rw [show k = _ from h, show k' = _ from h']
theorem krS_back {prog : Program} {w : World} (k : AV) (kk : Str) (e : DictEntry) (h : krS k kk) (h1 : (strKind prog w).is kk e.key = true) (h2 : e.hash = (strKind prog w).hash kk) : KeyRel w k e := by
  obtain ⟨x, rfl, rfl⟩ := h
  obtain ⟨t, ht⟩ := Value.isStrOf_shape h1
  exact ⟨t, ht, h2⟩
theorem krI_back {prog : Program} {w : World} (k : AV) (kk : Int) (e : DictEntry) (h : krI k kk) (h1 : (intKind prog w).is kk e.key = true) (h2 : e.hash = (intKind prog w).hash kk) : KeyRel w k e := by
  have h : k = _ := h
  subst h
  obtain ⟨t, ht⟩ := Value.isInt_shape h1
  exact ⟨t, ht, h2⟩
theorem allS_all {es : List (AV × AV)} (h : allS es = true) : ∀ p ∈ es, ∃ x, p.1 = .str x := by
  induction es with
  | nil => simp
  | cons p r ih =>
    obtain ⟨a, b⟩ := allS_cons p r h
    intro q hq
    rcases List.mem_cons.mp hq with rfl | hq
    · exact a
    · exact ih b q hq
theorem freshI_all {es : List (AV × AV)} {j : Int} (h : freshI es j = true) : ∀ p ∈ es, ∃ i, p.1 = .int (.mk i []) ∧ i ≠ j := by
  induction es with
  | nil => simp
  | cons p r ih =>
    unfold freshI at h
    have key : (∃ i, p.1 = .int (.mk i []) ∧ i ≠ j) ∧ freshI r j = true := by
      cases q : p.1 with
      | int li =>
        obtain ⟨c, ks⟩ := li
        cases ks with
        | nil =>
          rw [q] at h
          cases q2 : intEq j c with
          | true => simp only [q2] at h; cases h
          | false =>
            simp only [q2] at h
            exact ⟨⟨c, rfl, fun e => by rw [e, (intEq_iff _ _).mpr rfl] at q2; cases q2⟩, h⟩
        | cons => rw [q] at h; cases h
      | _ => rw [q] at h; cases h
    intro q hq
    rcases List.mem_cons.mp hq with rfl | hq
    · exact key.1
    · exact ih key.2 q hq
theorem stored_cons_ne {K : Type} [DecidableEq K] {kv : K × Value} {kvs : List (K × Value)} {k : K} {v : Value} (h : kv.1 ≠ k) : stored (kv :: kvs) k v = kv :: stored kvs k v := by
  unfold stored
  rw [List.any_cons, decide_eq_false h, Bool.false_or]
  split
  · rw [List.map_cons, if_neg h]
  · rfl
theorem stored_cons_eq {K : Type} [DecidableEq K] {kv : K × Value} {kvs : List (K × Value)} {k : K} {v : Value} (h : kv.1 = k) (hn : k ∉ kvs.map (·.1)) : stored (kv :: kvs) k v = (kv.1, v) :: kvs := by
  unfold stored
  rw [List.any_cons, decide_eq_true h, Bool.true_or, if_pos rfl, List.map_cons, if_pos h, map_store_of_not_mem kvs k v hn]
theorem stored_new {K : Type} [DecidableEq K] {kvs : List (K × Value)} {k : K} {v : Value} (hn : ∀ kv ∈ kvs, kv.1 ≠ k) : stored kvs k v = kvs ++ [(k, v)] := by
  unfold stored
  rw [if_neg]
  intro h
  obtain ⟨kv, a, b⟩ := List.any_eq_true.mp h
  exact hn kv a (of_decide_eq_true b)
theorem putS_kvs {ν : List Int} {ρ : List Addr} {es : List (AV × AV)} {kvs : List (Str × Value)} (h : All2 (KV ν ρ krS) es kvs) (hn : (kvs.map (·.1)).Nodup) {x : Nat} {av : AV} {v : Value} (hv : VRel ν ρ av v) :
    All2 (KV ν ρ krS) (putS es x av) (stored kvs (strOf x) v) := by
  induction h with
  | nil => exact .cons ⟨⟨x, rfl, rfl⟩, hv⟩ .nil
  | @cons p kv es kvs hp ht ih =>
    rw [List.map_cons, List.nodup_cons] at hn
    obtain ⟨y, h1, h2⟩ := hp.1
    rw [putS_cons]
    by_cases q : y = x
    · subst q
      rw [if_pos ((isS_eq _ _).mpr h1), stored_cons_eq h2 (h2 ▸ hn.1)]
      exact .cons ⟨⟨y, h1, h2⟩, hv⟩ ht
    · rw [if_neg (fun z => q (by rw [(isS_eq _ _).mp z] at h1; cases h1; rfl)), stored_cons_ne (by rw [h2]; exact fun z => q (strOf_inj z))]
      exact .cons hp (ih hn.2)

section
variable {G : Ctx} {A : Around} {E : Value → Shared → Prop} {ρ : List Addr} {σ : H} {s : Shared}
theorem setI_sound (O : G.Ok) (R : Rel G ρ σ s.heap) {o i av : AV} {ov iv v : Value} {κ : H → Bool} {L : Addr → Prop} {Q : Unit → Shared → Prop} (ho : VRel G.ν ρ o ov) (hi : VRel G.ν ρ i iv) (hv : VRel G.ν ρ av v) (hk : setI σ o i av κ = true)
    (h : ∀ σ' h' tk, κ σ' = true → σ'.lock = σ.lock → Rel G ρ σ' h' → Step ρ σ.lock L s.heap ρ h' → Q () { s with heap := h', toks := tk }) : wpAny G.M A (setItem ov iv v) Q E s := by
  obtain ⟨l, rfl, hk⟩ := asRef_true hk
  obtain ⟨ob, e1, hk⟩ := at_true hk
  obtain ⟨es, rfl, hk⟩ := atDict_true hk
  obtain ⟨a, ha, rfl⟩ := ho
  obtain ⟨a', des, n, h1, h2, h3, h4, h5⟩ := dict_at R e1
  rw [ha] at h1; cases h1
  have l1 := h3.length
  have fin : ∀ (es' : List (AV × AV)) (h' : Heap) (o' : Obj) (ds : Array DictEntry) (ep : Nat), σ.set l (.dict es') κ = true → Heap.SameBut a s.heap h' → h'.get? a = some o' → o'.ExactDict → o'.data = .dict ds ep → All2 (EntRel G.w G.ν ρ) es' ds.toList →
      (es'.map Prod.fst).Nodup → Q () { s with heap := h', toks := s.toks + 1 } := fun es' h' o' ds ep hk hs q1 q2 q3 q4 q5 => by
    obtain ⟨hz, nl, hk⟩ := set_true hk
    obtain ⟨oc, od, oda, osl⟩ := o'
    obtain ⟨b1, b2, b3⟩ := q2
    have b1 : oc = _ := b1
    have b2 : od = _ := b2
    have b3 : osl = _ := b3
    have q3 : oda = _ := q3
    subst b1 b2 b3 q3
    obtain ⟨dl⟩ := ds
    exact h _ h' _ hk rfl (R.update (lk := σ.lock) e1 ha rfl h2 dict_nc hs.extBut q1 (ao' := .dict _) ⟨dl, ep, rfl, q4, q5⟩ hz) (Step.turned R ha nl hs.extBut ⟨_, q1⟩)
  have str : ∀ x, i = .str x → (Bool.rec false (σ.set l (.dict (putS es x av)) κ) (allS es) : Bool) = true → wpAny G.M A (setItem (.ref a) iv v) Q E s := fun x hx hk => by
    subst hx
    obtain ⟨e3, hk⟩ := rec_true hk
    obtain ⟨t, rfl⟩ := hi
    obtain ⟨kvs, p1, p2, p3⟩ := toKvs (prog := G.prog) (knd := strKind G.prog G.w) (kr := krS) h3 fun p hp => by
      obtain ⟨x, hx⟩ := allS_all e3 p hp
      refine ⟨strOf x, ⟨x, hx, rfl⟩, fun e he => ?_⟩
      rw [hx] at he
      obtain ⟨t, k1, k2⟩ := he
      exact ⟨by rw [k1]; exact strKind_is G.prog G.w _ t, k2⟩
    have nd := kvs_nodup krS_inj p2 h4
    refine wpAny_setItem_pairs (knd := strKind G.prog G.w) (kvs := kvs) (strKind_is G.prog G.w _ t) ⟨_, _, _, h2, ⟨rfl, rfl, rfl⟩, rfl, fun e he => p3 e (by simpa using he), p1, nd⟩ (fun h' hd hs => ?_) (by
      have := p2.length; rw [sizeLine_eq]; omega)
    obtain ⟨o', ds, ep, q1, q2, q3, q4, q5, q6⟩ := hd
    exact fin _ _ _ _ _ hk hs q1 q2 q3 (ofKvs q5 (putS_kvs p2 nd hv) (fun e he => q4 e (Array.mem_toList_iff.mp he)) (krS_back (prog := G.prog))) (putS_nodup _ _ h4)
  have int : isNew es i = true → σ.set l (.dict (List.append es [(i, av)])) κ = true → wpAny G.M A (setItem (.ref a) iv v) Q E s := fun hn hk => by
    cases i with
    | int li =>
      obtain ⟨j, ks⟩ := li
      cases ks with
      | cons => cases hn
      | nil =>
        have hn : freshI es j = true := hn
        have fa := freshI_all hn
        obtain ⟨t, rfl⟩ := hi
        rw [LI.val_const]
        obtain ⟨kvs, p1, p2, p3⟩ := toKvs (prog := G.prog) (knd := intKind G.prog G.w) (kr := krI) h3 fun p hp => by
          obtain ⟨x, hx, _⟩ := fa p hp
          refine ⟨x, hx, fun e he => ?_⟩
          rw [hx] at he
          obtain ⟨t, k1, k2⟩ := he
          exact ⟨by rw [k1]; exact intKind_is G.prog G.w _ t, k2⟩
        have nd := kvs_nodup krI_inj p2 h4
        have ne : ∀ kv ∈ kvs, kv.1 ≠ j := by
          have : ∀ {es : List (AV × AV)} {kvs : List (Int × Value)}, All2 (KV G.ν ρ krI) es kvs → (∀ p ∈ es, ∃ i, p.1 = .int (.mk i []) ∧ i ≠ j) → ∀ kv ∈ kvs, kv.1 ≠ j := by
            intro es kvs h
            induction h with
            | nil => intro _ kv hkv; cases hkv
            | @cons p kv es kvs hp _ ih =>
              intro hall kv' hkv
              rcases List.mem_cons.mp hkv with rfl | hkv
              · obtain ⟨i, q1, q2⟩ := hall p (.head _)
                have hp1 : p.1 = .int (.mk kv'.1 []) := hp.1
                rw [hp1] at q1; cases q1; exact q2
              · exact ih (fun p hp => hall p (.tail _ hp)) kv' hkv
          exact this p2 fa
        refine wpAny_setItem_pairs (knd := intKind G.prog G.w) (kvs := kvs) (intKind_is G.prog G.w _ t) ⟨_, _, _, h2, ⟨rfl, rfl, rfl⟩, rfl, fun e he => p3 e (by simpa using he), p1, nd⟩ (fun h' hd hs => ?_) (by
          have := p2.length; rw [sizeLine_eq]; omega)
        obtain ⟨o', ds, ep, q1, q2, q3, q4, q5, q6⟩ := hd
        rw [stored_new ne] at q5
        refine fin _ _ _ _ _ hk hs q1 q2 q3 (ofKvs q5 (p2.append (.cons ⟨rfl, hv⟩ .nil)) (fun e he => q4 e (Array.mem_toList_iff.mp he)) (krI_back (prog := G.prog))) ?_
        show ((es ++ [(AV.int (.mk j []), av)]).map Prod.fst).Nodup
        rw [List.map_append, List.nodup_append]
        refine ⟨h4, by simp, fun a ha b hb => ?_⟩
        simp at hb
        subst hb
        rintro rfl
        obtain ⟨p, hp, hpe⟩ := List.mem_map.mp ha
        obtain ⟨i, z1, z2⟩ := fa p hp
        rw [hpe] at z1; cases z1; exact z2 rfl
    | _ => cases hn
  have int' : (match isNew es i with | true => σ.set l (.dict (List.append es [(i, av)])) κ | false => false) = true → wpAny G.M A (setItem (.ref a) iv v) Q E s := fun hk => by
    cases q : isNew es i with
    | true => rw [q] at hk; exact int q hk
    | false => rw [q] at hk; cases hk
  cases i with
  | str x => exact str x rfl hk
  | _ => exact int' hk
end
end Mine
end

section
open PySem PySem.W PyProof.Rows PySem.Calls PySem.Spec
set_option maxRecDepth 100000
set_option maxHeartbeats 1000000
namespace Mine
/-! ## comparisons -/
noncomputable def dat (ν : List Int) : AV → PyData
  | .bool b => .bool b
  | .int i => .int (i.val ν)
  | .str k => .str (strOf k)
  | _ => .none
theorem flat_reads {ν : List Int} {ρ : List Addr} {h : Heap} {a : AV} {v : Value} (f : flatOk a = true) (r : VRel ν ρ a v) : Reads h v (dat ν a) [] := by
  cases a with
  | none => have r : v = _ := r; subst r; exact .none
  | bool b => have r : v = _ := r; subst r; exact .bool b
  | int i => obtain ⟨t, rfl⟩ := r; exact .int _ t
  | str k => obtain ⟨t, rfl⟩ := r; exact .str _ t
  | _ => cases f
theorem dat_lay (ν : List Int) (a : AV) : PyData.canLay0 (dat ν a) = true := by
  cases a <;> first | rfl | (show PyData.canLay0 (.str _) = true; simp only [PyData.canLay0]; exact strOf_ok _) | (simp [dat, PyData.canLay0])
theorem dat_depth (ν : List Int) (a : AV) : PyData.depth (dat ν a) = 0 := by cases a <;> simp [dat, PyData.depth]
theorem dats_lay (ν : List Int) (xs : List AV) : PyData.canLayAll0 (xs.map (dat ν)) = true := by
  induction xs with
  | nil => simp [PyData.canLayAll0]
  | cons x r ih => simp [PyData.canLayAll0, dat_lay, ih]
theorem dats_depth (ν : List Int) (xs : List AV) : PyData.depthAll (xs.map (dat ν)) = 0 := by
  induction xs with
  | nil => simp [PyData.depthAll]
  | cons x r ih => simp [PyData.depthAll, dat_depth, ih]
theorem shaped_dat (ν : List Int) (a : AV) : SeqAt.shaped (dat ν a) = true := by simp [SeqAt.shaped, dat_lay, dat_depth]
theorem shaped_tup (ν : List Int) (xs : List AV) : SeqAt.shaped (.tuple (xs.map (dat ν))) = true := by simp [SeqAt.shaped, PyData.canLay0, PyData.depth, dats_lay, dats_depth]
theorem allFlat_cons {x : AV} {r : List AV} (h : allFlat (x :: r) = true) : flatOk x = true ∧ allFlat r = true := rec_true h
theorem flats_read {ν : List Int} {ρ : List Addr} {h : Heap} {xs : List AV} {vs : List Value} (f : allFlat xs = true) (r : All2 (VRel ν ρ) xs vs) : ReadsAll h vs (xs.map (dat ν)) [] := by
  induction r with
  | nil => exact .nil
  | cons a _ ih => obtain ⟨f1, f2⟩ := allFlat_cons f; exact .cons (flat_reads f1 a) (ih f2)
theorem eqFlat_sound {bs : List (Int × Int)} {ν : List Int} (hb : InB bs ν) {a b : AV} {r : Bool} (ha : flatOk a = true) (hb' : flatOk b = true) (h : a.eqFlat bs b = some r) : PyData.eqv (dat ν a) (dat ν b) = r := by
  cases a <;> cases b <;> (try cases ha) <;> (try cases hb') <;> (try cases h) <;> simp only [dat, PyData.eqv]
  · rename_i a b; cases a <;> cases b <;> rfl
  · rename_i a b
    have := LI.eq_sound hb h
    rw [this]; rfl
  · rename_i a b
    by_cases q : a = b
    · subst q; rw [Nat.beq_refl]; simp
    · have e1 : (strOf a == strOf b) = false := by rw [beq_eq_false_iff_ne]; exact fun z => q (strOf_inj z)
      have e2 : Nat.beq a b = false := by
        cases e : Nat.beq a b with
        | false => rfl
        | true => exact absurd (Nat.eq_of_beq_eq_true e) q
      rw [e1, e2]
theorem eqAll_sound {bs : List (Int × Int)} {ν : List Int} (hb : InB bs ν) : ∀ {xs ys : List AV} {r : Bool}, allFlat xs = true → allFlat ys = true → eqAll bs xs ys = some r → PyData.eqvAll (xs.map (dat ν)) (ys.map (dat ν)) = r
  | [], [], r, _, _, h => by cases h; simp [PyData.eqvAll]
  | [], _ :: _, r, _, _, h => by cases h
  | _ :: _, [], r, _, _, h => by cases h
  | a :: xs, b :: ys, r, ha, hb', h => by
    obtain ⟨f1, f2⟩ := allFlat_cons ha
    obtain ⟨g1, g2⟩ := allFlat_cons hb'
    unfold eqAll at h
    simp only [List.map_cons, PyData.eqvAll]
    cases q : a.eqFlat bs b with
    | none => rw [q] at h; cases h
    | some t =>
      rw [q] at h
      rw [eqFlat_sound hb f1 g1 q]
      cases t with
      | false => cases h; rfl
      | true => rw [eqAll_sound hb f2 g2 h]; rfl
section
variable {G : Ctx} {A : Around} {E : Value → Shared → Prop} {ρ : List Addr} {σ : H} {h : Heap}
theorem flatTup_at (R : Rel G ρ σ h) {a : AV} {v : Value} (f : isFlatTup σ a = true) (r : VRel G.ν ρ a v) : ∃ xs, Reads h v (.tuple (List.map (dat G.ν) xs)) [] := by
  unfold isFlatTup asRefB at f
  cases a with
  | ref l =>
    dsimp only at f
    cases q : σ.t.get l with
    | none => rw [q] at f; cases f
    | some ob =>
      rw [q] at f
      cases ob with
      | tup xs =>
        have f : allFlat xs = true := f
        obtain ⟨a, o, h1, h2, ⟨h3, vs, n, h4, h5⟩, h6, _⟩ := R.obj _ _ q
        obtain ⟨a', q1, rfl⟩ := r
        rw [h1] at q1; cases q1
        exact ⟨xs, .tuple h2 h3 h4 (flats_read f h5)⟩
      | _ => cases f
  | _ => cases f
theorem flatTups_at (R : Rel G ρ σ h) {xs : List AV} {vs : List Value} (r : All2 (VRel G.ν ρ) xs vs) : allFlatTup σ xs = true → ∃ ds, ReadsAll h vs ds [] ∧ ds.length = xs.length ∧ PyData.canLayAll0 ds = true ∧ PyData.depthAll ds ≤ 1 := by
  induction r with
  | nil => exact fun _ => ⟨[], .nil, rfl, by simp [PyData.canLayAll0], by simp [PyData.depthAll]⟩
  | @cons x v xs vs hr _ ih =>
    intro f
    obtain ⟨f1, f2⟩ : isFlatTup σ x = true ∧ allFlatTup σ xs = true := rec_true f
    obtain ⟨ds, q1, q2, q3, q4⟩ := ih f2
    obtain ⟨ys, q5⟩ := flatTup_at R f1 hr
    refine ⟨_ :: ds, .cons q5 q1, by simp [q2], by simp [PyData.canLayAll0, PyData.canLay0, dats_lay, q3], ?_⟩
    simp only [PyData.depthAll, PyData.depth, dats_depth]
    omega
/-- what two values' == says -/
theorem eqV_sound (O : G.Ok) (R : Rel G ρ σ h) {a b : AV} {va vb : Value} {r : Bool} (ha : VRel G.ν ρ a va) (hb : VRel G.ν ρ b vb) (hk : a.eqV G.tx.bs σ b = some r) :
    ∃ da db as bs, Reads h va da as ∧ Reads h vb db bs ∧ SeqAt.shaped da = true ∧ SeqAt.shaped db = true ∧ PyData.eqv da db = r := by
  have flat : flatOk a = true → flatOk b = true → a.eqFlat G.tx.bs b = some r → ∃ da db as bs, Reads h va da as ∧ Reads h vb db bs ∧ SeqAt.shaped da = true ∧ SeqAt.shaped db = true ∧ PyData.eqv da db = r :=
    fun f1 f2 h => ⟨_, _, _, _, flat_reads f1 ha, flat_reads f2 hb, shaped_dat _ _, shaped_dat _ _, eqFlat_sound O.bnd f1 f2 h⟩
  have oth : ∀ i j, a = .oth i → b = .int (.mk j []) → intEq i j = true → r = false → ∃ da db as bs, Reads h va da as ∧ Reads h vb db bs ∧ SeqAt.shaped da = true ∧ SeqAt.shaped db = true ∧ PyData.eqv da db = r := fun i j e1 e2 e3 e4 => by
    subst e1 e2 e4
    obtain ⟨k, t, rfl, hne⟩ := ha
    obtain ⟨u, rfl⟩ := hb
    rw [LI.val_const]
    refine ⟨.int k, .int j, [], [], .int _ _, .int _ _, by simp [SeqAt.shaped, PyData.canLay0, PyData.depth], by simp [SeqAt.shaped, PyData.canLay0, PyData.depth], ?_⟩
    simp only [PyData.eqv]
    rw [beq_eq_false_iff_ne]
    have := (intEq_iff _ _).mp e3
    omega
  have rn : ∀ x, isFlatTup σ (.ref x) = true → r = false → (a = .ref x ∧ b = .none ∨ a = .none ∧ b = .ref x) → ∃ da db as bs, Reads h va da as ∧ Reads h vb db bs ∧ SeqAt.shaped da = true ∧ SeqAt.shaped db = true ∧ PyData.eqv da db = r := fun x f e z => by
    subst e
    rcases z with ⟨rfl, rfl⟩ | ⟨rfl, rfl⟩
    · obtain ⟨xs, q⟩ := flatTup_at R f ha
      have hb : vb = _ := hb
      subst hb
      exact ⟨_, .none, _, _, q, .none, shaped_tup _ _, by simp [SeqAt.shaped, PyData.canLay0, PyData.depth], by simp [PyData.eqv]⟩
    · obtain ⟨xs, q⟩ := flatTup_at R f hb
      have ha : va = _ := ha
      subst ha
      exact ⟨.none, _, _, _, .none, q, by simp [SeqAt.shaped, PyData.canLay0, PyData.depth], shaped_tup _ _, by simp [PyData.eqv]⟩
  have rr : ∀ x y, a = .ref x → b = .ref y → ∃ da db as bs, Reads h va da as ∧ Reads h vb db bs ∧ SeqAt.shaped da = true ∧ SeqAt.shaped db = true ∧ PyData.eqv da db = r := fun x y e1 e2 => by
    subst e1 e2
    unfold AV.eqV at hk
    dsimp only at hk
    cases p : σ.t.get x with
    | none => rw [p] at hk; cases hk
    | some ox =>
      cases q : σ.t.get y with
      | none => rw [p, q] at hk; cases ox <;> cases hk
      | some oy =>
        rw [p, q] at hk
        cases ox with
        | tup xs => cases oy with
          | tup ys =>
            obtain ⟨f1, hk⟩ := ifO_some hk
            obtain ⟨f2, hk⟩ := ifO_some hk
            obtain ⟨a', o, h1, h2, ⟨h3, vs, n, h4, h5⟩, h6, _⟩ := R.obj _ _ p
            obtain ⟨a'', q1, rfl⟩ := ha
            rw [h1] at q1; cases q1
            obtain ⟨b', o', g1, g2, ⟨g3, vs', n', g4, g5⟩, g6, _⟩ := R.obj _ _ q
            obtain ⟨b'', q1, rfl⟩ := hb
            rw [g1] at q1; cases q1
            exact ⟨_, _, _, _, .tuple h2 h3 h4 (flats_read f1 h5), .tuple g2 g3 g4 (flats_read f2 g5), shaped_tup _ _, shaped_tup _ _, by simp only [PyData.eqv]; exact eqAll_sound O.bnd f1 f2 hk⟩
          | _ => cases hk
        | list xs => cases oy with
          | list ys => cases ys with
            | nil =>
              obtain ⟨f1, hk⟩ := ifO_some hk
              obtain ⟨a', o, h1, h2, ⟨vs, n, h4, h5⟩, h6, _⟩ := R.obj _ _ p
              obtain ⟨a'', q1, rfl⟩ := ha
              rw [h1] at q1; cases q1
              obtain ⟨b', o', g1, g2, ⟨vs', n', g4, g5⟩, g6, _⟩ := R.obj _ _ q
              obtain ⟨b'', q1, rfl⟩ := hb
              rw [g1] at q1; cases q1
              subst h4 g4
              cases g5
              obtain ⟨ds, z1, z2, z3, z4⟩ := flatTups_at R h5 f1
              refine ⟨.list ds, .list [], _, _, .list h2 rfl rfl z1, .list g2 rfl rfl .nil, ?_, by simp [SeqAt.shaped, PyData.canLay0, PyData.canLayAll0, PyData.depth, PyData.depthAll], ?_⟩
              · simp only [SeqAt.shaped, PyData.canLay0, PyData.depth, z3, Bool.true_and]; exact decide_eq_true (by omega)
              · simp only [PyData.eqv]
                cases xs with
                | nil => cases ds with
                  | nil => cases hk; simp [PyData.eqvAll]
                  | cons => simp at z2
                | cons => cases ds with
                  | nil => simp at z2
                  | cons => cases hk; simp [PyData.eqvAll]
            | cons => cases hk
          | _ => cases hk
        | _ => cases hk
  cases a with
  | ref x => cases b with
    | ref y => exact rr x y rfl rfl
    | none => obtain ⟨f, e⟩ := ifO_some hk; cases e; exact rn x f rfl (.inl ⟨rfl, rfl⟩)
    | _ => cases hk
  | none => cases b with
    | ref y => obtain ⟨f, e⟩ := ifO_some hk; cases e; exact rn y f rfl (.inr ⟨rfl, rfl⟩)
    | none => exact flat rfl rfl hk
    | bool => exact flat rfl rfl hk
    | int => exact flat rfl rfl hk
    | str => exact flat rfl rfl hk
    | _ => cases hk
  | oth i => cases b with
    | int li =>
      obtain ⟨j, ks⟩ := li
      cases ks with
      | nil =>
        have hk : (match intEq i j with | true => some false | false => Option.none) = some r := hk
        cases q : intEq i j with
        | true => rw [q] at hk; cases hk; exact oth i j rfl rfl q rfl
        | false => rw [q] at hk; cases hk
      | cons => cases hk
    | _ => cases hk
  | byt => cases b <;> cases hk
  | bool => cases b <;> first | exact flat rfl rfl hk | cases hk
  | int => cases b <;> first | exact flat rfl rfl hk | cases hk
  | str => cases b <;> first | exact flat rfl rfl hk | cases hk
end
theorem notO_some {o : Option Bool} {r : Bool} (h : notO o = some r) : ∃ t, o = some t ∧ r = !t := by
  cases o with
  | none => cases h
  | some t => cases h; exact ⟨t, rfl, by cases t <;> rfl⟩
theorem inStrs_sound {ν : List Int} {ρ : List Addr} {x : Nat} {t : Tok} {xs : List AV} {vs : List Value} (r : All2 (VRel ν ρ) xs vs) : ∀ {b : Bool}, inStrs xs x = some b →
    (∀ y ∈ vs, MeetsSeq.EqGives y (.str (strOf x) t) (isStrOf (strOf x) y)) ∧ vs.any (isStrOf (strOf x)) = b := by
  induction r with
  | nil => intro b h; cases h; exact ⟨by simp, rfl⟩
  | @cons a v xs vs hr _ ih =>
    intro b h
    cases a with
    | str y =>
      obtain ⟨u, rfl⟩ := hr
      unfold inStrs at h
      cases q : inStrs xs x with
      | none => rw [q] at h; cases h
      | some t' =>
        rw [q] at h
        obtain ⟨h1, h2⟩ := ih q
        refine ⟨fun z hz => ?_, ?_⟩
        · rcases List.mem_cons.mp hz with rfl | hz
          · exact eqGives_str _ _ _ _
          · exact h1 z hz
        · rw [List.any_cons, h2]
          show (strOf y == strOf x || t') = b
          cases e : Nat.beq y x with
          | true =>
            rw [e] at h
            cases h
            rw [Nat.eq_of_beq_eq_true e]; simp
          | false =>
            rw [e] at h
            cases h
            have : (strOf y == strOf x) = false := by
              rw [beq_eq_false_iff_ne]
              intro z
              rw [strOf_inj z, Nat.beq_refl] at e; cases e
            rw [this]; rfl
    | _ => cases h
section
variable {G : Ctx} {A : Around} {E : Value → Shared → Prop} {ρ : List Addr} {σ : H} {s : Shared} {Q : Value → Shared → Prop}
theorem AOk.line {n : Nat} {A : Around} (x : AOk n A) : A.units + 64 < cLine := by have := x.units; show _ < 9900; omega
theorem cmp_sound (O : G.Ok) (R : Rel G ρ σ s.heap) (hu : A.units + 64 < cLine) {op : CmpOp} {a b : AV} {va vb : Value} {r : Bool} (ha : VRel G.ν ρ a va) (hb : VRel G.ν ρ b vb) (hk : cmpV G.tx.bs σ op a b = some r)
    (h : ∀ tk, Q (.bool r) { s with toks := tk }) : wpAny G.M A (compareOp op va vb) Q E s := by
  have h0 : Q (.bool r) s := h s.toks
  have isn : ∀ v : Value, VRel G.ν ρ a v → (v == Value.none) = (match a with | .none => true | _ => false) := fun v hv => by
    cases a with
    | none => have hv : v = _ := hv; subst hv; rfl
    | bool => have hv : v = _ := hv; subst hv; rfl
    | int => obtain ⟨t, rfl⟩ := hv; rfl
    | str => obtain ⟨t, rfl⟩ := hv; rfl
    | byt => obtain ⟨t, u, rfl⟩ := hv; rfl
    | ref => obtain ⟨t, _, rfl⟩ := hv; rfl
    | oth => obtain ⟨j, t, rfl, _⟩ := hv; rfl
  have inn : ∀ {o : Bool}, isIn σ a b = some o → (∃ x t l xs vs, a = .str x ∧ va = .str (strOf x) t ∧ vb = .ref l ∧ s.heap.IsTuple l (List.toArray vs) ∧ All2 (VRel G.ν ρ) xs vs ∧ inStrs xs x = some o) ∨
      (∃ x t l n, a = .str x ∧ va = .str (strOf x) t ∧ vb = .ref l ∧ s.heap.get? l = some (dictOf [] n) ∧ (l == sysModules) = false ∧ o = false) := fun {o} hi => by
    cases a with
    | str x => cases b with
      | ref l =>
        unfold isIn at hi
        dsimp only at hi
        cases q : σ.t.get l with
        | none => rw [q] at hi; cases hi
        | some ob =>
          rw [q] at hi
          obtain ⟨t, rfl⟩ := ha
          obtain ⟨a, o₁, h1, h2, h3, h4, h5⟩ := R.obj _ _ q
          obtain ⟨a', q1, rfl⟩ := hb
          rw [h1] at q1; cases q1
          cases ob with
          | tup xs =>
            obtain ⟨h3, vs, n, h6, h7⟩ := h3
            exact .inl ⟨x, t, a, xs, vs, rfl, rfl, rfl, ⟨o₁, h2, h3, n, h6⟩, h7, hi⟩
          | dict es => cases es with
            | nil =>
              obtain ⟨des, n, h6, h7, h8⟩ := h3
              subst h6
              cases h7
              cases hi
              exact .inr ⟨x, t, a, n, rfl, rfl, rfl, h2, R.notModules q rfl h1, rfl⟩
            | cons => cases hi
          | _ => cases hi
      | _ => cases hi
    | _ => cases hi
  cases op with
  | Is => cases b with
    | none =>
      have hb : vb = _ := hb
      subst hb
      cases hk
      exact is_none (by rw [isn va ha]; cases a <;> exact h0)
    | _ => cases hk
  | IsNot => cases b with
    | none =>
      have hb : vb = _ := hb
      subst hb
      cases hk
      refine isNot_none ?_
      rw [isn va ha]
      cases a <;> exact h0
    | _ => cases hk
  | Eq =>
    obtain ⟨da, db, as, bs, r1, r2, s1, s2, e⟩ := eqV_sound O R ha hb hk
    exact eq_dataH r1 r2 s1 s2 hu (e ▸ h0)
  | NotEq =>
    obtain ⟨t, hk', rfl⟩ := notO_some hk
    obtain ⟨da, db, as, bs, r1, r2, s1, s2, e⟩ := eqV_sound O R ha hb hk'
    exact ne_dataH r1 r2 s1 s2 hu (by rw [e]; exact h0)
  | Lt => cases a with
    | int x => cases b with
      | int y =>
        obtain ⟨t, rfl⟩ := ha; obtain ⟨u, rfl⟩ := hb
        exact P.lt_int (by rw [← LI.lt_sound O.bnd hk]; exact h0)
      | _ => cases hk
    | _ => cases hk
  | Gt => cases a with
    | int x => cases b with
      | int y =>
        obtain ⟨t, rfl⟩ := ha; obtain ⟨u, rfl⟩ := hb
        refine P.gt_int ?_
        have e := LI.lt_sound O.bnd hk
        show Q (.bool (decide (y.val G.ν < x.val G.ν))) s
        rw [← e]; exact h0
      | _ => cases hk
    | _ => cases hk
  | LtE => cases a with
    | int x => cases b with
      | int y =>
        obtain ⟨t, rfl⟩ := ha; obtain ⟨u, rfl⟩ := hb
        obtain ⟨z, hk', rfl⟩ := notO_some hk
        have e := LI.lt_sound O.bnd hk'
        refine P.le_int ?_
        have : decide (x.val G.ν ≤ y.val G.ν) = !z := by
          rw [e, ← decide_not]; congr 1; exact propext Int.not_lt.symm
        rw [this]; exact h0
      | _ => cases hk
    | _ => cases hk
  | GtE => cases a with
    | int x => cases b with
      | int y =>
        obtain ⟨t, rfl⟩ := ha; obtain ⟨u, rfl⟩ := hb
        obtain ⟨z, hk', rfl⟩ := notO_some hk
        have e := LI.lt_sound O.bnd hk'
        refine P.ge_int ?_
        have : decide (x.val G.ν ≥ y.val G.ν) = !z := by
          rw [e, ← decide_not]; congr 1; exact propext Int.not_lt.symm
        rw [this]; exact h0
      | _ => cases hk
    | _ => cases hk
  | In =>
    rcases inn hk with ⟨x, t, l, xs, vs, rfl, rfl, rfl, h1, h2, h3⟩ | ⟨x, t, l, n, rfl, rfl, rfl, h1, h2, h3⟩
    · obtain ⟨e1, e2⟩ := inStrs_sound (t := t) h2 h3
      refine SeqAt.in_tupleAt (isStrOf (strOf x)) h1 (fun y hy => (e1 y (by simpa using hy)).at _ _) ?_
      rw [← Array.any_toList, e2]; exact h0
    · subst h3
      exact wpAny_in_of (knd := strKind G.prog G.w) (f := fun _ => none) (strKind_is G.prog G.w _ t) h2 ⟨_, _, _, h1, ⟨rfl, rfl, rfl⟩, rfl, (fun e he => by simp at he), fun _ => rfl⟩ (h _)
  | NotIn =>
    obtain ⟨z, hk', rfl⟩ := notO_some hk
    rcases inn hk' with ⟨x, t, l, xs, vs, rfl, rfl, rfl, h1, h2, h3⟩ | ⟨x, t, l, n, rfl, rfl, rfl, h1, h2, h3⟩
    · obtain ⟨e1, e2⟩ := inStrs_sound (t := t) h2 h3
      refine SeqAt.notIn_tupleAt (isStrOf (strOf x)) h1 (fun y hy => (e1 y (by simpa using hy)).at _ _) ?_
      rw [← Array.any_toList, e2]; exact h0
    · subst h3
      exact wpAny_notIn_of (knd := strKind G.prog G.w) (f := fun _ => none) (strKind_is G.prog G.w _ t) h2 ⟨_, _, _, h1, ⟨rfl, rfl, rfl⟩, rfl, (fun e he => by simp at he), fun _ => rfl⟩ (h _)

/-! ## arithmetic -/
theorem bin_val (O : G.Ok) {op : Operator} {x y r : LI} (hk : LI.bin G.tx.pows op x y = some r) :
    (op = .Add ∧ r.val G.ν = x.val G.ν + y.val G.ν) ∨ (op = .Sub ∧ r.val G.ν = x.val G.ν - y.val G.ν) ∨ (op = .Mult ∧ r.val G.ν = x.val G.ν * y.val G.ν ∧ IntMulOk (x.val G.ν) (y.val G.ν)) ∨
    (op = .FloorDiv ∧ r.val G.ν = (x.val G.ν).fdiv (y.val G.ν) ∧ y.val G.ν ≠ 0 ∧ (y.val G.ν).natAbs < 1073741824) ∨
    (op = .Pow ∧ 0 ≤ y.val G.ν ∧ (Builtin.Int.intBits (x.val G.ν) : Int) * y.val G.ν ≤ 2 ^ 27 ∧ r.val G.ν = x.val G.ν ^ (y.val G.ν).toNat) := by
  obtain ⟨c, ks⟩ := x
  obtain ⟨d, js⟩ := y
  cases op with
  | Add =>
    cases hk
    refine .inl ⟨rfl, ?_⟩
    show Int.add c d + dot (addK ks js) G.ν = (c + dot ks G.ν) + (d + dot js G.ν)
    rw [dot_addK]
    show c + d + _ = _
    omega
  | Sub => cases hk; exact .inr (.inl ⟨rfl, LI.val_sub _ _ _⟩)
  | Mult =>
    cases c with
    | negSucc => cases ks <;> cases hk
    | ofNat a => cases ks with
      | cons => cases hk
      | nil =>
        have hk : (match Nat.blt a 1000000000 with | true => some (LI.mk (Int.mul (.ofNat a) d) (mulK (.ofNat a) js)) | false => none) = some r := hk
        cases q : Nat.blt a 1000000000 with
        | false => rw [q] at hk; cases hk
        | true =>
          rw [q] at hk
          cases hk
          have q := (blt_iff _ _).mp q
          refine .inr (.inr (.inl ⟨rfl, ?_, IntMulOk.of_left (intBits_le_64 ?_ ?_)⟩))
          · rw [LI.val_const]
            show Int.mul (.ofNat a) d + dot (mulK (.ofNat a) js) G.ν = Int.ofNat a * (d + dot js G.ν)
            rw [dot_mulK, Int.mul_add]; rfl
          · rw [LI.val_const]; show _ < (a : Int); omega
          · rw [LI.val_const]; show (a : Int) < _; omega
  | FloorDiv =>
    cases c with
    | negSucc => cases ks <;> cases hk
    | ofNat a => cases ks with
      | cons => cases hk
      | nil => cases d with
        | negSucc => cases hk
        | ofNat b => cases b with
          | zero => cases hk
          | succ b => cases js with
            | cons => cases hk
            | nil =>
              have hk : (match Nat.blt b 1000 with | true => some (LI.mk (.ofNat (Nat.div a (b + 1))) []) | false => none) = some r := hk
              cases q : Nat.blt b 1000 with
              | false => rw [q] at hk; cases hk
              | true =>
                rw [q] at hk
                cases hk
                have q := (blt_iff _ _).mp q
                refine .inr (.inr (.inr (.inl ⟨rfl, ?_, ?_, ?_⟩)))
                · rw [LI.val_const, LI.val_const, LI.val_const]; cases a <;> first | rfl | (show ((0 / (b+1) : Nat) : Int) = 0; simp)
                · rw [LI.val_const]; show ((b + 1 : Nat) : Int) ≠ 0; omega
                · rw [LI.val_const]; show ((b + 1 : Nat) : Int).natAbs < _; omega
  | Pow => exact .inr (.inr (.inr (.inr ⟨rfl, O.pows _ _ _ hk⟩)))
  | _ => cases hk
theorem bin_sound (O : G.Ok) {op : Operator} {x y r : LI} {t u : Tok} (hk : LI.bin G.tx.pows op x y = some r) (h : ∀ t tk, Q (.int (r.val G.ν) t) { s with toks := tk }) :
    wpAny G.M A (binaryOp op (.int (x.val G.ν) t) (.int (y.val G.ν) u)) Q E s := by
  rcases bin_val O hk with ⟨rfl, e⟩ | ⟨rfl, e⟩ | ⟨rfl, e, hm⟩ | ⟨rfl, e, h0, hs⟩ | ⟨rfl, h0, hs, e⟩
  · exact P.add_int (e ▸ h _ _)
  · exact P.sub_int (e ▸ h _ _)
  · exact P.mul_int (e ▸ h _ _) hm
  · exact floordiv_int h0 (e ▸ h _ _) (.inl (PyProof.noPylong_small hs))
  · exact pow_int h0 hs (e ▸ h _ _)
theorem aug_sound (O : G.Ok) {op : Operator} {x y r : LI} {t u : Tok} (ho : op = .Add) (hk : LI.bin G.tx.pows op x y = some r) (h : ∀ t tk, Q (.int (r.val G.ν) t) { s with toks := tk }) :
    wpAny G.M A (inplaceOp op (.int (x.val G.ν) t) (.int (y.val G.ν) u)) Q E s := by
  subst ho
  rcases bin_val O hk with ⟨_, e⟩ | ⟨z, _⟩ | ⟨z, _⟩ | ⟨z, _⟩ | ⟨z, _⟩
  · exact P.iadd_int (e ▸ h _ _)
  all_goals cases z
end
end Mine
end

section
open PySem PySem.W PyProof.Rows PySem.Calls PySem.Spec
set_option maxRecDepth 100000
set_option maxHeartbeats 1000000
namespace Mine
/-! ## the shape of the expressions -/
theorem toEs_cons (a r : CE) : toEs (.cons a r) = toE a :: toEs r := rfl
theorem starEach_toE (e : CE) (rest : List Expr) (env : Env) : starEach (toE e :: rest) env = (false, eval (toE e) env) :: starEach rest env := by cases e <;> rfl
theorem starEach_plain (es : CE) (env : Env) (pos : Pos) : (backTo pos (starEach (toEs es) env)).any (·.1) = false := by
  induction es with
  | cons a r _ ih =>
    rw [toEs_cons, starEach_toE]
    exact ih
  | _ => rfl
theorem attrBase (e : CE) (a : Str) (env : Env) (whole : Sem Value) : attributeBase (toE e) a env whole = whole := by
  have call : ∀ (x : Nat) (q : Pos) (args : List Expr) (p : Pos), attributeBase (.Call (.Name (strOf x) q) args [] p) a env whole = whole := fun x q args p => by
    cases args with
    | nil =>
      have e : (strOf x != ("super" : Str)) = true := by rw [bne, no_super]; rfl
      unfold attributeBase
      dsimp only
      rw [e]
      rfl
    | cons => rfl
  cases e with
  | callF x f args q p => exact call x _ _ _
  | callC x f args q p => exact call x _ _ _
  | callB x f args q p => exact call x _ _ _
  | _ => rfl
theorem marks (op : CmpOp) (e : CE) : behindInMarks op (toE e) = false := by cases e <;> rfl
theorem subs (e : CE) (o i : Value) : subscripted (toE e) false o i = operate [o, i] (PySem.getItem o i) := by cases e <;> rfl
theorem and_true {a b : Bool} (h : (a && b) = true) : a = true ∧ b = true := by cases a <;> cases b <;> first | exact ⟨rfl, rfl⟩ | cases h
theorem isL_cases {e : CE} (h : isL e = true) : e = .nil ∨ ∃ a r, e = .cons a r := by
  cases e <;> first | exact .inl rfl | exact .inr ⟨_, _, rfl⟩ | cases h
theorem loop_false (es : List Expr) (env : Env) {M : Model} {A : Around} {E : Value → Shared → Prop} {s : Shared} {Q : Bool → Shared → Prop} (h : Q false s) :
    wpAny M A (forIn es false fun c r => if r = true then do let ok ← isTrue c env (eval c env); pure (ForInStep.yield ok) else pure (ForInStep.yield r)) Q E s := by
  induction es with
  | nil => rw [List.forIn_nil]; exact wpAny_pure h
  | cons e r ih =>
    rw [List.forIn_cons]
    exact wpAny_bind (wpAny_pure ih)
section
variable {G : Ctx} {n : Nat}
theorem s_nil : Sound G n .nil lNil where
  ev := fun _ _ h _ => by cases h
  evs := fun X _ hk K => wpAny_items_nil (K.now' hk X.r ⟨.nil, rfl⟩)
  tst := fun _ _ h _ => by cases h
  nil := rfl
  ors := fun _ _ h _ => by cases h
  tors := fun {A E env ρ loc σ s κ Q op} X _ hk K => by
    show wpAny G.M A (pure (op == .And)) Q E s
    refine wpAny_pure ?_
    cases op <;> exact K.now' hk X.r rfl
  ifs := fun {A E env ρ loc σ s κ Q} X _ hk K => by
    show wpAny G.M A (forIn [] true _) Q E s
    rw [List.forIn_nil]
    exact wpAny_pure (K.now' hk X.r rfl)
theorem s_cons {a r : CE} {da dr : Den} (Ha : Sound G n a da) (Hr : Sound G n r dr) : Sound G n (.cons a r) (lCons da dr) where
  ev := fun _ _ h _ => by cases h
  evs := fun {A E env ρ loc σ s κ Q pos} X W hk K => by
    obtain ⟨W, W3⟩ := and_true W
    obtain ⟨W1, W2⟩ := and_true W
    refine wpAny_items_cons (Ha.ev X W1 hk fun av σ' ρ' v h' tk' hk' hl R S q => ?_) (starEach_toE _ _ _)
    refine Hr.evs (X.step R S) W2 hk' fun avs σ'' ρ'' vs h'' tk'' hk'' hl' R' S' q' => ?_
    exact K.after (tk₁ := tk') hl S (av :: avs) σ'' ρ'' (v :: vs) h'' tk'' hk'' hl' R' S' ⟨.cons (S'.vrel q) q'.1, by rw [List.length_cons, q'.2]; rfl⟩
  tst := fun _ _ h _ => by cases h
  nil := rfl
  ors := fun {A E env ρ loc σ s κ Q op pos} X W hk K => by
    obtain ⟨W, W3⟩ := and_true W
    obtain ⟨W1, W2⟩ := and_true W
    have nl := Hr.nil
    rcases isL_cases W3 with rfl | ⟨b, r', rfl⟩
    · have hk : (Bool.rec (da.ev loc σ fun v h => truth v fun t => stops op t (κ v h) (dr.ors op loc h κ)) (da.ev loc σ κ) dr.isNil : Bool) = true := hk
      rw [nl] at hk
      exact Ha.ev X W1 hk K
    · have hk : (Bool.rec (da.ev loc σ fun v h => truth v fun t => stops op t (κ v h) (dr.ors op loc h κ)) (da.ev loc σ κ) dr.isNil : Bool) = true := hk
      rw [nl] at hk
      have hk : da.ev loc σ (fun v h => truth v fun t => stops op t (κ v h) (dr.ors op loc h κ)) = true := hk
      show wpAny G.M A (do
        let v ← eval (toE a) env
        standAt pos
        let t ← holding [v] (truthy v)
        match op, t with
        | .And, false | .Or, true => pure v
        | _, _ => boolOp pos op (evalEach (toEs (.cons b r')) env)) Q E s
      refine wpAny_bind (wpAny_mono (Ha.ev X W1 hk (Q := fun v s₁ => wpAny G.M A (truthy v) (fun t s₂ => wpAny G.M A (match op, t with
        | .And, false | .Or, true => pure v
        | _, _ => boolOp pos op (evalEach (toEs (.cons b r')) env)) Q E s₂) E s₁) fun av σ' ρ' v h' tk' hk' hl R S q => ?_) (fun v s₁ h => wpAny_bind (wpAny_standAt (wpAny_bind (wpAny_holding h)))) fun _ _ e => e)
      obtain ⟨t, rfl, hk'⟩ := truth_true hk'
      have q : v = .bool t := q
      subst q
      refine wpAny_truthy_bool ?_
      have go : dr.ors op loc σ' κ = true → wpAny G.M A (boolOp pos op (evalEach (toEs (.cons b r')) env)) Q E { s with heap := h', toks := tk' } := fun hk' => Hr.ors (X.step R S) W2 hk' (K.after hl S)
      cases op <;> cases t
      · exact wpAny_pure (K _ σ' ρ' (.bool false) h' tk' hk' hl R S rfl)
      · exact go hk'
      · exact go hk'
      · exact wpAny_pure (K _ σ' ρ' (.bool true) h' tk' hk' hl R S rfl)
  tors := fun {A E env ρ loc σ s κ Q op} X W hk K => by
    obtain ⟨W, W3⟩ := and_true W
    obtain ⟨W1, W2⟩ := and_true W
    show wpAny G.M A (do
      match op, ← isTrue (toE a) env (eval (toE a) env) with
      | .And, false => pure false
      | .Or, true => pure true
      | _, _ => allTrue op (toEs r) env) Q E s
    refine wpAny_bind (Ha.tst X W1 hk fun t σ' ρ' t' h' tk' hk' hl R S q => ?_)
    have q : t = t' := q
    subst q
    have go : dr.tors op loc σ' κ = true → wpAny G.M A (allTrue op (toEs r) env) Q E { s with heap := h', toks := tk' } := fun hk' => Hr.tors (X.step R S) W2 hk' (K.after hl S)
    cases op <;> cases t
    · exact wpAny_pure (K _ σ' ρ' false h' tk' hk' hl R S rfl)
    · exact go hk'
    · exact go hk'
    · exact wpAny_pure (K _ σ' ρ' true h' tk' hk' hl R S rfl)
  ifs := fun {A E env ρ loc σ s κ Q} X W hk K => by
    obtain ⟨W, W3⟩ := and_true W
    obtain ⟨W1, W2⟩ := and_true W
    rw [toEs_cons, List.forIn_cons]
    refine wpAny_bind ?_
    rw [if_pos rfl]
    refine wpAny_bind (Ha.tst X W1 hk fun t σ' ρ' t' h' tk' hk' hl R S q => wpAny_pure ?_)
    have q : t = t' := q
    subst q
    cases t with
    | true => exact Hr.ifs (X.step R S) W2 hk' (K.after hl S)
    | false => exact loop_false _ _ (K _ σ' ρ' false h' tk' hk' hl R S rfl)

theorem s_attr (O : G.Ok) {e : CE} {d : Den} (H : Sound G n e d) (a p : Nat) : Sound G n (.attr e a p) (leafS (cAttr G.tx d a) (sAttr G.tx d a)) :=
  have H : EvSound G n (.attr e a p) (cAttr G.tx d a) := fun {A E env ρ loc σ s κ Q} X W hk K => by
    obtain ⟨W1, W2⟩ := and_true W
    show wpAny G.M A (eval (.Attribute (toE e) (strOf a) (P p)) env) Q E s
    refine Attribute_any_ (H.ev X W1 hk fun av σ' ρ' v h' tk' hk' hl R S q => ?_) (by rw [arm_eval_Attribute, attrBase])
    exact getA_sound O R q W2 hk' fun av' v' tk hk'' q' => K _ σ' ρ' v' h' tk hk'' hl R S q'
  .leaf rfl H (tst_value H fun _ _ => rfl)
theorem s_sub (O : G.Ok) {e i : CE} {d di : Den} (H : Sound G n e d) (Hi : Sound G n i di) (p : Nat) : Sound G n (.sub e i p) (leaf (cSub G.tx d di)) :=
  have H : EvSound G n (.sub e i p) (cSub G.tx d di) := fun {A E env ρ loc σ s κ Q} X W hk K => by
    obtain ⟨W1, W2⟩ := and_true W
    refine Subscript_ (H.ev X W1 hk fun av σ' ρ' v h' tk' hk' hl R S q => ?_)
    refine Hi.ev (X.step R S) W2 hk' fun iv σ'' ρ'' w h'' tk'' hk'' hl' R' S' q' => ?_
    exact item_sound O R' (S'.vrel q) q' hk'' (subs i) fun av' v' tk hk3 q3 => K.after hl S _ σ'' ρ'' v' h'' tk hk3 hl' R' S' q3
  .leaf rfl H (tst_value H fun _ _ => rfl)
theorem s_bin (O : G.Ok) {a b : CE} {da db : Den} (Ha : Sound G n a da) (Hb : Sound G n b db) (op : Operator) (p : Nat) : Sound G n (.bin op a b p) (leaf (cBin G.tx op da db)) :=
  have H : EvSound G n (.bin op a b p) (cBin G.tx op da db) := fun {A E env ρ loc σ s κ Q} X W hk K => by
    obtain ⟨W1, W2⟩ := and_true W
    refine wpAny_BinOp (Ha.ev X W1 hk fun av σ' ρ' v h' tk' hk' hl R S q => ?_)
    refine Hb.ev (X.step R S) W2 hk' fun iv σ'' ρ'' w h'' tk'' hk'' hl' R' S' q' => ?_
    obtain ⟨x, rfl, z1⟩ := asInt_true hk''
    obtain ⟨y, rfl, z2⟩ := asInt_true z1
    obtain ⟨r, hr, z3⟩ := onS_true z2
    obtain ⟨t, rfl⟩ := q
    obtain ⟨u, rfl⟩ := q'
    exact bin_sound O hr fun t tk => K.after (tk₁ := tk') hl S _ σ'' ρ'' _ h'' tk z3 hl' R' S' ⟨t, rfl⟩
  .leaf rfl H (tst_value H fun _ _ => rfl)
theorem cmp_two (O : G.Ok) {a b : CE} {da db : Den} (Ha : Sound G n a da) (Hb : Sound G n b db) (op : CmpOp) {A : Around} {E : Value → Shared → Prop} {env : Env} {ρ : List Addr} {loc : Loc} {σ : H} {s : Shared} {κ : AV → H → Bool} {Q : Value → Shared → Prop}
    (X : At G n A env ρ loc σ s.heap) (W1 : wfE a env.scope.names = true) (W2 : wfE b env.scope.names = true) (hk : cCmp G.tx op da db loc σ κ = true) (K : Then G (VRel G.ν) ρ σ s κ Q) :
    wpAny G.M A (eval (toE a) env) (fun a s₁ => wpAny G.M A (eval (toE b) env) (fun b s₂ => wpAny G.M A (compareOp op a b) Q E s₂) E s₁) E s := by
  refine Ha.ev X W1 hk fun av σ' ρ' v h' tk' hk' hl R S q => ?_
  refine Hb.ev (X.step R S) W2 hk' fun iv σ'' ρ'' w h'' tk'' hk'' hl' R' S' q' => ?_
  obtain ⟨r, hr, hk''⟩ := onS_true hk''
  exact cmp_sound O R' X.a.line (S'.vrel q) q' hr fun tk => K.after hl S _ σ'' ρ'' _ h'' tk hk'' hl' R' S' rfl
theorem s_cmp (O : G.Ok) {a b : CE} {da db : Den} (Ha : Sound G n a da) (Hb : Sound G n b db) (op : CmpOp) (p : Nat) : Sound G n (.cmp op a b p) (leaf (cCmp G.tx op da db)) :=
  .leaf rfl (fun {A E env ρ loc σ s κ Q} X W hk K => wpAny_Compare1 (cmp_two O Ha Hb op X (and_true W).1 (and_true W).2 hk K) (marks _ _))
    (fun {A E env ρ loc σ s κ Q} X W hk K => by
      refine wpAny_isTrue_Compare1 (cmp_two O Ha Hb op X (and_true W).1 (and_true W).2 hk fun av σ' ρ' v h' tk' hk' hl R S q => ?_) (marks _ _)
      obtain ⟨b, rfl, hk'⟩ := truth_true hk'
      have q : v = .bool b := q
      subst q
      exact wpAny_truthy_bool (K b σ' ρ' b h' tk' hk' hl R S rfl))
theorem s_andor {es : CE} {d : Den} (H : Sound G n es d) (op : BoolOp) (p : Nat) : Sound G n (.andor op es p) (leafT (d.ors op) (d.tors op)) :=
  .leaf rfl (fun X W hk K => H.ors X (and_true W).1 hk K) (fun X W hk K => wpAny_isTrue_BoolOp (H.tors X (and_true W).1 hk K))
theorem notB_eq (b : Bool) : notB b = !b := by cases b <;> rfl
theorem s_not {e : CE} {d : Den} (H : Sound G n e d) (p : Nat) : Sound G n (.not e p) (leafT (cNot d) (tNot d)) :=
  .leaf rfl (fun {A E env ρ loc σ s κ Q} X W hk K => by
      refine wpAny_UnaryOp (H.ev X W hk fun av σ' ρ' v h' tk' hk' hl R S q => ?_)
      obtain ⟨b, rfl, hk'⟩ := truth_true hk'
      have q : v = .bool b := q
      subst q
      exact not_value (wpAny_truthy_bool (K _ σ' ρ' _ h' tk' hk' hl R S (by rw [notB_eq]; rfl))))
    (fun {A E env ρ loc σ s κ Q} X W hk K => wpAny_isTrue_Not (H.tst X W hk fun t σ' ρ' t' h' tk' hk' hl R S q => by
      have q : t = t' := q
      subst q
      exact K _ σ' ρ' _ h' tk' hk' hl R S (notB_eq t)))
theorem s_neg {e : CE} {d : Den} (H : Sound G n e d) (p : Nat) : Sound G n (.neg e p) (leaf (cNeg d)) :=
  have H : EvSound G n (.neg e p) (cNeg d) := fun {A E env ρ loc σ s κ Q} X W hk K => by
    refine wpAny_UnaryOp (H.ev X W hk fun av σ' ρ' v h' tk' hk' hl R S q => ?_)
    cases av with
    | int li =>
      obtain ⟨c, ks⟩ := li
      cases ks with
      | cons => cases hk'
      | nil =>
        obtain ⟨t, rfl⟩ := q
        exact P.neg_int (K _ σ' ρ' _ h' _ hk' hl R S ⟨_, by rw [LI.val_const, LI.val_const]; rfl⟩)
    | _ => cases hk'
  .leaf rfl H (tst_value H fun _ _ => rfl)
theorem s_ife {t a b : CE} {dt da db : Den} (Ht : Sound G n t dt) (Ha : Sound G n a da) (Hb : Sound G n b db) (p : Nat) : Sound G n (.ife t a b p) (leafT (cIfe dt da db) (tIfe dt da db)) :=
  .leaf rfl (fun {A E env ρ loc σ s κ Q} X W hk K => by
      obtain ⟨W, W3⟩ := and_true W
      obtain ⟨W1, W2⟩ := and_true W
      refine wpAny_IfExp (Ht.tst X W1 hk fun t σ' ρ' t' h' tk' hk' hl R S q => ?_)
      have q : t = t' := q
      subst q
      cases t with
      | true => exact Ha.ev (X.step R S) W2 hk' (K.after hl S)
      | false => exact Hb.ev (X.step R S) W3 hk' (K.after hl S))
    (fun {A E env ρ loc σ s κ Q} X W hk K => by
      obtain ⟨W, W3⟩ := and_true W
      obtain ⟨W1, W2⟩ := and_true W
      show wpAny G.M A (isTrue (.IfExp (toE t) (toE a) (toE b) (P p)) env _) Q E s
      rw [arm_isTrue_IfExp]
      refine wpAny_bind (Ht.tst X W1 hk fun t σ' ρ' t' h' tk' hk' hl R S q => ?_)
      have q : t = t' := q
      subst q
      cases t with
      | true => exact Ha.tst (X.step R S) W2 hk' (K.after hl S)
      | false => exact Hb.tst (X.step R S) W3 hk' (K.after hl S))
theorem okSize_list {xs : List AV} {ν : List Int} {ρ : List Addr} {vs : List Value} (r : VsRel ν ρ xs vs) (h : xs.length < 100) : vs.length ≤ sizeLine := by
  have := r.length; rw [sizeLine_eq]; omega
theorem s_list (O : G.Ok) {es : CE} {d : Den} (H : Sound G n es d) (p : Nat) : Sound G n (.list es p) (leaf (cList d)) :=
  have H : EvSound G n (.list es p) (cList d) := fun {A E env ρ loc σ s κ Q} X W hk K => by
    refine wpAny_List (H.evs X W hk fun avs σ' ρ' vs h' tk' hk' hl R S q => ⟨?_, ?_⟩)
    · obtain ⟨hz, _, _⟩ := new_true hk'
      exact okSize_list q.1 ((blt_iff _ _).mp hz)
    · exact (K.after (tk₁ := tk') hl S).push O R hk' rfl ⟨vs, _, rfl, q.1⟩
  .leaf rfl H (tst_value H fun _ _ => rfl)
theorem s_tup (O : G.Ok) {es : CE} {d : Den} (H : Sound G n es d) (k p : Nat) : Sound G n (.tup es k p) (leaf (cTup d)) :=
  have H : EvSound G n (.tup es k p) (cTup d) := fun {A E env ρ loc σ s κ Q} X W hk K => by
    refine wpAny_Tuple (H.evs X W hk fun avs σ' ρ' vs h' tk' hk' hl R S q => ⟨?_, ?_⟩)
    · obtain ⟨hz, _, _⟩ := new_true hk'
      exact okSize_list q.1 ((blt_iff _ _).mp hz)
    · exact (K.after (tk₁ := tk') hl S).push O R hk' rfl ⟨rfl, vs, _, rfl, q.1⟩
  .leaf rfl H (tst_value H fun _ _ => rfl)
end
end Mine
end

section
open PySem PySem.W PyProof.Rows PySem.Calls PySem.Spec
set_option maxRecDepth 100000
set_option maxHeartbeats 1000000
namespace Mine
section
variable {G : Ctx} {n : Nat}
/-- a dict that is new and holds what is told -/
theorem dictOf_rel {prog : Program} {w : World} {ν : List Int} {ρ : List Addr} {h : Heap} {a : Addr} {es : List (AV × AV)} {kvs : List (Str × Value)} (hd : h.DictOf (strKind prog w) a kvs) (hr : All2 (KV ν ρ krS) es kvs) :
    ∃ des ep, h.get? a = some (dictOf des ep) ∧ All2 (EntRel w ν ρ) es des := by
  obtain ⟨o, ds, ep, q1, q2, q3, q4, q5, q6⟩ := hd
  obtain ⟨oc, od, oda, osl⟩ := o
  obtain ⟨b1, b2, b3⟩ := q2
  have b1 : oc = _ := b1
  have b2 : od = _ := b2
  have b3 : osl = _ := b3
  have q3 : oda = _ := q3
  subst b1 b2 b3 q3
  obtain ⟨dl⟩ := ds
  exact ⟨dl, ep, q1, ofKvs q5 hr (fun e he => q4 e (Array.mem_toList_iff.mp he)) (krS_back (prog := prog))⟩
theorem smallDict_cases {ks vs : CE} (W : smallDict ks vs = true) : (ks = .nil ∧ vs = .nil) ∨ ∃ x k q i k' q', ks = .cons (.str x k q) .nil ∧ vs = .cons (.int i k' q') .nil := by
  unfold smallDict at W
  split at W
  · exact .inl ⟨rfl, rfl⟩
  · exact .inr ⟨_, _, _, _, _, _, rfl, rfl⟩
  · cases W
theorem s_dict (O : G.Ok) {call : Call} (ks vs : CE) (p : Nat) : Sound G n (.dict ks vs p) (leaf (cDict (den G.tx call ks) (den G.tx call vs))) :=
  have H : EvSound G n (.dict ks vs p) (cDict (den G.tx call ks) (den G.tx call vs)) := fun {A E env ρ loc σ s κ Q} X W hk K => by
    have W : smallDict ks vs = true := W
    have cases := smallDict_cases W
    rcases cases with ⟨rfl, rfl⟩ | ⟨x, k, q, i, k', q', rfl, rfl⟩
    · have hk : σ.new (.dict []) κ = true := hk
      refine wpAny_Dict_empty ?_
      exact K.push (tk := s.toks) O X.r hk rfl ⟨[], 0, rfl, .nil, by simp⟩
    · have hk : σ.new (.dict [(.str x, .int (.mk (.ofNat i) []))]) κ = true := hk
      refine wpAny_Dict_walk (prog := G.prog) (knd := strKind G.prog G.w) rfl rfl (by intro z; cases z) (by show 1 ≤ 15; omega) ?_
      refine pairTrees_cons_walk (wpAny_Constant_str (wpAny_Constant_int (pairTrees_nil_walk ⟨[(strOf x, .int (Int.ofNat i) _)], ⟨strKind_is G.prog G.w _ _, rfl, trivial⟩, ?_, fun h' hd hs => ?_⟩)))
      · exact Heap.DictOf.new s.heap
      · obtain ⟨des, ep, e1, e2⟩ := dictOf_rel (ν := G.ν) (ρ := ρ) (es := [(.str x, .int (.mk (.ofNat i) []))]) hd (.cons ⟨⟨x, rfl, rfl⟩, ⟨_, by rw [LI.val_const]⟩⟩ .nil)
        refine K.made (ao := .dict [(.str x, .int (.mk (.ofNat i) []))]) (a := s.heap.objs.size) X.r hk (get_size _) (X.r.low O (Nat.le_refl _)) (fun b o e => ?_) e1 ⟨des, ep, rfl, e2, by simp⟩
        exact (hs.2 b (fun z => by rw [z] at e; rw [get_size] at e; cases e)).trans (Heap.get?_push_of_some _ e)
  .leaf rfl H (tst_value H fun _ _ => rfl)
theorem rest_true {xs : List AV} {κ : List AV → Bool} (h : rest xs κ = true) : ∃ x r, xs = x :: r ∧ κ r = true := by
  cases xs with
  | nil => cases h
  | cons x r => exact ⟨x, r, rfl, h⟩
theorem s_tail (O : G.Ok) {e i : CE} {d di : Den} (H : Sound G n e d) (Hi : Sound G n i di) (q p : Nat) : Sound G n (.tail e i q p) (leaf (cTail d di)) :=
  have H : EvSound G n (.tail e i q p) (cTail d di) := fun {A E env ρ loc σ s κ Q} X W hk K => by
    obtain ⟨W1, W2⟩ := and_true W
    show wpAny G.M A (eval (.Subscript (toE e) (.Slice (some (toE i)) none none (P q)) (P p)) env) Q E s
    refine Subscript_ (H.ev X W1 hk fun av σ' ρ' v h' tk' hk' hl R S q1 => ?_)
    refine wpAny_Slice ?_
    rw [evalPart_some]
    refine Hi.ev (X.step R S) W2 hk' fun iv σ'' ρ'' w h'' tk'' hk'' hl' R' S' q2 => ?_
    rw [evalPart_none]
    refine wpAny_pure (wpAny_pure ?_)
    obtain ⟨l, rfl, z1⟩ := asRef_true hk''
    obtain ⟨k, rfl, z2⟩ := asNat_true z1
    obtain ⟨hb, z3⟩ := rec_true z2
    obtain rfl : k = 1 := Nat.eq_of_beq_eq_true hb
    obtain ⟨ob, e1, z4⟩ := at_true z3
    obtain ⟨xs, rfl, z5⟩ := atTup_true z4
    obtain ⟨x, r, rfl, z6⟩ := rest_true z5
    obtain ⟨a, vs, h1, h2, h3, h4⟩ := tup_at (s := { s with heap := h'', toks := tk'' }) R' e1
    obtain ⟨a', h1', rfl⟩ := S'.vrel q1
    rw [h1] at h1'; cases h1'
    obtain ⟨t, rfl⟩ := q2
    cases h3 with
    | @cons _ v0 _ vs' r1 r2 =>
      have l1 := r2.length
      rw [LI.val_const]
      have kp : ∀ (o1 : Obj) b o, h''.get? b = some o → (h''.push o1).get? b = some o := fun o1 b o e => Heap.get?_push_of_some _ e
      have ht' : IsTup (h''.push { cls := .type "slice", data := .fields #[.int (Int.ofNat 1) t, .none, .none] }) a (List.toArray (v0 :: vs')) := by
        obtain ⟨o, g1, g2⟩ := h2
        exact ⟨o, kp _ _ _ g1, g2⟩
      refine tail_any (ops := [.ref h''.objs.size, .ref a]) ht'.typeIs slot_tuple_getitem.lookup ?_ rfl
      have l4 : (v0 :: vs').length < 100 := by simp only [List.length_cons] at h4 ⊢; omega
      refine getItem_tuple_from (a := 1) (u := t) ht' (Heap.IsSliceOf.new ..) (Nat.le_refl _) (by simp) ?_ (by rw [List.size_toArray, sizeLine_eq]; omega)
      have K2 := (K.after (tk₁ := tk') hl S).after (tk₁ := tk'') hl' S'
      refine K2.made (ao := .tup r) (o := { cls := .type "tuple", data := .seq (List.drop 1 (List.toArray (v0 :: vs')).toList).toArray }) R' z6 ?_ (R'.low O ?_) (fun b o e => Heap.get?_push_of_some _ (Heap.get?_push_of_some _ e)) (Heap.get?_push_size _ rfl) ⟨rfl, vs', _, rfl, r2⟩
      · show h''.get? _ = none
        exact Heap.get?_none_of_le (by show h''.objs.size ≤ (h''.push _).objs.size; rw [Heap.size_push]; omega)
      · show h''.objs.size ≤ (h''.push _).objs.size
        rw [Heap.size_push]; omega
  .leaf rfl H (tst_value H fun _ _ => rfl)

/-! ## a lambda is made -/
theorem lamPos0 : P (lamP 0) = ⟨458, 0, 458, 13⟩ := by simp [P, lamP]
theorem lamPos1 : P (lamP 1) = ⟨459, 0, 459, 13⟩ := by simp [P, lamP]
theorem tab_key {k : Nat} {ps : Array Value} (h : TabOk k ps) (hk : k < 2) : TriplesOk ps.toList ∧ codeAmong (P (lamP k)) ps.toList = none := by
  cases k with
  | zero => have h : ps = #[] := h; subst h; exact ⟨trivial, rfl⟩
  | succ k => cases k with
    | zero => obtain ⟨x, h⟩ := h; subst h; exact ⟨trivial, by rw [lamPos1]; rfl⟩
    | succ k => omega
theorem tab_next {k : Nat} {ps : Array Value} {c : Addr} (h : TabOk k ps) (hk : k < 2) : TabOk (Nat.succ k) (ps ++ #[rawInt (P (lamP k)).line, rawInt (P (lamP k)).col, .ref c]) := by
  cases k with
  | zero => have h : ps = #[] := h; subst h; rw [lamPos0]; exact ⟨c, rfl⟩
  | succ k => trivial
theorem lam_free (k : Nat) (env : Env) : closureFor (lamS k) env = pure [] := by
  cases k <;> rfl
theorem isTab_true {o : AO} {κ : Nat → Bool} (e : isTab o κ = true) : ∃ k, o = .tab k ∧ κ k = true := by
  cases o <;> first | exact ⟨_, rfl, e⟩ | cases e
theorem lam_make {M : Model} {A : Around} {E : Value → Shared → Prop} {s : Shared} {name qual : Str} {params : Arguments} {body : Expr} {scope : Scope} {env : Env} {c P : Addr} {ps : Array Value} {pos : Pos} {firstLine : Nat} {mg : Str → Option Value} {Q : Value → Shared → Prop}
    (hcl : closureFor scope env = pure []) (hge0 : env.globals = mainGlobals) (hg : s.heap.Ns mainGlobals mg) (hcode : env.code = .ref c) (C : CodeHd s.heap c P) (hP : s.heap.get? P = some (tabObj ps)) (ht : TriplesOk ps.toList)
    (hnf : codeAmong pos ps.toList = none) (hgP : mainGlobals ≠ P) (hb : s.heap.BuiltinsAt mg P)
    (h : ∀ c' oc vs t ctv h' tk, Heap.ExtBut P s.heap h' → s.heap.objs.size ≤ h'.objs.size → h'.get? c' = some oc → oc.cls = .type "code" → oc.data = .fields vs → vs[1]? = some (.str qual t) → h'.get? P = some (tabObj (ps ++ #[rawInt pos.line, rawInt pos.col, .ref c'])) →
      Q (.ref h'.objs.size) { s with heap := h'.push (kla_obj name qual params body scope [] ((mg "__name__").getD .none) c' ctv), toks := tk }) :
    wpAny M A (makeFunction name qual params (.expr body) scope env [] [] [] pos firstLine) Q E s := by
  rw [makeFunction_eq]
  simp only [List.zip_nil_right, List.filterMap_nil, List.isEmpty_nil, if_true, pure_bind]
  obtain ⟨bm, ob, hbm, hne0, _, hneP, hbo, hcls, hdict, hdata⟩ := hb
  unfold makeTail
  rw [hcl, hge0]
  refine wpAny_bind (wpAny_pure ?_)
  simp only [List.isEmpty_nil, if_true]
  refine wpAny_bind (wpAny_pure ?_)
  refine wpAny_bind (wpAny_functionCodeX hcode (C.code hP ht) (C.tab hP) hnf fun c' h' tk hx hge hlt _ hrec htb hn => ?_)
  have hg' := hg.extBut hx hgP
  refine wpAny_bind (wpAny_builtinsFor hg' hbm hne0 (hx _ _ hneP hbo) hcls hdict hdata ?_)
  refine wpAny_bind (wpAny_nsGet hg' ?_)
  obtain ⟨P', _, _, ⟨oc, vc, e1, e2, e3, _⟩, _⟩ := hn
  obtain ⟨c₂, oc₂, vs₂, t₂, f1, f2, f3, f4⟩ := hrec
  cases f1
  rw [e1] at f2; cases f2
  exact wpAny_bind (wpAny_pure (wpAny_newObj_type (h c' oc vs₂ t₂ .none h' tk hx (Nat.le_trans hge (Nat.le_of_lt hlt)) e1 e2 f3 f4 htb.2) (by size_fits)))
theorem s_lam (O : G.Ok) (j p : Nat) : Sound G n (.lam j p) (leaf (cLam j)) :=
  have H : EvSound G n (.lam j p) (cLam j) := fun {A E env ρ loc σ s κ Q} X W hk K => by
    obtain ⟨W, W3⟩ := and_true W
    obtain ⟨W1, W2⟩ := and_true W
    obtain rfl : p = lamP j := Nat.eq_of_beq_eq_true W3
    have W2 := (blt_iff _ _).mp W2
    obtain ⟨ob, e1, hk⟩ := at_true hk
    obtain ⟨k, rfl, hk⟩ := isTab_true hk
    obtain ⟨hb, hk⟩ := rec_true hk
    obtain rfl : k = j := Nat.eq_of_beq_eq_true hb
    obtain ⟨_, nl, hk⟩ := set_true hk
    obtain ⟨P', hP', C⟩ := O.code
    obtain ⟨a, o, h1, h2, ⟨ps, h3, h4⟩, _, h5⟩ := X.r.obj _ _ e1
    have ha : a = P' := by
      obtain ⟨δ, e⟩ := X.r.pre
      rw [e, List.getElem?_append_left (List.getElem?_eq_some_iff.mp hP').1, hP'] at h1
      exact (Option.some.inj h1).symm
    subst ha h3
    have low := h5 rfl
    have hne : ∀ {b o}, G.h₀.get? b = some o → b ≠ a := fun e z => by rw [z, low.1] at e; cases e
    have hg0 : mainGlobals ≠ a := by obtain ⟨o, es, ep, e, _⟩ := O.g; exact hne e
    have key := tab_key h4 W2
    obtain ⟨bm, obm, b1, b2, b3, b4, b5, b6⟩ := O.bmain
    have hbG : bm ≠ mainGlobals := fun q => by
      obtain ⟨o, es, ep, e, hd, _⟩ := O.g
      rw [q, e] at b3; cases b3; rw [hd] at b6; cases b6
    show wpAny G.M A (eval (.Lambda noArgs (lamE k) (lamS k) (P (lamP k))) env) Q E s
    rw [arm_eval_Lambda]
    refine wpAny_bind (wpAny_pure (wpAny_bind (wpAny_holding (wpAny_pure ?_))))
    refine lam_make (mg := G.mg) ?_ X.f.glob (X.r.gns O) (X.f.lam W1) (C.keeps X.r.base) h2 key.1 key.2 hg0 ⟨bm, obm, b1, b2, hbG, hne b3, X.r.base _ _ b3, b4, b5, b6⟩
      fun c' oc vs t ctv h' tk hx hsz e1' e2' e3' e4' e5' => ?_
    · exact lam_free k env
    have R1 := X.r.update (lk := σ.lock) e1 h1 rfl h2 (by intro z; cases z) hx e5' (ao' := .tab (Nat.succ k)) ⟨_, rfl, tab_next h4 W2⟩ rfl
    have S1 : Step ρ σ.lock none' s.heap ρ h' := Step.turned X.r h1 nl hx ⟨_, e5'⟩
    exact (K.after (σ₁ := ⟨T.put 12 σ.t 4 (.tab (Nat.succ k)), σ.n, σ.lock⟩) (tk₁ := tk) rfl S1).push (tk := tk) O R1 hk rfl
      ⟨_, c', oc, vs, t, rfl, rfl, rfl, rfl, rfl, rfl, rfl, rfl, rfl, rfl, rfl, Heap.get?_push_of_some _ e1', e2', e3', e4'⟩
  .leaf rfl H (tst_value H fun _ _ => rfl)
end
end Mine
end

section
open PySem PySem.W PyProof.Rows PySem.Calls PySem.Spec
set_option maxRecDepth 100000
set_option maxHeartbeats 1000000
namespace Mine
/-! ## calls -/
structure AOkC (n : Nat) (A : Around) : Prop where
  hd : A.handled = none
  room : A.depth + 5 * n + 3 ≤ 900
  units : A.units + 30 * n + 20 ≤ 9000
theorem AOk.call {n : Nat} {A : Around} (x : AOk (n + 1) A) : AOkC n A := ⟨x.hd, by have := x.room; omega, by have := x.units; omega⟩
theorem AOk.creation {n : Nat} {A : Around} {args : Args} (x : AOk (n + 1) A) : AOkC n (A.under (.builtin "type.__call__" args)) := by
  refine ⟨x.hd, ?_, ?_⟩
  · have h := x.room
    have w : Code.weight (.builtin "type.__call__" args) ≤ 2 := by
      unfold Code.weight
      have h1 : Code.frames (.builtin "type.__call__" args) = 0 := rfl
      have h2 : Code.isGuard (.builtin "type.__call__" args) = false := by show guardIds.contains "type.__call__" = false; decide
      have h3 : Code.isCaller (.builtin "type.__call__" args) = false := rfl
      rw [h1, h2, h3]
      simp only [Bool.false_eq_true, if_false]
      split <;> omega
    show A.depth + Code.weight _ + 5 * n + 3 ≤ 900
    omega
  · have h := x.units
    have w : Code.cUnits (.builtin "type.__call__" args) ≤ 5 := by
      show 1 + 3 * Code.frames (.builtin "type.__call__" args) ≤ 5
      rw [show Code.frames (.builtin "type.__call__" args) = 0 from rfl]; omega
    show A.units + Code.cUnits _ + 30 * n + 20 ≤ 9000
    omega
noncomputable abbrev CallSound (G : Ctx) (n : Nat) (call : Call) : Prop := ∀ {f : Nat} {fa : Addr} {A : Around} {R : Result → Shared → Prop} {avs : List AV} {vals : List Value} {ρ : List Addr} {σ : H} {s : Shared} {κ : AV → H → Bool},
  AOkC n A → G.fn f = some fa → call f avs σ κ = true → Rel G ρ σ s.heap → VsRel G.ν ρ avs vals → Then G (VRel G.ν) ρ σ s κ (fun v s' => R (.ok (.ret v)) s') → codeAny G.M A (.call (.ref fa) ⟨vals, []⟩) R s
theorem evalArgs_of {M : Model} {A : Around} {E : Value → Shared → Prop} {s : Shared} {f : Value} {args : List (Bool × Sem Value)} {Q : Args → Shared → Prop} (hp : args.any (·.1) = false)
    (h : wpAny M A (spliced args) (fun vs s' => Q ⟨vs, []⟩ s') E s) : wpAny M A (evalArgs f true args []) Q E s := by
  cases args with
  | nil =>
    unfold evalArgs
    show wpAny M A (spliced [] >>= _) Q E s
    refine wpAny_bind (wpAny_mono h (fun vs s' h' => ?_) fun _ _ x => x)
    refine wpAny_bind (wpAny_pure ?_)
    refine wpAny_holding ?_
    exact wpAny_bind (wpAny_pure (wpAny_bind (wpAny_pure (wpAny_pure h'))))
  | cons a r =>
    obtain ⟨b, x⟩ := a
    cases b with
    | true => cases hp
    | false => exact evalArgs_plain h
noncomputable def Keeps (G : Ctx) (P : Heap → Prop) (f : Value) : Prop := ∀ h, P h → ∃ k, (k = Keeper.frame ∨ k = Keeper.machine ∨ k = Keeper.boundFrame) ∧ Looks G.M h (keeperOf f) k
section
variable {G : Ctx} {n : Nat} {call : Call}
theorem callWith_evs {args : CE} {d : Den} (Hd : Sound G n args d) {A : Around} {E : Value → Shared → Prop} {env : Env} {ρ : List Addr} {loc : Loc} {σ : H} {s : Shared} {κ : List AV → H → Bool} {Q : Value → Shared → Prop} {f : Value} {first : List Value} {pos pos' : Pos}
    (P : Heap → Prop) (hk : Keeps G P f) (X : At G n A env ρ loc σ s.heap) (W : wfE args env.scope.names = true) (he : d.evs loc σ κ = true)
    (K : Then G (VsRel G.ν) ρ σ s κ (fun vs s₁ => P s₁.heap ∧ wpAny G.M A (PySem.call f (first ++ vs)) Q E s₁)) :
    wpAny G.M A (callWith pos' f first (backTo pos (starEach (toEs args) env)) []) Q E s :=
  callWith_of (by rw [starEach_plain]; rfl) hk (evalArgs_of (starEach_plain _ _ _) (Hd.evs X W he fun as σ' ρ' bs h' tk' a b c d e => K as σ' ρ' bs h' tk' a b c d e.1))
theorem keeps_fn {a : Addr} (h : fnIn G.K a = true) : Keeps G G.K.In (.ref a) := keeps_K (by
  unfold fnIn at h
  unfold keepIn
  dsimp only
  split at h
  · rename_i e; rw [e]
  · cases h)
theorem keeps_builtin (id : String) : Keeps G (fun _ => True) (.builtin id) := fun _ _ => ⟨.machine, .inr (.inl rfl), Looks.of_pure rfl⟩
theorem keeps_type (id : String) : Keeps G (fun _ => True) (.type id) := fun _ _ => ⟨.machine, .inr (.inl rfl), Looks.of_pure rfl⟩
theorem keeps_obj {q : Addr} {o : Obj} {fd : FuncData} (hd : o.data = .func fd) : Keeps G (fun h => h.get? q = some o) (.ref q) := fun h e => by
  obtain ⟨c, d, da, sl⟩ := o
  have hd : da = _ := hd
  subst hd
  exact ⟨.frame, .inl rfl, (Looks.ld (part := none) e).andThen .now⟩
theorem call_node (x : Nat) (q p : Pos) (args : List Expr) {A : Around} {E : Value → Shared → Prop} {env : Env} {s : Shared} {Q : Value → Shared → Prop} (h : wpAny G.M A (eval (.Name (strOf x) q) env) (fun f s₁ => wpAny G.M A (callWith p f [] (backTo p (starEach args env)) []) Q E s₁) E s) :
    wpAny G.M A (eval (.Call (.Name (strOf x) q) args [] p) env) Q E s := by
  rw [arm_eval_Call_Name']
  exact wpAny_bind h
theorem s_callF (O : G.Ok) (C : CallSound G n call) {args : CE} {d : Den} (Hd : Sound G (n + 1) args d) (x f q p : Nat) : Sound G (n + 1) (.callF x f args q p) (leaf (cCallF call f d)) :=
  have H : EvSound G (n + 1) (.callF x f args q p) (cCallF call f d) := fun {A E env ρ loc σ s κ Q} X W hk K => by
    obtain ⟨W1, W2⟩ := and_true W
    obtain ⟨hf, hk⟩ := rec_true hk
    have W1 : isGlob (env.scope.names.lookup (strOf x)) = true ∧ look fnNames x = some f := by
      cases hb : Nat.ble 100 f with
      | true =>
        have h1 := Nat.le_of_ble_eq_true hb
        have h2 := (blt_iff _ _).mp hf
        omega
      | false =>
        rw [hb, Bool.false_or] at W1
        obtain ⟨a, b⟩ := and_true W1
        exact ⟨a, by simpa using b⟩
    obtain ⟨a, h1, h2, h3⟩ := O.fnames _ _ W1.2
    show wpAny G.M A (eval (.Call (.Name (strOf x) (P q)) (toEs args) [] (P p)) env) Q E s
    refine call_node _ _ _ _ (name_glob O X W1.1 h3 (callWith_evs Hd G.K.In (keeps_fn h2) X W2 hk fun avs σ' ρ' vs h' tk' hk' hl R S r => ⟨R.in_ O, wpAny_call ?_⟩))
    exact C X.a.call h1 hk' R r (K.after hl S)
  .leaf rfl H (tst_value H fun _ _ => rfl)

/-! ### a class is called -/
theorem Step.adopt {ρ : List Addr} {lock : List Nat} {L : Addr → Prop} {h h' : Heap} {a : Addr} (ha : h.get? a = none) (kp : ∀ b o, h.get? b = some o → h'.get? b = some o) : Step ρ lock L h (ρ ++ [a]) h' :=
  ⟨⟨[a], rfl, fun b hb => by rw [List.mem_singleton.mp hb]; exact ha⟩, fun b o e => ⟨o, kp b o e⟩, fun b o e _ _ => kp b o e⟩
theorem made_true {o r : AV} {h : H} {κ : AV → H → Bool} (e : made o r h κ = true) : r = .none ∧ κ o h = true := by
  cases r <;> first | exact ⟨rfl, e⟩ | cases e
theorem s_callC (O : G.Ok) (C : CallSound G n call) {args : CE} {d : Den} (Hd : Sound G (n + 1) args d) (x c q p : Nat) : Sound G (n + 1) (.callC x c args q p) (leaf (cCallC G.tx call c d)) :=
  have H : EvSound G (n + 1) (.callC x c args q p) (cCallC G.tx call c d) := fun {A E env ρ loc σ s κ Q} X W hk K => by
    obtain ⟨W, W3⟩ := and_true W
    obtain ⟨W1, W2⟩ := and_true W
    have W2 : look clsNames x = some c := by simpa using W2
    obtain ⟨ca, h1, h2⟩ := O.cnames _ _ W2
    have CO := O.cls _ _ h1
    show wpAny G.M A (eval (.Call (.Name (strOf x) (P q)) (toEs args) [] (P p)) env) Q E s
    refine call_node _ _ _ _ (name_glob O X W1 h2 (callWith_evs Hd G.K.In (keeps_K CO.keep) X W3 hk fun avs σ' ρ' vs h' tk' hk' hl R S r => ⟨R.in_ O, wpAny_call ?_⟩))
    obtain ⟨z1, z2, hk'⟩ := new_true hk'
    obtain ⟨dl, e, hk'⟩ := asRef_true hk'
    cases e
    obtain ⟨z3, z4, hk'⟩ := new_true hk'
    obtain ⟨f, hf, hk'⟩ := onS_true hk'
    obtain ⟨fa, g1, g2, g3⟩ := CO.init _ hf
    have XK : G.K.In h' := R.in_ (s := { s with heap := h', toks := tk' }) O
    refine make_core (init := .ref fa) (makes_of XK CO.makes) (looks_findIn XK g2) (fun self => bind_fn XK self g3) (.inl rfl) ?_
    have kp : ∀ (h : Heap) (o1 : Obj) b o, h.get? b = some o → (h.push o1).get? b = some o := fun h o1 b o e => Heap.get?_push_of_some _ e
    have na : h'.objs.size ∉ ρ' := fun m => by obtain ⟨o, e⟩ := R.live _ m; rw [get_size] at e; cases e
    have R1 := (R.grow (kp h' emptyDict)).adopt (Heap.get?_push_size h' (o := emptyDict) rfl) na (ao := .dict []) ⟨[], 0, rfl, .nil, by simp⟩ z1 (fun _ => R.low O (Nat.le_refl _)) z2
    have S1 : Step ρ' σ'.lock none' h' (ρ' ++ [h'.objs.size]) (h'.push emptyDict) := Step.adopt (get_size _) (kp _ _)
    have sz : (h'.push emptyDict).objs.size = h'.objs.size + 1 := Heap.size_push ..
    have at0 : (ρ' ++ [h'.objs.size])[σ'.n]? = some h'.objs.size := by rw [R.n]; simp
    have na2 : (h'.push emptyDict).objs.size ∉ ρ' ++ [h'.objs.size] := fun m => by obtain ⟨o, e⟩ := R1.live _ m; rw [get_size] at e; cases e
    have R2 := (R1.grow (kp (h'.push emptyDict) (instObj ca h'.objs.size))).adopt (Heap.get?_push_size (h'.push emptyDict) (o := instObj ca h'.objs.size) rfl) na2 (ao := .inst c σ'.n) ⟨ca, h'.objs.size, h1, at0, rfl⟩ z3 (fun z => by cases z) z4
    have S2 : Step (ρ' ++ [h'.objs.size]) σ'.lock none' (h'.push emptyDict) ((ρ' ++ [h'.objs.size]) ++ [(h'.push emptyDict).objs.size]) ((h'.push emptyDict).push (instObj ca h'.objs.size)) := Step.adopt (get_size _) (kp _ _)
    have S12 := S1.trans S2
    have at1 : ((ρ' ++ [h'.objs.size]) ++ [(h'.push emptyDict).objs.size])[Nat.succ σ'.n]? = some (h'.objs.size + 1) := by
      rw [← sz, R.n]
      have : Nat.succ ρ'.length = (ρ' ++ [h'.objs.size]).length := by simp
      rw [this]; simp
    refine C X.a.creation g1 hk' R2 (.cons ⟨_, at1, rfl⟩ (S12.vrels r)) fun a σ3 ρ3 v h3 tk3 hk3 hl3 R3 S3 r3 => ?_
    obtain ⟨rfl, hk3⟩ := made_true hk3
    have r3 : v = .none := r3
    exact ⟨r3, (K.after (tk₁ := tk') hl S) _ σ3 ρ3 (.ref (h'.objs.size + 1)) h3 tk3 hk3 hl3 R3 (S12.trans S3) ⟨_, S3.at at1, rfl⟩⟩
  .leaf rfl H (tst_value H fun _ _ => rfl)
end
end Mine
end

section
open PySem PySem.W PyProof.Rows PySem.Calls PySem.Spec
set_option maxRecDepth 100000
set_option maxHeartbeats 1000000
namespace Mine
section
variable {G : Ctx} {n : Nat} {call : Call}
theorem lenC_eq (args : CE) : (toEs args).length = lenC args := by
  induction args with
  | cons a r _ ih => rw [toEs_cons, List.length_cons, ih]; rfl
  | _ => rfl
theorem form_true {args : CE} {env : Env} {pos : Pos} (h : lenC args < 30) : methodCallForm ((toEs args).length + 0) (backTo pos (starEach (toEs args) env)) [] = true := by
  unfold methodCallForm
  have h1 : (backTo pos (starEach (toEs args) env)).all (fun x => !x.1) = true := by
    have := starEach_plain args env pos
    rw [List.all_eq_not_any_not]
    simp only [Bool.not_not]
    rw [this]; rfl
  rw [h1, lenC_eq]
  simp only [List.all_nil, Bool.true_and, List.isEmpty_nil, if_true]
  exact decide_eq_true (by omega)
theorem method_node {e args : CE} (a q p : Nat) {A : Around} {E : Value → Shared → Prop} {env : Env} {s : Shared} {Q : Value → Shared → Prop} (h1 : lenC args < 30) (h2 : (P q).endLine = (P p).line)
    (h : wpAny G.M A (eval (toE e) env) (fun ov s₁ => ∀ pl, wpAny G.M A (getMethod ov (strOf a) pl) (fun fr s₂ => wpAny G.M A (callWith (P p) fr.1 fr.2 (backTo (P p) (starEach (toEs args) env)) []) Q E s₂) E s₁) E s) :
    wpAny G.M A (eval (.Call (.Attribute (toE e) (strOf a) (P q)) (toEs args) [] (P p)) env) Q E s := by
  rw [arm_eval_Call, attrBase]
  refine wpAny_bind (wpAny_mono h (fun ov s₁ h₁ => wpAny_bind (wpAny_standAt ?_)) fun _ _ x => x)
  show wpAny G.M A (methodCall (toE e) (strOf a) (P q) (P p) env ov ((toEs args).length + 0) (backTo (P p) (starEach (toEs args) env)) []) Q E s₁
  unfold methodCall
  rw [form_true h1]
  refine wpAny_bind (wpAny_holding ?_)
  unfold calleeOf
  simp only [if_true]
  refine wpAny_mono (h₁ _) (fun fr s₂ h₂ => ?_) fun _ _ x => x
  obtain ⟨f, first⟩ := fr
  have hp : methodCallPos true (toE e) env (P q) (P p) = pure (P p) := by
    unfold methodCallPos
    have : (!true || (P q).endLine == (P p).line) = true := by rw [h2]; simp
    rw [if_pos this]
  dsimp only
  rw [hp]
  exact wpAny_bind (wpAny_pure h₂)
/-- a lambda at hand is called -/
theorem lam_call (O : G.Ok) {A : Around} (hA : AOkC n A) {j : Nat} {av : AV} {a : Addr} {o : Obj} {ρ : List Addr} {σ : H} {s : Shared} {κ : AV → H → Bool} {R : Result → Shared → Prop} (Rl : Rel G ρ σ s.heap) (ho : s.heap.get? a = some o) (hL : LamObj s.heap j o) (hj : G.tx.lams.get j = some av) (hk : κ av σ = true)
    (K : Then G (VRel G.ν) ρ σ s κ (fun v s' => R (.ok (.ret v)) s')) : codeAny G.M A (.call (.ref a) ⟨[], []⟩) R s := by
  obtain ⟨fd, c, oc, vs, t, a1, a2, a3, a4, a5, a6, a7, a8, a9, b1, b2, b3, b4, b5, b6⟩ := hL
  have hb : PySem.bindArgs fd ⟨[], []⟩ = pure [] := by
    obtain ⟨f1, f2, f3, f4, f5, f6, f7, f8, f9, g1, g2, g3, g4, g5⟩ := fd
    simp only at a4 a7 a8
    subst a4 a7 a8
    rfl
  have sc : fd.scope.isCoroutine = false ∧ fd.scope.isGenerator = false ∧ fd.scope.kind = .function ∧ fd.scope.names = [] := by
    rw [a5]; cases j <;> exact ⟨rfl, rfl, rfl, rfl⟩
  have hroom : A.depth < recursionLimit := by have := hA.room; show _ < 1000; omega
  refine kla_callFunE hroom ho a1 sc.1 sc.2.1 a3 ⟨c, oc, vs, t, b2, b3, b5, b6⟩ ?_
  rw [hb]
  refine wpAny_pure (wpAny_newFunctionEnv (by rw [sc.2.2.2]; intro x hx; cases hx) (by intro x hx; cases hx) (fun h₀ hns hsb => ⟨(Rl.lim_ O).keeps fun b o e => ?_, kla_codeExpr ?_⟩) sc.2.2.1)
  · exact hsb.extBut b o (Nat.ne_of_lt (Heap.lt_size e)) (Heap.get?_push_of_some _ e)
  · have kp : ∀ b o, s.heap.get? b = some o → h₀.get? b = some o := fun b o e => hsb.extBut b o (Nat.ne_of_lt (Heap.lt_size e)) (Heap.get?_push_of_some _ e)
    rcases O.lams _ _ hj with ⟨rfl, rfl⟩ | ⟨rfl, rfl⟩
    · exact wpAny_Constant_bool (K.grown hk Rl kp rfl)
    · exact wpAny_Constant_int (K.grown hk Rl kp ⟨_, by rw [LI.val_const]⟩)
theorem own_at (O : G.Ok) {args : CE} {d : Den} (Hd : Sound G (n + 1) args d) {A : Around} {E : Value → Shared → Prop} {env : Env} {ρ : List Addr} {loc : Loc} {σ : H} {s : Shared} {κ : AV → H → Bool} {Q : Value → Shared → Prop} {q : Nat} {v : Value} {p : Pos}
    (X : At G (n + 1) A env ρ loc σ s.heap) (W : wfE args env.scope.names = true) (hv : VRel G.ν ρ (.ref q) v) (hk : ownCall G.tx q d loc σ κ = true) (K : Then G (VRel G.ν) ρ σ s κ Q) :
    wpAny G.M A (callWith p v [] (backTo p (starEach (toEs args) env)) []) Q E s := by
  obtain ⟨a, ha, rfl⟩ := hv
  refine callWith_evs Hd (fun h => ∃ o fd, h.get? a = some o ∧ o.data = .func fd) (fun h e => by obtain ⟨o, fd, e1, e2⟩ := e; exact keeps_obj e2 h e1) X W hk fun avs σ' ρ' vs h' tk' hk' hl R S r => ?_
  obtain ⟨rfl, hk'⟩ := nil0_true hk'
  cases r
  obtain ⟨ob, e1, hk'⟩ := at_true hk'
  cases ob with
  | lam j =>
    obtain ⟨av, e2, hk'⟩ := onS_true hk'
    obtain ⟨a', o, h1, h2, h3, _⟩ := R.obj _ _ e1
    rw [S.at ha] at h1; cases h1
    have h3' := h3
    obtain ⟨fd, _, _, _, _, g1, _⟩ := h3'
    exact ⟨⟨o, fd, h2, g1⟩, wpAny_call (lam_call O X.a.call (R := fun r s' => match r with | .ok (.ret v) => Q v s' | .ok _ => False | .error e => E e s') R h2 h3 e2 hk' (K.after hl S))⟩
  | _ => cases hk'
theorem getOr_true {o : Option AV} {h : H} {κ : AV → H → Bool} (e : getOr o h κ = true) : κ (o.getD .none) h = true := by
  cases o <;> exact e
theorem s_callM (O : G.Ok) (C : CallSound G n call) {e args : CE} {de d : Den} (He : Sound G (n + 1) e de) (Hd : Sound G (n + 1) args d) (a q p : Nat) : Sound G (n + 1) (.callM e a args q p) (leaf (cCallM G.tx call de a d)) :=
  have H : EvSound G (n + 1) (.callM e a args q p) (cCallM G.tx call de a d) := fun {A E env ρ loc σ s κ Q} X W hk K => by
    obtain ⟨W, W5⟩ := and_true W
    obtain ⟨W, W4⟩ := and_true W
    obtain ⟨W, W3⟩ := and_true W
    obtain ⟨W1, W2⟩ := and_true W
    show wpAny G.M A (eval (.Call (.Attribute (toE e) (strOf a) (P q)) (toEs args) [] (P p)) env) Q E s
    refine method_node _ _ _ ((blt_iff _ _).mp W4) (Nat.eq_of_beq_eq_true W5) (He.ev X W1 hk fun av σ' ρ' v h' tk' hk' hl R S r pl => ?_)
    have X' := X.step R S
    have K' := K.after (tk₁ := tk') hl S
    obtain ⟨l, rfl, hk'⟩ := asRef_true hk'
    obtain ⟨ob, e1, hk'⟩ := at_true hk'
    cases ob with
    | inst Cc dd =>
      obtain ⟨ms, e2, hk'⟩ := onS_true hk'
      cases e3 : look ms a with
      | some f =>
        rw [e3] at hk'
        obtain ⟨od, e4, hk'⟩ := at_true hk'
        obtain ⟨es, rfl, hk'⟩ := atDict_true hk'
        obtain ⟨e5, hk'⟩ := noneB_true hk'
        obtain ⟨x, c, dx, des, nn, h1, h2, h3, I, h4, h5, h6, h7⟩ := inst_at (s := { s with heap := h', toks := tk' }) R e1 e4
        obtain ⟨x', g1, rfl⟩ := r
        rw [h1] at g1; cases g1
        have CO := O.cls _ _ h3
        obtain ⟨fa, m1, m2, m3, m4⟩ := CO.meth _ _ _ e2 e3
        refine method_fn (R.in_ O) I CO.ga CO.gt m2 m3 (by show (lookIn _ (dictOf des nn)).map _ = _; rw [lookIn_dict, getL_none h4 e5]; rfl) ?_
        refine callWith_evs Hd G.K.In (keeps_fn m4) X' W3 hk' fun avs σ2 ρ2 vs h2 tk2 hk2 hl2 R2 S2 r2 => ⟨R2.in_ O, wpAny_call ?_⟩
        exact C X.a.call m1 hk2 R2 (.cons ⟨x, S2.at h1, rfl⟩ r2) (K'.after hl2 S2)
      | none =>
        rw [e3] at hk'
        obtain ⟨od, e4, hk'⟩ := at_true hk'
        obtain ⟨es, rfl, hk'⟩ := atDict_true hk'
        obtain ⟨av, e5, hk'⟩ := onS_true hk'
        obtain ⟨q, rfl, hk'⟩ := asRef_true hk'
        obtain ⟨x, c, dx, des, nn, h1, h2, h3, I, h4, h5, h6, h7⟩ := inst_at (s := { s with heap := h', toks := tk' }) R e1 e4
        obtain ⟨x', g1, rfl⟩ := r
        rw [h1] at g1; cases g1
        have CO := O.cls _ _ h3
        obtain ⟨v', m1, m2⟩ := getL_some h4 e5
        refine method_usual (R.in_ O) I CO.ga CO.gt (CO.none ms a e2 e3 W2) rfl ?_
        refine get_value (R.in_ O) I CO.ga (findObj_own CO.dict (CO.none ms a e2 e3 W2) rfl m1) m2.handed ?_
        exact own_at (s := { s with heap := h', toks := _ }) O Hd (X.step R S) W3 m2 hk' (K.after hl S)
    | list xs =>
      obtain ⟨hb, hk3⟩ := rec_true hk'
      obtain rfl : a = G.tx.nAppend := Nat.eq_of_beq_eq_true hb
      obtain ⟨x, vs, nn, h1, h2, h3, h4⟩ := list_at (s := { s with heap := h', toks := tk' }) R e1
      obtain ⟨x', g1, rfl⟩ := r
      rw [h1] at g1; cases g1
      rw [O.names.1]
      refine Calls.getMethod_list_append h2 rfl rfl ?_
      refine callWith_evs Hd (fun _ => True) (keeps_builtin _) X' W3 hk3 fun avs σ2 ρ2 ws h2 tk2 hk2 hl2 R2 S2 r2 => ⟨trivial, ?_⟩
      obtain ⟨w, rfl, hk2⟩ := one_true hk2
      obtain ⟨ob, e6, hk2⟩ := at_true hk2
      obtain ⟨xs2, rfl, hk2⟩ := atList_true hk2
      obtain ⟨hz, nl, hk2⟩ := set_true hk2
      cases r2 with
      | @cons _ wv _ _ r2 r3 =>
        cases r3
        obtain ⟨y, vs2, n2, q1, q2, q3, q4⟩ := list_at (s := { s with heap := h2, toks := tk2 }) R2 e6
        rw [S2.at h1] at q1; cases q1
        refine append_at (its := vs2.toArray) (n := n2) q2 (fun h3 hs ho' => ?_) (by rw [List.size_toArray, sizeLine_eq, ← q3.length]; omega)
        have hpush : (vs2.toArray.push wv) = (vs2 ++ [wv]).toArray := by simp
        rw [hpush] at ho'
        have R3 := R2.update (lk := σ2.lock) e6 (S2.at h1) rfl q2 list_nc hs.extBut ho' (ao' := .list (xs2 ++ [w])) ⟨vs2 ++ [wv], _, rfl, q3.append (.cons r2 .nil)⟩ hz
        exact (K'.after hl2 S2) _ _ ρ2 _ h3 tk2 hk2 rfl R3 (Step.turned R2 (S2.at h1) nl hs.extBut ⟨_, ho'⟩) rfl
    | dict es =>
      obtain ⟨hb, hk3⟩ := rec_true hk'
      obtain rfl : a = G.tx.nGet := Nat.eq_of_beq_eq_true hb
      obtain ⟨x, des, nn, h1, h2, h3, h4, h5⟩ := dict_at (s := { s with heap := h', toks := tk' }) R e1
      obtain ⟨x', g1, rfl⟩ := r
      rw [h1] at g1; cases g1
      rw [O.names.2.1]
      refine getMethod_builtin (T := "dict") ⟨_, h2, rfl⟩ F.plainAttrs_dict F.slot_dict_get F.type_dict_get (fun b e => by cases e; exact ⟨_, h2, rfl⟩) ?_
      refine callWith_evs Hd (fun _ => True) (keeps_builtin _) X' W3 hk3 fun avs σ2 ρ2 ws h2 tk2 hk2 hl2 R2 S2 r2 => ⟨trivial, ?_⟩
      obtain ⟨w, rfl, hk2⟩ := one_true hk2
      obtain ⟨ob, e6, hk2⟩ := at_true hk2
      obtain ⟨es2, rfl, hk2⟩ := atDict_true hk2
      obtain ⟨e7, hk2⟩ := rec_true hk2
      obtain ⟨k, rfl, hk2⟩ := asStr_true hk2
      have hk2 := getOr_true hk2
      cases r2 with
      | @cons _ wv _ _ r2 r3 =>
        cases r3
        obtain ⟨t, rfl⟩ := r2
        obtain ⟨y, des2, n2, q1, q2, q3, q4, q5⟩ := dict_at (s := { s with heap := h2, toks := tk2 }) R2 e6
        rw [S2.at h1] at q1; cases q1
        have hm := mapOf_str (prog := G.prog) q2 q3 e7
        have f := find_str q3 k
        refine call_meetsIn F.slot_dict_get ⟨_, q2, rfl⟩ F.entry_dict_get (F.args_dict_get_2 _ _) (meets_dict_get (strKind G.prog G.w) _ (strKind_is G.prog G.w _ t) (R2.notModules e6 rfl (S2.at h1))) ⟨_, hm, ?_⟩
        show Q ((findBy Value.isStrOf des2.toArray (strOf k)).getD .none) _
        cases q : findS es2 k with
        | some av =>
          rw [q] at f hk2
          obtain ⟨v, f1, f2⟩ := f
          rw [f1]
          exact (K'.after hl2 S2) _ σ2 ρ2 v h2 _ hk2 rfl R2 Step.refl f2
        | none =>
          rw [q] at f hk2
          rw [f]
          exact (K'.after hl2 S2) _ σ2 ρ2 .none h2 _ hk2 rfl R2 Step.refl rfl
    | _ => cases hk'
  .leaf rfl H (tst_value H fun _ _ => rfl)
end
end Mine
end

section
open PySem PySem.W PyProof.Rows PySem.Calls PySem.Spec
set_option maxRecDepth 100000
set_option maxHeartbeats 1000000
namespace Mine
/-! ## the built-ins -/
theorem anyT_sound {ν : List Int} {ρ : List Addr} {xs : List AV} {vs : List Value} (h : VsRel ν ρ xs vs) : ∀ {r : Bool}, anyT xs = some r → ∃ bs : List Bool, bs.any id = r ∧ bs.length = vs.length ∧ ∀ (i : Nat) (v : Value), vs[i]? = some v → ∃ b, bs[i]? = some b ∧ v = .bool b := by
  induction h with
  | nil => intro r h; cases h; exact ⟨[], rfl, rfl, by simp⟩
  | @cons a v xs vs hr _ ih =>
    intro r h
    cases a with
    | bool b =>
      have hr : v = .bool b := hr
      subst hr
      unfold anyT at h
      cases q : anyT xs with
      | none => rw [q] at h; cases h
      | some t =>
        rw [q] at h
        obtain ⟨bs, h1, h2, h3⟩ := ih q
        cases h
        refine ⟨b :: bs, ?_, by simp [h2], fun i v hv => ?_⟩
        · rw [List.any_cons, h1]; cases b <;> rfl
        · cases i with
          | zero => simp at hv; exact ⟨b, rfl, hv.symm⟩
          | succ i => simp at hv; exact h3 i v hv
    | _ => cases h
/-! ### dict(..) of a list of pairs -/
theorem keys_miss : typeLookup (.type "list") "keys" = pure none := am_miss_of_fast (by kernel_rfl)
theorem noKeys {prog : Program} {w : World} {A : Around} {E : Value → Shared → Prop} {s : Shared} {a : Addr} {xs : Array Value} {k : Nat} {Q : Option Value → Shared → Prop} (hx : s.heap.get? a = some (listOf xs k)) (hA : A.handled = none)
    (h : ∀ h' tk, (∀ b o, s.heap.get? b = some o → h'.get? b = some o) → Q none { s with heap := h', toks := tk }) : wpAny (model prog w) A (getAttr? (.ref a) "keys") Q E s := by
  obtain ⟨hp, g, d, tk, os⟩ := s
  have hT : ∀ tk', (⟨hp, g, d, tk', os⟩ : Shared).TypeIs (.ref a) "list" := fun _ => ⟨_, hx, rfl⟩
  have f1 := sub_AttributeError
  have f3 := F.slot_list_getattribute.lookup
  have f4 := F.slot_list_getattribute.bind (.ref a)
  have f5 := am_list_getattr_none
  unfold getAttr? getAttrBy? getAttrBy
  repeat (any_goals (first | assumption | exact hT _ | ((with_reducible show wpAny _ _ (PySem.call (Value.builtin "list.__getattribute__") _) _ _ _); refine call_meets F.slot_list_getattribute (hT _) am_entry_list_getattribute (F.args_list_getattribute_2 _ _) (meets_getattribute_miss_list a xs k _ "keys" _ keys_miss (by decide +kernel) (by decide +kernel)) ⟨hx, hA, fun h' tk' e hx' => ?_⟩) | wp_step))
  obtain ⟨t', u', he⟩ := hx'.there
  show wpAny _ _ (getattributeRaised _ _ _ _ _ _ _) _ _ _
  unfold getattributeRaised
  repeat (any_goals (first | assumption | wp_step))
  exact h _ _ hx'.keeps
theorem entry_upd : entryFor table "dict.update.loop" = some Builtin.«dict.update.loop» := entryFor_of_tree (by kernel_rfl)
theorem plain_upd : plainId "dict.update.loop" = true := by decide +kernel
theorem upd_loop {prog : Program} {w : World} {A : Around} {R : Result → Shared → Prop} {D I a : Addr} {h₀ : Heap} {vs : Array Value} {kvs : List (Str × Value)} (hh : A.handled = none)
    (hD : h₀.get? D = none) (hI : h₀.get? I = none) (hDI : D ≠ I) (hl : h₀.IsList a vs) (len : kvs.length = vs.size) (nd : (kvs.map (·.1)).Nodup) (l100 : kvs.length < 100)
    (hp : ∀ (i : Nat) p, kvs[i]? = some p → ∃ t tok, vs[i]? = some (.ref t) ∧ IsTup h₀ t #[.str p.1 tok, p.2]) {g : Array GenState} {d : Drawn} {os : OsState}
    (hR : ∀ h' tk', (∀ b o, h₀.get? b = some o → h'.get? b = some o) → h'.DictOf (strKind prog w) D kvs → R (.ok (.ret .none)) ⟨h', g, d, tk', os⟩) :
    ∀ (k i : Nat) (h : Heap) (tk : Nat) (u : Tok), vs.size - i = k → i ≤ vs.size → h.IsListIter I a i → (∀ b o, h₀.get? b = some o → h.get? b = some o) → h.DictOf (strKind prog w) D (kvs.take i) →
      codeAny (model prog w) A (.builtin "dict.update.loop" ⟨[.ref D, .ref I, .int i u, .none], []⟩) R ⟨h, g, d, tk, os⟩ := by
  intro k
  have ne : ∀ {b c : Addr} {o : Obj}, h₀.get? c = none → h₀.get? b = some o → b ≠ c := fun e1 e2 z => by rw [z, e1] at e2; cases e2
  have lst : ∀ {h : Heap}, (∀ b o, h₀.get? b = some o → h.get? b = some o) → h.IsList a vs := fun kp => by
    obtain ⟨o, h1, h2⟩ := hl
    exact ⟨o, kp _ _ h1, h2⟩
  induction k with
  | zero =>
    intro i h tk u hk hi hit kp hd
    have e : i = vs.size := by omega
    refine codeAny_builtin entry_upd ?_
    rw [Around.under_plainId plain_upd _]
    show wpAny _ A.in1 (pyNext (.ref I) >>= _) _ _ _
    refine wpAny_bind (wpAny_pyNext_list_end (A := A.in1) (s := ⟨h, g, d, tk, os⟩) (by simpa using hh) hit (lst kp) (by rw [e]; simp) fun h' he => ?_)
    show wpAny _ A.in1 (Builtin.Dict.addKeywords D [] >>= fun _ => ret Value.none) _ _ _
    refine wpAny_bind (wpAny_pure (wpAny_pure (hR h' tk (fun b o e => he b o (ne hI e) (kp b o e)) ?_)))
    rw [e, ← len, List.take_length] at hd
    exact hd.extBut he hDI
  | succ k ih =>
    intro i h tk u hk hi hit kp hd
    have hlt : i < kvs.length := by omega
    obtain ⟨p, hpi⟩ : ∃ p, kvs[i]? = some p := ⟨_, List.getElem?_eq_getElem hlt⟩
    obtain ⟨t, tok, hv, o, ho, hc, n, hd'⟩ := hp i p hpi
    refine codeAny_builtin entry_upd ?_
    rw [Around.under_plainId plain_upd _]
    show wpAny _ A.in1 (pyNext (.ref I) >>= _) _ _ _
    refine wpAny_bind (wpAny_pyNext_list_item (s := ⟨h, g, d, tk, os⟩) hit (lst kp) hv fun h₁ hit₁ hs₁ => ?_)
    have kp₁ : ∀ b o, h₀.get? b = some o → h₁.get? b = some o := fun b o e => hs₁.extBut b o (ne hI e) (kp b o e)
    have hd₁ : h₁.DictOf (strKind prog w) D (kvs.take i) := hd.extBut hs₁.extBut hDI
    show wpAny _ A.in1 (holding [Value.ref t] _ >>= _) _ _ _
    refine wpAny_bind (wpAny_holding (wpAny_bind ?_))
    refine wpAny_tryCatch (m := Builtin.Dict.pairItems (.ref t)) ?_
    unfold Builtin.Dict.pairItems
    refine wpAny_bind (wpAny_typeOf (T := "tuple") ⟨o, kp₁ _ _ ho, hc⟩ ?_)
    rw [if_pos (by decide)]
    refine wpAny_bind (wpAny_seqItems (kp₁ _ _ ho) hd' (wpAny_pure ?_))
    show wpAny _ A.in1 (holding [_, _] (dictSet D (.str p.1 tok) p.2)) _ _ _
    have fresh : stored (kvs.take i) p.1 p.2 = kvs.take (i + 1) := by
      rw [List.take_add_one, hpi]
      unfold stored
      rw [if_neg]
      · rfl
      · rw [List.any_eq_true]
        rintro ⟨q, hq, he⟩
        have he : q.1 = p.1 := of_decide_eq_true he
        obtain ⟨j, hj⟩ := List.mem_iff_getElem?.mp hq
        rw [List.getElem?_take] at hj
        split at hj
        · rename_i hji
          have h1 : (kvs.map (·.1))[j]? = some q.1 := by rw [List.getElem?_map, hj]; rfl
          have h2 : (kvs.map (·.1))[i]? = some q.1 := by rw [List.getElem?_map, hpi, he]; rfl
          have := (List.getElem?_inj (by rw [List.length_map]; omega) nd).mp (h1.trans h2.symm)
          omega
        · cases hj
    refine wpAny_holding (wpAny_dictSet_pairs (s := ⟨h₁, g, d, tk, os⟩) (knd := strKind prog w) (strKind_is prog w _ tok) hd₁ (fun h₂ hd₂ hs₂ => ?_) (by rw [sizeLine_eq, List.length_take]; omega))
    rw [fresh] at hd₂
    refine wpAny_pure ⟨plainId_quiet plain_upd _, ih (i + 1) h₂ _ _ (by omega) (by omega) ?_ (fun b o e => hs₂.extBut b o (ne hD e) (kp₁ b o e)) hd₂⟩
    exact Heap.IsListIter.extBut hit₁ hs₂.extBut (Ne.symm hDI)
theorem findS_none {x : Nat} : ∀ {es : List (AV × AV)}, findS es x = none → AV.str x ∉ es.map Prod.fst
  | [], _ => by simp
  | p :: r, h => by
    rw [findS_cons] at h
    split at h
    · cases h
    · rename_i q
      rw [List.map_cons, List.mem_cons]
      rintro (e | e)
      · exact q ((isS_eq _ _).mpr e.symm)
      · exact findS_none h e
theorem pairs_kvs {G : Ctx} {ρ : List Addr} {σ : H} {s : Shared} (R : Rel G ρ σ s.heap) {xs : List AV} {vs : List Value} (r : VsRel G.ν ρ xs vs) : ∀ {acc es : List (AV × AV)}, pairsOf σ xs acc = some es → (acc.map Prod.fst).Nodup →
    ∃ es' kvs, es = acc ++ es' ∧ (es.map Prod.fst).Nodup ∧ All2 (KV G.ν ρ krS) es' kvs ∧ kvs.length = vs.length ∧ ∀ (i : Nat) p, kvs[i]? = some p → ∃ t tok, vs[i]? = some (.ref t) ∧ IsTup s.heap t #[.str p.1 tok, p.2] := by
  induction r with
  | nil =>
    intro acc es h nd
    cases h
    exact ⟨[], [], by simp, nd, .nil, rfl, by simp⟩
  | @cons x v xs vs hr _ ih =>
    intro acc es h nd
    cases x with
    | ref l =>
      unfold pairsOf at h
      split at h
      · rename_i y z e
        split at h
        · rename_i hf
          obtain ⟨t, ws, ht, hi, hw, _⟩ := tup_at R e
          cases hw with
          | @cons _ k _ _ hk hw =>
            cases hw with
            | @cons _ x _ _ hx hw =>
              cases hw
              obtain ⟨tok, rfl⟩ := hk
              obtain ⟨t', ht', rfl⟩ := hr
              rw [ht] at ht'; cases ht'
              have fresh := findS_none hf
              obtain ⟨es', kvs, p1, p2, p3, p4, p5⟩ := ih h (by
                show ((acc ++ [(AV.str y, z)]).map Prod.fst).Nodup
                rw [List.map_append, List.nodup_append]
                refine ⟨nd, by simp, fun a ha b hb => ?_⟩
                have hb : b = .str y := by simpa using hb
                rintro rfl
                exact fresh (hb ▸ ha))
              refine ⟨(.str y, z) :: es', (strOf y, x) :: kvs, ?_, p2, .cons ⟨⟨y, rfl, rfl⟩, hx⟩ p3, by simp [p4], fun i p hp => ?_⟩
              · rw [p1]; show (acc ++ [(AV.str y, z)]) ++ es' = _; simp
              · cases i with
                | zero => simp at hp; subst hp; exact ⟨t, tok, rfl, hi⟩
                | succ i => simp at hp; simpa using p5 i p hp
        · cases h
      · cases h
    | _ => cases h
theorem dict_pairs {G : Ctx} {n : Nat} (O : G.Ok) {A : Around} {E : Value → Shared → Prop} {ρ : List Addr} {σ : H} {s : Shared} {κ : AV → H → Bool} {Q : Value → Shared → Prop} (hA : AOkC n A) (R : Rel G ρ σ s.heap) {l : Nat} {a : Addr} {xs : List AV} {es : List (AV × AV)}
    (e1 : σ.t.get l = some (.list xs)) (ha : ρ[l]? = some a) (hp : pairsOf σ xs [] = some es) (hk : σ.new (.dict es) κ = true) (K : Then G (VRel G.ν) ρ σ s κ Q) : wpAny G.M A (PySem.call (.type "dict") [.ref a]) Q E s := by
  obtain ⟨a', vs, n, h1, h2, h3, h4⟩ := list_at R e1
  rw [ha] at h1; cases h1
  have l1 := h3.length
  obtain ⟨es', kvs, p1, p2, p3, p4, p5⟩ := pairs_kvs R h3 hp (by simp)
  have p1 : es = es' := p1
  subst p1
  have nd := kvs_nodup krS_inj p3 p2
  refine callType_codes (Q₁ := fun obj s₁ => obj = .ref s.heap.objs.size ∧ s₁ = { s with heap := s.heap.push { cls := .type "dict", data := .dict #[] } }) F.kt_called_dict (F.kt_typeCall_dict_1 _) F.entry_dict_init (kt_code_dict_new _ ⟨rfl, rfl⟩) ?_
  rintro obj s₁ ⟨rfl, rfl⟩
  have hnew : (s.heap.push { cls := .type "dict", data := .dict #[] }).DictOf (strKind G.prog G.w) s.heap.objs.size [] := Heap.DictOf.new s.heap
  have h2' := Heap.get?_push_of_some { cls := .type "dict", data := .dict #[] } h2
  refine ⟨hnew.typeIs, F.args_dict_init_2 _ _, ?_⟩
  unfold Builtin.«dict.__init__»
  refine wpAny_bind ?_
  unfold Builtin.Dict.selfAndRest
  refine wpAny_bind (wpAny_notOrdered_dict hnew.typeIs ?_)
  show wpAny _ _ (pure (s.heap.objs.size, [Value.ref a])) _ _ _
  refine wpAny_pure ?_
  show wpAny _ _ (Builtin.Dict.updateFrom "dict.__init__" s.heap.objs.size (.ref a) [] .none) _ _ _
  unfold Builtin.Dict.updateFrom
  refine wpAny_bind (wpAny_typeOf (T := "list") ⟨_, h2', rfl⟩ ?_)
  rw [if_pos (by decide)]
  refine wpAny_bind (noKeys h2' (by simpa using hA.hd) fun h₁ tk k₁ => ?_)
  rw [if_pos (by rfl)]
  refine wpAny_bind (wpAny_rule ?_)
  have l₁ : h₁.IsList a vs.toArray := ⟨_, k₁ _ _ h2', rfl, n, rfl⟩
  have lt : s.heap.objs.size < h₁.objs.size := Heap.lt_size (k₁ _ _ (Heap.get?_push_size _ rfl))
  have up : ∀ b o, s.heap.get? b = some o → h₁.get? b = some o := fun b o e => k₁ _ _ (Heap.get?_push_of_some _ e)
  refine wpAny_bind (wpAny_pyIter_list (s := ⟨h₁, s.gens, s.drawn, tk, s.os⟩) l₁ ?_)
  have hd₁ : h₁.DictOf (strKind G.prog G.w) s.heap.objs.size [] := by
    obtain ⟨o, ds, ep, q1, q2⟩ := hnew
    exact ⟨o, ds, ep, k₁ _ _ q1, q2⟩
  have nI : s.heap.get? h₁.objs.size = none := by
    cases q : s.heap.get? h₁.objs.size with
    | none => rfl
    | some o => exact absurd (Heap.lt_size q) (Nat.not_lt.mpr (Nat.le_of_lt lt))
  refine wpAny_pure ⟨plainId_quiet plain_upd _, ?_⟩
  refine upd_loop (A := A.in1) (vs := vs.toArray) (kvs := kvs) (D := s.heap.objs.size) (I := h₁.objs.size) (a := a) (by simpa using hA.hd) (get_size _) nI (Nat.ne_of_lt lt) (isList_of h2)
    (by simpa using p4) nd (by omega) (fun i p e => by simpa using p5 i p e) (fun h' tk' kp hd => ?_) (vs.toArray.size - 0) 0 _ _ _ rfl (Nat.zero_le _) ⟨_, Heap.get?_push_size _ rfl, rfl, rfl⟩ (fun b o e => Heap.get?_push_of_some _ (up b o e)) (hd₁.push _)
  refine ⟨rfl, ?_⟩
  obtain ⟨des, ep, q1, q2⟩ := dictOf_rel (ν := G.ν) (ρ := ρ) hd p3
  exact K.made (ao := .dict es) (tk := tk') R hk (get_size _) (R.low O (Nat.le_refl _)) kp q1 ⟨des, ep, rfl, q2, p2⟩
section
variable {G : Ctx} {n : Nat} {call : Call}
theorem bi_sound (O : G.Ok) {A : Around} {E : Value → Shared → Prop} {ρ : List Addr} {σ : H} {s : Shared} {κ : AV → H → Bool} {Q : Value → Shared → Prop} {b : Nat} {avs : List AV} {vs : List Value} (hb : b < 4) (hA : AOkC n A) (R : Rel G ρ σ s.heap) (r : VsRel G.ν ρ avs vs)
    (hk : builtin G.tx.bs b avs σ κ = true) (K : Then G (VRel G.ν) ρ σ s κ Q) : wpAny G.M A (PySem.call (biVal b) vs) Q E s := by
  have one : ∀ l, avs = [.ref l] → (σ.at l fun ob => atList ob fun xs => bi1 b xs σ κ) = true → wpAny G.M A (PySem.call (biVal b) vs) Q E s := fun l e hk => by
    subst e
    cases r with
    | @cons _ v _ _ r1 r2 =>
    cases r2
    obtain ⟨a, ha, rfl⟩ := r1
    obtain ⟨ob, e1, hk⟩ := at_true hk
    obtain ⟨xs, rfl, hk⟩ := atList_true hk
    obtain ⟨a', vs, nn, h1, h2, h3, h4⟩ := list_at R e1
    rw [ha] at h1; cases h1
    have l1 := h3.length
    match b, hb with
    | 0, _ =>
      refine Calls.call_len_list (isList_of h2) (by rw [List.size_toArray]; omega) ?_
      have hk : κ (.int (.mk (.ofNat xs.length) [])) σ = true := hk
      exact K.now hk R ⟨_, by rw [LI.val_const, List.size_toArray, ← l1]; rfl⟩
    | 1, _ =>
      obtain ⟨t, hr, hk⟩ := onS_true hk
      obtain ⟨bs, b1, b2, b3⟩ := anyT_sound h3 hr
      have hl := isList_of h2
      have hlt : a < s.heap.objs.size := Heap.lt_size h2
      show wpAny G.M A (PySem.call (.builtin "any") [.ref a]) Q E s
      refine call_any_walk (wpAny_pyIter_list hl ?_)
      refine ⟨s.heap.objs.size, [s.heap.objs.size, a], [s.heap.objs.size], vs.toArray.size, _, _, fun i => (bs[i]?).getD false, rfl, Walks.list (A := A.in1) hA.hd _ a (Nat.ne_of_lt hlt) vs.toArray,
        ⟨⟨_, Heap.get?_push_size _ rfl, rfl, rfl⟩, hl.push _⟩, fun i v s' Q' E' hP hQ => ?_, fun h' tk hk' => ?_⟩
      · obtain ⟨b, e, rfl⟩ := b3 i v (by simpa using hP)
        simp only [e, Option.getD_some] at hQ
        exact wpAny_truthy_bool hQ
      · have e : ((List.range vs.toArray.size).any fun i => (bs[i]?).getD false) = bs.any id := by
          rw [List.size_toArray, ← b2]; exact LSm.range_any bs
        rw [e, b1]
        exact K.grown hk R (LSm.kept_iter hk') rfl
    | 2, _ =>
      obtain ⟨es, hr, hk⟩ := onS_true hk
      exact dict_pairs O hA R e1 ha hr hk K
    | 3, _ => cases hk
  have two : ∀ x y, avs = [.int x, .int y] → b = 3 → (onS (y.lt G.tx.bs x) fun r => Bool.rec (κ (.int y) σ) (κ (.int x) σ) r) = true → wpAny G.M A (PySem.call (biVal b) vs) Q E s := fun x y e hb3 hk => by
    subst e hb3
    cases r with
    | @cons _ v _ _ r1 r2 =>
    cases r2 with
    | @cons _ w _ _ r2 r3 =>
    cases r3
    obtain ⟨t, rfl⟩ := r1
    obtain ⟨u, rfl⟩ := r2
    obtain ⟨z, hr, hk⟩ := onS_true hk
    have e := LI.lt_sound O.bnd hr
    show wpAny G.M A (PySem.call (.builtin "max") [_, _]) Q E s
    refine max_two_ints hA.hd fun h' tk kp => ?_
    cases z with
    | true =>
      have lt : y.val G.ν < x.val G.ν := of_decide_eq_true e.symm
      rw [if_neg (by omega)]
      exact K.grown hk R kp ⟨t, rfl⟩
    | false =>
      have nlt : ¬ y.val G.ν < x.val G.ν := of_decide_eq_false e.symm
      by_cases q : y.val G.ν > x.val G.ν
      · rw [if_pos q]; exact K.grown hk R kp ⟨u, rfl⟩
      · rw [if_neg q]
        have : x.val G.ν = y.val G.ν := by omega
        exact K.grown hk R kp ⟨t, by rw [this]⟩
  unfold builtin at hk
  split at hk
  · exact one _ rfl hk
  · split at hk
    · exact two _ _ rfl rfl hk
    · cases hk
  · cases hk
theorem s_callB (O : G.Ok) {args : CE} {d : Den} (Hd : Sound G (n + 1) args d) (x b q p : Nat) : Sound G (n + 1) (.callB x b args q p) (leaf (cCallB G.tx b d)) :=
  have H : EvSound G (n + 1) (.callB x b args q p) (cCallB G.tx b d) := fun {A E env ρ loc σ s κ Q} X W hk K => by
    obtain ⟨W1, W2⟩ := and_true W
    obtain ⟨hf, hk⟩ := rec_true hk
    have hf := (blt_iff _ _).mp hf
    have W1 : isGlob (env.scope.names.lookup (strOf x)) = true ∧ look biNames x = some b := by
      cases hb : Nat.ble 4 b with
      | true =>
        have h1 := Nat.le_of_ble_eq_true hb
        omega
      | false =>
        rw [hb, Bool.false_or] at W1
        obtain ⟨a, b⟩ := and_true W1
        exact ⟨a, by simpa using b⟩
    obtain ⟨h1, h2⟩ := O.bnames _ _ W1.2
    have keeper : Keeps G (fun _ => True) (biVal b) := by
      match b, hf with
      | 0, _ => exact keeps_builtin _
      | 1, _ => exact keeps_builtin _
      | 2, _ => exact keeps_type _
      | 3, _ => exact keeps_builtin _
    show wpAny G.M A (eval (.Call (.Name (strOf x) (P q)) (toEs args) [] (P p)) env) Q E s
    refine call_node _ _ _ _ (name_bi O X W1.1 h1 h2 (callWith_evs Hd (fun _ => True) keeper X W2 hk fun avs σ' ρ' vs h' tk' hk' hl R S r => ⟨trivial, ?_⟩))
    exact bi_sound O hf X.a.call R r hk' (K.after hl S)
  .leaf rfl H (tst_value H fun _ _ => rfl)
end
end Mine
end

section
open PySem PySem.W PyProof.Rows PySem.Calls PySem.Spec
set_option maxRecDepth 100000
set_option maxHeartbeats 1000000
namespace Mine
/-! ## comprehensions: the block's frame -/
theorem lookup_mem {l : List (Str × NameKind)} {y : Str} {k : NameKind} (h : l.lookup y = some k) : (y, k) ∈ l := by
  induction l with
  | nil => cases h
  | cons p r ih =>
    obtain ⟨n, q⟩ := p
    rw [List.lookup_cons] at h
    cases e : y == n with
    | true => rw [e] at h; cases h; rw [eq_of_beq e]; exact .head _
    | false => rw [e] at h; exact .tail _ (ih h)
theorem lookup_memA {l : List (Str × Addr)} {y : Str} {k : Addr} (h : l.lookup y = some k) : (y, k) ∈ l := by
  induction l with
  | nil => cases h
  | cons p r ih =>
    obtain ⟨n, q⟩ := p
    rw [List.lookup_cons] at h
    cases e : y == n with
    | true => rw [e] at h; cases h; rw [eq_of_beq e]; exact .head _
    | false => rw [e] at h; exact .tail _ (ih h)
theorem mem_lookupA {l : List (Str × Addr)} {y : Str} {k : Addr} (h : (y, k) ∈ l) : (l.lookup y).isSome = true := by
  induction l with
  | nil => cases h
  | cons p r ih =>
    obtain ⟨n, q⟩ := p
    rw [List.lookup_cons]
    cases e : y == n with
    | true => rfl
    | false =>
      rcases List.mem_cons.mp h with h | h
      · cases h; rw [beq_self_eq_true] at e; cases e
      · exact ih h
theorem relabel_names {scope : Scope} {env : Env} (hk : env.scope.kind = .function) : (relabel scope env).names = relN env.scope.names scope.names := by
  unfold relabel relN
  simp only
  congr 1
  funext p
  obtain ⟨n, k⟩ := p
  rw [hk]
  cases k <;> try rfl
  show (if (NameKind.free == NameKind.free && ScopeKind.function == ScopeKind.function && env.kindOf n == some .cell) = true then _ else _) = _
  have e : env.kindOf n = env.scope.names.lookup n := rfl
  rw [e]
  cases q : env.scope.names.lookup n with
  | none => simp [isCell, q]
  | some k => cases k <;> simp [isCell, q]
structure ScFacts (env : Env) (scope : Scope) (x : Nat) : Prop where
  kind : scope.kind = .function
  xl : scope.names.lookup (strOf x) = some .local
  shake : isLocal (scope.names.lookup (strOf 3)) = false
  loc : ∀ p ∈ scope.names, p.2 = .local → (p.1 = strOf x ∨ p.1 = ".0") ∧ scope.names.lookup p.1 = some .local
  free : ∀ p ∈ scope.names, p.2 = .free → env.scope.names.lookup p.1 = some .cell
  cell : ∀ p ∈ scope.names, p.2 ≠ .cell
theorem ScFacts.of {env : Env} {scope : Scope} {x : Nat} (h : scOk env.scope.names scope x = true) : ScFacts env scope x := by
  unfold scOk at h
  obtain ⟨h, h4⟩ := and_true h
  obtain ⟨h, h3⟩ := and_true h
  obtain ⟨h1, h2⟩ := and_true h
  have h4 := List.all_eq_true.mp h4
  refine ⟨?_, isLocal_eq h2, ?_, fun p hp e => ?_, fun p hp e => ?_, fun p hp e => ?_⟩
  · cases q : scope.kind <;> rw [q] at h1 <;> first | rfl | cases h1
  · cases q : isLocal (scope.names.lookup (strOf 3)) with
    | true => rw [q] at h3; cases h3
    | false => rfl
  · have := h4 p hp
    rw [e] at this
    obtain ⟨a, b⟩ := and_true this
    refine ⟨?_, isLocal_eq b⟩
    simpa using a
  · have := h4 p hp
    rw [e] at this
    exact isCell_eq this
  · have := h4 p hp
    rw [e] at this
    cases this
theorem relN_mem {ns names : List (Str × NameKind)} {y : Str} {k : NameKind} (h : (relN ns names).lookup y = some k) : (∃ p ∈ names, p.1 = y ∧ p.2 = .free ∧ k = .cell) ∨ (y, k) ∈ names := by
  have h := lookup_mem h
  obtain ⟨p, hp, e⟩ := List.mem_map.mp h
  obtain ⟨n, q⟩ := p
  cases q with
  | free =>
    dsimp only at e
    cases z : isCell (ns.lookup n) with
    | true => rw [z] at e; cases e; exact .inl ⟨_, hp, rfl, rfl, rfl⟩
    | false => rw [z] at e; cases e; exact .inr hp
  | _ => cases e; exact .inr hp
/-- the cells that a block takes along -/
theorem clos_of {env : Env} : ∀ (names : List (Str × NameKind)) (acc : List (Str × Addr)), (∀ p ∈ names, p.2 = .free → (env.cells.lookup p.1).isSome = true) → (∀ q ∈ acc, env.cells.lookup q.1 = some q.2) →
    ∃ cl, (forIn names acc fun (x : Str × NameKind) (cs : List (Str × Addr)) => (if (x.2 == NameKind.free) = true then do let c ← cellOf env x.1; pure (ForInStep.yield ((x.1, c) :: cs)) else pure (ForInStep.yield cs) : Sem (ForInStep (List (Str × Addr))))) = (pure cl : Sem (List (Str × Addr))) ∧
      (∀ q ∈ cl, env.cells.lookup q.1 = some q.2) ∧ (∀ q ∈ acc, q ∈ cl) ∧ ∀ p ∈ names, p.2 = .free → ∃ c, (p.1, c) ∈ cl
  | [], acc, _, ha => ⟨acc, rfl, ha, fun _ h => h, by simp⟩
  | (n, k) :: r, acc, hn, ha => by
    have hr : ∀ p ∈ r, p.2 = .free → (env.cells.lookup p.1).isSome = true := fun p hp => hn p (.tail _ hp)
    by_cases hk : k = .free
    · subst hk
      obtain ⟨c, hc⟩ := Option.isSome_iff_exists.mp (hn (n, .free) (.head _) rfl)
      have hc : env.cells.lookup n = some c := hc
      obtain ⟨cl, e, h1, h2, h3⟩ := clos_of r ((n, c) :: acc) hr (fun q hq => by
        rcases List.mem_cons.mp hq with rfl | hq
        · exact hc
        · exact ha q hq)
      refine ⟨cl, ?_, h1, fun q hq => h2 q (.tail _ hq), fun p hp e' => ?_⟩
      · rw [List.forIn_cons]
        simp only [beq_self_eq_true, if_true]
        have : cellOf env n = pure c := by unfold cellOf; rw [hc]
        rw [this, pure_bind, pure_bind]
        exact e
      · rcases List.mem_cons.mp hp with rfl | hp
        · exact ⟨c, h2 _ (.head _)⟩
        · exact h3 p hp e'
    · obtain ⟨cl, e, h1, h2, h3⟩ := clos_of r acc hr ha
      refine ⟨cl, ?_, h1, h2, fun p hp e' => ?_⟩
      · rw [List.forIn_cons]
        have : (k == NameKind.free) = false := by simpa using hk
        simp only [this, Bool.false_eq_true, if_false]
        rw [pure_bind]
        exact e
      · rcases List.mem_cons.mp hp with rfl | hp
        · exact absurd e' hk
        · exact h3 p hp e'
structure ClFacts (env : Env) (scope : Scope) (cl : List (Str × Addr)) : Prop where
  eq : closureFor scope env = pure cl
  back : ∀ y c, cl.lookup y = some c → env.cells.lookup y = some c
  has : ∀ p ∈ scope.names, p.2 = .free → (cl.lookup p.1).isSome = true
section
variable {G : Ctx} {n : Nat}
theorem cl_facts {ρ : List Addr} {env : Env} {h : Heap} {scope : Scope} {x : Nat} (F : FrE G ρ env h) (S : ScFacts env scope x) : ∃ cl, ClFacts env scope cl := by
  obtain ⟨cl, e, h1, _, h3⟩ := clos_of (env := env) scope.names [] (fun p hp e => F.cells p.1 (by rw [S.free p hp e]; rfl)) (by simp)
  refine ⟨cl, ?_, fun y c hy => h1 _ (lookup_memA hy), fun p hp e => ?_⟩
  · unfold closureFor
    simp only
    rw [bind_pure]
    exact e
  · obtain ⟨c, hc⟩ := h3 p hp e
    exact mem_lookupA hc
theorem cenv_at {A : Around} {env : Env} {ρ : List Addr} {loc : Loc} {σ : H} {h : Heap} {scope : Scope} {x : Nat} {cl : List (Str × Addr)} {C : Addr} {m : Str → Option Value} {v : Value} {av : AV} (X : At G n A env ρ loc σ h) (S : ScFacts env scope x) (CL : ClFacts env scope cl)
    (hn : h.Ns C m) (hC : C ∉ ρ) (hC0 : G.h₀.get? C = none) (hm : m (strOf x) = some v) (hv : VRel G.ν ρ av v) : At G n A (compEnvC scope cl C env) ρ ((x, av) :: loc) σ h := by
  have rn : (compEnvC scope cl C env).scope.names = relN env.scope.names scope.names := relabel_names X.f.kind
  refine ⟨X.a, ⟨S.kind, X.f.glob, X.f.bi, ⟨m, hn⟩, hC, hC0, fun e => ?_, fun y e => ?_, fun y c hc => ?_, fun y z c h1 h2 => X.f.apart y z c (CL.back _ _ h1) (CL.back _ _ h2)⟩, fun k av' hk hi => ?_, X.r⟩
  · rw [rn] at e
    have e := isLocal_eq e
    rcases relN_mem e with ⟨p, _, _, _, q⟩ | e
    · cases q
    · obtain ⟨h1, h2⟩ := S.loc _ e rfl
      have := S.shake
      rw [h2] at this; cases this
  · rw [rn] at e
    have e := isCell_eq e
    rcases relN_mem e with ⟨p, hp, rfl, q, _⟩ | e
    · exact CL.has p hp q
    · exact absurd rfl (S.cell _ e)
  · obtain ⟨⟨v', oc, e1, e2⟩, c1, c2, c3⟩ := X.f.cell y c (CL.back y c hc)
    refine ⟨⟨v', oc, e1, e2⟩, c1, fun q => ?_, c3⟩
    obtain ⟨o', es, ep, e3, e4, _⟩ := hn
    have q : c = C := q
    rw [q, e3] at e1; cases e1
    rw [e4] at e2; cases e2
  · have hk : (if x = k then some av else look loc k) = some av' := by rw [← hk]; show _ = ifB (Nat.beq x k) (some av) (look loc k); rw [T.ifB_eq]
    rw [rn] at hi
    by_cases q : x = k
    · subst q
      rw [if_pos rfl] at hk
      cases hk
      exact ⟨v, hv, .inl ⟨lookup_relabel_local S.xl, m, hn, hm⟩⟩
    · rw [if_neg q] at hk
      cases z : (relN env.scope.names scope.names).lookup (strOf k) with
      | none => rw [z] at hi; cases hi
      | some kd =>
        have kdc : ∃ p ∈ scope.names, p.1 = strOf k ∧ p.2 = .free ∧ kd = .cell := by
          rcases relN_mem z with h | h
          · exact h
          · exfalso
            cases kd with
            | «local» =>
              obtain ⟨h1, _⟩ := S.loc _ h rfl
              rcases h1 with h1 | h1
              · exact q (strOf_inj h1).symm
              · have := no_dot0 k
                rw [beq_eq_false_iff_ne] at this
                exact this h1
            | cell => exact S.cell _ h rfl
            | free =>
              have hf := S.free _ h rfl
              have : (relN env.scope.names scope.names).lookup (strOf k) = some .free := z
              have hm := lookup_mem this
              obtain ⟨p, hp, e⟩ := List.mem_map.mp hm
              obtain ⟨n', k'⟩ := p
              cases k' with
              | free =>
                dsimp only at e
                have hf' := S.free _ hp rfl
                have hf' : env.scope.names.lookup n' = some .cell := hf'
                rw [hf'] at e
                cases e
              | _ => cases e
            | _ => rw [z] at hi; cases hi
        obtain ⟨p, hp, hp1, hp2, rfl⟩ := kdc
        have hf := S.free p hp hp2
        rw [hp1] at hf
        obtain ⟨w, hw, hN⟩ := X.l k av' hk (by rw [hf]; rfl)
        refine ⟨w, hw, ?_⟩
        rcases hN with ⟨h1, _⟩ | ⟨h1, c, h2, h3, h4, h5⟩
        · have h1 : env.scope.names.lookup (strOf k) = some .local := h1
          rw [hf] at h1; cases h1
        · refine .inr ⟨.inl (by show (relabel scope env).names.lookup _ = _; rw [relabel_names X.f.kind]; exact z), c, ?_, h3, h4, fun q => ?_⟩
          · obtain ⟨c', hc'⟩ := Option.isSome_iff_exists.mp (CL.has p hp hp2)
            have := CL.back _ _ hc'
            rw [hp1] at this hc'
            rw [h2] at this; cases this
            exact hc'
          · obtain ⟨o, e1, e2⟩ := h3
            obtain ⟨o', es, ep, e3, e4, _⟩ := hn
            have q : c = C := q
            rw [q, e3] at e1; cases e1
            rw [e4] at e2; cases e2
end
end Mine
end

section
open PySem PySem.W PyProof.Rows PySem.Calls PySem.Spec
set_option maxRecDepth 100000
set_option maxHeartbeats 1000000
namespace Mine
/-! ## iterators -/
noncomputable def IterOk (G : Ctx) (A : Around) (ρ : List Addr) (I ax : Addr) (xs : List AV) (h : Heap) : Prop :=
  ∃ P St, Walks G.prog G.w A I [I, ax] [I] xs.length P St ∧ St 0 h ∧ (∀ i v, P i v → ∃ av, xs[i]? = some av ∧ VRel G.ν ρ av v) ∧ ∀ i h, St i h → ∃ o, h.get? I = some o ∧ ¬ isCodeO o
theorem noCode {c : Value} {o : Obj} (h : o.cls = c) (hc : c ≠ .type "code") : ¬ isCodeO o := fun z => hc (h.symm.trans z.1)
theorem noCode_dict {o : Obj} {es : Array DictEntry} {n : Nat} (h : o.data = .dict es n) : ¬ isCodeO o := fun z => by obtain ⟨_, vs, e⟩ := z; rw [h] at e; cases e
theorem keysOf_eq (es : List (AV × AV)) : keysOf es = es.map Prod.fst := by
  induction es with
  | nil => rfl
  | cons p r ih => show p.1 :: keysOf r = _; rw [ih]; rfl
theorem valsOf_eq (es : List (AV × AV)) : valsOf es = es.map Prod.snd := by
  induction es with
  | nil => rfl
  | cons p r ih => show p.2 :: valsOf r = _; rw [ih]; rfl
section
variable {G : Ctx} {n : Nat}
theorem iter_list {A : Around} {ρ : List Addr} {I ax : Addr} {xs : List AV} {vs : List Value} {h : Heap} (hh : A.handled = none) (hne : ax ≠ I) (r : VsRel G.ν ρ xs vs) (hi : h.IsListIter I ax 0) (hl : h.IsList ax vs.toArray) : IterOk G A ρ I ax xs h := by
  have W := Walks.list (prog := G.prog) (w := G.w) (A := A) hh I ax hne vs.toArray
  rw [List.size_toArray, ← r.length] at W
  refine ⟨_, _, W, ⟨hi, hl⟩, fun i v hv => ?_, fun i h st => ?_⟩
  · have hv : vs[i]? = some v := by simpa using hv
    have hi : i < xs.length := by rw [r.length]; exact (List.getElem?_eq_some_iff.mp hv).1
    obtain ⟨w, h1, h2⟩ := r.get (List.getElem?_eq_getElem hi)
    rw [hv] at h1; cases h1
    exact ⟨_, List.getElem?_eq_getElem hi, h2⟩
  · obtain ⟨o, h1, h2, _⟩ := st.1
    exact ⟨o, h1, noCode h2 (by decide)⟩
theorem iter_tuple {A : Around} {ρ : List Addr} {I ax : Addr} {xs : List AV} {vs : List Value} {h : Heap} (hh : A.handled = none) (hne : ax ≠ I) (r : VsRel G.ν ρ xs vs) (hi : h.IsTupleIter I ax 0) (hl : h.IsTuple ax vs.toArray) : IterOk G A ρ I ax xs h := by
  have W := Walks.tuple (prog := G.prog) (w := G.w) (A := A) hh I ax hne vs.toArray
  rw [List.size_toArray, ← r.length] at W
  refine ⟨_, _, W, ⟨hi, hl⟩, fun i v hv => ?_, fun i h st => ?_⟩
  · have hv : vs[i]? = some v := by simpa using hv
    have hi : i < xs.length := by rw [r.length]; exact (List.getElem?_eq_some_iff.mp hv).1
    obtain ⟨w, h1, h2⟩ := r.get (List.getElem?_eq_getElem hi)
    rw [hv] at h1; cases h1
    exact ⟨_, List.getElem?_eq_getElem hi, h2⟩
  · obtain ⟨o, h1, h2, _⟩ := st.1
    exact ⟨o, h1, noCode h2 (by decide)⟩
theorem All2.getR {α β : Type} {R : α → β → Prop} {as : List α} {bs : List β} (h : All2 R as bs) {i : Nat} {b : β} (e : bs[i]? = some b) : ∃ a, as[i]? = some a ∧ R a b := by
  have hi : i < as.length := by rw [h.length]; exact (List.getElem?_eq_some_iff.mp e).1
  obtain ⟨w, h1, h2⟩ := h.get (List.getElem?_eq_getElem hi)
  rw [e] at h1; cases h1
  exact ⟨_, List.getElem?_eq_getElem hi, h2⟩
theorem dictAt_str {prog : Program} {w : World} {ν : List Int} {ρ : List Addr} {h : Heap} {a : Addr} {des : List DictEntry} {ep : Nat} {es : List (AV × AV)} (e : h.get? a = some (dictOf des ep)) (r : All2 (EntRel w ν ρ) es des) (hn : (es.map Prod.fst).Nodup) (hs : allS es = true) :
    ∃ kvs, h.DictAt (strKind prog w) a kvs ep ∧ All2 (KV ν ρ krS) es kvs := by
  obtain ⟨kvs, p1, p2, p3⟩ := toKvs (prog := prog) (knd := strKind prog w) (kr := krS) r fun p hp => by
    obtain ⟨x, hx⟩ := allS_all hs p hp
    refine ⟨strOf x, ⟨x, hx, rfl⟩, fun e he => ?_⟩
    rw [hx] at he
    obtain ⟨t, k1, k2⟩ := he
    exact ⟨by rw [k1]; exact strKind_is prog w _ t, k2⟩
  exact ⟨kvs, ⟨_, _, e, ⟨rfl, rfl, rfl⟩, rfl, fun e he => p3 e (by simpa using he), p1, kvs_nodup krS_inj p2 hn⟩, p2⟩
theorem allI_all {es : List (AV × AV)} (h : allI es = true) : ∀ p ∈ es, ∃ i, p.1 = .int (.mk i []) := by
  induction es with
  | nil => simp
  | cons p r ih =>
    obtain ⟨k, v⟩ := p
    cases k with
    | int li =>
      obtain ⟨c, ks⟩ := li
      cases ks with
      | nil =>
        intro q hq
        rcases List.mem_cons.mp hq with rfl | hq
        · exact ⟨c, rfl⟩
        · exact ih h q hq
      | cons => cases h
    | _ => cases h
theorem dictAt_int {prog : Program} {w : World} {ν : List Int} {ρ : List Addr} {h : Heap} {a : Addr} {des : List DictEntry} {ep : Nat} {es : List (AV × AV)} (e : h.get? a = some (dictOf des ep)) (r : All2 (EntRel w ν ρ) es des) (hn : (es.map Prod.fst).Nodup) (hs : allI es = true) :
    ∃ kvs, h.DictAt (intKind prog w) a kvs ep ∧ All2 (KV ν ρ krI) es kvs := by
  obtain ⟨kvs, p1, p2, p3⟩ := toKvs (prog := prog) (knd := intKind prog w) (kr := krI) r fun p hp => by
    obtain ⟨x, hx⟩ := allI_all hs p hp
    refine ⟨x, hx, fun e he => ?_⟩
    rw [hx] at he
    obtain ⟨t, k1, k2⟩ := he
    exact ⟨by rw [k1]; exact intKind_is prog w _ t, k2⟩
  exact ⟨kvs, ⟨_, _, e, ⟨rfl, rfl, rfl⟩, rfl, fun e he => p3 e (by simpa using he), p1, kvs_nodup krI_inj p2 hn⟩, p2⟩
theorem iter_keys {A : Around} {ρ : List Addr} {I ax : Addr} {es : List (AV × AV)} {kvs : List (Str × Value)} {ep : Nat} {h : Heap} (hh : A.handled = none) (hne : ax ≠ I) (r : All2 (KV G.ν ρ krS) es kvs) (hi : h.IsKeyIter I ax 0 kvs.length ep) (hl : h.DictAt (strKind G.prog G.w) ax kvs ep) :
    IterOk G A ρ I ax (keysOf es) h := by
  have W := Walks.dictKeys (prog := G.prog) (w := G.w) (knd := strKind G.prog G.w) (A := A) hh I ax hne kvs ep
  refine ⟨fun i v => ∃ k x, kvs[i]? = some (k, x) ∧ (strKind G.prog G.w).is k v = true, fun i h => h.IsKeyIter I ax i kvs.length ep ∧ h.DictAt (strKind G.prog G.w) ax kvs ep, by rw [keysOf_eq, List.length_map, r.length]; exact W, ⟨hi, hl⟩, fun i v hv => ?_, fun i h st => ?_⟩
  · obtain ⟨k, x, h1, h2⟩ := hv
    obtain ⟨p, g1, g2, _⟩ := All2.getR r h1
    obtain ⟨y, g3, g4⟩ := g2
    refine ⟨p.1, by rw [keysOf_eq, List.getElem?_map, g1]; rfl, ?_⟩
    have g4 : k = strOf y := g4
    subst g4
    obtain ⟨t, ht⟩ := Value.isStrOf_shape h2
    rw [g3]; exact ⟨t, ht⟩
  · obtain ⟨o, h1, h2, _⟩ := st.1
    exact ⟨o, h1, noCode h2 (by decide)⟩
theorem iter_vals {A : Around} {ρ : List Addr} {I ax : Addr} {es : List (AV × AV)} {kvs : List (Int × Value)} {ep : Nat} {h : Heap} (hh : A.handled = none) (hne : ax ≠ I) (r : All2 (KV G.ν ρ krI) es kvs) (hi : h.IsValIter I ax 0 kvs.length ep) (hl : h.DictAt (intKind G.prog G.w) ax kvs ep) :
    IterOk G A ρ I ax (valsOf es) h := by
  have W := Walks.dictValues (prog := G.prog) (w := G.w) (knd := intKind G.prog G.w) (A := A) hh I ax hne kvs ep
  refine ⟨fun i v => ∃ k, kvs[i]? = some (k, v), fun i h => h.IsValIter I ax i kvs.length ep ∧ h.DictAt (intKind G.prog G.w) ax kvs ep, by rw [valsOf_eq, List.length_map, r.length]; exact W, ⟨hi, hl⟩, fun i v hv => ?_, fun i h st => ?_⟩
  · obtain ⟨k, h1⟩ := hv
    obtain ⟨p, g1, _, g2⟩ := All2.getR r h1
    exact ⟨p.2, by rw [valsOf_eq, List.getElem?_map, g1]; rfl, g2⟩
  · obtain ⟨o, h1, h2, _⟩ := st.1
    exact ⟨o, h1, noCode h2 (by decide)⟩
/-- iter(..) of what is at hand -/
theorem iter_sound (O : G.Ok) {A : Around} {E : Value → Shared → Prop} {ρ : List Addr} {σ : H} {s : Shared} {Q : Value → Shared → Prop} {o : AV} {ov : Value} {κ : Nat → List AV → Bool} (hh : A.handled = none) (R : Rel G ρ σ s.heap) (hv : VRel G.ν ρ o ov) (hk : itemsOf σ o κ = true)
    (h : ∀ l ax xs h' tk, κ l xs = true → ρ[l]? = some ax → xs.length < 100 → (∀ b o, s.heap.get? b = some o → h'.get? b = some o) → IterOk G A ρ s.heap.objs.size ax xs h' → Q (.ref s.heap.objs.size) { s with heap := h', toks := tk }) : wpAny G.M A (pyIter ov) Q E s := by
  obtain ⟨l, rfl, hk⟩ := asRef_true hk
  obtain ⟨ob, e1, hk⟩ := at_true hk
  obtain ⟨a, ha, rfl⟩ := hv
  have kp : ∀ (o1 : Obj) b o, s.heap.get? b = some o → (s.heap.push o1).get? b = some o := fun o1 b o e => Heap.get?_push_of_some _ e
  cases ob with
  | list xs =>
    obtain ⟨a', vs, nn, h1, h2, h3, h4⟩ := list_at R e1
    rw [ha] at h1; cases h1
    have hne : a ≠ s.heap.objs.size := Nat.ne_of_lt (Heap.lt_size h2)
    refine wpAny_pyIter_list (isList_of h2) (h l a xs _ s.toks hk ha h4 (kp _) (iter_list hh hne h3 ⟨_, Heap.get?_push_size _ rfl, rfl, rfl⟩ (isList_of (kp _ _ _ h2))))
  | tup xs =>
    obtain ⟨a', vs, h1, h2, h3, h4⟩ := tup_at R e1
    rw [ha] at h1; cases h1
    obtain ⟨oo, g1, g2⟩ := h2
    have hne : a ≠ s.heap.objs.size := Nat.ne_of_lt (Heap.lt_size g1)
    refine wpAny_pyIter_tuple ⟨oo, g1, g2⟩ (h l a xs _ s.toks hk ha h4 (kp _) (iter_tuple hh hne h3 ⟨_, Heap.get?_push_size _ rfl, rfl, rfl⟩ ⟨oo, kp _ _ _ g1, g2⟩))
  | dict es =>
    obtain ⟨hs, hk⟩ := rec_true hk
    obtain ⟨a', des, nn, h1, h2, h3, h4, h5⟩ := dict_at R e1
    rw [ha] at h1; cases h1
    have hne : a ≠ s.heap.objs.size := Nat.ne_of_lt (Heap.lt_size h2)
    obtain ⟨kvs, d1, d2⟩ := dictAt_str (prog := G.prog) h2 h3 h4 hs
    refine wpAny_pyIter_dict (R.notModules e1 rfl ha) d1 ?_
    have h6 : (keysOf es).length < 100 := by rw [keysOf_eq, List.length_map]; exact h5
    refine h l a (keysOf es) _ s.toks hk ha h6 (kp _) ?_
    obtain ⟨kvs', d1', d2'⟩ := dictAt_str (prog := G.prog) (kp { cls := .type "dict_keyiterator", data := .fields #[.ref a, .int 0 0, .int kvs.length 0, .int nn 0] } _ _ h2) h3 h4 hs
    have hl : kvs.length = kvs'.length := by rw [← d2.length, d2'.length]
    exact iter_keys hh hne d2' ⟨_, Heap.get?_push_size _ rfl, rfl, by rw [← hl]; rfl⟩ d1'
  | _ => cases hk
end
end Mine
end

section
open PySem PySem.W PyProof.Rows PySem.Calls PySem.Spec
set_option maxRecDepth 100000
set_option maxHeartbeats 2000000
namespace Mine
/-! ## the loop of a comprehension -/
theorem compL_nil (de di : Den) (x : Nat) (loc : Loc) (h : H) (κ : List AV → H → Bool) : compL de di x loc [] h κ = κ [] h := rfl
theorem compL_cons (de di : Den) (x : Nat) (loc : Loc) (v : AV) (r : List AV) (h : H) (κ : List AV → H → Bool) : compL de di x loc (v :: r) h κ = di.tors .And ((x, v) :: loc) h fun t h =>
    Bool.rec (compL de di x loc r h κ) (de.ev ((x, v) :: loc) h fun y h => compL de di x loc r h fun ys h => κ (y :: ys) h) t := rfl
section
variable {G : Ctx} {n : Nat}
theorem Rel.turn' {G : Ctx} {ρ : List Addr} {σ : H} {h h' : Heap} (R : Rel G ρ σ h) {a : Addr} (hc : ∃ o, h.get? a = some o ∧ ¬ isCodeO o) (h0 : G.h₀.get? a = none) (hn : a ∉ ρ) (hs : Heap.ExtBut a h h') : Rel G ρ σ h' := by
  obtain ⟨o, e, hc⟩ := hc
  exact R.turn e hc h0 hn hs
theorem ns_noCode {h : Heap} {a : Addr} {m : Str → Option Value} (hn : h.Ns a m) : ∃ o, h.get? a = some o ∧ ¬ isCodeO o := by
  obtain ⟨o, es, ep, e, hd, _⟩ := hn
  exact ⟨o, e, noCode_dict hd⟩
theorem Step.lose {ρ ρ' : List Addr} {lock : List Nat} {L : Addr → Prop} {h h' h2 : Heap} {a : Addr} (x : Step ρ lock L h ρ' h') (ha : h.get? a = none) (k : Heap.ExtBut a h' h2) : Step ρ lock L h ρ' h2 := by
  have ne : ∀ b o, h.get? b = some o → b ≠ a := fun b o e z => by rw [z, ha] at e; cases e
  exact ⟨x.ext, fun b o e => by obtain ⟨o', e'⟩ := x.alive b o e; exact ⟨o', k _ _ (ne b o e) e'⟩, fun b o e c nl => k _ _ (ne b o e) (x.keep b o e c nl)⟩
theorem comp_core (O : G.Ok) {elt ifs : CE} {de di : Den} (He : Sound G n elt de) (Hi : Sound G n ifs di) {A : Around} {E : Value → Shared → Prop} {env : Env} {ρ : List Addr} {loc : Loc} {σ : H} {hb : Heap} {s₂ : Shared} {x l : Nat} {I ax : Addr} {px pos : Pos} {iter : Expr}
    {scope : Scope} {cl : List (Str × Addr)} {xs : List AV} {κ : List AV → H → Bool} {RR : Value → Addr → Result → Shared → Prop}
    (X : At G n A env ρ loc σ hb) (S : ScFacts env scope x) (CL : ClFacts env scope cl) (We : wfE elt (relN env.scope.names scope.names) = true) (Wi : wfE ifs (relN env.scope.names scope.names) = true)
    (grow : ∀ b o, hb.get? b = some o → s₂.heap.get? b = some o) (hI : hb.get? I = none) (hax : ρ[l]? = some ax) (IT : IterOk G A ρ I ax xs s₂.heap) (hlen : xs.length < 100)
    (hk : compL de di x loc xs (σ.locked l) κ = true)
    (hRR : ∀ D C h' tk m' ρ' σ' yas ys k, hb.get? D = none → hb.get? C = none → D ≠ C → h'.Ns C m' → h'.get? D = some (listOf (List.toArray ys) k) → VsRel G.ν ρ' yas ys → κ yas σ' = true → σ'.lock = l :: σ.lock → Rel G ρ' σ' h' →
      Step ρ (l :: σ.lock) none' hb ρ' h' → D ∉ ρ' → C ∉ ρ' → G.h₀.get? D = none → 2 ≤ D → G.h₀.get? C = none → RR (.ref D) C (.ok .next) { s₂ with heap := h', toks := tk }) :
    wpAny G.M A (newList []) (fun acc s₃ => wpAny G.M A (newFunctionEnv scope env.globals cl [] env.qual none .none (some env)) (fun cenv s₄ =>
      codeAny G.M A (.compStart (.ListComp (toE elt) [⟨.Name (strOf x) px, iter, toEs ifs, 0⟩] scope pos) 0 (.ref I) acc { cenv with scope := relabel scope env }) (RR acc cenv.locals) s₄) E s₃) E s₂ := by
  obtain ⟨Pp, St, W, st0, hP, hcode⟩ := IT
  have R2 : Rel G ρ σ s₂.heap := X.r.grow grow
  refine wpAny_newObj_type (wpAny_newFunctionEnv S.cell (by intro y hy; simp at hy) (fun h₁ hns₁ hsb₁ => ?_) S.kind)
  dsimp only at hns₁ hsb₁ ⊢
  generalize hH2 : s₂.heap.push { cls := .type "list", dict := none, data := .seq ([] : List Value).toArray } = H2 at hns₁ hsb₁ ⊢
  have hC : H2.objs.size = s₂.heap.objs.size + 1 := by rw [← hH2, Heap.size_push]
  generalize hDe : s₂.heap.objs.size = D at hC ⊢
  generalize hCe : H2.objs.size = C at hC hns₁ hsb₁ ⊢
  have hDC : D ≠ C := by omega
  have sz : ∀ b o, s₂.heap.get? b = some o → b < D := fun b o e => hDe ▸ Heap.lt_size e
  have CD : C = D + 1 := hC
  have fresh : ∀ a, D ≤ a → s₂.heap.get? a = none := fun a ha => Heap.get?_none_of_le (hDe ▸ ha)
  have freshb : ∀ a, D ≤ a → hb.get? a = none := fun a ha => by
    cases e : hb.get? a with
    | none => rfl
    | some o => have := grow _ _ e; rw [fresh a ha] at this; cases this
  have fresh0 : ∀ a, D ≤ a → G.h₀.get? a = none := fun a ha => by
    cases e : G.h₀.get? a with
    | none => rfl
    | some o => have := R2.base _ _ e; rw [fresh a ha] at this; cases this
  have old : ∀ b o, s₂.heap.get? b = some o → h₁.get? b = some o := fun b o e => hsb₁.extBut b o (Nat.ne_of_lt (CD ▸ Nat.lt_succ_of_lt (sz b o e))) (Heap.get?_push_of_some _ (hH2 ▸ Heap.get?_push_of_some _ e))
  have hD1 : h₁.get? D = some (listOf (List.toArray []) 0) := hsb₁.extBut _ _ hDC (Heap.get?_push_of_some _ (hH2 ▸ hDe ▸ Heap.get?_push_size _ rfl))
  have nD : D ∉ ρ := fun m => by obtain ⟨o, e⟩ := R2.live _ m; rw [fresh D (Nat.le_refl _)] at e; cases e
  have nC : C ∉ ρ := fun m => by obtain ⟨o, e⟩ := R2.live _ m; rw [fresh C (by omega)] at e; cases e
  have nI : I ∉ ρ := fun m => by obtain ⟨o, e⟩ := X.r.live _ m; rw [hI] at e; cases e
  have I0 : G.h₀.get? I = none := by
    cases e : G.h₀.get? I with
    | none => rfl
    | some o => have := X.r.base _ _ e; rw [hI] at this; cases this
  have hID : I ≠ D := fun q => by obtain ⟨o, e, _⟩ := hcode 0 _ st0; rw [q, fresh D (Nat.le_refl _)] at e; cases e
  have hIC : I ≠ C := fun q => by obtain ⟨o, e, _⟩ := hcode 0 _ st0; rw [q, fresh C (by omega)] at e; cases e
  have alax : ∃ o, s₂.heap.get? ax = some o := R2.live _ (List.mem_of_getElem? hax)
  have haD : ax ≠ D := fun q => by obtain ⟨o, e⟩ := alax; rw [q, fresh D (Nat.le_refl _)] at e; cases e
  have haC : ax ≠ C := fun q => by obtain ⟨o, e⟩ := alax; rw [q, fresh C (by omega)] at e; cases e
  have haI : ax ≠ I := fun q => nI (q ▸ List.mem_of_getElem? hax)
  have h2D : 2 ≤ D := (R2.low O (a := D) (Nat.le_of_eq hDe)).2
  -- what turns along the way
  let LL : Addr → Prop := fun b => b = I ∨ b = D ∨ b = C
  have LLfresh : ∀ b, LL b → hb.get? b = none := fun b h => by
    rcases h with rfl | rfl | rfl
    · exact hI
    · exact freshb _ (Nat.le_refl _)
    · exact freshb _ (by omega)
  have st1 : St 0 h₁ := W.frame _ _ _ st0 fun b _ o e => old b o e
  have xl : (relabel scope env).names.lookup (strOf x) = some .local := lookup_relabel_local S.xl
  have rn : (relabel scope env).names = relN env.scope.names scope.names := relabel_names X.f.kind
  have main : ∀ s₃ : Shared, s₃ = { s₂ with heap := h₁, toks := s₂.toks + ([] : List (Str × Value)).length } →
      codeAny G.M A (.compLoop (.ListComp (toE elt) [⟨.Name (strOf x) px, iter, toEs ifs, 0⟩] scope pos) 0 (.ref I) (.ref D) (compEnvC scope cl C env)) (RR (.ref D) C) s₃ := by
    rintro s₃ rfl
    refine codeAny_compLoop_tests (fun k s' => ∃ h' tk m' ρ' σ' yas ys kk i, s' = { s₂ with heap := h', toks := tk } ∧ Rel G ρ' σ' h' ∧ σ'.lock = l :: σ.lock ∧ Step ρ (l :: σ.lock) LL hb ρ' h' ∧ St i h' ∧ h'.get? D = some (listOf (List.toArray ys) kk) ∧ h'.Ns C m' ∧ D ∉ ρ' ∧ C ∉ ρ' ∧ I ∉ ρ' ∧
      VsRel G.ν ρ' yas ys ∧ compL de di x loc (xs.drop i) σ' (fun zs h => κ (yas ++ zs) h) = true ∧ i ≤ xs.length ∧ yas.length ≤ i ∧ k = xs.length + 1 - i) ?_ (xs.length + 1)
      ⟨h₁, _, _, ρ, σ.locked l, [], [], 0, 0, rfl, (R2.grow old).lock (l :: σ.lock), rfl, Step.grow fun b o e => old _ _ (grow b o e), st1, hD1, hns₁, nD, nC, nI, .nil, by simpa using hk, Nat.zero_le _, Nat.zero_le _, rfl⟩
    rintro k s' ⟨h', tk, m', ρ', σ', yas, ys, kk, i, rfl, R', hl', S', st', hD', hns', nD', nC', nI', hys, hk', hi, hyi, rfl⟩
    by_cases hlt : i < xs.length
    · refine W.item i _ _ _ hlt st' fun v h2 tk2 hPv st2 kp2 => ?_
      dsimp only
      obtain ⟨av, hav, hvv⟩ := hP i v hPv
      have ext2 : Heap.ExtBut I h' h2 := fun b o hb e => kp2 b o (by simpa using hb) e
      have R2' := R'.turn' (hcode _ _ st') I0 nI' ext2
      have al2 : ∃ o, h2.get? I = some o := by obtain ⟨o, e, _⟩ := hcode _ _ st2; exact ⟨o, e⟩
      have S2 : Step ρ (l :: σ.lock) LL hb ρ' h2 := S'.trans (Step.own (.inl rfl) ext2 al2)
      have hns2 : h2.Ns C m' := hns'.extBut ext2 hIC.symm
      have hD2 : h2.get? D = some (listOf (List.toArray ys) kk) := ext2 _ _ hID.symm hD'
      refine wpAny_assign_Name (wpAny_storeName_local (m := m') xl hns2 (fun h3 hns3 hs3 => ?_) (by rw [show (compEnvC scope cl C env).scope.kind = .function from S.kind]; rfl))
      have R3 := R2'.turn' (ns_noCode hns2) (fresh0 C (by omega)) nC' hs3.extBut
      have S3 : Step ρ (l :: σ.lock) LL hb ρ' h3 := S2.trans (Step.own (.inr (.inr rfl)) hs3.extBut (by obtain ⟨o, e, _⟩ := ns_noCode hns3; exact ⟨o, e⟩))
      have hD3 : h3.get? D = some (listOf (List.toArray ys) kk) := hs3.extBut _ _ hDC hD2
      have st3 : St (i + 1) h3 := W.frame _ _ _ st2 fun b hb o e => hs3.extBut _ _ (by
        rcases List.mem_cons.mp hb with rfl | hb
        · exact hIC
        · rw [List.mem_singleton.mp hb]; exact haC) e
      have X3 : At G n A env ρ' loc σ' h3 := X.step R3 (S3.hide LLfresh)
      have hvv3 : VRel G.ν ρ' av v := by obtain ⟨⟨δ, e2, _⟩, _⟩ := S3; rw [e2]; exact hvv.mono
      have XC : At G n A (compEnvC scope cl C env) ρ' ((x, av) :: loc) σ' h3 := cenv_at X3 S CL hns3 nC' (fresh0 C (by omega)) (by simp) hvv3
      have hdrop : xs.drop i = av :: xs.drop (i + 1) := by
        rw [List.drop_eq_getElem_cons hlt]
        rw [List.getElem?_eq_getElem hlt] at hav
        cases hav; rfl
      rw [hdrop, compL_cons] at hk'
      have wn : ∀ e : CE, wfE e (relN env.scope.names scope.names) = true → wfE e (compEnvC scope cl C env).scope.names = true := fun e h => by
        show wfE e (relabel scope env).names = true
        rw [rn]; exact h
      refine Hi.ifs XC (wn _ Wi) hk' fun t σ4 ρ4 t' h4 tk4 hk4 hl4 R4 S4 q => ?_
      have q : t = t' := q
      subst q
      have lk4 : σ4.lock = l :: σ.lock := hl4.trans hl'
      have S4' : Step ρ (l :: σ.lock) LL hb ρ4 h4 := S3.trans ((hl' ▸ S4).weaken fun _ z => z.elim)
      have D4 : h4.get? D = some (listOf (List.toArray ys) kk) := S4.keep _ _ hD3 (.inl nD') (fun z => z)
      have ns4 : ∃ m4, h4.Ns C m4 := by
        obtain ⟨o, es, ep, e, r⟩ := hns3
        exact ⟨_, o, es, ep, S4.keep _ _ e (.inl nC') (fun z => z), r⟩
      have nD4 : D ∉ ρ4 := S4.out nD' hD3
      have nC4 : C ∉ ρ4 := by obtain ⟨o, e, _⟩ := ns_noCode hns3; exact S4.out nC' e
      have fpk : ∀ {ρa : List Addr} {ha hb' : Heap} {lk : List Nat} {ρb : List Addr}, Step ρa lk none' ha ρb hb' → I ∉ ρa → ρa[l]? = some ax → l ∈ lk → ∀ b ∈ [I, ax], ∀ o, ha.get? b = some o → hb'.get? b = some o := fun Sx n1 n2 n3 b hb o e => by
        rcases List.mem_cons.mp hb with rfl | hb
        · exact Sx.keep _ _ e (.inl n1) (fun z => z)
        · rw [List.mem_singleton.mp hb] at e ⊢
          exact Sx.keep _ _ e (.inr ⟨l, n3, n2⟩) (fun z => z)
      have axρ' : ρ'[l]? = some ax := S3.at hax
      have st4 : St (i + 1) h4 := W.frame _ _ _ st3 (fpk S4 nI' axρ' (by rw [hl']; exact .head _))
      have nI4 : I ∉ ρ4 := by obtain ⟨o, e, _⟩ := hcode _ _ st3; exact S4.out nI' e
      cases t with
      | false =>
        rw [if_neg (by decide)]
        obtain ⟨m4, ns4⟩ := ns4
        exact ⟨xs.length + 1 - (i + 1), by omega, h4, tk4, m4, ρ4, σ4, yas, ys, kk, i + 1, rfl, R4, lk4, S4', st4, D4, ns4, nD4, nC4, nI4, S4.vrels hys, hk4, hlt, by omega, rfl⟩
      | true =>
        rw [if_pos rfl]
        have XC4 := XC.step R4 S4
        refine He.ev XC4 (wn _ We) hk4 fun y σ5 ρ5 yv h5 tk5 hk5 hl5 R5 S5 r5 => ?_
        have lk5 : σ5.lock = l :: σ.lock := hl5.trans lk4
        have S5' : Step ρ (l :: σ.lock) LL hb ρ5 h5 := S4'.trans ((lk4 ▸ S5).weaken fun _ z => z.elim)
        have D5 : h5.get? D = some (listOf (List.toArray ys) kk) := S5.keep _ _ D4 (.inl nD4) (fun z => z)
        obtain ⟨m4, ns4⟩ := ns4
        have ns5 : ∃ m5, h5.Ns C m5 := by
          obtain ⟨o, es, ep, e, r⟩ := ns4
          exact ⟨_, o, es, ep, S5.keep _ _ e (.inl nC4) (fun z => z), r⟩
        have nD5 : D ∉ ρ5 := S5.out nD4 D4
        have nC5 : C ∉ ρ5 := by obtain ⟨o, e, _⟩ := ns_noCode ns4; exact S5.out nC4 e
        have st5 : St (i + 1) h5 := W.frame _ _ _ st4 (fpk S5 nI4 (S4.at axρ') (by rw [lk4]; exact .head _))
        have nI5 : I ∉ ρ5 := by obtain ⟨o, e, _⟩ := hcode _ _ st4; exact S5.out nI4 e
        have hys5 := S5.vrels (S4.vrels hys)
        have hlys : ys.length ≤ i := by rw [← hys.length]; exact hyi
        refine append_at (its := List.toArray ys) (n := kk) D5 (fun h6 hs6 ho6 => ?_) (by rw [List.size_toArray, sizeLine_eq]; omega)
        have hpush : ((List.toArray ys).push yv) = (ys ++ [yv]).toArray := by simp
        rw [hpush] at ho6
        have R6 := R5.turn' ⟨_, D5, noCode rfl list_nc⟩ (fresh0 D (Nat.le_refl _)) nD5 hs6.extBut
        have S6 : Step ρ (l :: σ.lock) LL hb ρ5 h6 := S5'.trans (Step.own (.inr (.inl rfl)) hs6.extBut ⟨_, ho6⟩)
        obtain ⟨m5, ns5⟩ := ns5
        have st6 : St (i + 1) h6 := W.frame _ _ _ st5 fun b hb o e => hs6.extBut _ _ (by
          rcases List.mem_cons.mp hb with rfl | hb
          · exact hID
          · rw [List.mem_singleton.mp hb]; exact haD) e
        refine ⟨xs.length + 1 - (i + 1), by omega, h6, tk5, m5, ρ5, σ5, yas ++ [y], ys ++ [yv], kk + 1, i + 1, rfl, R6, lk5, S6, st6, ho6, ns5.extBut hs6.extBut hDC.symm, nD5, nC5, nI5, hys5.append (.cons r5 .nil), ?_, hlt, by simp; omega, rfl⟩
        simpa using hk5
    · have hin : i = xs.length := by omega
      subst hin
      refine W.done _ _ _ st' fun h2 tk2 kp2 => ?_
      dsimp only
      have ext2 : Heap.ExtBut I h' h2 := fun b o hb e => kp2 b o (by simpa using hb) e
      have R2' := R'.turn' (hcode _ _ st') I0 nI' ext2
      rw [List.drop_length, compL_nil] at hk'
      refine hRR D C h2 tk2 m' ρ' σ' yas ys kk (freshb _ (Nat.le_refl _)) (freshb _ (by omega)) hDC (hns'.extBut ext2 hIC.symm) (ext2 _ _ hID.symm hD') hys (by simpa using hk') hl' R2' ((S'.lose hI ext2).hide LLfresh) nD' nC' (fresh0 D (Nat.le_refl _)) h2D (fresh0 C (by omega))
  exact codeAny_compStart_list (main _ rfl) (W.self 0 _ _ _ st1 (main _ rfl))
end
end Mine
end

section
open PySem PySem.W PyProof.Rows PySem.Calls PySem.Spec
set_option maxRecDepth 100000
set_option maxHeartbeats 2000000
namespace Mine
section
variable {G : Ctx} {n : Nat}
theorem Step.more {ρ ρ' : List Addr} {lock : List Nat} {L : Addr → Prop} {h h' : Heap} {a : Addr} (x : Step ρ lock L h ρ' h') (ha : h.get? a = none) : Step ρ lock L h (ρ' ++ [a]) h' := by
  obtain ⟨⟨δ, rfl, hδ⟩, x2, x3⟩ := x
  refine ⟨⟨δ ++ [a], by simp, fun b hb => ?_⟩, x2, x3⟩
  rcases List.mem_append.mp hb with hb | hb
  · exact hδ b hb
  · rw [List.mem_singleton.mp hb]; exact ha
theorem folded (e : CE) (env : Env) (x : Value) : foldedSetIterable (toE e) env x = pure x := by cases e <;> rfl
/-- the list is taken to hand -/
theorem comp_end {ρ ρ' : List Addr} {l D C : Nat} {σ σ' : H} {s : Shared} {hb h' h'' : Heap} {tk : Nat} {κ : AV → H → Bool} {Q : Value → Shared → Prop} {yas : List AV} {ys : List Value} {k : Nat} {m' : Str → Option Value}
    (K : Then G (VRel G.ν) ρ σ { s with heap := hb } κ Q) (hk : (σ'.free σ.lock).new (.list yas) κ = true) (hD0 : hb.get? D = none) (hC0 : hb.get? C = none) (hDC : D ≠ C) (hns : h'.Ns C m') (hD : h'.get? D = some (listOf (List.toArray ys) k)) (hys : VsRel G.ν ρ' yas ys)
    (R : Rel G ρ' σ' h') (S : Step ρ (l :: σ.lock) none' hb ρ' h') (nD : D ∉ ρ') (nC : C ∉ ρ') (h0D : G.h₀.get? D = none) (h2D : 2 ≤ D) (h0C : G.h₀.get? C = none) (hs : Heap.SameBut C h' h'') : Q (.ref D) { s with heap := h'', toks := tk } := by
  have R1 := (R.turn' (ns_noCode hns) h0C nC hs.extBut).lock σ.lock
  have hD1 : h''.get? D = some (listOf (List.toArray ys) k) := hs.extBut _ _ hDC hD
  obtain ⟨z1, z2, z3⟩ := new_true hk
  have R2 := R1.adopt hD1 nD (ao := .list yas) ⟨ys, k, rfl, hys⟩ z1 (fun _ => ⟨h0D, h2D⟩) z2
  have S1 : Step ρ σ.lock none' hb ρ' h'' := (S.fewer fun _ z => .tail _ z).lose hC0 hs.extBut
  refine K (.ref σ'.n) _ (ρ' ++ [D]) (.ref D) h'' tk z3 rfl R2 (S1.more hD0) ⟨D, ?_, rfl⟩
  rw [R.n]; simp
theorem s_comp (O : G.Ok) {elt it ifs : CE} {de dt di : Den} (He : Sound G n elt de) (Ht : Sound G n it dt) (Hi : Sound G n ifs di) (x px sc p : Nat) : Sound G n (.comp elt x px it ifs sc p) (leaf (cComp de x dt di)) :=
  have H : EvSound G n (.comp elt x px it ifs sc p) (cComp de x dt di) := fun {A E env ρ loc σ s κ Q} X W hk K => by
    obtain ⟨W, W4⟩ := and_true W
    obtain ⟨W, W3⟩ := and_true W
    obtain ⟨W1, W2⟩ := and_true W
    have SC := ScFacts.of W1
    obtain ⟨cl, CL⟩ := cl_facts X.f SC
    show wpAny G.M A (eval (.ListComp (toE elt) [⟨.Name (strOf x) (P px), toE it, toEs ifs, 0⟩] (scOf sc) (P p)) env) Q E s
    rw [eval_ListComp]
    refine wpAny_comprehension_free (use := none) rfl (folded it env) CL.eq SC.kind (fun y hy e => (SC.loc y hy e).2) (Ht.ev X W2 hk fun o σ' ρ' v h' tk' hk' hl R S r => ?_)
    refine iter_sound O X.a.hd R r hk' fun l ax xs h2 tk2 hk2 hax hlen grow IT => ?_
    have K' := K.after (tk₁ := tk') hl S
    refine comp_core O He Hi (X.step R S) SC CL W3 W4 grow (get_size _) hax IT hlen hk2 fun D C h3 tk3 m' ρ3 σ3 yas ys k hD0 hC0 hDC hns hD hys hk3 hl3 R3 S3 nD nC h0D h2D h0C => ?_
    exact ⟨m', hns, fun h4 hs4 => comp_end (s := { s with heap := h' }) (K := K') hk3 hD0 hC0 hDC hns hD hys R3 S3 nD nC h0D h2D h0C hs4⟩
  .leaf rfl H (tst_value H fun _ _ => rfl)
/-- the values of a dict, and their iterator -/
theorem values_sound (O : G.Ok) {A : Around} {E : Value → Shared → Prop} {ρ : List Addr} {σ : H} {s : Shared} {Q : Value → Shared → Prop} {l : Nat} {ax : Addr} {es : List (AV × AV)} {pos pos' : Pos} {env : Env} (hh : A.handled = none) (R : Rel G ρ σ s.heap) (hax : ρ[l]? = some ax)
    (e1 : σ.t.get l = some (.dict es)) (hI : allI es = true) (pl : Sem Bool)
    (h : ∀ I h' tk, s.heap.get? I = none → (∀ b o, s.heap.get? b = some o → h'.get? b = some o) → IterOk G A ρ I ax (valsOf es) h' → es.length < 100 → Q (.ref I) { s with heap := h', toks := tk }) :
    wpAny G.M A (getMethod (.ref ax) "values" pl) (fun fr s₂ => wpAny G.M A (callWith pos fr.1 fr.2 (backTo pos' (starEach [] env)) []) (fun xv s₃ => wpAny G.M A (pyIter xv) Q E s₃) E s₂) E s := by
  obtain ⟨a', des, nn, h1, h2, h3, h4, h5⟩ := dict_at R e1
  rw [hax] at h1; cases h1
  have kp : ∀ (h : Heap) (o1 : Obj) b o, h.get? b = some o → (h.push o1).get? b = some o := fun h o1 b o e => Heap.get?_push_of_some _ e
  refine getMethod_builtin (T := "dict") ⟨_, h2, rfl⟩ F.plainAttrs_dict F.slot_dict_values F.type_dict_values (fun b e => by cases e; exact ⟨_, h2, rfl⟩) ?_
  refine callWith_of rfl (keeps_builtin (G := G) "dict.values") (evalArgs_nil3 ⟨trivial, ?_⟩)
  obtain ⟨kvs, d1, d2⟩ := dictAt_int (prog := G.prog) h2 h3 h4 hI
  refine call_meetsIn F.slot_dict_values ⟨_, h2, rfl⟩ F.entry_dict_values (F.args_dict_values_1 _) (meets_dict_values (intKind G.prog G.w) ax (R.notModules e1 rfl hax)) ⟨⟨kvs, d1.dictOf⟩, ?_⟩
  show wpAny G.M A (pyIter (.ref s.heap.objs.size)) Q E _
  obtain ⟨kvs2, f1, f2⟩ := dictAt_int (prog := G.prog) (kp s.heap { cls := .type "dict_values", data := .fields #[.ref ax] } _ _ h2) h3 h4 hI
  refine wpAny_pyIter_values (s := { s with heap := s.heap.push { cls := .type "dict_values", data := .fields #[.ref ax] } }) ⟨_, Heap.get?_push_size _ rfl, rfl, rfl⟩ f1 ?_
  have hs1 : s.heap.objs.size ≤ (s.heap.push { cls := .type "dict_values", data := .fields #[.ref ax] }).objs.size := by rw [Heap.size_push]; omega
  refine h _ _ s.toks (Heap.get?_none_of_le hs1) (fun b o e => kp _ _ _ _ (kp _ _ _ _ e)) ?_ h5
  obtain ⟨kvs3, g1, g2⟩ := dictAt_int (prog := G.prog) (kp _ { cls := .type "dict_valueiterator", data := .fields #[.ref ax, .int 0 0, .int kvs2.length 0, .int nn 0] } _ _ (kp s.heap { cls := .type "dict_values", data := .fields #[.ref ax] } _ _ h2)) h3 h4 hI
  have hl : kvs2.length = kvs3.length := by rw [← f2.length, g2.length]
  have hne : ax ≠ (s.heap.push { cls := .type "dict_values", data := .fields #[.ref ax] }).objs.size := Nat.ne_of_lt (Nat.lt_of_lt_of_le (Heap.lt_size h2) hs1)
  exact iter_vals hh hne g2 ⟨_, Heap.get?_push_size _ rfl, rfl, by rw [← hl]; rfl⟩ g1
theorem s_compV (O : G.Ok) {elt e ifs : CE} {de dt di : Den} (He : Sound G n elt de) (Ht : Sound G n e dt) (Hi : Sound G n ifs di) (x px a q r sc p : Nat) : Sound G n (.compV elt x px e a q r ifs sc p) (leaf (cCompV G.tx de x dt a di)) :=
  have H : EvSound G n (.compV elt x px e a q r ifs sc p) (cCompV G.tx de x dt a di) := fun {A E env ρ loc σ s κ Q} X W hk K => by
    obtain ⟨W, W5⟩ := and_true W
    obtain ⟨W, W4⟩ := and_true W
    obtain ⟨W, W3⟩ := and_true W
    obtain ⟨W1, W2⟩ := and_true W
    have SC := ScFacts.of W1
    obtain ⟨cl, CL⟩ := cl_facts X.f SC
    obtain ⟨hb, hk0⟩ := rec_true hk
    obtain rfl : a = G.tx.nValues := Nat.eq_of_beq_eq_true hb
    show wpAny G.M A (eval (.ListComp (toE elt) [⟨.Name (strOf x) (P px), .Call (.Attribute (toE e) (strOf G.tx.nValues) (P q)) [] [] (P r), toEs ifs, 0⟩] (scOf sc) (P p)) env) Q E s
    rw [eval_ListComp]
    refine wpAny_comprehension_free (use := none) rfl (fun _ => rfl) CL.eq SC.kind (fun y hy e => (SC.loc y hy e).2) ?_
    refine method_node (args := .nil) _ _ _ (by decide) (Nat.eq_of_beq_eq_true W5) (Ht.ev X W2 hk0 fun o σ' ρ' v h' tk' hk' hl R S r' pl => ?_)
    obtain ⟨l, rfl, hk'⟩ := asRef_true hk'
    obtain ⟨ob, e1, hk'⟩ := at_true hk'
    obtain ⟨es, rfl, hk'⟩ := atDict_true hk'
    obtain ⟨hI, hk'⟩ := rec_true hk'
    obtain ⟨ax, hax, rfl⟩ := r'
    rw [O.names.2.2]
    refine values_sound O X.a.hd R hax e1 hI pl fun I h2 tk2 hI2 grow IT hlen => ?_
    have K' := K.after (tk₁ := tk') hl S
    refine comp_core O He Hi (X.step R S) SC CL W3 W4 grow hI2 hax IT (by rw [valsOf_eq, List.length_map]; exact hlen) hk' fun D C h3 tk3 m' ρ3 σ3 yas ys k hD0 hC0 hDC hns hD hys hk3 hl3 R3 S3 nD nC h0D h2D h0C => ?_
    exact ⟨m', hns, fun h4 hs4 => comp_end (s := { s with heap := h' }) (K := K') hk3 hD0 hC0 hDC hns hD hys R3 S3 nD nC h0D h2D h0C hs4⟩
  .leaf rfl H (tst_value H fun _ _ => rfl)
end
end Mine
end

section
open PySem PySem.W PyProof.Rows PySem.Calls PySem.Spec
set_option maxRecDepth 100000
set_option maxHeartbeats 2000000
namespace Mine
section
variable {G : Ctx} {n : Nat} {call : Call}
/-- every expression's walk is what its Den says -/
theorem den_sound (O : G.Ok) (C : CallSound G n call) (e : CE) : Sound G (n + 1) e (den G.tx call e) := by
  induction e with
  | nil => exact s_nil
  | cons a r ha hr => exact s_cons ha hr
  | none k p => exact s_none k p
  | bool b k p => exact s_bool b k p
  | int i k p => exact s_int i k p
  | str x k p => exact s_str x k p
  | byt k p => exact s_byt k p
  | loc x p => exact s_loc x p
  | glob x p => exact s_glob O x p
  | attr e a p h => exact s_attr O h a p
  | sub e i p h1 h2 => exact s_sub O h1 h2 p
  | tail e i q p h1 h2 => exact s_tail O h1 h2 q p
  | callF x f args q p h => exact s_callF O C h x f q p
  | callC x c args q p h => exact s_callC O C h x c q p
  | callB x b args q p h => exact s_callB O h x b q p
  | callM e a args q p h1 h2 => exact s_callM O C h1 h2 a q p
  | bin op a b p h1 h2 => exact s_bin O h1 h2 op p
  | cmp op a b p h1 h2 => exact s_cmp O h1 h2 op p
  | andor op es p h => exact s_andor h op p
  | not e p h => exact s_not h p
  | neg e p h => exact s_neg h p
  | ife t a b p h1 h2 h3 => exact s_ife h1 h2 h3 p
  | list es p h => exact s_list O h p
  | tup es k p h => exact s_tup O h k p
  | dict ks vs p _ _ => exact s_dict O ks vs p
  | comp elt x px it ifs sc p h1 h2 h3 => exact s_comp O h1 h2 h3 x px sc p
  | compV elt x px e a q r ifs sc p h1 h2 h3 => exact s_compV O h1 h2 h3 x px a q r sc p
  | lam j p => exact s_lam O j p

/-! ## stores of names -/
noncomputable abbrev Own (env : Env) : Addr → Prop := fun b => b = env.locals ∨ ∃ x, env.cells.lookup x = some b
theorem cell_noCode {h : Heap} {c : Addr} {v : Option Value} (x : h.IsCell c v) : ∃ o, h.get? c = some o ∧ ¬ isCodeO o := by
  obtain ⟨o, e, hd⟩ := x
  exact ⟨o, e, fun z => by obtain ⟨_, vs, q⟩ := z; rw [hd] at q; cases q⟩
theorem look_cons (x k : Nat) (av : AV) (loc : Loc) : look ((x, av) :: loc) k = if x = k then some av else look loc k := by
  show ifB (Nat.beq x k) (some av) (look loc k) = _
  rw [T.ifB_eq]
theorem store_sound {A : Around} {E : Value → Shared → Prop} {env : Env} {ρ : List Addr} {loc : Loc} {σ : H} {s : Shared} {Q : Unit → Shared → Prop} {x : Nat} {v : Value} {av : AV} (X : At G n A env ρ loc σ s.heap)
    (hx : (isLocal (env.scope.names.lookup (strOf x)) || isCell (env.scope.names.lookup (strOf x))) = true) (hv : VRel G.ν ρ av v)
    (h : ∀ h' tk, At G n A env ρ ((x, av) :: loc) σ h' → Step ρ σ.lock (Own env) s.heap ρ h' → Q () { s with heap := h', toks := tk }) : wpAny G.M A (storeName env (strOf x) v) Q E s := by
  have hp : (env.scope.kind == .class || (env.scope.kind == .module && env.locals != env.globals)) = false := by rw [X.f.kind]; rfl
  cases q : isLocal (env.scope.names.lookup (strOf x)) with
  | true =>
    have kl := isLocal_eq q
    obtain ⟨m, hn⟩ := X.f.ns
    refine wpAny_storeName_local (m := m) kl hn (fun h' hn' hs => ?_) hp
    have R' := X.r.turn' (ns_noCode hn) X.f.fresh X.f.out hs.extBut
    refine h h' _ ⟨X.a, ⟨X.f.kind, X.f.glob, X.f.bi, ⟨_, hn'⟩, X.f.out, X.f.fresh, X.f.lam, X.f.cells, fun y c hc => ?_, X.f.apart⟩, fun k av' hk hi => ?_, R'⟩ (Step.own (.inl rfl) hs.extBut (by obtain ⟨o, e, _⟩ := ns_noCode hn'; exact ⟨o, e⟩))
    · obtain ⟨⟨v', oc, e1, e2⟩, c1, c2, c3⟩ := X.f.cell y c hc
      exact ⟨⟨v', oc, hs.extBut _ _ c2 e1, e2⟩, c1, c2, c3⟩
    · rw [look_cons] at hk
      by_cases z : x = k
      · subst z
        rw [if_pos rfl] at hk
        cases hk
        exact ⟨v, hv, .inl ⟨kl, _, hn', by simp⟩⟩
      · rw [if_neg z] at hk
        obtain ⟨w, hw, hN⟩ := X.l k av' hk hi
        refine ⟨w, hw, ?_⟩
        rcases hN with ⟨h1, m1, h2, h3⟩ | ⟨h1, c, h2, h3, h4, h5⟩
        · refine .inl ⟨h1, _, hn', ?_⟩
          rw [if_neg (fun e => z (strOf_inj e).symm)]
          obtain ⟨o, es, ep, e1, e2, e3, e4⟩ := hn
          obtain ⟨o', es', ep', e1', e2', e3', e4'⟩ := h2
          rw [e1] at e1'; cases e1'
          rw [e2] at e2'; cases e2'
          rw [← e4, e4', h3]
        · obtain ⟨o, e1, e2⟩ := h3
          exact .inr ⟨h1, c, h2, ⟨o, hs.extBut _ _ h5 e1, e2⟩, h4, h5⟩
  | false =>
    rw [q, Bool.false_or] at hx
    have kc := isCell_eq hx
    obtain ⟨c, hc⟩ := Option.isSome_iff_exists.mp (X.f.cells (strOf x) hx)
    obtain ⟨⟨v0, hv0⟩, c1, c2, c3⟩ := X.f.cell _ _ hc
    refine wpAny_storeName_cell X.f.kind kc hc hv0 fun h' hn' hs => ?_
    have R' := X.r.turn' (cell_noCode hv0) c3 c1 hs.extBut
    obtain ⟨m, hn⟩ := X.f.ns
    refine h h' _ ⟨X.a, ⟨X.f.kind, X.f.glob, X.f.bi, ⟨m, hn.extBut hs.extBut c2.symm⟩, X.f.out, X.f.fresh, X.f.lam, X.f.cells, fun y d hd => ?_, X.f.apart⟩, fun k av' hk hi => ?_, R'⟩ (Step.own (.inr ⟨_, hc⟩) hs.extBut (by obtain ⟨o, e, _⟩ := cell_noCode hn'; exact ⟨o, e⟩))
    · obtain ⟨⟨v', oc, e1, e2⟩, d1, d2, d3⟩ := X.f.cell y d hd
      by_cases z : d = c
      · subst z; exact ⟨⟨_, hn'⟩, d1, d2, d3⟩
      · exact ⟨⟨v', oc, hs.extBut _ _ z e1, e2⟩, d1, d2, d3⟩
    · rw [look_cons] at hk
      by_cases z : x = k
      · subst z
        rw [if_pos rfl] at hk
        cases hk
        exact ⟨v, hv, .inr ⟨.inl kc, c, hc, hn', c1, c2⟩⟩
      · rw [if_neg z] at hk
        obtain ⟨w, hw, hN⟩ := X.l k av' hk hi
        refine ⟨w, hw, ?_⟩
        rcases hN with ⟨h1, m1, h2, h3⟩ | ⟨h1, d, h2, h3, h4, h5⟩
        · exact .inl ⟨h1, m1, h2.extBut hs.extBut c2.symm, h3⟩
        · obtain ⟨o, e1, e2⟩ := h3
          refine .inr ⟨h1, d, h2, ⟨o, hs.extBut _ _ (fun e => ?_) e1, e2⟩, h4, h5⟩
          subst e
          exact z (strOf_inj (X.f.apart _ _ _ hc h2))

/-! ## statements -/
noncomputable def FlRel (ν : List Int) (ρ : List Addr) : Fl → Flow → Prop
  | .next, f => f = .next
  | .cont, f => f = .cont
  | .ret a, f => ∃ v, f = .ret v ∧ VRel ν ρ a v
/-- what is to follow a statement -/
noncomputable def ThenS (G : Ctx) (n : Nat) (A : Around) (env : Env) (ρ : List Addr) (σ : H) (s : Shared) (κ : Fl → Loc → H → Bool) (Q : Flow → Shared → Prop) : Prop :=
  ∀ fl loc' σ' ρ' f h' tk', κ fl loc' σ' = true → σ'.lock = σ.lock → At G n A env ρ' loc' σ' h' → Step ρ σ.lock (Own env) s.heap ρ' h' → FlRel G.ν ρ' fl f → Q f { s with heap := h', toks := tk' }
theorem ThenS.after {A : Around} {env : Env} {ρ ρ₁ : List Addr} {σ σ₁ : H} {s : Shared} {h₁ : Heap} {tk₁ : Nat} {κ : Fl → Loc → H → Bool} {Q : Flow → Shared → Prop} (K : ThenS G n A env ρ σ s κ Q) (hl : σ₁.lock = σ.lock)
    (S : Step ρ σ.lock (Own env) s.heap ρ₁ h₁) : ThenS G n A env ρ₁ σ₁ { s with heap := h₁, toks := tk₁ } κ Q :=
  fun fl loc' σ' ρ' f h' tk' hk hl' X S' r => K fl loc' σ' ρ' f h' tk' hk (hl'.trans hl) X (S.trans (hl ▸ S')) r
theorem Step.own' {ρ ρ' : List Addr} {lock : List Nat} {L : Addr → Prop} {h h' : Heap} (x : Step ρ lock none' h ρ' h') : Step ρ lock L h ρ' h' := x.weaken fun _ z => z.elim
noncomputable abbrev ExSound (G : Ctx) (n : Nat) (wf : List (Str × NameKind) → Bool) (st : Stmt) (ex : Loc → H → (Fl → Loc → H → Bool) → Bool) : Prop :=
  ∀ {A E env ρ loc σ s κ Q}, At G n A env ρ loc σ s.heap → wf env.scope.names = true → ex loc σ κ = true → ThenS G n A env ρ σ s κ Q → wpAny G.M A (exec st env) Q E s
noncomputable abbrev ExsSound (G : Ctx) (n : Nat) (wf : List (Str × NameKind) → Bool) (st : List Stmt) (ex : Loc → H → (Fl → Loc → H → Bool) → Bool) : Prop :=
  ∀ {A E env ρ loc σ s κ Q}, At G n A env ρ loc σ s.heap → wf env.scope.names = true → ex loc σ κ = true → ThenS G n A env ρ σ s κ Q → wpAny G.M A (execs st env) Q E s
theorem interactive_no {env : Env} (hk : env.scope.kind = .function) : interactive env = false := by
  unfold interactive; rw [hk]; rfl
theorem x_nil : ExsSound G n (fun _ => true) [] (fun loc h κ => κ .next loc h) := fun {A E env ρ loc σ s κ Q} X _ hk K =>
  wpAny_execs_nil (K .next loc σ ρ .next s.heap s.toks hk rfl X Step.refl rfl)
theorem x_cons {w1 w2 : List (Str × NameKind) → Bool} {st : Stmt} {r : List Stmt} {ds dr : DenS} (H1 : ExSound G n w1 st ds.ex) (H2 : ExsSound G n w2 r dr.exs) : ExsSound G n (fun ns => w1 ns && w2 ns) (st :: r) (bCons ds dr) := fun {A E env ρ loc σ s κ Q} X W hk K => by
  obtain ⟨W1, W2⟩ := and_true W
  refine wpAny_execs_cons (H1 X W1 hk fun fl loc' σ' ρ' f h' tk' hk' hl X' S r' => ?_)
  cases fl with
  | next =>
    have r' : f = .next := r'
    subst r'
    exact H2 X' W2 hk' (K.after hl S)
  | cont =>
    have r' : f = .cont := r'
    subst r'
    exact K _ _ _ _ _ _ _ hk' hl X' S rfl
  | ret a =>
    obtain ⟨v, rfl, hv⟩ := r'
    exact K _ _ _ _ _ _ _ hk' hl X' S ⟨v, rfl, hv⟩
noncomputable def isComp : CE → Bool
  | .comp .. => true
  | .compV .. => true
  | _ => false
theorem swap_none {e : CE} (h : isComp e = false) (t : Option Expr) (l : Nat) (env : Env) : swapsWith (toE e) t l env = pure false := by
  cases e <;> first | rfl | cases h
theorem x_expr {e : CE} {d : Den} (H : Sound G n e d) (p : Nat) : ExSound G n (fun ns => wfE e ns && !isComp e) (.Expr (toE e) (P p)) (xExpr d) := fun {A E env ρ loc σ s κ Q} X W hk K => by
  obtain ⟨W1, W2⟩ := and_true W
  have W2 : isComp e = false := by simpa using W2
  exact wpAny_Expr_any (H.ev X W1 hk fun av σ' ρ' v h' tk' hk' hl R S r => K .next loc σ' ρ' .next h' tk' hk' hl (X.step R S) S.own' rfl) (interactive_no X.f.kind) (swap_none W2 _ _ _)
theorem x_ret {e : CE} {d : Den} (H : Sound G n e d) (p : Nat) : ExSound G n (wfE e) (.Return (some (toE e)) (P p)) (xRet d) := fun {A E env ρ loc σ s κ Q} X W hk K =>
  wpAny_Return_some (H.ev X W hk fun av σ' ρ' v h' tk' hk' hl R S r => K (.ret av) loc σ' ρ' (.ret v) h' tk' hk' hl (X.step R S) S.own' ⟨v, rfl, r⟩)
theorem x_ret0 (p : Nat) : ExSound G n (fun _ => true) (.Return none (P p)) (fun loc h κ => κ (.ret .none) loc h) := fun {A E env ρ loc σ s κ Q} X W hk K =>
  wpAny_Return_none (K (.ret .none) loc σ ρ (.ret .none) s.heap s.toks hk rfl X Step.refl ⟨.none, rfl, rfl⟩)
theorem x_cont (p : Nat) : ExSound G n (fun _ => true) (.Continue (P p)) (fun loc h κ => κ .cont loc h) := fun {A E env ρ loc σ s κ Q} X W hk K =>
  wpAny_Continue (K .cont loc σ ρ .cont s.heap s.toks hk rfl X Step.refl rfl)
theorem x_if {t : CE} {dt : Den} {w1 w2 : List (Str × NameKind) → Bool} {b o : List Stmt} {db dd : DenS} (Ht : Sound G n t dt) (Hb : ExsSound G n w1 b db.exs) (Ho : ExsSound G n w2 o dd.exs) (p : Nat) :
    ExSound G n (fun ns => wfE t ns && w1 ns && w2 ns) (.If (toE t) b o (P p)) (xIf dt db dd) := fun {A E env ρ loc σ s κ Q} X W hk K => by
  obtain ⟨W, W3⟩ := and_true W
  obtain ⟨W1, W2⟩ := and_true W
  refine wpAny_If (Ht.tst X W1 hk fun t σ' ρ' t' h' tk' hk' hl R S q => ?_)
  have q : t = t' := q
  subst q
  cases t with
  | true => exact Hb (X.step R S) W2 hk' (K.after hl S.own')
  | false => exact Ho (X.step R S) W3 hk' (K.after hl S.own')
theorem x_asA (O : G.Ok) {o e : CE} {dd d : Den} (Ho : Sound G n o dd) (He : Sound G n e d) (a pa p : Nat) : ExSound G n (fun ns => wfE e ns && wfE o ns && inN attrTab a) (.Assign [.Attribute (toE o) (strOf a) (P pa)] (toE e) (P p)) (xAsA G.tx dd a d) := fun {A E env ρ loc σ s κ Q} X W hk K => by
  obtain ⟨W, W3⟩ := and_true W
  obtain ⟨W1, W2⟩ := and_true W
  refine plainObj_wpAny_Assign_Attribute (He.ev X W1 hk fun av σ' ρ' v h' tk' hk' hl R S r => ?_) (by cases e <;> rfl)
  refine Ho.ev (X.step R S) W2 hk' fun ov σ2 ρ2 w h2 tk2 hk2 hl2 R2 S2 r2 => ?_
  have K2 := (K.after (tk₁ := tk') hl S.own').after (tk₁ := tk2) hl2 S2.own'
  refine setA_sound (L := none') O R2 r2 (S2.vrel r) W3 hk2 fun σ3 h3 tk3 hk3 hl3 R3 S3 => ?_
  exact K2 .next loc σ3 ρ2 .next h3 tk3 hk3 hl3 (((X.step R S).step R2 S2).step R3 S3) S3.own' rfl
theorem x_asI (O : G.Ok) {o i e : CE} {dd di d : Den} (Ho : Sound G n o dd) (Hi : Sound G n i di) (He : Sound G n e d) (pt p : Nat) : ExSound G n (fun ns => wfE e ns && wfE o ns && wfE i ns) (.Assign [.Subscript (toE o) (toE i) (P pt)] (toE e) (P p)) (xAsI dd di d) := fun {A E env ρ loc σ s κ Q} X W hk K => by
  obtain ⟨W, W3⟩ := and_true W
  obtain ⟨W1, W2⟩ := and_true W
  refine wpAny_Assign_Subscript (He.ev X W1 hk fun av σ' ρ' v h' tk' hk' hl R S r => ?_) (by cases e <;> rfl)
  have X' := X.step R S
  refine Ho.ev X' W2 hk' fun ov σ2 ρ2 w h2 tk2 hk2 hl2 R2 S2 r2 => ?_
  have X2 := X'.step R2 S2
  refine Hi.ev X2 W3 hk2 fun iv σ3 ρ3 u h3 tk3 hk3 hl3 R3 S3 r3 => ?_
  have K3 := ((K.after (tk₁ := tk') hl S.own').after (tk₁ := tk2) hl2 S2.own').after (tk₁ := tk3) hl3 S3.own'
  refine setI_sound (L := none') O R3 (S3.vrel r2) r3 (S3.vrel (S2.vrel r)) hk3 fun σ4 h4 tk4 hk4 hl4 R4 S4 => ?_
  exact K3 .next loc σ4 ρ3 .next h4 tk4 hk4 hl4 ((X2.step R3 S3).step R4 S4) S4.own' rfl
noncomputable def isAdd : Operator → Bool
  | .Add => true
  | _ => false
theorem x_augA (O : G.Ok) {o e : CE} {dd d : Den} (Ho : Sound G n o dd) (He : Sound G n e d) (a pa : Nat) (op : Operator) (p : Nat) : ExSound G n (fun ns => wfE o ns && wfE e ns && inN attrTab a && isAdd op) (.AugAssign (.Attribute (toE o) (strOf a) (P pa)) op (toE e) (P p)) (xAugA G.tx dd a op d) :=
  fun {A E env ρ loc σ s κ Q} X W hk K => by
  obtain ⟨W, W4⟩ := and_true W
  obtain ⟨W, W3⟩ := and_true W
  obtain ⟨W1, W2⟩ := and_true W
  refine wpAny_AugAssign_AttributeAny (Ho.ev X W1 hk fun ov σ' ρ' v h' tk' hk' hl R S r => ?_)
  have X' := X.step R S
  refine getA_sound O R r W3 hk' fun old ow tk2 hk2 r2 => ?_
  refine He.ev X' W2 hk2 fun ev σ3 ρ3 w h3 tk3 hk3 hl3 R3 S3 r3 => ?_
  have X3 := X'.step R3 S3
  obtain ⟨x, rfl, z1⟩ := asInt_true hk3
  obtain ⟨y, rfl, z2⟩ := asInt_true z1
  obtain ⟨z, hz, z3⟩ := onS_true z2
  obtain ⟨t, rfl⟩ := r2
  obtain ⟨u, rfl⟩ := r3
  have hop : op = .Add := by cases op <;> first | rfl | cases W4
  refine aug_sound O hop hz fun t tk4 => ?_
  have K3 := (K.after (tk₁ := tk2) hl S.own').after (tk₁ := tk4) hl3 S3.own'
  refine setA_sound (L := none') (av := .int z) O R3 (S3.vrel r) ⟨t, rfl⟩ W3 z3 fun σ4 h4 tk4 hk4 hl4 R4 S4 => ?_
  exact K3 .next loc σ4 ρ3 .next h4 tk4 hk4 hl4 (X3.step R4 S4) S4.own' rfl
end
end Mine
end

section
open PySem PySem.W PyProof.Rows PySem.Calls PySem.Spec
set_option maxRecDepth 100000
set_option maxHeartbeats 2000000
namespace Mine
section
variable {G : Ctx} {n : Nat} {call : Call}
/-- an object that is of no account to the frame turns -/
theorem At.other {A : Around} {env : Env} {ρ : List Addr} {loc : Loc} {σ : H} {h h' : Heap} {I : Addr} (X : At G n A env ρ loc σ h) (R : Rel G ρ σ h') (hs : Heap.ExtBut I h h') (hl : env.locals ≠ I) (hc : ∀ y c, env.cells.lookup y = some c → c ≠ I) : At G n A env ρ loc σ h' := by
  obtain ⟨m, hn⟩ := X.f.ns
  refine ⟨X.a, ⟨X.f.kind, X.f.glob, X.f.bi, ⟨m, hn.extBut hs hl⟩, X.f.out, X.f.fresh, X.f.lam, X.f.cells, fun y c h => ?_, X.f.apart⟩, fun k av hk hi => ?_, R⟩
  · obtain ⟨⟨v', oc, e1, e2⟩, c1, c2, c3⟩ := X.f.cell y c h
    exact ⟨⟨v', oc, hs _ _ (hc _ _ h) e1, e2⟩, c1, c2, c3⟩
  · obtain ⟨w, hw, hN⟩ := X.l k av hk hi
    refine ⟨w, hw, ?_⟩
    rcases hN with ⟨h1, m1, h2, h3⟩ | ⟨h1, c, h2, h3, h4, h5⟩
    · exact .inl ⟨h1, m1, h2.extBut hs hl, h3⟩
    · obtain ⟨o, e1, e2⟩ := h3
      exact .inr ⟨h1, c, h2, ⟨o, hs _ _ (hc _ _ h2) e1, e2⟩, h4, h5⟩
theorem At.lock {A : Around} {env : Env} {ρ : List Addr} {loc : Loc} {σ : H} {h : Heap} (X : At G n A env ρ loc σ h) (lk : List Nat) : At G n A env ρ loc ⟨σ.t, σ.n, lk⟩ h := ⟨X.a, X.f, X.l, X.r.lock lk⟩
theorem At.grown {A : Around} {env : Env} {ρ : List Addr} {loc : Loc} {σ : H} {h h' : Heap} (X : At G n A env ρ loc σ h) (k : ∀ b o, h.get? b = some o → h'.get? b = some o) : At G n A env ρ loc σ h' := X.step (lock := σ.lock) (X.r.grow k) (Step.grow k)
theorem At.notCell {A : Around} {env : Env} {ρ : List Addr} {loc : Loc} {σ : H} {h : Heap} (X : At G n A env ρ loc σ h) {I : Addr} (hI : h.get? I = none) : env.locals ≠ I ∧ ∀ y c, env.cells.lookup y = some c → c ≠ I := by
  constructor
  · obtain ⟨m, o, es, ep, e, _⟩ := X.f.ns
    rintro rfl; rw [hI] at e; cases e
  · rintro y c hc rfl
    obtain ⟨⟨v, o, e, _⟩, _⟩ := X.f.cell y c hc
    rw [hI] at e; cases e
theorem At.ownOut {A : Around} {env : Env} {ρ : List Addr} {loc : Loc} {σ : H} {h : Heap} (X : At G n A env ρ loc σ h) {b : Addr} (hb : b ∈ ρ) : ¬ Own env b := by
  rintro (rfl | ⟨x, hx⟩)
  · exact X.f.out hb
  · exact (X.f.cell _ _ hx).2.1 hb
theorem Step.hide1 {ρ ρ' : List Addr} {lock : List Nat} {L : Addr → Prop} {h h' : Heap} {I : Addr} (x : Step ρ lock (fun b => L b ∨ b = I) h ρ' h') (hI : h.get? I = none) : Step ρ lock L h ρ' h' :=
  ⟨x.ext, x.alive, fun b o e c nl => x.keep b o e c fun z => by
    rcases z with z | z
    · exact nl z
    · rw [z, hI] at e; cases e⟩
theorem forL_nil (b : DenS) (x : Nat) (loc : Loc) (h : H) (κ : Fl → Loc → H → Bool) : forL b x [] loc h κ = κ .next loc h := rfl
theorem forL_cons (b : DenS) (x : Nat) (v : AV) (r : List AV) (loc : Loc) (h : H) (κ : Fl → Loc → H → Bool) : forL b x (v :: r) loc h κ = b.exs ((x, v) :: loc) h fun fl loc h => turnEnd fl (κ fl loc h) (forL b x r loc h κ) := rfl
theorem for_core {body : List Stmt} {db : DenS} {wb : List (Str × NameKind) → Bool} (Hb : ExsSound G n wb body db.exs) {A : Around} {env : Env} {ρ : List Addr} {loc : Loc} {σ : H} {hb : Heap} {s₂ : Shared} {x : Nat} {I : Addr} {px : Pos} {fp : List Addr} {xs : List AV}
    {κ : Fl → Loc → H → Bool} {R : Result → Shared → Prop} {Pp : Nat → Value → Prop} {St : Nat → Heap → Prop} (X : At G n A env ρ loc σ hb) (grow : ∀ b o, hb.get? b = some o → s₂.heap.get? b = some o) (hI : hb.get? I = none)
    (W : Walks G.prog G.w A I fp [I] xs.length Pp St) (st0 : St 0 s₂.heap) (hP : ∀ i v, i < xs.length → Pp i v → ∃ av, xs[i]? = some av ∧ VRel G.ν ρ av v) (hcode : ∀ i h, St i h → ∃ o, h.get? I = some o ∧ ¬ isCodeO o) (hfp : ∀ b ∈ fp, b = I ∨ ∃ l ∈ σ.lock, ρ[l]? = some b)
    (hx : (isLocal (env.scope.names.lookup (strOf x)) || isCell (env.scope.names.lookup (strOf x))) = true) (Wb : wb env.scope.names = true) (hk : forL db x xs loc σ κ = true)
    (K : ∀ fl loc' σ' ρ' f h' tk', κ fl loc' σ' = true → σ'.lock = σ.lock → At G n A env ρ' loc' σ' h' → Step ρ σ.lock (Own env) hb ρ' h' → FlRel G.ν ρ' fl f → R (.ok f) { s₂ with heap := h', toks := tk' }) :
    codeAny G.M A (.forLoop (.Name (strOf x) px) (.ref I) body [] env) R s₂ := by
  obtain ⟨nlI, ncI⟩ := X.notCell hI
  have nOI : ¬ Own env I := by
    rintro (z | ⟨y, hy⟩)
    · exact nlI z.symm
    · exact ncI _ _ hy rfl
  have nI : I ∉ ρ := fun m => by obtain ⟨o, e⟩ := X.r.live _ m; rw [hI] at e; cases e
  have I0 : G.h₀.get? I = none := by
    cases e : G.h₀.get? I with
    | none => rfl
    | some o => have := X.r.base _ _ e; rw [hI] at this; cases this
  let LL : Addr → Prop := fun b => Own env b ∨ b = I
  refine codeAny_forLoop (fun k s' => ∃ h' tk ρ' σ' loc' i, s' = { s₂ with heap := h', toks := tk } ∧ At G n A env ρ' loc' σ' h' ∧ σ'.lock = σ.lock ∧ Step ρ σ.lock LL hb ρ' h' ∧ St i h' ∧ I ∉ ρ' ∧ forL db x (xs.drop i) loc' σ' κ = true ∧ i ≤ xs.length ∧ k = xs.length + 1 - i) ?_ (xs.length + 1)
    ⟨s₂.heap, s₂.toks, ρ, σ, loc, 0, rfl, X.grown grow, rfl, Step.grow grow, st0, nI, by simpa using hk, Nat.zero_le _, rfl⟩
  rintro k s' ⟨h', tk, ρ', σ', loc', i, rfl, X', hl', S', st', nI', hk', hi, rfl⟩
  by_cases hlt : i < xs.length
  · refine W.item i _ _ _ hlt st' fun v h2 tk2 hPv st2 kp2 => ?_
    dsimp only
    obtain ⟨av, hav, hvv⟩ := hP i v hlt hPv
    have ext2 : Heap.ExtBut I h' h2 := fun b o hb e => kp2 b o (by simpa using hb) e
    have R2 := X'.r.turn' (hcode _ _ st') I0 nI' ext2
    have X2 := X'.other R2 ext2 nlI ncI
    have al2 : ∃ o, h2.get? I = some o := by obtain ⟨o, e, _⟩ := hcode _ _ st2; exact ⟨o, e⟩
    have S2 : Step ρ σ.lock LL hb ρ' h2 := S'.trans (Step.own (.inr rfl) ext2 al2)
    have hvv2 : VRel G.ν ρ' av v := S2.vrel hvv
    -- what the walk stands on stays
    have fpk : ∀ {ρa ρb : List Addr} {ha hb' : Heap}, Step ρa σ.lock (Own env) ha ρb hb' → I ∉ ρa → (∀ l a, ρ[l]? = some a → ρa[l]? = some a) → (∀ a ∈ ρa, ¬ Own env a) → ∀ b ∈ fp, ∀ o, ha.get? b = some o → hb'.get? b = some o := fun Sx n1 n2 n3 b hb o e => by
      rcases hfp b hb with rfl | ⟨l, h1, h2⟩
      · exact Sx.keep _ _ e (.inl n1) nOI
      · exact Sx.keep _ _ e (.inr ⟨l, h1, n2 _ _ h2⟩) (n3 _ (List.mem_of_getElem? (n2 _ _ h2)))
    refine wpAny_assign_Name (store_sound (n := n) (s := { s₂ with heap := h2, toks := tk2 }) X2 hx hvv2 fun h3 tk3 X3 S3 => ?_)
    have S3 : Step ρ' σ.lock (Own env) h2 ρ' h3 := hl' ▸ S3
    have S3' : Step ρ σ.lock LL hb ρ' h3 := S2.trans (S3.weaken fun _ z => .inl z)
    have st3 : St (i + 1) h3 := W.frame _ _ _ st2 (fpk S3 nI' (fun _ _ e => S2.at e) fun a ha => X2.ownOut ha)
    have hdrop : xs.drop i = av :: xs.drop (i + 1) := by
      rw [List.drop_eq_getElem_cons hlt]
      rw [List.getElem?_eq_getElem hlt] at hav
      cases hav; rfl
    rw [hdrop, forL_cons] at hk'
    refine Hb (s := { s₂ with heap := h3, toks := tk3 }) X3 Wb hk' fun fl loc4 σ4 ρ4 f h4 tk4 hk4 hl4 X4 S4 r4 => ?_
    have S4 : Step ρ' σ.lock (Own env) h3 ρ4 h4 := hl' ▸ S4
    have S4' : Step ρ σ.lock LL hb ρ4 h4 := S3'.trans (S4.weaken fun _ z => .inl z)
    have lk4 : σ4.lock = σ.lock := hl4.trans hl'
    have go : (forL db x (xs.drop (i + 1)) loc4 σ4 κ = true) → ∃ m, m < xs.length + 1 - i ∧ ∃ h' tk ρ' σ' loc' i, ({ s₂ with heap := h4, toks := tk4 } : Shared) = { s₂ with heap := h', toks := tk } ∧ At G n A env ρ' loc' σ' h' ∧ σ'.lock = σ.lock ∧ Step ρ σ.lock LL hb ρ' h' ∧ St i h' ∧ I ∉ ρ' ∧
        forL db x (xs.drop i) loc' σ' κ = true ∧ i ≤ xs.length ∧ m = xs.length + 1 - i := fun hk5 => by
      have st4 : St (i + 1) h4 := W.frame _ _ _ st3 (fpk S4 nI' (fun _ _ e => S2.at e) fun a ha => X3.ownOut ha)
      have nI4 : I ∉ ρ4 := by obtain ⟨o, e, _⟩ := hcode _ _ st3; exact S4.out nI' e
      exact ⟨xs.length + 1 - (i + 1), by omega, h4, tk4, ρ4, σ4, loc4, i + 1, rfl, X4, lk4, S4', st4, nI4, hk5, hlt, rfl⟩
    cases fl with
    | next => have r4 : f = .next := r4; subst r4; exact go hk4
    | cont => have r4 : f = .cont := r4; subst r4; exact go hk4
    | ret a =>
      obtain ⟨w, rfl, hw⟩ := r4
      exact K (.ret a) loc4 σ4 ρ4 (.ret w) h4 tk4 hk4 lk4 X4 (S4'.hide1 hI) ⟨w, rfl, hw⟩
  · have hin : i = xs.length := by omega
    subst hin
    refine W.done _ _ _ st' fun h2 tk2 kp2 => wpAny_execs_nil ?_
    have ext2 : Heap.ExtBut I h' h2 := fun b o hb e => kp2 b o (by simpa using hb) e
    have R2 := X'.r.turn' (hcode _ _ st') I0 nI' ext2
    have X2 := X'.other R2 ext2 nlI ncI
    rw [List.drop_length, forL_nil] at hk'
    exact K .next loc' σ' ρ' .next h2 tk2 hk' hl' X2 ((S'.hide1 hI).lose hI ext2) rfl
theorem x_for (O : G.Ok) {it : CE} {dt : Den} {body : List Stmt} {db : DenS} {wb : List (Str × NameKind) → Bool} (Ht : Sound G n it dt) (Hb : ExsSound G n wb body db.exs) (x px p : Nat) :
    ExSound G n (fun ns => wfE it ns && (isLocal (ns.lookup (strOf x)) || isCell (ns.lookup (strOf x))) && wb ns) (.For (.Name (strOf x) (P px)) (toE it) body [] (P p)) (xFor x dt db) := fun {A E env ρ loc σ s κ Q} X W hk K => by
  obtain ⟨W, W3⟩ := and_true W
  obtain ⟨W1, W2⟩ := and_true W
  refine wpAny_For (Ht.ev X W1 hk fun o σ' ρ' v h' tk' hk' hl R S r => ?_) (folded it env)
  have X' := X.step R S
  refine iter_sound O X.a.hd R r hk' fun l ax xs h2 tk2 hk2 hax hlen grow IT => ?_
  obtain ⟨Pp, St, Wk, st0, hP, hcode⟩ := IT
  have K' := K.after (tk₁ := tk') hl S.own'
  refine for_core Hb (X'.lock (l :: σ'.lock)) grow (get_size _) Wk st0 (fun i v _ h => hP i v h) hcode (fun b hb => ?_) W2 W3 hk2 fun fl loc' σ3 ρ3 f h3 tk3 hk3 hl3 X3 S3 r3 => ?_
  · rcases List.mem_cons.mp hb with rfl | hb
    · exact .inl rfl
    · rw [List.mem_singleton.mp hb]; exact .inr ⟨l, .head _, hax⟩
  · exact K' fl loc' (σ3.free σ'.lock) ρ3 f h3 tk3 hk3 rfl (X3.lock σ'.lock) (S3.fewer fun _ z => .tail _ z) r3
/-! ### for .. in range(n) -/
theorem rangeL_get (k : Nat) : ∀ (m i : Nat), i < m → (rangeL m k)[i]? = some (.int (.mk (.ofNat (k + i)) [])) := by
  intro m
  induction m generalizing k with
  | zero => intro i h; omega
  | succ m ih =>
    intro i h
    cases i with
    | zero => rfl
    | succ i =>
      show (rangeL m (Nat.succ k))[i]? = _
      rw [ih (Nat.succ k) i (by omega)]
      have : Nat.succ k + i = k + (i + 1) := by omega
      rw [this]
theorem rangeL_length (m k : Nat) : (rangeL m k).length = m := by
  induction m generalizing k with
  | zero => rfl
  | succ m ih => show (rangeL m (Nat.succ k)).length + 1 = m + 1; rw [ih]
theorem x_forR (O : G.Ok) {e : CE} {de : Den} {body : List Stmt} {db : DenS} {wb : List (Str × NameKind) → Bool} (He : Sound G n e de) (Hb : ExsSound G n wb body db.exs) (x px y q r p : Nat) :
    ExSound G n (fun ns => wfE e ns && (isLocal (ns.lookup (strOf x)) || isCell (ns.lookup (strOf x))) && wb ns && isGlob (ns.lookup (strOf y)) && look biNames y == some 9)
      (.For (.Name (strOf x) (P px)) (.Call (.Name (strOf y) (P q)) [toE e] [] (P r)) body [] (P p)) (xForR x de db) := fun {A E env ρ loc σ s κ Q} X W hk K => by
  obtain ⟨W, W5⟩ := and_true W
  obtain ⟨W, W4⟩ := and_true W
  obtain ⟨W, W3⟩ := and_true W
  obtain ⟨W1, W2⟩ := and_true W
  have W5 : look biNames y = some 9 := by simpa using W5
  obtain ⟨b1, b2⟩ := O.bnames _ _ W5
  refine wpAny_For (call_node y _ _ _ (name_bi O X W4 b1 b2 ?_)) (fun _ => rfl)
  show wpAny G.M A (callWith (P r) (.type "range") [] (backTo (P r) (starEach [toE e] env)) []) _ E s
  have he : starEach [toE e] env = [(false, eval (toE e) env)] := starEach_toE e [] env
  rw [he]
  refine PyProof.Rows.callWith_type rfl (Calls.evalArgs_plain (Calls.spliced_cons (He.ev X W1 hk fun av σ' ρ' v h' tk' hk' hl R S r' => Calls.spliced_nil ?_)))
  obtain ⟨N, rfl, hk2⟩ := asNat_true hk'
  obtain ⟨hN, hk3⟩ := rec_true hk2
  have hN := (blt_iff _ _).mp hN
  obtain ⟨t, rfl⟩ := r'
  rw [LI.val_const]
  refine call_range_1 ?_
  refine wpAny_pyIter_range (IsRange.new ..) (small_one (by decide) (by decide) (by show -(2 ^ 62) ≤ (N : Int); omega) (by show (N : Int) < 2 ^ 62; omega)) ?_
  have hsz : Builtin.Range.rangeSize 0 (N : Int) 1 = (N : Int) := by rw [rangeSize_one]; split <;> omega
  have X' := X.step R S
  have K' := K.after (tk₁ := tk') hl S.own'
  dsimp only
  generalize hO : ({ cls := .type "range", data := .fields #[.int 0 tk', .int (Int.ofNat N) t, .int 1 (tk' + 1)] } : Obj) = oR
  have hs1 : h'.objs.size ≤ (h'.push oR).objs.size := by rw [Heap.size_push]; omega
  have kp : ∀ (h : Heap) (o1 : Obj) b o, h.get? b = some o → (h.push o1).get? b = some o := fun h o1 b o e => Heap.get?_push_of_some _ e
  have hz : (Int.ofNat N) = (N : Int) := rfl
  rw [hz, hsz]
  have WR : Walks G.prog G.w A (h'.push oR).objs.size [(h'.push oR).objs.size] [(h'.push oR).objs.size] (rangeL N 0).length (fun i v => ∃ t, v = .int (0 + i * 1) t) (fun i h => IsRangeIter h (h'.push oR).objs.size (0 + (i : Nat) * 1) ((N : Int) - (i : Nat)) 1) := by
    rw [rangeL_length]
    exact Walks.range (prog := G.prog) (w := G.w) (A := A) X.a.hd _ 0 1 N
  refine for_core Hb X' (s₂ := { s with heap := (h'.push oR).push { cls := .type "range_iterator", data := .fields #[rawInt 0, rawInt (N : Int), rawInt 1] }, toks := tk' + 1 + 1 }) (fun b o e => kp _ _ _ _ (kp _ _ _ _ e)) (Heap.get?_none_of_le hs1) WR ?_ (fun i v hi hv => ?_) (fun i h st => ⟨_, st, noCode (c := .type "range_iterator") rfl (by decide)⟩) (fun b hb => .inl (by simpa using hb)) W2 W3 hk3
    fun fl loc' σ3 ρ3 f h3 tk3 hk3 hl3 X3 S3 r3 => K' fl loc' σ3 ρ3 f h3 tk3 hk3 hl3 X3 S3 r3
  · show Heap.get? _ _ = _
    rw [Heap.get?_push_size _ rfl]
    simp
  · obtain ⟨u, rfl⟩ := hv
    rw [rangeL_length] at hi
    refine ⟨_, rangeL_get 0 N i hi, u, ?_⟩
    rw [LI.val_const]
    congr 1
    show (0 : Int) + i * 1 = Int.ofNat (0 + i)
    simp
end
end Mine
end

section
open PySem PySem.W PyProof.Rows PySem.Calls PySem.Spec
set_option maxRecDepth 100000
set_option maxHeartbeats 2000000
namespace Mine
section
variable {G : Ctx} {n : Nat} {call : Call}
theorem asN_plain {e : CE} {d : Den} (H0 : Sound G n e d) {A : Around} {E : Value → Shared → Prop} {env : Env} {ρ : List Addr} {loc : Loc} {σ : H} {s : Shared} {κ : Fl → Loc → H → Bool} {Q : Flow → Shared → Prop} {x px p : Nat}
    (hs : swapsWith (toE e) (some (.Name (strOf x) (P px))) (P p).line env = pure false) (X : At G n A env ρ loc σ s.heap) (W : wfE e env.scope.names = true) (hx : (isLocal (env.scope.names.lookup (strOf x)) || isCell (env.scope.names.lookup (strOf x))) = true)
    (hk : xAsN x d loc σ κ = true) (K : ThenS G n A env ρ σ s κ Q) : wpAny G.M A (exec (.Assign [.Name (strOf x) (P px)] (toE e) (P p)) env) Q E s :=
  wpAny_Assign_Name (H0.ev X W hk fun av σ' ρ' v h' tk' hk' hl R S r => store_sound (n := n) (s := { s with heap := h', toks := tk' }) (X.step R S) hx r fun h3 tk3 X3 S3 =>
    K .next ((x, av) :: loc) σ' ρ' .next h3 tk3 hk' hl X3 (S.own'.trans (hl ▸ S3)) rfl) hs
theorem x_asN (O : G.Ok) {e : CE} {d : Den} (H : Sound G n e d) (x px p : Nat) (he : isComp e = false) : ExSound G n (fun ns => wfE e ns && (isLocal (ns.lookup (strOf x)) || isCell (ns.lookup (strOf x)))) (.Assign [.Name (strOf x) (P px)] (toE e) (P p)) (xAsN x d) := fun {A E env ρ loc σ s κ Q} X W hk K =>
  asN_plain H (swap_none he _ _ _) X (and_true W).1 (and_true W).2 hk K
/-- the list of a comprehension goes to its name before the block's names are let go -/
theorem comp_used {A : Around} {E : Value → Shared → Prop} {env : Env} {ρ ρ' : List Addr} {loc : Loc} {l D C : Nat} {σ σ' : H} {s : Shared} {hb h' : Heap} {tk : Nat} {κ : Fl → Loc → H → Bool} {Q : Flow → Shared → Prop} {yas : List AV} {ys : List Value} {k x px : Nat} {m' : Str → Option Value}
    (X : At G n A env ρ loc σ hb) (hx : (isLocal (env.scope.names.lookup (strOf x)) || isCell (env.scope.names.lookup (strOf x))) = true) (K : ThenS G n A env ρ σ { s with heap := hb } κ Q) (hk : (σ'.free σ.lock).new (.list yas) (fun v h => κ .next ((x, v) :: loc) h) = true)
    (hD0 : hb.get? D = none) (hC0 : hb.get? C = none) (hDC : D ≠ C) (hns : h'.Ns C m') (hD : h'.get? D = some (listOf (List.toArray ys) k)) (hys : VsRel G.ν ρ' yas ys) (R : Rel G ρ' σ' h') (S : Step ρ (l :: σ.lock) none' hb ρ' h') (nD : D ∉ ρ') (nC : C ∉ ρ')
    (h0D : G.h₀.get? D = none) (h2D : 2 ≤ D) (h0C : G.h₀.get? C = none) :
    wpAny G.M A (assign (.Name (strOf x) (P px)) env (.ref D)) (fun _ s'' => ∃ m, s''.heap.Ns C m ∧ ∀ h4, Heap.SameBut C s''.heap h4 → Q .next { s'' with heap := h4 }) E { s with heap := h', toks := tk } := by
  have R1 := R.lock σ.lock
  obtain ⟨z1, z2, z3⟩ := new_true hk
  have R2 := R1.adopt hD nD (ao := .list yas) ⟨ys, k, rfl, hys⟩ z1 (fun _ => ⟨h0D, h2D⟩) z2
  have S2 : Step ρ σ.lock none' hb (ρ' ++ [D]) h' := (S.fewer fun _ z => .tail _ z).more hD0
  have X2 := X.step R2 S2
  have vD : VRel G.ν (ρ' ++ [D]) (.ref σ'.n) (.ref D) := ⟨D, by rw [R.n]; simp, rfl⟩
  have nCD : C ∉ ρ' ++ [D] := fun m => by
    rcases List.mem_append.mp m with m | m
    · exact nC m
    · exact hDC (List.mem_singleton.mp m).symm
  obtain ⟨nl, nc⟩ := X.notCell hC0
  have nO : ¬ Own env C := by
    rintro (z | ⟨y, hy⟩)
    · exact nl z.symm
    · exact nc _ _ hy rfl
  refine wpAny_assign_Name (store_sound (n := n) (s := { s with heap := h', toks := tk }) X2 hx vD fun h4 tk4 X4 S4 => ?_)
  have ns4 : h4.Ns C m' := by
    obtain ⟨o, es, ep, e, r⟩ := hns
    exact ⟨o, es, ep, S4.keep _ _ e (.inl nCD) nO, r⟩
  refine ⟨m', ns4, fun h5 hs5 => ?_⟩
  have R5 := X4.r.turn' (ns_noCode ns4) h0C nCD hs5.extBut
  have X5 := X4.other R5 hs5.extBut nl nc
  exact K .next _ _ (ρ' ++ [D]) .next h5 tk4 z3 rfl X5 ((S2.own'.trans S4).lose hC0 hs5.extBut) rfl
theorem x_asN_comp (O : G.Ok) {elt it ifs : CE} {de dt di : Den} (He : Sound G n elt de) (Ht : Sound G n it dt) (Hi : Sound G n ifs di) (x px y py sc q p : Nat) :
    ExSound G n (fun ns => wfE (.comp elt y py it ifs sc q) ns && (isLocal (ns.lookup (strOf x)) || isCell (ns.lookup (strOf x)))) (.Assign [.Name (strOf x) (P px)] (toE (.comp elt y py it ifs sc q)) (P p)) (xAsN x (leaf (cComp de y dt di))) := fun {A E env ρ loc σ s κ Q} X W hk K => by
  obtain ⟨W0, hx⟩ := and_true W
  cases hb : (env.blockKind == .function && env.kindOf (strOf x) == some .local && (P px).line == (toE (.comp elt y py it ifs sc q)).pos.line && !((scOf sc).names.any fun (n, k) => n == strOf x && (k == .local || k == .cell))) with
  | false =>
    refine asN_plain (s_comp O He Ht Hi y py sc q) ?_ X W0 hx hk K
    show (pure _ : Sem Bool) = pure false
    exact congrArg pure hb
  | true =>
    obtain ⟨W, W4⟩ := and_true W0
    obtain ⟨W, W3⟩ := and_true W
    obtain ⟨W1, W2⟩ := and_true W
    have SC := ScFacts.of W1
    obtain ⟨cl, CL⟩ := cl_facts X.f SC
    have hsw : swapsWith (.ListComp (toE elt) [⟨.Name (strOf y) (P py), toE it, toEs ifs, 0⟩] (scOf sc) (P q)) (some (.Name (strOf x) (P px))) (P p).line env = pure true := by
      show (pure _ : Sem Bool) = pure true
      exact congrArg pure hb
    show wpAny G.M A (exec (.Assign [.Name (strOf x) (P px)] (.ListComp (toE elt) [⟨.Name (strOf y) (P py), toE it, toEs ifs, 0⟩] (scOf sc) (P q)) (P p)) env) Q E s
    rw [exec_Assign_Name_used _ _ _ _ hsw]
    refine wpAny_bind (wpAny_standAt (wpAny_bind ?_))
    show wpAny _ A (do let _ ← comprehension (.ListComp (toE elt) [⟨.Name (strOf y) (P py), toE it, toEs ifs, 0⟩] (scOf sc) (P q)) (scOf sc) env _ (newList []) false (eval (toE it) env) (some (assign (.Name (strOf x) (P px)) env))) _ _ s
    refine wpAny_bind (wpAny_mono (wpAny_comprehension_free (use := some (assign (.Name (strOf x) (P px)) env)) (Q := fun _ s' => Q .next s') rfl (folded it env) CL.eq SC.kind (fun y hy e => (SC.loc y hy e).2)
      (Ht.ev X W2 hk fun o σ' ρ' v h' tk' hk' hl R S r => ?_)) (fun _ s' hq => wpAny_pure (wpAny_pure hq)) fun _ _ e => e)
    refine iter_sound O X.a.hd R r hk' fun l ax xs h2 tk2 hk2 hax hlen grow IT => ?_
    have K' := K.after (tk₁ := tk') hl S.own'
    refine comp_core O He Hi (X.step R S) SC CL W3 W4 grow (get_size _) hax IT hlen hk2 fun D C h3 tk3 m' ρ3 σ3 yas ys k hD0 hC0 hDC hns hD hys hk3 hl3 R3 S3 nD nC h0D h2D h0C => ?_
    exact comp_used (s := { s with heap := h' }) (X.step R S) hx K' hk3 hD0 hC0 hDC hns hD hys R3 S3 nD nC h0D h2D h0C
end
end Mine
end

section
open PySem PySem.W PyProof.Rows PySem.Calls PySem.Spec
set_option maxRecDepth 100000
set_option maxHeartbeats 2000000
namespace Mine
/-! ## several targets at once -/
noncomputable def isTg : CE → List (Str × NameKind) → Bool
  | .nil, _ => true
  | .cons (.loc x _) r, ns => (isLocal (ns.lookup (strOf x)) || isCell (ns.lookup (strOf x))) && isTg r ns
  | .cons (.attr o a _) r, ns => wfE o ns && inN attrTab a && isTg r ns
  | _, _ => false
noncomputable def headAttr : CE → Bool
  | .cons (.attr ..) _ => true
  | _ => false
/-- two or three names, on one line, apart -/
noncomputable def names23 : CE → List (Str × NameKind) → Option (List Nat)
  | .cons (.loc x p) (.cons (.loc y q) .nil), ns => if isLocal (ns.lookup (strOf x)) && isLocal (ns.lookup (strOf y)) && Nat.beq (P q).line (P p).line && !Nat.beq x y then some [x, y] else none
  | .cons (.loc x p) (.cons (.loc y q) (.cons (.loc z r) .nil)), ns =>
    if isLocal (ns.lookup (strOf x)) && isLocal (ns.lookup (strOf y)) && isLocal (ns.lookup (strOf z)) && Nat.beq (P q).line (P p).line && Nat.beq (P r).line (P p).line && !Nat.beq x y && !Nat.beq x z && !Nat.beq y z then some [x, y, z] else none
  | _, _ => none
noncomputable def notFolded : CE → Bool
  | .cons v _ => !foldedForSure 8 (toE v) && !constantsAlone 8 (toE v)
  | _ => false
noncomputable def wfT (ts es : CE) (ns : List (Str × NameKind)) : Bool :=
  wfE es ns && Nat.beq (lenC ts) (lenC es) && Nat.blt (lenC es) 30 && ((isTg ts ns && headAttr ts) || ((names23 ts ns).isSome && notFolded es))
theorem assignEach_toE (e : CE) (rest : List Expr) (env : Env) : assignEach (toE e :: rest) env = (false, assign (toE e) env) :: assignEach rest env := by cases e <;> rfl
theorem assignEach_length (ts : CE) (env : Env) : (assignEach (toEs ts) env).length = lenC ts := by
  induction ts with
  | cons a r _ ih => rw [toEs_cons, assignEach_toE, List.length_cons, ih]; rfl
  | _ => rfl
theorem assignEach_plain (ts : CE) (env : Env) : (assignEach (toEs ts) env).findIdx? (·.1) = none := by
  induction ts with
  | cons a r _ ih => rw [toEs_cons, assignEach_toE, List.findIdx?_cons]; simp [ih]
  | _ => rfl
theorem noStar (es : CE) : ((toEs es).any fun | .Starred .. => true | _ => false) = false := by
  induction es with
  | cons a r _ ih =>
    rw [toEs_cons, List.any_cons, ih]
    cases a <;> rfl
  | _ => rfl
section
variable {G : Ctx} {n : Nat} {call : Call}
theorem At.same {A : Around} {env : Env} {ρ : List Addr} {loc loc' : Loc} {σ : H} {h : Heap} (X : At G n A env ρ loc σ h) (hl : ∀ k, look loc' k = look loc k) : At G n A env ρ loc' σ h :=
  ⟨X.a, X.f, fun k av hk hi => X.l k av (by rw [← hl]; exact hk) hi, X.r⟩
theorem tg_sound (O : G.Ok) (C : CallSound G n call) {A : Around} {E : Value → Shared → Prop} {env : Env} {κ : Fl → Loc → H → Bool} {Q : Flow → Shared → Prop} :
    ∀ (ts : CE) {ρ : List Addr} {loc : Loc} {σ : H} {s : Shared} {avs : List AV} {vs : List Value}, isTg ts env.scope.names = true → At G (n + 1) A env ρ loc σ s.heap → (den G.tx call ts).stos avs loc σ (fun loc h => κ .next loc h) = true →
      VsRel G.ν ρ avs vs → ThenS G (n + 1) A env ρ σ s κ Q → wpAny G.M A (assignInOrder ((assignEach (toEs ts) env).map (·.2)) vs) (fun _ => Q .next) E s
  | .nil, ρ, loc, σ, s, avs, vs, _, X, hk, r, K => by
    obtain ⟨rfl, hk⟩ := nil0_true hk
    cases r
    exact wpAny_pure (K .next loc σ ρ .next s.heap s.toks hk rfl X Step.refl rfl)
  | .cons (.loc x p) r, ρ, loc, σ, s, avs, vs, W, X, hk, rv, K => by
    obtain ⟨W1, W2⟩ := and_true W
    cases rv with
    | nil => cases hk
    | @cons av v as bs r1 r2 =>
      rw [toEs_cons, assignEach_toE]
      show wpAny G.M A (do holding bs (assign (.Name (strOf x) (P p)) env v); assignInOrder ((assignEach (toEs r) env).map (·.2)) bs) _ E s
      refine wpAny_bind (wpAny_holding (wpAny_assign_Name (store_sound (n := n + 1) X W1 r1 fun h' tk X' S => ?_)))
      have hk : (den G.tx call r).stos as ((x, av) :: loc) σ (fun loc h => κ .next loc h) = true := hk
      exact tg_sound O C r (s := { s with heap := h', toks := tk }) W2 X' hk (S.vrels r2) (K.after rfl S)
  | .cons (.attr o a p) r, ρ, loc, σ, s, avs, vs, W, X, hk, rv, K => by
    obtain ⟨W, W3⟩ := and_true W
    obtain ⟨W1, W2⟩ := and_true W
    cases rv with
    | nil => cases hk
    | @cons av v as bs r1 r2 =>
      rw [toEs_cons, assignEach_toE]
      show wpAny G.M A (do holding bs (assign (.Attribute (toE o) (strOf a) (P p)) env v); assignInOrder ((assignEach (toEs r) env).map (·.2)) bs) _ E s
      refine wpAny_bind (wpAny_holding ?_)
      rw [arm_assign_Attribute]
      have hk : (den G.tx call o).ev loc σ (fun ov h => setA G.tx h ov a av fun h => (den G.tx call r).stos as loc h (fun loc h => κ .next loc h)) = true := hk
      refine wpAny_bind (wpAny_holding ((den_sound O C o).ev X W1 hk fun ov σ2 ρ2 w h2 tk2 hk2 hl2 R2 S2 r3 => wpAny_bind (wpAny_standAt (wpAny_bind (wpAny_holding ?_)))))
      refine setA_sound (L := none') O R2 r3 (S2.vrel r1) W2 hk2 fun σ3 h3 tk3 hk3 hl3 R3 S3 => wpAny_release ?_
      have K3 := (K.after (tk₁ := tk2) hl2 S2.own').after (tk₁ := tk3) hl3 S3.own'
      exact tg_sound O C r (s := { s with heap := h3, toks := tk3 }) W3 ((X.step R2 S2).step R3 S3) hk3 (S3.vrels (S2.vrels r2)) K3
  | .none .., _, _, _, _, _, _, W, _, _, _, _ => by cases W
  | .bool .., _, _, _, _, _, _, W, _, _, _, _ => by cases W
  | .int .., _, _, _, _, _, _, W, _, _, _, _ => by cases W
  | .str .., _, _, _, _, _, _, W, _, _, _, _ => by cases W
  | .byt .., _, _, _, _, _, _, W, _, _, _, _ => by cases W
  | .loc .., _, _, _, _, _, _, W, _, _, _, _ => by cases W
  | .glob .., _, _, _, _, _, _, W, _, _, _, _ => by cases W
  | .attr .., _, _, _, _, _, _, W, _, _, _, _ => by cases W
  | .sub .., _, _, _, _, _, _, W, _, _, _, _ => by cases W
  | .tail .., _, _, _, _, _, _, W, _, _, _, _ => by cases W
  | .callF .., _, _, _, _, _, _, W, _, _, _, _ => by cases W
  | .callC .., _, _, _, _, _, _, W, _, _, _, _ => by cases W
  | .callB .., _, _, _, _, _, _, W, _, _, _, _ => by cases W
  | .callM .., _, _, _, _, _, _, W, _, _, _, _ => by cases W
  | .bin .., _, _, _, _, _, _, W, _, _, _, _ => by cases W
  | .cmp .., _, _, _, _, _, _, W, _, _, _, _ => by cases W
  | .andor .., _, _, _, _, _, _, W, _, _, _, _ => by cases W
  | .not .., _, _, _, _, _, _, W, _, _, _, _ => by cases W
  | .neg .., _, _, _, _, _, _, W, _, _, _, _ => by cases W
  | .ife .., _, _, _, _, _, _, W, _, _, _, _ => by cases W
  | .list .., _, _, _, _, _, _, W, _, _, _, _ => by cases W
  | .tup .., _, _, _, _, _, _, W, _, _, _, _ => by cases W
  | .dict .., _, _, _, _, _, _, W, _, _, _, _ => by cases W
  | .comp .., _, _, _, _, _, _, W, _, _, _, _ => by cases W
  | .compV .., _, _, _, _, _, _, W, _, _, _, _ => by cases W
  | .lam .., _, _, _, _, _, _, W, _, _, _, _ => by cases W
  | .cons (.nil ..) _, _, _, _, _, _, _, W, _, _, _, _ => by cases W
  | .cons (.cons ..) _, _, _, _, _, _, _, W, _, _, _, _ => by cases W
  | .cons (.none ..) _, _, _, _, _, _, _, W, _, _, _, _ => by cases W
  | .cons (.bool ..) _, _, _, _, _, _, _, W, _, _, _, _ => by cases W
  | .cons (.int ..) _, _, _, _, _, _, _, W, _, _, _, _ => by cases W
  | .cons (.str ..) _, _, _, _, _, _, _, W, _, _, _, _ => by cases W
  | .cons (.byt ..) _, _, _, _, _, _, _, W, _, _, _, _ => by cases W
  | .cons (.glob ..) _, _, _, _, _, _, _, W, _, _, _, _ => by cases W
  | .cons (.sub ..) _, _, _, _, _, _, _, W, _, _, _, _ => by cases W
  | .cons (.tail ..) _, _, _, _, _, _, _, W, _, _, _, _ => by cases W
  | .cons (.callF ..) _, _, _, _, _, _, _, W, _, _, _, _ => by cases W
  | .cons (.callC ..) _, _, _, _, _, _, _, W, _, _, _, _ => by cases W
  | .cons (.callB ..) _, _, _, _, _, _, _, W, _, _, _, _ => by cases W
  | .cons (.callM ..) _, _, _, _, _, _, _, W, _, _, _, _ => by cases W
  | .cons (.bin ..) _, _, _, _, _, _, _, W, _, _, _, _ => by cases W
  | .cons (.cmp ..) _, _, _, _, _, _, _, W, _, _, _, _ => by cases W
  | .cons (.andor ..) _, _, _, _, _, _, _, W, _, _, _, _ => by cases W
  | .cons (.not ..) _, _, _, _, _, _, _, W, _, _, _, _ => by cases W
  | .cons (.neg ..) _, _, _, _, _, _, _, W, _, _, _, _ => by cases W
  | .cons (.ife ..) _, _, _, _, _, _, _, W, _, _, _, _ => by cases W
  | .cons (.list ..) _, _, _, _, _, _, _, W, _, _, _, _ => by cases W
  | .cons (.tup ..) _, _, _, _, _, _, _, W, _, _, _, _ => by cases W
  | .cons (.dict ..) _, _, _, _, _, _, _, W, _, _, _, _ => by cases W
  | .cons (.comp ..) _, _, _, _, _, _, _, W, _, _, _, _ => by cases W
  | .cons (.compV ..) _, _, _, _, _, _, _, W, _, _, _, _ => by cases W
  | .cons (.lam ..) _, _, _, _, _, _, _, W, _, _, _, _ => by cases W
theorem swapped_attr {ts es : CE} {k k' : Nat} {p1 p2 : Pos} (env : Env) (h : headAttr ts = true) (hl : lenC ts = lenC es) : swappedStores [.Tuple (toEs ts) k p1] (.Tuple (toEs es) k' p2) env = pure none := by
  cases ts with
  | cons a r =>
    cases a with
    | attr o a p =>
      unfold swappedStores
      dsimp only
      split
      · rfl
      · split
        · rfl
        · have lt : ∀ (f : Expr → Option Str) (l : List Expr), (l.filterMap f).length ≤ l.length := fun f l => List.length_filterMap_le f l
          split
          · rfl
          · rename_i hne
            exfalso
            apply hne
            rw [toEs_cons]
            have e : ∀ f : Expr → Option Str, f (toE (.attr o a p)) = none → ((toE (.attr o a p) :: toEs r).filterMap f).length ≤ (toEs r).length := fun f hf => by
              rw [List.filterMap_cons_none hf]; exact lt f _
            rw [Bool.or_eq_true]
            refine .inl ?_
            rw [bne_iff_ne]
            exact Nat.ne_of_lt (Nat.lt_of_le_of_lt (e _ rfl) (by simp))
    | _ => cases h
  | _ => cases h
theorem swapped_of {T V : List Expr} {k k' : Nat} {p1 p2 : Pos} {env : Env} {ns : List Str} (hk : env.scope.kind = .function) (hT : T.length = 2 ∨ T.length = 3) (hV : V.length = T.length) (hs : (V.any fun | .Starred .. => true | _ => false) = false)
    (hn : (T.filterMap fun
      | .Name id pos => if env.kindOf id == some .local && pos.line == ((T.head?.map (·.pos.line)).getD 0) then some id else none
      | _ => none) = ns) (hl : ns.length = T.length) (hd : ns.eraseDups.length = ns.length) (hf : V.all (foldedForSure 8) = false) (hc : V.all (constantsAlone 8) = false) :
    swappedStores [.Tuple T k p1] (.Tuple V k' p2) env = pure (some ns) := by
  unfold swappedStores
  dsimp only
  have bk : env.blockKind = .function := by unfold Env.blockKind; rw [hk]; rfl
  have c1 : (!(T.length == 2 || T.length == 3) || V.length != T.length || env.blockKind != .function) = false := by
    rw [bk, hV]
    rcases hT with h | h <;> rw [h] <;> rfl
  rw [c1]
  simp only [Bool.false_eq_true, if_false]
  split
  · rename_i h
    have h' : (V.any fun | .Starred .. => true | _ => false) = true := h
    rw [hs] at h'; cases h'
  · generalize hN : List.filterMap _ T = N
    have hN : N = ns := hN.symm.trans hn
    subst hN
    have c3 : (N.length != T.length || N.eraseDups.length != N.length) = false := by rw [hl, hd, hl]; simp
    rw [c3, hf, hc]
    rfl
theorem dups2 {a b : Str} (h : a ≠ b) : [a, b].eraseDups.length = 2 := by
  have e1 : (b == a) = false := beq_eq_false_iff_ne.mpr h.symm
  simp [List.eraseDups_cons, List.filter, e1]
theorem dups3 {a b c : Str} (h : a ≠ b) (h2 : a ≠ c) (h3 : b ≠ c) : [a, b, c].eraseDups.length = 3 := by
  have e1 : (b == a) = false := beq_eq_false_iff_ne.mpr h.symm
  have e2 : (c == a) = false := beq_eq_false_iff_ne.mpr h2.symm
  have e3 : (c == b) = false := beq_eq_false_iff_ne.mpr h3.symm
  simp [List.eraseDups_cons, List.filter, e1, e2, e3]
theorem beq_ne {x y : Nat} (h : (!Nat.beq x y) = true) : strOf x ≠ strOf y := fun e => by
  rw [strOf_inj e, Nat.beq_refl] at h; cases h
theorem swapped_names {ts es : CE} {k k' : Nat} {p1 p2 : Pos} {env : Env} {xs : List Nat} (hk : env.scope.kind = .function) (h : names23 ts env.scope.names = some xs) (hf : notFolded es = true) (hl : lenC ts = lenC es) :
    swappedStores [.Tuple (toEs ts) k p1] (.Tuple (toEs es) k' p2) env = pure (some (xs.map strOf)) := by
  have fo : (toEs es).all (foldedForSure 8) = false ∧ (toEs es).all (constantsAlone 8) = false := by
    cases es with
    | cons v r =>
      obtain ⟨h1, h2⟩ := and_true hf
      rw [toEs_cons, List.all_cons, List.all_cons]
      have h1 : foldedForSure 8 (toE v) = false := by simpa using h1
      have h2 : constantsAlone 8 (toE v) = false := by simpa using h2
      rw [h1, h2]; exact ⟨rfl, rfl⟩
    | _ => cases hf
  have lV : (toEs es).length = (toEs ts).length := by rw [lenC_eq, lenC_eq, hl]
  unfold names23 at h
  split at h
  · rename_i ns x p y q
    split at h
    · rename_i hc
      obtain ⟨hc, h4⟩ := and_true hc
      obtain ⟨hc, h3⟩ := and_true hc
      obtain ⟨h1, h2⟩ := and_true hc
      cases h
      have h3 := Nat.eq_of_beq_eq_true h3
      refine swapped_of hk (.inl rfl) lV (noStar es) ?_ rfl (dups2 (beq_ne h4)) fo.1 fo.2
      have k1 : env.kindOf (strOf x) = some .local := isLocal_eq h1
      have k2 : env.kindOf (strOf y) = some .local := isLocal_eq h2
      show List.filterMap _ [Expr.Name (strOf x) (P p), Expr.Name (strOf y) (P q)] = _
      simp [List.filterMap_cons, k1, k2, h3, toEs_cons, toE, toR, Expr.pos]
    · cases h
  · rename_i ns x p y q z r
    split at h
    · rename_i hc
      obtain ⟨hc, h8⟩ := and_true hc
      obtain ⟨hc, h7⟩ := and_true hc
      obtain ⟨hc, h6⟩ := and_true hc
      obtain ⟨hc, h5⟩ := and_true hc
      obtain ⟨hc, h4⟩ := and_true hc
      obtain ⟨hc, h3⟩ := and_true hc
      obtain ⟨h1, h2⟩ := and_true hc
      cases h
      have h4 := Nat.eq_of_beq_eq_true h4
      have h5 := Nat.eq_of_beq_eq_true h5
      refine swapped_of hk (.inr rfl) lV (noStar es) ?_ rfl (dups3 (beq_ne h6) (beq_ne h7) (beq_ne h8)) fo.1 fo.2
      have k1 : env.kindOf (strOf x) = some .local := isLocal_eq h1
      have k2 : env.kindOf (strOf y) = some .local := isLocal_eq h2
      have k3 : env.kindOf (strOf z) = some .local := isLocal_eq h3
      show List.filterMap _ [Expr.Name (strOf x) (P p), Expr.Name (strOf y) (P q), Expr.Name (strOf z) (P r)] = _
      simp [List.filterMap_cons, k1, k2, k3, h4, h5, toEs_cons, toE, toR, Expr.pos]
    · cases h
  · cases h
end
end Mine
end

section
open PySem PySem.W PyProof.Rows PySem.Calls PySem.Spec
set_option maxRecDepth 100000
set_option maxHeartbeats 400000
namespace Mine
section
variable {G : Ctx} {n : Nat} {call : Call}
theorem names23_cases {ts : CE} {ns : List (Str × NameKind)} {xs : List Nat} (h : names23 ts ns = some xs) :
    (∃ x p y q, ts = .cons (.loc x p) (.cons (.loc y q) .nil) ∧ xs = [x, y] ∧ isLocal (ns.lookup (strOf x)) = true ∧ isLocal (ns.lookup (strOf y)) = true ∧ x ≠ y) ∨
    (∃ x p y q z r, ts = .cons (.loc x p) (.cons (.loc y q) (.cons (.loc z r) .nil)) ∧ xs = [x, y, z] ∧ isLocal (ns.lookup (strOf x)) = true ∧ isLocal (ns.lookup (strOf y)) = true ∧ isLocal (ns.lookup (strOf z)) = true ∧ x ≠ y ∧ x ≠ z ∧ y ≠ z) := by
  unfold names23 at h
  split at h
  · rename_i x p y q
    split at h
    · rename_i hc
      obtain ⟨hc, h4⟩ := and_true hc
      obtain ⟨hc, h3⟩ := and_true hc
      obtain ⟨h1, h2⟩ := and_true hc
      cases h
      exact .inl ⟨_, _, _, _, rfl, rfl, h1, h2, fun e => beq_ne h4 (by rw [e])⟩
    · cases h
  · rename_i x p y q z r
    split at h
    · rename_i hc
      obtain ⟨hc, h8⟩ := and_true hc
      obtain ⟨hc, h7⟩ := and_true hc
      obtain ⟨hc, h6⟩ := and_true hc
      obtain ⟨hc, h5⟩ := and_true hc
      obtain ⟨hc, h4⟩ := and_true hc
      obtain ⟨hc, h3⟩ := and_true hc
      obtain ⟨h1, h2⟩ := and_true hc
      cases h
      exact .inr ⟨_, _, _, _, _, _, rfl, rfl, h1, h2, h3, fun e => beq_ne h6 (by rw [e]), fun e => beq_ne h7 (by rw [e]), fun e => beq_ne h8 (by rw [e])⟩
    · cases h
  · cases h
theorem all2_two {α β : Type} {R : α → β → Prop} {as : List α} {bs : List β} (h : All2 R as bs) (hl : bs.length = 2) : ∃ a1 a2 b1 b2, as = [a1, a2] ∧ bs = [b1, b2] ∧ R a1 b1 ∧ R a2 b2 := by
  cases h with
  | nil => cases hl
  | cons r1 h => cases h with
    | nil => cases hl
    | cons r2 h => cases h with
      | nil => exact ⟨_, _, _, _, rfl, rfl, r1, r2⟩
      | cons => simp at hl
theorem all2_three {α β : Type} {R : α → β → Prop} {as : List α} {bs : List β} (h : All2 R as bs) (hl : bs.length = 3) : ∃ a1 a2 a3 b1 b2 b3, as = [a1, a2, a3] ∧ bs = [b1, b2, b3] ∧ R a1 b1 ∧ R a2 b2 ∧ R a3 b3 := by
  cases h with
  | nil => cases hl
  | cons r1 h => cases h with
    | nil => cases hl
    | cons r2 h => cases h with
      | nil => cases hl
      | cons r3 h => cases h with
        | nil => exact ⟨_, _, _, _, _, _, rfl, rfl, r1, r2, r3⟩
        | cons => simp at hl
theorem x_asT (O : G.Ok) (C : CallSound G n call) (ts es : CE) (k pt k' pe p : Nat) : ExSound G (n + 1) (wfT ts es) (.Assign [.Tuple (toEs ts) k (P pt)] (.Tuple (toEs es) k' (P pe)) (P p)) (xAsT (den G.tx call ts) (den G.tx call es)) := fun {A E env ρ loc σ s κ Q} X W hk K => by
  obtain ⟨W, W4⟩ := and_true W
  obtain ⟨W, W3⟩ := and_true W
  obtain ⟨W1, W2⟩ := and_true W
  have W2 := Nat.eq_of_beq_eq_true W2
  have W3 := (blt_iff _ _).mp W3
  rw [exec_Assign_arm]
  refine wpAny_bind (wpAny_standAt ?_)
  show wpAny G.M A (do
      let b ← (pure false : Sem Bool)
      if b = true then _ else do
        let v ← eval (.Tuple (toEs es) k' (P pe)) env
        assignStores env v (← swappedStores [.Tuple (toEs ts) k (P pt)] (.Tuple (toEs es) k' (P pe)) env) ((assignEach [.Tuple (toEs ts) k (P pt)] env).map (·.2))) Q E s
  refine wpAny_bind (wpAny_pure ?_)
  rw [if_neg (by decide)]
  refine wpAny_bind (wpAny_Tuple ((den_sound O C es).evs X W1 hk fun avs σ' ρ' vs h' tk' hk' hl R S q => ⟨?_, ?_⟩))
  · have := q.1.length; rw [sizeLine_eq]; have := q.2; omega
  have lv : vs.length = lenC ts := by rw [← q.1.length, q.2, W2]
  dsimp only
  generalize hT : ({ cls := .type "tuple", data := .seq vs.toArray } : Obj) = oT
  have kp : ∀ b o, h'.get? b = some o → (h'.push oT).get? b = some o := fun b o e => Heap.get?_push_of_some _ e
  have htup : Heap.IsTuple (h'.push oT) h'.objs.size (List.toArray vs) := ⟨oT, Heap.get?_push_size _ (by rw [← hT]; rfl), by rw [← hT], 0, by rw [← hT]⟩
  have K2 := K.after (tk₁ := tk') hl S.own'
  have X2 := X.step R S
  have up : ∀ h3, Heap.ExtBut (h'.push oT).objs.size (h'.push oT) h3 → ∀ b o, h'.get? b = some o → h3.get? b = some o := fun h3 hx b o e => hx b o (by
    have := Heap.lt_size (kp b o e)
    exact Nat.ne_of_lt this) (kp b o e)
  rcases Bool.or_eq_true _ _ ▸ W4 with W4 | W4
  · obtain ⟨T1, T2⟩ := and_true W4
    rw [swapped_attr env T2 W2]
    refine wpAny_bind (wpAny_pure ?_)
    show wpAny G.M A (do assign (.Tuple (toEs ts) k (P pt)) env (.ref h'.objs.size); pure .next) Q E _
    refine wpAny_bind ?_
    rw [arm_assign_Tuple]
    refine wpAny_bind (wpAny_standAt (wpAny_unpack_tuple (items := List.toArray vs) X.a.hd htup (by rw [assignEach_length, List.size_toArray, lv]) (assignEach_plain _ _) fun h3 hx => ?_))
    refine wpAny_mono (tg_sound O C ts (s := { s with heap := h3, toks := tk' }) T1 (X2.grown (up h3 hx)) hk' q.1 (K2.after (tk₁ := tk') rfl (Step.grow (up h3 hx)))) (fun _ _ h => wpAny_pure h) fun _ _ e => e
  · obtain ⟨T1, T2⟩ := and_true W4
    obtain ⟨xs, hxs⟩ := Option.isSome_iff_exists.mp T1
    rw [swapped_names X.f.kind hxs T2 W2]
    refine wpAny_bind (wpAny_pure ?_)
    show wpAny G.M A (do
      rule "assign.swapped-stores"
      let items ← unpackItems (.ref h'.objs.size) (xs.map strOf).length none
      assignInOrder ((xs.map strOf).reverse.map fun n => bindName env n) items.reverse
      pure .next) Q E _
    have done : ∀ {loc2 h4 tk4}, (∃ loc1, κ .next loc1 σ' = true ∧ ∀ i, look loc1 i = look loc2 i) → At G (n + 1) A env ρ' loc2 σ' h4 → Step ρ' σ'.lock (Own env) h' ρ' h4 → Q .next { s with heap := h4, toks := tk4 } := fun {loc2 h4 tk4} hκ X4 S4 => by
      obtain ⟨loc1, k1, k2⟩ := hκ
      exact K2 .next loc1 σ' ρ' .next h4 tk4 k1 rfl (X4.same k2) S4 rfl
    refine wpAny_bind (wpAny_rule ?_)
    have bl : ∀ {x}, isLocal (env.scope.names.lookup (strOf x)) = true → (isLocal (env.scope.names.lookup (strOf x)) || isCell (env.scope.names.lookup (strOf x))) = true := fun h => by rw [h]; rfl
    rcases names23_cases hxs with ⟨x, p1, y, p2, rfl, rfl, l1, l2, ne⟩ | ⟨x, p1, y, p2, z, p3, rfl, rfl, l1, l2, l3, ne1, ne2, ne3⟩
    · obtain ⟨a1, a2, v1, v2, rfl, rfl, r1, r2⟩ := all2_two q.1 lv
      · skip
        refine wpAny_bind (wpAny_unpackItems_tuple (items := #[v1, v2]) X.a.hd htup fun h3 hx => ?_)
        show wpAny G.M A (do assignInOrder [bindName env (strOf y), bindName env (strOf x)] [v2, v1]; pure .next) Q E _
        show wpAny G.M A (do (do holding [v1] (bindName env (strOf y) v2); (do holding [] (bindName env (strOf x) v1); pure ())); pure .next) Q E _
        have hk' : κ .next ((y, a2) :: (x, a1) :: loc) σ' = true := hk'
        refine wpAny_bind (wpAny_bind (wpAny_holding (wpAny_bindName (store_sound (n := n + 1) (s := { s with heap := h3, toks := tk' }) (X2.grown (up h3 hx)) (bl l2) r2 fun h4 tk4 X4 S4 => ?_))))
        refine wpAny_bind (wpAny_holding (wpAny_bindName (store_sound (n := n + 1) (s := { s with heap := h4, toks := tk4 }) X4 (bl l1) r1 fun h5 tk5 X5 S5 => wpAny_pure (wpAny_pure ?_))))
        refine done ⟨_, hk', fun i => ?_⟩ X5 ((Step.grow (up h3 hx)).trans (S4.trans S5))
        simp only [look_cons]
        by_cases e1 : y = i <;> by_cases e2 : x = i <;> simp [e1, e2]
        exact absurd (e2.trans e1.symm) ne
    · obtain ⟨a1, a2, a3, v1, v2, v3, rfl, rfl, r1, r2, r3⟩ := all2_three q.1 lv
      · skip
        refine wpAny_bind (wpAny_unpackItems_tuple (items := #[v1, v2, v3]) X.a.hd htup fun h3 hx => ?_)
        show wpAny G.M A (do (do holding [v2, v1] (bindName env (strOf z) v3); (do holding [v1] (bindName env (strOf y) v2); (do holding [] (bindName env (strOf x) v1); pure ()))); pure .next) Q E _
        have hk' : κ .next ((z, a3) :: (y, a2) :: (x, a1) :: loc) σ' = true := hk'
        refine wpAny_bind (wpAny_bind (wpAny_holding (wpAny_bindName (store_sound (n := n + 1) (s := { s with heap := h3, toks := tk' }) (X2.grown (up h3 hx)) (bl l3) r3 fun h4 tk4 X4 S4 => ?_))))
        refine wpAny_bind (wpAny_holding (wpAny_bindName (store_sound (n := n + 1) (s := { s with heap := h4, toks := tk4 }) X4 (bl l2) r2 fun h5 tk5 X5 S5 => ?_)))
        refine wpAny_bind (wpAny_holding (wpAny_bindName (store_sound (n := n + 1) (s := { s with heap := h5, toks := tk5 }) X5 (bl l1) r1 fun h6 tk6 X6 S6 => wpAny_pure (wpAny_pure ?_))))
        refine done ⟨_, hk', fun i => ?_⟩ X6 ((Step.grow (up h3 hx)).trans (S4.trans (S5.trans S6)))
        simp only [look_cons]
        by_cases e1 : z = i <;> by_cases e2 : y = i <;> by_cases e3 : x = i <;> simp [e1, e2, e3]
        · exact absurd (e2.trans e1.symm) ne3
        · exact absurd (e2.trans e1.symm) ne3
        · exact absurd (e3.trans e1.symm) ne2
        · exact absurd (e3.trans e2.symm) ne1
end
end Mine
end

section
open PySem PySem.W PyProof.Rows PySem.Calls PySem.Spec
set_option maxRecDepth 100000
set_option maxHeartbeats 400000
namespace Mine
/-! ## all statements -/
noncomputable def isCompV : CE → Bool
  | .compV .. => true
  | _ => false
noncomputable def wfS : CS → List (Str × NameKind) → Bool
  | .nil, _ => true
  | .cons s r, ns => wfS s ns && wfS r ns
  | .expr e _, ns => wfE e ns && !isComp e
  | .asN x _ e _, ns => wfE e ns && (isLocal (ns.lookup (strOf x)) || isCell (ns.lookup (strOf x))) && !isCompV e
  | .asA o a _ e _, ns => wfE e ns && wfE o ns && inN attrTab a
  | .asI o i _ e _, ns => wfE e ns && wfE o ns && wfE i ns
  | .asT ts _ _ es _ _ _, ns => wfT ts es ns
  | .augA o a _ op e _, ns => wfE o ns && wfE e ns && inN attrTab a && isAdd op
  | .ifs t b o _, ns => wfE t ns && wfS b ns && wfS o ns
  | .for_ x _ it b _, ns => wfE it ns && (isLocal (ns.lookup (strOf x)) || isCell (ns.lookup (strOf x))) && wfS b ns
  | .forR x _ y e _ _ b _, ns => wfE e ns && (isLocal (ns.lookup (strOf x)) || isCell (ns.lookup (strOf x))) && wfS b ns && isGlob (ns.lookup (strOf y)) && look biNames y == some 9
  | .ret e _, ns => wfE e ns
  | .ret0 _, _ => true
  | .cont _, _ => true
  | .raise _ _, _ => true
section
variable {G : Ctx} {n : Nat} {call : Call}
structure SoundS (G : Ctx) (n : Nat) (s : CS) (d : DenS) : Prop where
  ex : ExSound G n (wfS s) (toS s) d.ex
  exs : ExsSound G n (wfS s) (toSs s) d.exs
theorem SoundS.of {s : CS} {ex : Loc → H → (Fl → Loc → H → Bool) → Bool} (h : ExSound G n (wfS s) (toS s) ex) : SoundS G n s (stm ex) := ⟨h, fun _ _ h _ => by cases h⟩
theorem ds_sound (O : G.Ok) (C : CallSound G n call) (s : CS) : SoundS G (n + 1) s (denS G.tx call s) := by
  have D := den_sound O C
  induction s with
  | nil => exact ⟨fun _ _ h _ => (by cases h), fun X W hk K => x_nil X W hk K⟩
  | cons s r h1 h2 => exact ⟨fun _ _ h _ => (by cases h), fun X W hk K => x_cons h1.ex h2.exs X W hk K⟩
  | expr e p => exact .of (x_expr (D e) p)
  | asN x px e p =>
    refine .of fun X W hk K => ?_
    obtain ⟨W, W3⟩ := and_true W
    by_cases he : isComp e = true
    · cases e with
      | comp elt y py it ifs sc q => exact x_asN_comp O (D elt) (D it) (D ifs) x px y py sc q p X W hk K
      | compV => cases W3
      | _ => cases he
    · exact x_asN O (D e) x px p (by simpa using he) X W hk K
  | asA o a pa e p => exact .of (x_asA O (D o) (D e) a pa p)
  | asI o i pt e p => exact .of (x_asI O (D o) (D i) (D e) pt p)
  | asT ts k pt es k' pe p => exact .of (x_asT O C ts es k pt k' pe p)
  | augA o a pa op e p => exact .of (x_augA O (D o) (D e) a pa op p)
  | ifs t b o p h1 h2 => exact .of (x_if (D t) h1.exs h2.exs p)
  | for_ x px it b p h => exact .of (x_for O (D it) h.exs x px p)
  | forR x px y e q r b p h => exact .of (x_forR O (D e) h.exs x px y q r p)
  | ret e p => exact .of (x_ret (D e) p)
  | ret0 p => exact .of (x_ret0 p)
  | cont p => exact .of (x_cont p)
  | raise e p => exact .of fun _ _ h _ => by cases h

/-! ## calls of defs -/
noncomputable def bindV : List Nat → Nat → List Value → Option (List (Str × Value))
  | [], _, [] => some []
  | x :: r, d, v :: vs => match bindV r d vs with
    | some l => some ((strOf x, v) :: l)
    | none => none
  | x :: r, d, [] => match Nat.ble (List.length (x :: r)) d with
    | true => match bindV r d [] with
      | some l => some ((strOf x, .none) :: l)
      | none => none
    | false => none
  | [], _, _ :: _ => none
theorem bind_rel {ν : List Int} {ρ : List Addr} : ∀ {ps : List Nat} {d : Nat} {avs : List AV} {vs : List Value} {loc : Loc}, VsRel ν ρ avs vs → Mine.bindArgs ps d avs = some loc →
    ∃ binds, bindV ps d vs = some binds ∧ All2 (fun (p : Nat × AV) (q : Str × Value) => q.1 = strOf p.1 ∧ VRel ν ρ p.2 q.2) loc binds ∧ loc.map Prod.fst = ps
  | [], d, [], _, loc, .nil, h => by cases h; exact ⟨[], rfl, .nil, rfl⟩
  | [], d, _ :: _, _, loc, .cons _ _, h => by cases h
  | x :: r, d, a :: avs, _, loc, .cons (b := v) (bs := vs) h1 h2, h => by
    unfold Mine.bindArgs at h
    cases q : Mine.bindArgs r d avs with
    | none => rw [q] at h; cases h
    | some l =>
      rw [q] at h
      cases h
      obtain ⟨bs, e1, e2, e3⟩ := bind_rel h2 q
      refine ⟨(strOf x, v) :: bs, by unfold bindV; rw [e1], .cons ⟨rfl, h1⟩ e2, by simp [e3]⟩
  | x :: r, d, [], _, loc, .nil, h => by
    unfold Mine.bindArgs at h
    cases hb : Nat.ble (List.length (x :: r)) d with
    | false => rw [hb] at h; cases h
    | true =>
      rw [hb] at h
      dsimp only at h
      cases q : Mine.bindArgs r d [] with
      | none => rw [q] at h; cases h
      | some l =>
        rw [q] at h
        cases h
        obtain ⟨bs, e1, e2, e3⟩ := bind_rel (ν := ν) (ρ := ρ) .nil q
        refine ⟨(strOf x, .none) :: bs, by unfold bindV; rw [hb]; dsimp only; rw [e1], .cons ⟨rfl, rfl⟩ e2, by simp [e3]⟩
noncomputable def parOk (ps : List Nat) (ns : List (Str × NameKind)) : Bool := nodupN ps && ps.all fun x => isLocal (ns.lookup (strOf x)) || isCell (ns.lookup (strOf x))
structure FnOk (G : Ctx) (fn : Fn) (fa : Addr) : Prop where
  ex : ∃ o fd, G.h₀.get? fa = some o ∧ o.data = .func fd ∧ fd.body = .stmts (toSs fn.body) ∧ G.h₀.CodeRec fd.code fd.qualname ∧ fd.closure = [] ∧ fd.globals = mainGlobals ∧ fd.builtins = builtinsNs ∧ fd.scope.isCoroutine = false ∧ fd.scope.isGenerator = false ∧ fd.scope.kind = .function ∧
    wfS fn.body fd.scope.names = true ∧ (isLocal (fd.scope.names.lookup (strOf 3)) = true → fd.code = .ref G.cc) ∧ parOk fn.params fd.scope.names = true ∧
    ∀ vals binds, bindV fn.params fn.dflt vals = some binds → ∀ s : Shared, G.K.In s.heap → BindsTo s fd ⟨vals, []⟩ binds
theorem call_cells {prog : Program} {w : World} {A : Around} {s : Shared} {R : Result → Shared → Prop} {a : Addr} {o : Obj} {fd : FuncData} {body : List Stmt} {vals : List Value} {binds : List (Str × Value)}
    (hroom : A.depth < recursionLimit) (ho : s.heap.get? a = some o) (hdata : o.data = .func fd) (hlim : s.heap.NoLimit) (hcd : s.heap.CodeRec fd.code fd.qualname)
    (hbody : fd.body = .stmts body) (hbind : BindsTo s fd ⟨vals, []⟩ binds) (hclo : fd.closure = [])
    (hkind : ∀ x ∈ binds, fd.scope.names.lookup x.1 = some .local ∨ (fd.scope.names.lookup x.1 = some .cell ∧ ((cellsFrom (s.heap.objs.size + 1) fd.scope.names []).lookup x.1).isSome = true))
    (h : ∀ s₁, InCallC s (callEnvC fd s.heap.objs.size a).locals (bindL (callEnvC fd s.heap.objs.size a).kindOf binds fun _ => none) (callEnvC fd s.heap.objs.size a).cells
        (bindC (callEnvC fd s.heap.objs.size a).kindOf binds fun _ => none) s₁ →
      wpAny (model prog w) (A.deeper (callEnvC fd s.heap.objs.size a)) (execs body (callEnvC fd s.heap.objs.size a)) (fun f s' => R (.ok (.ret (match f with | .ret v => v | _ => .none))) s')
        (fun e s' => wpAny (model prog w) (A.deeper (callEnvC fd s.heap.objs.size a)) (leaving (callEnvC fd s.heap.objs.size a) e) (fun _ s'' => R (.error e) s'') (fun e' s'' => R (.error e') s'') s') s₁)
    (hco : fd.scope.isCoroutine = false) (hgen : fd.scope.isGenerator = false) (hk : fd.scope.kind = .function) :
    codeAny (model prog w) A (.call (.ref a) ⟨vals, []⟩) R s := by
  refine codeAny_call_function hroom ho hdata hco hgen hbody hcd (hbind _ _ _ _ ?_)
  rw [hclo]
  refine wpAny_newFunctionEnv_cells hk hkind fun env he s' x => ?_
  subst he
  exact ⟨hlim.keeps x.toInCall.keep, codeAny_func (h s' x)⟩
theorem cellsFrom_has : ∀ (names : List (Str × NameKind)) (m : Nat) (acc : List (Str × Addr)) (x : Str), ((x, NameKind.cell) ∈ names ∨ ∃ c, (x, c) ∈ acc) → ∃ c, (x, c) ∈ cellsFrom m names acc
  | [], m, acc, x, h => by
    rcases h with h | h
    · cases h
    · exact h
  | (y, k) :: r, m, acc, x, h => by
    unfold cellsFrom
    by_cases hk : (k == NameKind.cell) = true
    · rw [if_pos hk]
      refine cellsFrom_has r _ _ x ?_
      rcases h with h | ⟨c, h⟩
      · rcases List.mem_cons.mp h with h | h
        · cases h; exact .inr ⟨m, .head _⟩
        · exact .inl h
      · exact .inr ⟨c, .tail _ h⟩
    · rw [if_neg hk]
      refine cellsFrom_has r _ _ x ?_
      rcases h with h | h
      · rcases List.mem_cons.mp h with h | h
        · cases h; exact absurd rfl hk
        · exact .inl h
      · exact .inr h
theorem cells_has {names : List (Str × NameKind)} {m : Nat} {x : Str} (h : isCell (names.lookup x) = true) : ((cellsFrom m names []).lookup x).isSome = true := by
  obtain ⟨c, hc⟩ := cellsFrom_has names m [] x (.inl (lookup_mem (isCell_eq h)))
  exact mem_lookupA hc
theorem bindL_at {kd : Str → Option NameKind} : ∀ {binds : List (Str × Value)} {m : Str → Option Value} {y : Str} {v : Value}, (binds.map Prod.fst).Nodup → ((y, v) ∈ binds ∧ kd y = some .local) ∨ (y ∉ binds.map Prod.fst ∧ m y = some v) → bindL kd binds m y = some v
  | [], m, y, v, _, h => by
    rcases h with ⟨h, _⟩ | ⟨_, h⟩
    · cases h
    · exact h
  | (n, w) :: r, m, y, v, hn, h => by
    rw [List.map_cons, List.nodup_cons] at hn
    unfold bindL
    refine bindL_at hn.2 ?_
    rcases h with ⟨h, hk⟩ | ⟨h, hm⟩
    · rcases List.mem_cons.mp h with h | h
      · cases h; exact .inr ⟨hn.1, by rw [if_pos hk]; simp⟩
      · exact .inl ⟨h, hk⟩
    · simp only [List.map_cons, List.mem_cons, not_or] at h
      refine .inr ⟨h.2, ?_⟩
      split
      · simp [h.1, hm]
      · exact hm
theorem bindC_at {kd : Str → Option NameKind} : ∀ {binds : List (Str × Value)} {m : Str → Option Value} {y : Str} {v : Value}, (binds.map Prod.fst).Nodup → ((y, v) ∈ binds ∧ kd y ≠ some .local) ∨ (y ∉ binds.map Prod.fst ∧ m y = some v) → bindC kd binds m y = some v
  | [], m, y, v, _, h => by
    rcases h with ⟨h, _⟩ | ⟨_, h⟩
    · cases h
    · exact h
  | (n, w) :: r, m, y, v, hn, h => by
    rw [List.map_cons, List.nodup_cons] at hn
    unfold bindC
    refine bindC_at hn.2 ?_
    rcases h with ⟨h, hk⟩ | ⟨h, hm⟩
    · rcases List.mem_cons.mp h with h | h
      · cases h; exact .inr ⟨hn.1, by rw [if_neg hk]; simp⟩
      · exact .inl ⟨h, hk⟩
    · simp only [List.map_cons, List.mem_cons, not_or] at h
      refine .inr ⟨h.2, ?_⟩
      split
      · exact hm
      · simp [h.1, hm]
theorem nodup_of : ∀ {l : List Nat}, nodupN l = true → l.Nodup
  | [], _ => List.nodup_nil
  | x :: r, h => by
    unfold nodupN at h
    cases q : inN r x with
    | true => rw [q] at h; cases h
    | false =>
      rw [q] at h
      exact List.nodup_cons.mpr ⟨fun m => (by rw [inN_of_mem m] at q; cases q), nodup_of h⟩
theorem look_mem {loc : Loc} {k : Nat} {av : AV} (h : look loc k = some av) : (k, av) ∈ loc := by
  induction loc with
  | nil => cases h
  | cons p r ih =>
    obtain ⟨x, a⟩ := p
    rw [look_cons] at h
    by_cases e : x = k
    · rw [if_pos e] at h; cases h; rw [e]; exact .head _
    · rw [if_neg e] at h; exact .tail _ (ih h)
theorem All2.mem {α β : Type} {R : α → β → Prop} {as : List α} {bs : List β} (h : All2 R as bs) {a : α} (m : a ∈ as) : ∃ b ∈ bs, R a b := by
  induction h with
  | nil => cases m
  | cons r _ ih =>
    rcases List.mem_cons.mp m with rfl | m
    · exact ⟨_, .head _, r⟩
    · obtain ⟨b, h1, h2⟩ := ih m; exact ⟨b, .tail _ h1, h2⟩
theorem names_of {ν : List Int} {ρ : List Addr} {loc : Loc} {binds : List (Str × Value)} (h : All2 (fun (p : Nat × AV) (q : Str × Value) => q.1 = strOf p.1 ∧ VRel ν ρ p.2 q.2) loc binds) : binds.map Prod.fst = (loc.map Prod.fst).map strOf := by
  induction h with
  | nil => rfl
  | cons r _ ih => simp [ih, r.1]
noncomputable def flowVal (f : Flow) : Value := match f with | .ret v => v | _ => .none
theorem FlRel.val {ν : List Int} {ρ : List Addr} {fl : Fl} {f : Flow} (h : FlRel ν ρ fl f) : VRel ν ρ fl.val (flowVal f) := by
  cases fl with
  | next => have h : f = .next := h; subst h; rfl
  | cont => have h : f = .cont := h; subst h; rfl
  | ret a => obtain ⟨v, rfl, hv⟩ := h; exact hv
theorem def_sound (O : G.Ok) (hF : ∀ f fn fa, G.tx.fns.get f = some fn → G.fn f = some fa → FnOk G fn fa) (C : CallSound G n call) : CallSound G (n + 1) (defCall G.tx call) := fun {f fa A R avs vals ρ σ s κ} hA hfa hk Rl r K => by
  obtain ⟨fn, h1, hk⟩ := onS_true hk
  obtain ⟨loc, h2, hk⟩ := onS_true hk
  obtain ⟨o, fd, e1, e2, e3, e4, e5, e6, e7, e8, e9, f1, f2, f3, f4, f5⟩ := (hF f fn fa h1 hfa).ex
  obtain ⟨binds, b1, b2, b3⟩ := bind_rel r h2
  obtain ⟨p1, p2⟩ := and_true f4
  have p2 := List.all_eq_true.mp p2
  have hnm := names_of b2
  have nd : (binds.map Prod.fst).Nodup := by
    rw [hnm, b3]
    exact List.Pairwise.map _ (fun a b h e => h (strOf_inj e)) (nodup_of p1)
  have kind : ∀ y ∈ binds, ∃ x, y.1 = strOf x ∧ (isLocal (fd.scope.names.lookup (strOf x)) || isCell (fd.scope.names.lookup (strOf x))) = true := fun y hy => by
    have : y.1 ∈ binds.map Prod.fst := List.mem_map_of_mem hy
    rw [hnm, b3] at this
    obtain ⟨x, hx, e⟩ := List.mem_map.mp this
    exact ⟨x, e.symm, p2 x hx⟩
  have hroom : A.depth < recursionLimit := by have := hA.room; show _ < 1000; omega
  refine call_cells hroom (Rl.base _ _ e1) e2 (Rl.lim_ O) (e4.keeps Rl.base) e3 (f5 _ _ b1 s (Rl.in_ O)) e5 (fun y hy => ?_) (fun s₁ x => ?_) e8 e9 f1
  · obtain ⟨k, hk1, hk2⟩ := kind y hy
    rw [hk1]
    rcases Bool.or_eq_true _ _ ▸ hk2 with h | h
    · exact .inl (isLocal_eq h)
    · exact .inr ⟨isCell_eq h, cells_has h⟩
  · obtain ⟨h', tk, rfl⟩ := x.toInCall.same
    have keep : ∀ b o, s.heap.get? b = some o → h'.get? b = some o := x.toInCall.keep
    generalize hEnv : callEnvC fd s.heap.objs.size fa = env at x ⊢
    have hl : env.locals = s.heap.objs.size := by rw [← hEnv]; rfl
    have hn : env.scope = fd.scope := by rw [← hEnv]; rfl
    have hc : env.cells = cellsFrom (s.heap.objs.size + 1) fd.scope.names [] := by rw [← hEnv]; rfl
    have ge : ∀ y c, env.cells.lookup y = some c → s.heap.objs.size < c := fun y c h => by have := x.above y c (lookup_memA h); rwa [hl] at this
    have out : ∀ c, s.heap.objs.size ≤ c → c ∉ ρ := fun c hc m => by
      obtain ⟨o, e⟩ := Rl.live c m
      exact absurd (Heap.lt_size e) (Nat.not_lt.mpr hc)
    have At0 : At G (n + 1) (A.deeper env) env ρ loc σ h' := by
      refine ⟨⟨hA.hd, by have := hA.room; show A.depth + 1 + 5 * (n + 1) ≤ 900; omega, by have := hA.units; show A.units + 3 + 30 * (n + 1) ≤ 9000; omega⟩,
        ⟨by rw [hn]; exact f1, by rw [← hEnv]; exact e6, by rw [← hEnv]; exact e7, ⟨_, x.toInCall.ns⟩, out _ (by rw [hl]; exact Nat.le_refl _), (Rl.low O (by rw [hl]; exact Nat.le_refl _)).1, fun e => by rw [← hEnv]; rw [hn] at e; exact f3 e, fun y e => by rw [hc]; rw [hn] at e; exact cells_has e,
          fun y c h => ⟨⟨_, x.cell y c h⟩, out _ (Nat.le_of_lt (ge y c h)), by rw [hl]; exact Nat.ne_of_gt (ge y c h), (Rl.low O (Nat.le_of_lt (ge y c h))).1⟩,
          fun y z c h1 h2 => name_of_addr x.apart (lookup_memA h1) (lookup_memA h2)⟩, fun k av hk' hi => ?_, Rl.grow keep⟩
      obtain ⟨q, hq, q1, q2⟩ := b2.mem (look_mem hk')
      obtain ⟨y, v⟩ := q
      have q1 : y = strOf k := q1
      subst q1
      refine ⟨v, q2, ?_⟩
      obtain ⟨k2, hk1, hk2⟩ := kind _ hq
      have hk1 : strOf k = strOf k2 := hk1
      rw [← hk1] at hk2
      have kdef : env.kindOf (strOf k) = fd.scope.names.lookup (strOf k) := by show env.scope.names.lookup _ = _; rw [hn]
      cases z : isLocal (fd.scope.names.lookup (strOf k)) with
      | true =>
        have z := isLocal_eq z
        exact .inl ⟨kdef.trans z, _, x.toInCall.ns, bindL_at nd (.inl ⟨hq, kdef.trans z⟩)⟩
      | false =>
        rw [z, Bool.false_or] at hk2
        have hcell := hk2
        have z2 := isCell_eq hk2
        obtain ⟨c, hcc⟩ := Option.isSome_iff_exists.mp (cells_has (m := s.heap.objs.size + 1) hcell)
        rw [← hc] at hcc
        refine .inr ⟨.inl (kdef.trans z2), c, hcc, ?_, out _ (Nat.le_of_lt (ge _ c hcc)), by rw [hl]; exact Nat.ne_of_gt (ge _ c hcc)⟩
        have := x.cell _ c hcc
        rwa [bindC_at nd (.inl ⟨hq, by rw [kdef, z2]; decide⟩)] at this
    have wf : wfS fn.body env.scope.names = true := by rw [hn]; exact f2
    have EX : ExsSound G (n + 1) (wfS fn.body) (toSs fn.body) (denS G.tx call fn.body).exs := (ds_sound O C fn.body).exs
    refine EX (s := { s with heap := h', toks := tk }) At0 wf hk fun fl loc' σ2 ρ2 f2' h2 tk2 hk2 hl2 X2 S2 r2 => ?_
    refine K fl.val σ2 ρ2 (flowVal f2') h2 tk2 hk2 hl2 X2.r ?_ r2.val
    obtain ⟨s1, s2, s3⟩ := S2
    obtain ⟨δ, d1, d2⟩ := s1
    refine ⟨⟨δ, d1, fun a ha => ?_⟩, fun b o e => s2 b o (keep b o e), fun b o e c _ => s3 b o (keep b o e) c fun z => ?_⟩
    · cases q : s.heap.get? a with
      | none => rfl
      | some o => have := d2 a ha; rw [keep a o q] at this; cases this
    · have lt := Heap.lt_size e
      rcases z with z | ⟨y, z⟩
      · rw [z, hl] at lt; exact absurd lt (Nat.lt_irrefl _)
      · exact absurd (ge y b z) (Nat.not_lt.mpr (Nat.le_of_lt lt))
end
end Mine
end

section
open PySem PySem.W PyProof.Rows PySem.Calls PySem.Spec
set_option maxRecDepth 100000
set_option maxHeartbeats 200000
namespace Mine
/-! ## _law_take: the script's next number -/
section
variable (p : Nat → Pos)
noncomputable def tBox (i : Nat) : Expr := .Name "box" (p i)
noncomputable def tOne (i : Nat) (k : Int) : Expr := .Constant (.int k) 0 (p i)
noncomputable def tAt (i : Nat) (k : Int) : Expr := .Subscript (tBox p i) (tOne p (i + 1) k) (p (i + 2))
noncomputable def takeB : List Stmt := [
  .Assign [tAt p 0 1] (.BinOp (tAt p 3 1) .Add (tOne p 6 1) (p 7)) (p 8),
  .If (.Compare (tAt p 9 1) [.LtE] [.Call (.Name "len" (p 12)) [tAt p 13 0] [] (p 16)] (p 17))
    [.Return (some (.BinOp (.Call (.Name "abs" (p 18)) [.Subscript (tAt p 19 0) (.BinOp (tAt p 22 1) .Sub (tOne p 25 1) (p 26)) (p 27)] [] (p 28)) .Mod (.Name "many" (p 29)) (p 30))) (p 31)] [] (p 32),
  .Return (some (.BinOp (.BinOp (.BinOp (tOne p 33 7) .Mult (tAt p 34 1) (p 37)) .Add (.BinOp (tAt p 38 1) .FloorDiv (tOne p 41 4) (p 42)) (p 43)) .Mod (.Name "many" (p 44)) (p 45))) (p 46)]
end
/-- the script's number at place k, of m -/
noncomputable def dval (ns : List Int) (k m : Nat) : Int := if k < ns.length then (if ns.getD k 0 < 0 then -ns.getD k 0 else ns.getD k 0).fmod m else ((7 * ((k : Int) + 1) + ((k : Int) + 1).fdiv 4)).fmod m
theorem set_list_at {prog : Program} {w : World} {A : Around} {E : Value → Shared → Prop} {s : Shared} {l : Addr} {items : Array Value} {n : Nat} {k : Int} {t : Tok} {v : Value} {Q : Unit → Shared → Prop} (ho : s.heap.get? l = some (listOf items n))
    (h0 : 0 ≤ k) (hfit : k < 2 ^ 63) (hn : k < items.size)
    (hQ : ∀ h' n', h'.get? l = some (listOf (items.setIfInBounds k.toNat v) n') → Heap.SameBut l s.heap h' → Q () { s with heap := h' }) :
    wpAny (model prog w) A (setItem (.ref l) (.int k t) v) Q E s := by
  have hl : s.heap.IsList l items := ⟨_, ho, rfl, n, rfl⟩
  unfold setItem
  try with_reducible refine wpAny_holding ?_
  first | refine wpAny_bind (wpAny_pure ?_) | skip
  refine wpAny_bind (wpAny_sequenceKey hl.typeIs (by decide) ?_)
  refine wpAny_bind (wpAny_callSpecial?_slot (name := Str.ofString "__setitem__") hl.typeIs slot_list_setitem
    (wpAny_call_entry slot_list_setitem hl.typeIs entry_list_setitem ?_ (args_list_setitem _ _ _)))
  show wpAny _ _ (Builtin.List.listSubscript? (.int k t) >>= _) _ _ s
  refine wpAny_bind (wpAny_listSubscript_int (fitsIndex_of h0 hfit) ?_)
  clear hfit
  obtain ⟨j, rfl⟩ := Int.eq_ofNat_of_zero_le h0
  have hj : j < items.size := by omega
  have hx' : items[j]? = some items[j] := Array.getElem?_eq_getElem hj
  show wpAny _ _ ((seqItemAt l j >>= fun r => pure (r.map (j, ·))) >>= _) _ _ s
  refine wpAny_bind (wpAny_bind (wpAny_seqItemAt ho rfl (wpAny_pure ?_)))
  rw [hx']
  show wpAny _ _ (setSeqItemAt l j v >>= _) _ _ s
  have e : ∃ n', Obj.mapSeq (·.setIfInBounds j v) (listOf items n) = listOf (items.setIfInBounds j v) n' := ⟨_, rfl⟩
  obtain ⟨n', e⟩ := e
  have hfin : (s.heap.update l (Obj.mapSeq (·.setIfInBounds j v))).get? l = some (listOf (items.setIfInBounds j v) n') := by
    rw [← e]; exact Heap.get?_update_self _ ho (by rw [e]; rfl)
  refine wpAny_bind (wpAny_setSeqItemAt ho rfl ?_)
  first
    | exact wpAny_bind (wpAny_pure (wpAny_pure ⟨.none, rfl, wpAny_pure (hQ _ _ hfin (Heap.SameBut.update ..))⟩))
    | exact wpAny_pure ⟨.none, rfl, wpAny_pure (hQ _ _ hfin (Heap.SameBut.update ..))⟩
theorem intsAt {vs : List Value} {ns : List Int} (h : IntsAre vs ns) : ∀ {k : Nat}, k < ns.length → ∃ t, vs[k]? = some (.int (ns.getD k 0) t) := by
  induction h with
  | nil => intro k h; simp at h
  | cons n t _ ih =>
    intro k hk
    cases k with
    | zero => exact ⟨t, rfl⟩
    | succ k => obtain ⟨u, e⟩ := ih (k := k) (by simpa using hk); exact ⟨u, by simpa using e⟩
theorem intsLen {vs : List Value} {ns : List Int} (h : IntsAre vs ns) : vs.length = ns.length := by
  induction h with
  | nil => rfl
  | cons _ _ _ ih => simp [ih]
section
variable {G : Ctx} {n : Nat}
theorem take_rest {G : Ctx} {A : Around} {E : Value → Shared → Prop} {env : Env} {s : Shared} {Q : Flow → Shared → Prop} {p : Nat → Pos} {mm : Str → Option Value} {ab aq : Addr} {k m : Nat} {t0 tm : Tok} {nn : Nat} {ws : List Value} {ns : List Int}
    (hm : 0 < m) (hns : ns.length ≤ 100) (hk : k < 1000) (kx : env.scope.kind = .function) (k2 : env.kindOf ("many" : Str) = some .local) (k1 : env.kindOf ("box" : Str) = some .local) (hn : s.heap.Ns env.locals mm) (mb : mm "box" = some (.ref ab)) (mm2 : mm "many" = some (.int (Int.ofNat m) tm))
    (hb : s.heap.get? ab = some (listOf #[.ref aq, .int ((k + 1 : Nat) : Int) t0] nn)) (hq : s.heap.IsList aq (List.toArray ws)) (hi : IntsAre ws ns)
    (hlen : ∀ {A : Around} {E : Value → Shared → Prop} {Q : Value → Shared → Prop} {q : Pos} {tk : Tok}, Q (.builtin "len") { s with toks := tk } → wpAny G.M A (eval (.Name "len" q) env) Q E { s with toks := tk })
    (habs : ∀ {A : Around} {E : Value → Shared → Prop} {Q : Value → Shared → Prop} {q : Pos} {tk : Tok}, Q (.builtin "abs") { s with toks := tk } → wpAny G.M A (eval (.Name "abs" q) env) Q E { s with toks := tk })
    (fin : ∀ tk u, Q (.ret (.int (dval ns k m) u)) { s with toks := tk }) : wpAny G.M A (execs ((takeB p).drop 1) env) Q E s := by
  have lw := intsLen hi
  have wsz : ws.toArray.size = ns.length := by rw [List.size_toArray, lw]
  have nmBox : ∀ {i : Nat} {A : Around} {E : Value → Shared → Prop} {tk : Tok} {Q : Value → Shared → Prop}, Q (.ref ab) { s with toks := tk } → wpAny G.M A (eval (tBox p i) env) Q E { s with toks := tk } := fun h => wpAny_Name (wpAny_loadName_local (m := mm) kx k1 hn mb h) (by decide)
  have at1 : ∀ {i : Nat} {A : Around} {E : Value → Shared → Prop} {tk : Tok} {Q : Value → Shared → Prop}, (∀ tk, Q (.int ((k + 1 : Nat) : Int) t0) { s with toks := tk }) → wpAny G.M A (eval (tAt p i 1) env) Q E { s with toks := tk } := fun h =>
    Subscript_ (nmBox (wpAny_Constant_int (tail_any (s := { s with toks := _ }) (isList_of hb).typeIs slot_list_getitem.lookup (wpAny_getItem_list (isList_of hb) (by decide) (by decide) rfl (h _)) rfl)))
  have at0 : ∀ {i : Nat} {A : Around} {E : Value → Shared → Prop} {tk : Tok} {Q : Value → Shared → Prop}, (∀ tk, Q (.ref aq) { s with toks := tk }) → wpAny G.M A (eval (tAt p i 0) env) Q E { s with toks := tk } := fun h =>
    Subscript_ (nmBox (wpAny_Constant_int (tail_any (s := { s with toks := _ }) (isList_of hb).typeIs slot_list_getitem.lookup (wpAny_getItem_list (isList_of hb) (by decide) (by decide) rfl (h _)) rfl)))
  have k63 : ((k : Nat) : Int) < 2 ^ 63 := by omega
  have lenC : ∀ {A : Around} {E : Value → Shared → Prop} {tk : Tok} {Q : Value → Shared → Prop}, (∀ u tk, Q (.int ((ns.length : Nat) : Int) u) { s with toks := tk }) → wpAny G.M A (eval (.Call (.Name "len" (p 12)) [tAt p 13 0] [] (p 16)) env) Q E { s with toks := tk } := fun {A E tk Q} h => by
    rw [arm_eval_Call_Name']
    refine wpAny_bind (hlen ?_)
    refine Calls.callWith_builtin rfl (Calls.evalArgs_plain (Calls.spliced_cons (at0 fun tk3 => Calls.spliced_nil ?_)))
    refine Calls.call_len_list hq (by rw [wsz]; omega) ?_
    rw [wsz]
    exact h _ _
  have absC : k < ns.length → ∀ {A : Around} {E : Value → Shared → Prop} {tk : Tok} {Q : Value → Shared → Prop}, (∀ u tk, Q (.int (if ns.getD k 0 < 0 then -ns.getD k 0 else ns.getD k 0) u) { s with toks := tk }) →
      wpAny G.M A (eval (.Call (.Name "abs" (p 18)) [.Subscript (tAt p 19 0) (.BinOp (tAt p 22 1) .Sub (tOne p 25 1) (p 26)) (p 27)] [] (p 28)) env) Q E { s with toks := tk } := fun hlt {A E tk Q} h => by
    rw [arm_eval_Call_Name']
    refine wpAny_bind (habs ?_)
    refine Calls.callWith_builtin rfl (Calls.evalArgs_plain (Calls.spliced_cons (Subscript_ (at0 fun tk4 => wpAny_BinOp (at1 fun tk5 => wpAny_Constant_int (P.sub_int ?_))))))
    have e1 : ((k + 1 : Nat) : Int) - 1 = (k : Int) := by omega
    generalize ((k + 1 : Nat) : Int) - 1 = ii at e1 ⊢
    subst e1
    obtain ⟨u, hu⟩ := intsAt hi hlt
    refine tail_any (s := { s with toks := _ }) hq.typeIs slot_list_getitem.lookup (wpAny_getItem_list hq (Int.natCast_nonneg k) k63 (by simpa using hu) (Calls.spliced_nil ?_)) rfl
    exact call_abs_int fun u' tk6 => h _ _
  have many : ∀ {q : Pos} {A : Around} {E : Value → Shared → Prop} {tk : Tok} {Q : Value → Shared → Prop}, Q (.int (Int.ofNat m) tm) { s with toks := tk } → wpAny G.M A (eval (.Name "many" q) env) Q E { s with toks := tk } := fun h => wpAny_Name (wpAny_loadName_local (m := mm) kx k2 hn mm2 h) (by decide)
  have hm' : Int.ofNat m ≠ 0 := by show ((m : Nat) : Int) ≠ 0; omega
  show wpAny G.M A (execs [.If (.Compare (tAt p 9 1) [.LtE] [.Call (.Name "len" (p 12)) [tAt p 13 0] [] (p 16)] (p 17)) _ [] (p 32), _] env) Q E { s with toks := s.toks }
  refine wpAny_execs_cons (wpAny_If (wpAny_isTrue_Compare1 (at1 fun tk2 => lenC fun u tk3 => P.le_int (wpAny_truthy_bool ?_)) rfl))
  by_cases hlt : k < ns.length
  · have hd' : decide (((k + 1 : Nat) : Int) ≤ ((ns.length : Nat) : Int)) = true := decide_eq_true (by omega)
    rw [hd', if_pos rfl]
    refine wpAny_execs_cons (wpAny_Return_some (wpAny_BinOp (absC hlt fun u tk4 => many (PyProof.Rows.mod_int hm' ?_))))
    have := fin (tk4 + 1) tk4
    unfold dval at this
    rw [if_pos hlt] at this
    exact this
  · have hd' : decide (((k + 1 : Nat) : Int) ≤ ((ns.length : Nat) : Int)) = false := decide_eq_false (by omega)
    rw [hd', if_neg (by decide)]
    refine wpAny_execs_nil ?_
    refine wpAny_execs_cons (wpAny_Return_some (wpAny_BinOp (wpAny_BinOp (wpAny_BinOp (wpAny_Constant_int (at1 fun tk4 => P.mul_int ?_ (IntMulOk.of_left (by decide))))))))
    refine wpAny_BinOp (at1 fun tk5 => wpAny_Constant_int (floordiv_int (by decide) ?_ (.inl (PyProof.noPylong_small (by decide)))))
    refine P.add_int (many (PyProof.Rows.mod_int hm' ?_))
    have h := fun a b => fin a b
    unfold dval at h
    rw [if_neg hlt] at h
    exact h _ _
structure TakeOk (G : Ctx) (fa : Addr) : Prop where
  ex : ∃ o fd p, G.h₀.get? fa = some o ∧ o.data = .func fd ∧ fd.body = .stmts (takeB p) ∧ G.h₀.CodeRec fd.code fd.qualname ∧ fd.closure = [] ∧ fd.globals = mainGlobals ∧ fd.builtins = builtinsNs ∧ fd.scope.isCoroutine = false ∧ fd.scope.isGenerator = false ∧ fd.scope.kind = .function ∧
    fd.scope.names.lookup ("box" : Str) = some .local ∧ fd.scope.names.lookup ("many" : Str) = some .local ∧ fd.scope.names.lookup ("len" : Str) = some .globalImplicit ∧ fd.scope.names.lookup ("abs" : Str) = some .globalImplicit ∧ (∀ x ∈ fd.scope.names, x.2 ≠ .cell) ∧
    ∀ a b, ∀ s : Shared, G.K.In s.heap → BindsTo s fd ⟨[a, b], []⟩ [(("box" : Str), a), (("many" : Str), b)]
  len : G.mg "len" = none ∧ G.mb "len" = some (.builtin "len")
  abs : G.mg "abs" = none ∧ G.mb "abs" = some (.builtin "abs")
  draws : ∀ k m av, drawAt G.tx.draws k m = some av → 0 < m ∧ k < 1000 ∧ ∀ ρ t, VRel G.ν ρ av (.int (dval G.ns k m) t)
  ns : G.ns.length ≤ 100
theorem draw_true {dr : List (Nat × AV)} {h : H} {vs : List AV} {κ : AV → H → Bool} (e : draw dr h vs κ = true) : ∃ b m q k v, vs = [.ref b, .int (.mk (.ofNat m) [])] ∧ h.t.get b = some (.list [.ref q, .int (.mk (.ofNat k) [])]) ∧ h.t.get q = some .ints ∧ drawAt dr k m = some v ∧
    (h.set b (.list [.ref q, .int (.mk (.ofNat (Nat.succ k)) [])]) fun h => κ v h) = true := by
  unfold draw at e
  split at e
  · rename_i b m
    split at e
    · rename_i q k hb
      split at e
      · rename_i hq
        obtain ⟨v, h1, h2⟩ := onS_true e
        exact ⟨b, m, q, k, v, rfl, hb, hq, h1, h2⟩
      · cases e
    · cases e
  · cases e
theorem take_sound (O : G.Ok) (hT : ∀ fa, G.fn G.tx.take = some fa → TakeOk G fa) : ∀ {fa : Addr} {A : Around} {R : Result → Shared → Prop} {avs : List AV} {vals : List Value} {ρ : List Addr} {σ : H} {s : Shared} {κ : AV → H → Bool},
    AOkC n A → G.fn G.tx.take = some fa → draw G.tx.draws σ avs κ = true → Rel G ρ σ s.heap → VsRel G.ν ρ avs vals → Then G (VRel G.ν) ρ σ s κ (fun v s' => R (.ok (.ret v)) s') → codeAny G.M A (.call (.ref fa) ⟨vals, []⟩) R s := by
  intro fa A R avs vals ρ σ s κ hA hfa hk Rl r K
  obtain ⟨b, m, q, k, av, rfl, hb, hq, hd, hk⟩ := draw_true hk
  have T := hT fa hfa
  obtain ⟨hm0, hk1000, hv⟩ := T.draws _ _ _ hd
  obtain ⟨o, fd, p, e1, e2, e3, e4, e5, e6, e7, e8, e9, f1, n1, n2, n3, n4, f2, f3⟩ := T.ex
  obtain ⟨w1, w2, rfl, r1, r2⟩ : ∃ w1 w2, vals = [w1, w2] ∧ VRel G.ν ρ (.ref b) w1 ∧ VRel G.ν ρ (.int (.mk (.ofNat m) [])) w2 := by
    obtain ⟨_, _, b1, b2, ea, rfl, g1, g2⟩ := all2_two r (by rw [← r.length]; rfl)
    cases ea
    exact ⟨b1, b2, rfl, g1, g2⟩
  obtain ⟨ab, hab, rfl⟩ := r1
  obtain ⟨tm, rfl⟩ := r2
  obtain ⟨ab', vs, nn, h1, h2, h3, h4⟩ := list_at Rl hb
  rw [hab] at h1; cases h1
  obtain ⟨_, _, b1, b2, ea, rfl, g1, g2⟩ := all2_two h3 (by rw [← h3.length]; rfl)
  cases ea
  obtain ⟨aq, haq, rfl⟩ := g1
  obtain ⟨tk0, rfl⟩ := g2
  obtain ⟨aq', oq, i1, i2, ⟨ws, nw, i3, i4⟩, _, _⟩ := Rl.obj _ _ hq
  rw [haq] at i1; cases i1
  subst i3
  obtain ⟨hz, nl, hk⟩ := set_true hk
  have hroom : A.depth < recursionLimit := by have := hA.room; show _ < 1000; omega
  have neq : ab ≠ aq := fun e => by
    have i1 := List.getElem?_eq_some_iff.mp hab
    have : b = q := (List.getElem?_inj i1.1 Rl.inj).mp (hab.trans (e ▸ haq.symm))
    subst this
    rw [hb] at hq; cases hq
  have lw := intsLen i4
  simp only [LI.val_const] at *
  refine call_cells hroom (Rl.base _ _ e1) e2 (Rl.lim_ O) (e4.keeps Rl.base) e3 (f3 _ _ s (Rl.in_ O)) e5 (fun y hy => ?_) (fun s₁ x => ?_) e8 e9 f1
  · rcases List.mem_cons.mp hy with rfl | hy
    · exact .inl n1
    · rw [List.mem_singleton.mp hy]; exact .inl n2
  obtain ⟨h', tk, rfl⟩ := x.toInCall.same
  have keep : ∀ b o, s.heap.get? b = some o → h'.get? b = some o := x.toInCall.keep
  generalize hEnv : callEnvC fd s.heap.objs.size fa = env at x ⊢
  have hl : env.locals = s.heap.objs.size := by rw [← hEnv]; rfl
  have hn : env.scope = fd.scope := by rw [← hEnv]; rfl
  have kx : env.scope.kind = .function := by rw [hn]; exact f1
  have k1 : env.kindOf ("box" : Str) = some .local := by show env.scope.names.lookup _ = _; rw [hn]; exact n1
  have k2 : env.kindOf ("many" : Str) = some .local := by show env.scope.names.lookup _ = _; rw [hn]; exact n2
  have k3 : env.kindOf ("len" : Str) = some .globalImplicit := by show env.scope.names.lookup _ = _; rw [hn]; exact n3
  have k4 : env.kindOf ("abs" : Str) = some .globalImplicit := by show env.scope.names.lookup _ = _; rw [hn]; exact n4
  have hgl : env.globals = mainGlobals := by rw [← hEnv]; exact e6
  have hbi : env.builtins = builtinsNs := by rw [← hEnv]; exact e7
  have ns := x.toInCall.ns
  generalize hM : bindL env.kindOf [(("box" : Str), Value.ref ab), (("many" : Str), .int (Int.ofNat m) tm)] (fun _ => none) = mm at ns
  have mb : mm "box" = some (.ref ab) := by rw [← hM]; exact bindL_at (by show [("box" : Str), "many"].Nodup; decide) (.inl ⟨.head _, k1⟩)
  have mm2 : mm "many" = some (.int (Int.ofNat m) tm) := by rw [← hM]; exact bindL_at (by show [("box" : Str), "many"].Nodup; decide) (.inl ⟨.tail _ (.head _), k2⟩)
  have nL : env.locals ≠ ab := by rw [hl]; exact Nat.ne_of_gt (Heap.lt_size h2)
  have nL2 : env.locals ≠ aq := by rw [hl]; exact Nat.ne_of_gt (Heap.lt_size i2)
  have nmBox : ∀ {i : Nat} {A : Around} {E : Value → Shared → Prop} {s' : Shared} {Q : Value → Shared → Prop}, s'.heap.Ns env.locals mm → Q (.ref ab) s' → wpAny G.M A (eval (tBox p i) env) Q E s' := fun hn h => wpAny_Name (wpAny_loadName_local kx k1 hn mb h) (by decide)
  have at1 : ∀ {i : Nat} {kk : Int} {u : Tok} {nn : Nat} {A : Around} {E : Value → Shared → Prop} {s' : Shared} {Q : Value → Shared → Prop}, s'.heap.Ns env.locals mm → s'.heap.get? ab = some (listOf #[.ref aq, .int kk u] nn) → (∀ tk, Q (.int kk u) { s' with toks := tk }) →
      wpAny G.M A (eval (tAt p i 1) env) Q E s' := fun hn hl h =>
    Subscript_ (nmBox hn (wpAny_Constant_int (tail_any (s := _) (isList_of hl).typeIs slot_list_getitem.lookup (wpAny_getItem_list (isList_of hl) (by decide) (by decide) rfl (h _)) rfl)))
  have at0 : ∀ {i : Nat} {kk : Int} {u : Tok} {nn : Nat} {A : Around} {E : Value → Shared → Prop} {s' : Shared} {Q : Value → Shared → Prop}, s'.heap.Ns env.locals mm → s'.heap.get? ab = some (listOf #[.ref aq, .int kk u] nn) → (∀ tk, Q (.ref aq) { s' with toks := tk }) →
      wpAny G.M A (eval (tAt p i 0) env) Q E s' := fun hn hl h =>
    Subscript_ (nmBox hn (wpAny_Constant_int (tail_any (s := _) (isList_of hl).typeIs slot_list_getitem.lookup (wpAny_getItem_list (isList_of hl) (by decide) (by decide) rfl (h _)) rfl)))
  have l2 : h'.get? ab = some (listOf #[.ref aq, .int (Int.ofNat k) tk0] nn) := keep _ _ h2
  refine wpAny_execs_cons (wpAny_Assign_Subscript (wpAny_BinOp (at1 ns l2 fun tk1 => wpAny_Constant_int (P.add_int ?_))) rfl)
  refine nmBox ns (wpAny_Constant_int (set_list_at l2 (by decide) (by decide) (by show (1 : Int) < ((2 : Nat) : Int); decide) fun h3 n3' e3' hs3 => ?_))
  have ns3 := ns.extBut hs3.extBut nL
  have l3 : h3.get? aq = some (listOf (List.toArray ws) nw) := hs3.extBut _ _ neq.symm (keep _ _ i2)
  have e3' : h3.get? ab = some (listOf #[.ref aq, .int (Int.ofNat k + 1) (tk1 + 1)] n3') := e3'
  have kk : Int.ofNat k + 1 = ((k + 1 : Nat) : Int) := rfl
  rw [kk] at e3'
  have al3 : ∃ o, h3.get? ab = some o := ⟨_, e3'⟩
  have Rh : Rel G ρ σ h' := Rl.grow keep
  have R3 := Rh.update (lk := σ.lock) hb hab rfl l2 list_nc hs3.extBut e3' (ao' := .list [.ref q, .int (.mk (.ofNat (Nat.succ k)) [])]) ⟨[.ref aq, .int ((k + 1 : Nat) : Int) (tk1 + 1)], n3', rfl, .cons ⟨aq, haq, rfl⟩ (.cons ⟨_, by rw [LI.val_const]; rfl⟩ .nil)⟩ hz
  have S3 : Step ρ σ.lock none' s.heap ρ h3 := (Step.grow keep).trans (Step.turned Rh hab nl hs3.extBut al3)
  have fin : ∀ {h4 tk4 v}, (∀ b o, h3.get? b = some o → h4.get? b = some o) → (∃ u, v = .int (dval G.ns k m) u) → R (.ok (.ret v)) { s with heap := h4, toks := tk4 } := fun {h4 tk4 v} g hvv => by
    obtain ⟨u, rfl⟩ := hvv
    exact K av _ ρ _ h4 tk4 hk rfl (R3.grow g) (S3.trans (Step.grow g)) (hv _ _)
  have wsz : ws.toArray.size = G.ns.length := by rw [List.size_toArray, lw]
  refine take_rest (p := p) (s := { s with heap := h3, toks := _ }) hm0 (by have := T.ns; omega) hk1000 kx k2 k1 ns3 mb mm2 e3' (isList_of l3) i4 (fun h => ?_) (fun h => ?_) fun tk4 u => ?_
  · exact Name_function_global kx k3 (loadGlobal_builtin (env := env) (by rw [hgl]; exact (R3.gns (s := { s with heap := h3, toks := _ }) O)) T.len.1 (by rw [hbi]; exact (R3.bns (s := { s with heap := h3, toks := _ }) O)) T.len.2 h) (by decide)
  · exact Name_function_global kx k4 (loadGlobal_builtin (env := env) (by rw [hgl]; exact (R3.gns (s := { s with heap := h3, toks := _ }) O)) T.abs.1 (by rw [hbi]; exact (R3.bns (s := { s with heap := h3, toks := _ }) O)) T.abs.2 h) (by decide)
  · exact fin (fun _ _ e => e) ⟨u, rfl⟩
end
end Mine
end

section
open PySem PySem.W PyProof.Rows PySem.Calls PySem.Spec
set_option maxRecDepth 100000
set_option maxHeartbeats 400000
namespace Mine
section
variable {G : Ctx}
structure Ctx.All (G : Ctx) : Prop where
  ok : G.Ok
  fns : ∀ f fn fa, G.tx.fns.get f = some fn → G.fn f = some fa → FnOk G fn fa
  take : ∀ fa, G.fn G.tx.take = some fa → TakeOk G fa
theorem run_sound (O : G.All) (k : Nat) : CallSound G k (run G.tx k) := by
  induction k with
  | zero => intro f fa A R avs vals ρ σ s κ _ _ hk _ _ _; cases hk
  | succ k ih =>
    intro f fa A R avs vals ρ σ s κ hA hf hk Rl r K
    have hk : (Bool.rec (defCall G.tx (run G.tx k) f avs σ κ) (draw G.tx.draws σ avs κ) (Nat.beq f G.tx.take) : Bool) = true := hk
    cases e : Nat.beq f G.tx.take with
    | true =>
      rw [e] at hk
      have e := Nat.eq_of_beq_eq_true e
      subst e
      exact take_sound O.ok O.take hA hf hk Rl r K
    | false =>
      rw [e] at hk
      exact def_sound O.ok O.fns ih hA hf hk Rl r K
/-- the law's statements -/
theorem law_sound (O : G.All) (s : CS) : ExsSound G 21 (wfS s) (toSs s) (denS G.tx (run G.tx 20) s).exs := (ds_sound O.ok (run_sound O 20) s).exs
end
end Mine
end

section
open PySem PySem.W PyProof.Rows PySem.Calls PySem.Spec
set_option maxRecDepth 100000
set_option maxHeartbeats 0
namespace Mine
noncomputable def objAt (K : Frag) (a : Addr) : Obj := match K.lookup a with
  | some o => o
  | none => { cls := .none, data := .plain }
noncomputable def fdAt (K : Frag) (a : Addr) : FuncData := match (objAt K a).data with
  | .func fd => fd
  | _ => default
noncomputable def codeOf (v : Value) : Addr := match v with
  | .ref c => c
  | _ => 0
noncomputable def fieldsAt (K : Frag) (a : Addr) : Array Value := match (objAt K a).data with
  | .fields vs => vs
  | _ => #[]
noncomputable def tokAt (K : Frag) (a : Addr) : Tok := match (fieldsAt K a).getD 1 .none with
  | .str _ t => t
  | _ => 0
/-- what a def of the text is in K -/
structure FnK (K : Frag) (fn : Fn) (fa : Addr) : Prop where
  at_ : K.lookup fa = some (objAt K fa)
  fd : (objAt K fa).data = .func (fdAt K fa)
  body : (fdAt K fa).body = .stmts (toSs fn.body)
  code : (fdAt K fa).code = .ref (codeOf (fdAt K fa).code)
  codeAt : K.lookup (codeOf (fdAt K fa).code) = some (objAt K (codeOf (fdAt K fa).code))
  codeF : (objAt K (codeOf (fdAt K fa).code)).data = .fields (fieldsAt K (codeOf (fdAt K fa).code))
  codeN : (fieldsAt K (codeOf (fdAt K fa).code))[1]? = some (.str (fdAt K fa).qualname (tokAt K (codeOf (fdAt K fa).code)))
  clo : (fdAt K fa).closure = []
  glob : (fdAt K fa).globals = mainGlobals
  bi : (fdAt K fa).builtins = builtinsNs
  co : (fdAt K fa).scope.isCoroutine = false
  gen : (fdAt K fa).scope.isGenerator = false
  kind : (fdAt K fa).scope.kind = .function
  wf : wfS fn.body (fdAt K fa).scope.names = true
  lam : (match isLocal ((fdAt K fa).scope.names.lookup (strOf 3)) with | true => (fdAt K fa).code == .ref 717 | false => true) = true
  par : parOk fn.params (fdAt K fa).scope.names = true
  bind : ∀ vals binds, bindV fn.params fn.dflt vals = some binds → ∀ s : Shared, K.In s.heap → BindsTo s (fdAt K fa) ⟨vals, []⟩ binds
theorem bind_all {K : Frag} {fd : FuncData} {ps : List Nat} {d : Nat} (h0 : ∀ binds, bindV ps d [] = some binds → ∀ S, peek K S (PySem.bindArgs fd ⟨[], []⟩) = some binds)
    (h1 : ∀ a binds, bindV ps d [a] = some binds → ∀ S, peek K S (PySem.bindArgs fd ⟨[a], []⟩) = some binds) (h2 : ∀ a b binds, bindV ps d [a, b] = some binds → ∀ S, peek K S (PySem.bindArgs fd ⟨[a, b], []⟩) = some binds)
    (h3 : ∀ a b c binds, bindV ps d [a, b, c] = some binds → ∀ S, peek K S (PySem.bindArgs fd ⟨[a, b, c], []⟩) = some binds) (h4 : ∀ a b c e binds, bindV ps d [a, b, c, e] = some binds → ∀ S, peek K S (PySem.bindArgs fd ⟨[a, b, c, e], []⟩) = some binds)
    (h5 : ∀ a b c e f binds, bindV ps d [a, b, c, e, f] = some binds → ∀ S, peek K S (PySem.bindArgs fd ⟨[a, b, c, e, f], []⟩) = some binds)
    (hn : ps.length ≤ 5) : ∀ vals binds, bindV ps d vals = some binds → ∀ s : Shared, K.In s.heap → BindsTo s fd ⟨vals, []⟩ binds := by
  have long : ∀ (ps : List Nat) (vals : List Value) binds, bindV ps d vals = some binds → vals.length ≤ ps.length := by
    intro ps
    induction ps with
    | nil => intro vals binds h; cases vals with
      | nil => simp
      | cons => cases h
    | cons x r ih => intro vals binds h; cases vals with
      | nil => simp
      | cons v vs =>
        unfold bindV at h
        cases q : bindV r d vs with
        | none => rw [q] at h; cases h
        | some l => have := ih _ _ q; simp; omega
  intro vals binds h s X
  have hl := long _ _ _ h
  refine kp_binds X fun S => ?_
  match vals, h, hl with
  | [], h, _ => exact h0 _ h S
  | [a], h, _ => exact h1 _ _ h S
  | [a, b], h, _ => exact h2 _ _ _ h S
  | [a, b, c], h, _ => exact h3 _ _ _ _ h S
  | [a, b, c, e], h, _ => exact h4 _ _ _ _ _ h S
  | [a, b, c, e, f], h, _ => exact h5 _ _ _ _ _ _ h S
  | a :: b :: c :: e :: f :: g :: r, h, hl => simp at hl; omega
theorem len0 : ∀ {ps : List Nat} {vals : List Value} {binds : List (Str × Value)}, bindV ps 0 vals = some binds → vals.length = ps.length
  | [], [], _, _ => rfl
  | [], _ :: _, _, h => by cases h
  | _ :: _, [], _, h => by cases h
  | x :: r, v :: vs, binds, h => by
    unfold bindV at h
    cases q : bindV r 0 vs with
    | none => rw [q] at h; cases h
    | some l => simp [len0 q]
theorem lcons {α : Type} {n : Nat} : ∀ {l : List α}, l.length = n + 1 → ∃ v r, l = v :: r ∧ r.length = n
  | v :: r, h => ⟨v, r, rfl, Nat.succ.inj h⟩
theorem lnil {α : Type} {l : List α} (h : l.length = 0) : l = [] := List.length_eq_zero_iff.mp h
section
variable {K : Frag} {fd : FuncData} {ps : List Nat}
theorem bind1 (hp : ps.length = 1) (h : ∀ v0 binds, bindV ps 0 [v0] = some binds → ∀ S, peek K S (PySem.bindArgs fd ⟨[v0], []⟩) = some binds) : ∀ vals binds, bindV ps 0 vals = some binds → ∀ s : Shared, K.In s.heap → BindsTo s fd ⟨vals, []⟩ binds := by
  intro vals binds hb s X
  have hl := (len0 hb).trans hp
  refine kp_binds X fun S => ?_
  obtain ⟨v0, r0, e0, hl0⟩ := lcons hl
  have en := lnil hl0
  subst en e0
  exact h _ _ hb S
theorem bind2 (hp : ps.length = 2) (h : ∀ v0 v1 binds, bindV ps 0 [v0, v1] = some binds → ∀ S, peek K S (PySem.bindArgs fd ⟨[v0, v1], []⟩) = some binds) : ∀ vals binds, bindV ps 0 vals = some binds → ∀ s : Shared, K.In s.heap → BindsTo s fd ⟨vals, []⟩ binds := by
  intro vals binds hb s X
  have hl := (len0 hb).trans hp
  refine kp_binds X fun S => ?_
  obtain ⟨v0, r0, e0, hl0⟩ := lcons hl
  obtain ⟨v1, r1, e1, hl1⟩ := lcons hl0
  have en := lnil hl1
  subst en e1 e0
  exact h _ _ _ hb S
theorem bind3 (hp : ps.length = 3) (h : ∀ v0 v1 v2 binds, bindV ps 0 [v0, v1, v2] = some binds → ∀ S, peek K S (PySem.bindArgs fd ⟨[v0, v1, v2], []⟩) = some binds) : ∀ vals binds, bindV ps 0 vals = some binds → ∀ s : Shared, K.In s.heap → BindsTo s fd ⟨vals, []⟩ binds := by
  intro vals binds hb s X
  have hl := (len0 hb).trans hp
  refine kp_binds X fun S => ?_
  obtain ⟨v0, r0, e0, hl0⟩ := lcons hl
  obtain ⟨v1, r1, e1, hl1⟩ := lcons hl0
  obtain ⟨v2, r2, e2, hl2⟩ := lcons hl1
  have en := lnil hl2
  subst en e2 e1 e0
  exact h _ _ _ _ hb S
theorem bind4 (hp : ps.length = 4) (h : ∀ v0 v1 v2 v3 binds, bindV ps 0 [v0, v1, v2, v3] = some binds → ∀ S, peek K S (PySem.bindArgs fd ⟨[v0, v1, v2, v3], []⟩) = some binds) : ∀ vals binds, bindV ps 0 vals = some binds → ∀ s : Shared, K.In s.heap → BindsTo s fd ⟨vals, []⟩ binds := by
  intro vals binds hb s X
  have hl := (len0 hb).trans hp
  refine kp_binds X fun S => ?_
  obtain ⟨v0, r0, e0, hl0⟩ := lcons hl
  obtain ⟨v1, r1, e1, hl1⟩ := lcons hl0
  obtain ⟨v2, r2, e2, hl2⟩ := lcons hl1
  obtain ⟨v3, r3, e3, hl3⟩ := lcons hl2
  have en := lnil hl3
  subst en e3 e2 e1 e0
  exact h _ _ _ _ _ hb S
theorem bind5 (hp : ps.length = 5) (h : ∀ v0 v1 v2 v3 v4 binds, bindV ps 0 [v0, v1, v2, v3, v4] = some binds → ∀ S, peek K S (PySem.bindArgs fd ⟨[v0, v1, v2, v3, v4], []⟩) = some binds) : ∀ vals binds, bindV ps 0 vals = some binds → ∀ s : Shared, K.In s.heap → BindsTo s fd ⟨vals, []⟩ binds := by
  intro vals binds hb s X
  have hl := (len0 hb).trans hp
  refine kp_binds X fun S => ?_
  obtain ⟨v0, r0, e0, hl0⟩ := lcons hl
  obtain ⟨v1, r1, e1, hl1⟩ := lcons hl0
  obtain ⟨v2, r2, e2, hl2⟩ := lcons hl1
  obtain ⟨v3, r3, e3, hl3⟩ := lcons hl2
  obtain ⟨v4, r4, e4, hl4⟩ := lcons hl3
  have en := lnil hl4
  subst en e4 e3 e2 e1 e0
  exact h _ _ _ _ _ _ hb S
theorem bind8 (hp : ps.length = 8) (h : ∀ v0 v1 v2 v3 v4 v5 v6 v7 binds, bindV ps 0 [v0, v1, v2, v3, v4, v5, v6, v7] = some binds → ∀ S, peek K S (PySem.bindArgs fd ⟨[v0, v1, v2, v3, v4, v5, v6, v7], []⟩) = some binds) : ∀ vals binds, bindV ps 0 vals = some binds → ∀ s : Shared, K.In s.heap → BindsTo s fd ⟨vals, []⟩ binds := by
  intro vals binds hb s X
  have hl := (len0 hb).trans hp
  refine kp_binds X fun S => ?_
  obtain ⟨v0, r0, e0, hl0⟩ := lcons hl
  obtain ⟨v1, r1, e1, hl1⟩ := lcons hl0
  obtain ⟨v2, r2, e2, hl2⟩ := lcons hl1
  obtain ⟨v3, r3, e3, hl3⟩ := lcons hl2
  obtain ⟨v4, r4, e4, hl4⟩ := lcons hl3
  obtain ⟨v5, r5, e5, hl5⟩ := lcons hl4
  obtain ⟨v6, r6, e6, hl6⟩ := lcons hl5
  obtain ⟨v7, r7, e7, hl7⟩ := lcons hl6
  have en := lnil hl7
  subst en e7 e6 e5 e4 e3 e2 e1 e0
  exact h _ _ _ _ _ _ _ _ _ hb S
end
theorem some_of {α : Type} {o : Option α} {b : α} (h : o = some b) {p : Option α} (e : p = o) : p = some b := e.trans h
theorem fk1 (P : Params) : FnK (hd.heap_39 P) f1 718 := by exact ⟨by kernel_rfl, by kernel_rfl, by kernel_rfl, by kernel_rfl, by kernel_rfl, by kernel_rfl, by kernel_rfl, by kernel_rfl, by kernel_rfl, by kernel_rfl, by kernel_rfl, by kernel_rfl, by kernel_rfl, by kernel_rfl, by kernel_rfl, by kernel_rfl, (bind2 rfl (by (intros; rename_i h S; first | (exfalso; revert h; simp [bindV]; done) | (refine some_of h ?_; kernel_rfl))))⟩
theorem fk3 (P : Params) : FnK (hd.heap_39 P) f3 127 := by exact ⟨by kernel_rfl, by kernel_rfl, by kernel_rfl, by kernel_rfl, by kernel_rfl, by kernel_rfl, by kernel_rfl, by kernel_rfl, by kernel_rfl, by kernel_rfl, by kernel_rfl, by kernel_rfl, by kernel_rfl, by kernel_rfl, by kernel_rfl, by kernel_rfl, (bind3 rfl (by (intros; rename_i h S; first | (exfalso; revert h; simp [bindV]; done) | (refine some_of h ?_; kernel_rfl))))⟩
theorem fk4 (P : Params) : FnK (hd.heap_39 P) f4 134 := by exact ⟨by kernel_rfl, by kernel_rfl, by kernel_rfl, by kernel_rfl, by kernel_rfl, by kernel_rfl, by kernel_rfl, by kernel_rfl, by kernel_rfl, by kernel_rfl, by kernel_rfl, by kernel_rfl, by kernel_rfl, by kernel_rfl, by kernel_rfl, by kernel_rfl, (bind1 rfl (by (intros; rename_i h S; first | (exfalso; revert h; simp [bindV]; done) | (refine some_of h ?_; kernel_rfl))))⟩
theorem fk5 (P : Params) : FnK (hd.heap_39 P) f5 141 := by exact ⟨by kernel_rfl, by kernel_rfl, by kernel_rfl, by kernel_rfl, by kernel_rfl, by kernel_rfl, by kernel_rfl, by kernel_rfl, by kernel_rfl, by kernel_rfl, by kernel_rfl, by kernel_rfl, by kernel_rfl, by kernel_rfl, by kernel_rfl, by kernel_rfl, (bind5 rfl (by (intros; rename_i h S; first | (exfalso; revert h; simp [bindV]; done) | (refine some_of h ?_; kernel_rfl))))⟩
theorem fk6 (P : Params) : FnK (hd.heap_39 P) f6 146 := by exact ⟨by kernel_rfl, by kernel_rfl, by kernel_rfl, by kernel_rfl, by kernel_rfl, by kernel_rfl, by kernel_rfl, by kernel_rfl, by kernel_rfl, by kernel_rfl, by kernel_rfl, by kernel_rfl, by kernel_rfl, by kernel_rfl, by kernel_rfl, by kernel_rfl, (bind1 rfl (by (intros; rename_i h S; first | (exfalso; revert h; simp [bindV]; done) | (refine some_of h ?_; kernel_rfl))))⟩
theorem fk7 (P : Params) : FnK (hd.heap_39 P) f7 153 := by exact ⟨by kernel_rfl, by kernel_rfl, by kernel_rfl, by kernel_rfl, by kernel_rfl, by kernel_rfl, by kernel_rfl, by kernel_rfl, by kernel_rfl, by kernel_rfl, by kernel_rfl, by kernel_rfl, by kernel_rfl, by kernel_rfl, by kernel_rfl, by kernel_rfl, (bind8 rfl (by (intros; rename_i h S; first | (exfalso; revert h; simp [bindV]; done) | (refine some_of h ?_; kernel_rfl))))⟩
theorem fk8 (P : Params) : FnK (hd.heap_39 P) f8 160 := by exact ⟨by kernel_rfl, by kernel_rfl, by kernel_rfl, by kernel_rfl, by kernel_rfl, by kernel_rfl, by kernel_rfl, by kernel_rfl, by kernel_rfl, by kernel_rfl, by kernel_rfl, by kernel_rfl, by kernel_rfl, by kernel_rfl, by kernel_rfl, by kernel_rfl, (bind3 rfl (by (intros; rename_i h S; first | (exfalso; revert h; simp [bindV]; done) | (refine some_of h ?_; kernel_rfl))))⟩
theorem fk9 (P : Params) : FnK (hd.heap_39 P) f9 238 := by exact ⟨by kernel_rfl, by kernel_rfl, by kernel_rfl, by kernel_rfl, by kernel_rfl, by kernel_rfl, by kernel_rfl, by kernel_rfl, by kernel_rfl, by kernel_rfl, by kernel_rfl, by kernel_rfl, by kernel_rfl, by kernel_rfl, by kernel_rfl, by kernel_rfl, (bind2 rfl (by (intros; rename_i h S; first | (exfalso; revert h; simp [bindV]; done) | (refine some_of h ?_; kernel_rfl))))⟩
theorem fk10 (P : Params) : FnK (hd.heap_39 P) f10 245 := by exact ⟨by kernel_rfl, by kernel_rfl, by kernel_rfl, by kernel_rfl, by kernel_rfl, by kernel_rfl, by kernel_rfl, by kernel_rfl, by kernel_rfl, by kernel_rfl, by kernel_rfl, by kernel_rfl, by kernel_rfl, by kernel_rfl, by kernel_rfl, by kernel_rfl, (bind1 rfl (by (intros; rename_i h S; first | (exfalso; revert h; simp [bindV]; done) | (refine some_of h ?_; kernel_rfl))))⟩
theorem fk11 (P : Params) : FnK (hd.heap_39 P) f11 252 := by exact ⟨by kernel_rfl, by kernel_rfl, by kernel_rfl, by kernel_rfl, by kernel_rfl, by kernel_rfl, by kernel_rfl, by kernel_rfl, by kernel_rfl, by kernel_rfl, by kernel_rfl, by kernel_rfl, by kernel_rfl, by kernel_rfl, by kernel_rfl, by kernel_rfl, (bind1 rfl (by (intros; rename_i h S; first | (exfalso; revert h; simp [bindV]; done) | (refine some_of h ?_; kernel_rfl))))⟩
theorem fk12 (P : Params) : FnK (hd.heap_39 P) f12 259 := by exact ⟨by kernel_rfl, by kernel_rfl, by kernel_rfl, by kernel_rfl, by kernel_rfl, by kernel_rfl, by kernel_rfl, by kernel_rfl, by kernel_rfl, by kernel_rfl, by kernel_rfl, by kernel_rfl, by kernel_rfl, by kernel_rfl, by kernel_rfl, by kernel_rfl, (bind2 rfl (by (intros; rename_i h S; first | (exfalso; revert h; simp [bindV]; done) | (refine some_of h ?_; kernel_rfl))))⟩
theorem fk13 (P : Params) : FnK (hd.heap_39 P) f13 264 := by exact ⟨by kernel_rfl, by kernel_rfl, by kernel_rfl, by kernel_rfl, by kernel_rfl, by kernel_rfl, by kernel_rfl, by kernel_rfl, by kernel_rfl, by kernel_rfl, by kernel_rfl, by kernel_rfl, by kernel_rfl, by kernel_rfl, by kernel_rfl, by kernel_rfl, (bind2 rfl (by (intros; rename_i h S; first | (exfalso; revert h; simp [bindV]; done) | (refine some_of h ?_; kernel_rfl))))⟩
theorem fk14 (P : Params) : FnK (hd.heap_39 P) f14 271 := by exact ⟨by kernel_rfl, by kernel_rfl, by kernel_rfl, by kernel_rfl, by kernel_rfl, by kernel_rfl, by kernel_rfl, by kernel_rfl, by kernel_rfl, by kernel_rfl, by kernel_rfl, by kernel_rfl, by kernel_rfl, by kernel_rfl, by kernel_rfl, by kernel_rfl, (bind2 rfl (by (intros; rename_i h S; first | (exfalso; revert h; simp [bindV]; done) | (refine some_of h ?_; kernel_rfl))))⟩
theorem fk15 (P : Params) : FnK (hd.heap_39 P) f15 498 := by exact ⟨by kernel_rfl, by kernel_rfl, by kernel_rfl, by kernel_rfl, by kernel_rfl, by kernel_rfl, by kernel_rfl, by kernel_rfl, by kernel_rfl, by kernel_rfl, by kernel_rfl, by kernel_rfl, by kernel_rfl, by kernel_rfl, by kernel_rfl, by kernel_rfl, (bind1 rfl (by (intros; rename_i h S; first | (exfalso; revert h; simp [bindV]; done) | (refine some_of h ?_; kernel_rfl))))⟩
theorem fk16 (P : Params) : FnK (hd.heap_39 P) f16 505 := by exact ⟨by kernel_rfl, by kernel_rfl, by kernel_rfl, by kernel_rfl, by kernel_rfl, by kernel_rfl, by kernel_rfl, by kernel_rfl, by kernel_rfl, by kernel_rfl, by kernel_rfl, by kernel_rfl, by kernel_rfl, by kernel_rfl, by kernel_rfl, by kernel_rfl, (bind1 rfl (by (intros; rename_i h S; first | (exfalso; revert h; simp [bindV]; done) | (refine some_of h ?_; kernel_rfl))))⟩
theorem fk17 (P : Params) : FnK (hd.heap_39 P) f17 510 := by exact ⟨by kernel_rfl, by kernel_rfl, by kernel_rfl, by kernel_rfl, by kernel_rfl, by kernel_rfl, by kernel_rfl, by kernel_rfl, by kernel_rfl, by kernel_rfl, by kernel_rfl, by kernel_rfl, by kernel_rfl, by kernel_rfl, by kernel_rfl, by kernel_rfl, (bind1 rfl (by (intros; rename_i h S; first | (exfalso; revert h; simp [bindV]; done) | (refine some_of h ?_; kernel_rfl))))⟩
theorem fk18 (P : Params) : FnK (hd.heap_39 P) f18 515 := by exact ⟨by kernel_rfl, by kernel_rfl, by kernel_rfl, by kernel_rfl, by kernel_rfl, by kernel_rfl, by kernel_rfl, by kernel_rfl, by kernel_rfl, by kernel_rfl, by kernel_rfl, by kernel_rfl, by kernel_rfl, by kernel_rfl, by kernel_rfl, by kernel_rfl, (bind1 rfl (by (intros; rename_i h S; first | (exfalso; revert h; simp [bindV]; done) | (refine some_of h ?_; kernel_rfl))))⟩
theorem fk19 (P : Params) : FnK (hd.heap_39 P) f19 182 := by exact ⟨by kernel_rfl, by kernel_rfl, by kernel_rfl, by kernel_rfl, by kernel_rfl, by kernel_rfl, by kernel_rfl, by kernel_rfl, by kernel_rfl, by kernel_rfl, by kernel_rfl, by kernel_rfl, by kernel_rfl, by kernel_rfl, by kernel_rfl, by kernel_rfl, (bind_all (by (intros; rename_i h S; first | (exfalso; revert h; simp [bindV]; done) | (refine some_of h ?_; kernel_rfl))) (by (intros; rename_i h S; first | (exfalso; revert h; simp [bindV]; done) | (refine some_of h ?_; kernel_rfl))) (by (intros; rename_i h S; first | (exfalso; revert h; simp [bindV]; done) | (refine some_of h ?_; kernel_rfl))) (by (intros; rename_i h S; first | (exfalso; revert h; simp [bindV]; done) | (refine some_of h ?_; kernel_rfl))) (by (intros; rename_i h S; first | (exfalso; revert h; simp [bindV]; done) | (refine some_of h ?_; kernel_rfl))) (by (intros; rename_i h S; first | (exfalso; revert h; simp [bindV]; done) | (refine some_of h ?_; kernel_rfl))) (by decide))⟩
theorem fk20 (P : Params) : FnK (hd.heap_39 P) f20 203 := by exact ⟨by kernel_rfl, by kernel_rfl, by kernel_rfl, by kernel_rfl, by kernel_rfl, by kernel_rfl, by kernel_rfl, by kernel_rfl, by kernel_rfl, by kernel_rfl, by kernel_rfl, by kernel_rfl, by kernel_rfl, by kernel_rfl, by kernel_rfl, by kernel_rfl, (bind5 rfl (by (intros; rename_i h S; first | (exfalso; revert h; simp [bindV]; done) | (refine some_of h ?_; kernel_rfl))))⟩
theorem fk21 (P : Params) : FnK (hd.heap_39 P) f21 189 := by exact ⟨by kernel_rfl, by kernel_rfl, by kernel_rfl, by kernel_rfl, by kernel_rfl, by kernel_rfl, by kernel_rfl, by kernel_rfl, by kernel_rfl, by kernel_rfl, by kernel_rfl, by kernel_rfl, by kernel_rfl, by kernel_rfl, by kernel_rfl, by kernel_rfl, (bind1 rfl (by (intros; rename_i h S; first | (exfalso; revert h; simp [bindV]; done) | (refine some_of h ?_; kernel_rfl))))⟩
theorem fk22 (P : Params) : FnK (hd.heap_39 P) f22 217 := by exact ⟨by kernel_rfl, by kernel_rfl, by kernel_rfl, by kernel_rfl, by kernel_rfl, by kernel_rfl, by kernel_rfl, by kernel_rfl, by kernel_rfl, by kernel_rfl, by kernel_rfl, by kernel_rfl, by kernel_rfl, by kernel_rfl, by kernel_rfl, by kernel_rfl, (bind1 rfl (by (intros; rename_i h S; first | (exfalso; revert h; simp [bindV]; done) | (refine some_of h ?_; kernel_rfl))))⟩
theorem fk23 (P : Params) : FnK (hd.heap_39 P) f23 305 := by exact ⟨by kernel_rfl, by kernel_rfl, by kernel_rfl, by kernel_rfl, by kernel_rfl, by kernel_rfl, by kernel_rfl, by kernel_rfl, by kernel_rfl, by kernel_rfl, by kernel_rfl, by kernel_rfl, by kernel_rfl, by kernel_rfl, by kernel_rfl, by kernel_rfl, (bind3 rfl (by (intros; rename_i h S; first | (exfalso; revert h; simp [bindV]; done) | (refine some_of h ?_; kernel_rfl))))⟩
theorem fk24 (P : Params) : FnK (hd.heap_39 P) f24 312 := by exact ⟨by kernel_rfl, by kernel_rfl, by kernel_rfl, by kernel_rfl, by kernel_rfl, by kernel_rfl, by kernel_rfl, by kernel_rfl, by kernel_rfl, by kernel_rfl, by kernel_rfl, by kernel_rfl, by kernel_rfl, by kernel_rfl, by kernel_rfl, by kernel_rfl, (bind1 rfl (by (intros; rename_i h S; first | (exfalso; revert h; simp [bindV]; done) | (refine some_of h ?_; kernel_rfl))))⟩
theorem fk25 (P : Params) : FnK (hd.heap_39 P) f25 319 := by exact ⟨by kernel_rfl, by kernel_rfl, by kernel_rfl, by kernel_rfl, by kernel_rfl, by kernel_rfl, by kernel_rfl, by kernel_rfl, by kernel_rfl, by kernel_rfl, by kernel_rfl, by kernel_rfl, by kernel_rfl, by kernel_rfl, by kernel_rfl, by kernel_rfl, (bind1 rfl (by (intros; rename_i h S; first | (exfalso; revert h; simp [bindV]; done) | (refine some_of h ?_; kernel_rfl))))⟩
theorem fk26 (P : Params) : FnK (hd.heap_39 P) f26 333 := by exact ⟨by kernel_rfl, by kernel_rfl, by kernel_rfl, by kernel_rfl, by kernel_rfl, by kernel_rfl, by kernel_rfl, by kernel_rfl, by kernel_rfl, by kernel_rfl, by kernel_rfl, by kernel_rfl, by kernel_rfl, by kernel_rfl, by kernel_rfl, by kernel_rfl, (bind2 rfl (by (intros; rename_i h S; first | (exfalso; revert h; simp [bindV]; done) | (refine some_of h ?_; kernel_rfl))))⟩
theorem fk27 (P : Params) : FnK (hd.heap_39 P) f27 340 := by exact ⟨by kernel_rfl, by kernel_rfl, by kernel_rfl, by kernel_rfl, by kernel_rfl, by kernel_rfl, by kernel_rfl, by kernel_rfl, by kernel_rfl, by kernel_rfl, by kernel_rfl, by kernel_rfl, by kernel_rfl, by kernel_rfl, by kernel_rfl, by kernel_rfl, (bind2 rfl (by (intros; rename_i h S; first | (exfalso; revert h; simp [bindV]; done) | (refine some_of h ?_; kernel_rfl))))⟩
theorem fk28 (P : Params) : FnK (hd.heap_39 P) f28 354 := by exact ⟨by kernel_rfl, by kernel_rfl, by kernel_rfl, by kernel_rfl, by kernel_rfl, by kernel_rfl, by kernel_rfl, by kernel_rfl, by kernel_rfl, by kernel_rfl, by kernel_rfl, by kernel_rfl, by kernel_rfl, by kernel_rfl, by kernel_rfl, by kernel_rfl, (bind4 rfl (by (intros; rename_i h S; first | (exfalso; revert h; simp [bindV]; done) | (refine some_of h ?_; kernel_rfl))))⟩
theorem fk29 (P : Params) : FnK (hd.heap_39 P) f29 361 := by exact ⟨by kernel_rfl, by kernel_rfl, by kernel_rfl, by kernel_rfl, by kernel_rfl, by kernel_rfl, by kernel_rfl, by kernel_rfl, by kernel_rfl, by kernel_rfl, by kernel_rfl, by kernel_rfl, by kernel_rfl, by kernel_rfl, by kernel_rfl, by kernel_rfl, (bind1 rfl (by (intros; rename_i h S; first | (exfalso; revert h; simp [bindV]; done) | (refine some_of h ?_; kernel_rfl))))⟩
theorem fk30 (P : Params) : FnK (hd.heap_39 P) f30 368 := by exact ⟨by kernel_rfl, by kernel_rfl, by kernel_rfl, by kernel_rfl, by kernel_rfl, by kernel_rfl, by kernel_rfl, by kernel_rfl, by kernel_rfl, by kernel_rfl, by kernel_rfl, by kernel_rfl, by kernel_rfl, by kernel_rfl, by kernel_rfl, by kernel_rfl, (bind1 rfl (by (intros; rename_i h S; first | (exfalso; revert h; simp [bindV]; done) | (refine some_of h ?_; kernel_rfl))))⟩
theorem fk31 (P : Params) : FnK (hd.heap_39 P) f31 389 := by exact ⟨by kernel_rfl, by kernel_rfl, by kernel_rfl, by kernel_rfl, by kernel_rfl, by kernel_rfl, by kernel_rfl, by kernel_rfl, by kernel_rfl, by kernel_rfl, by kernel_rfl, by kernel_rfl, by kernel_rfl, by kernel_rfl, by kernel_rfl, by kernel_rfl, (bind5 rfl (by (intros; rename_i h S; first | (exfalso; revert h; simp [bindV]; done) | (refine some_of h ?_; kernel_rfl))))⟩
theorem fk32 (P : Params) : FnK (hd.heap_39 P) f32 396 := by exact ⟨by kernel_rfl, by kernel_rfl, by kernel_rfl, by kernel_rfl, by kernel_rfl, by kernel_rfl, by kernel_rfl, by kernel_rfl, by kernel_rfl, by kernel_rfl, by kernel_rfl, by kernel_rfl, by kernel_rfl, by kernel_rfl, by kernel_rfl, by kernel_rfl, (bind2 rfl (by (intros; rename_i h S; first | (exfalso; revert h; simp [bindV]; done) | (refine some_of h ?_; kernel_rfl))))⟩
theorem fk33 (P : Params) : FnK (hd.heap_39 P) f33 403 := by exact ⟨by kernel_rfl, by kernel_rfl, by kernel_rfl, by kernel_rfl, by kernel_rfl, by kernel_rfl, by kernel_rfl, by kernel_rfl, by kernel_rfl, by kernel_rfl, by kernel_rfl, by kernel_rfl, by kernel_rfl, by kernel_rfl, by kernel_rfl, by kernel_rfl, (bind2 rfl (by (intros; rename_i h S; first | (exfalso; revert h; simp [bindV]; done) | (refine some_of h ?_; kernel_rfl))))⟩
theorem fk34 (P : Params) : FnK (hd.heap_39 P) f34 410 := by exact ⟨by kernel_rfl, by kernel_rfl, by kernel_rfl, by kernel_rfl, by kernel_rfl, by kernel_rfl, by kernel_rfl, by kernel_rfl, by kernel_rfl, by kernel_rfl, by kernel_rfl, by kernel_rfl, by kernel_rfl, by kernel_rfl, by kernel_rfl, by kernel_rfl, (bind3 rfl (by (intros; rename_i h S; first | (exfalso; revert h; simp [bindV]; done) | (refine some_of h ?_; kernel_rfl))))⟩
theorem fk35 (P : Params) : FnK (hd.heap_39 P) f35 417 := by exact ⟨by kernel_rfl, by kernel_rfl, by kernel_rfl, by kernel_rfl, by kernel_rfl, by kernel_rfl, by kernel_rfl, by kernel_rfl, by kernel_rfl, by kernel_rfl, by kernel_rfl, by kernel_rfl, by kernel_rfl, by kernel_rfl, by kernel_rfl, by kernel_rfl, (bind4 rfl (by (intros; rename_i h S; first | (exfalso; revert h; simp [bindV]; done) | (refine some_of h ?_; kernel_rfl))))⟩
theorem fk36 (P : Params) : FnK (hd.heap_39 P) f36 478 := by exact ⟨by kernel_rfl, by kernel_rfl, by kernel_rfl, by kernel_rfl, by kernel_rfl, by kernel_rfl, by kernel_rfl, by kernel_rfl, by kernel_rfl, by kernel_rfl, by kernel_rfl, by kernel_rfl, by kernel_rfl, by kernel_rfl, by kernel_rfl, by kernel_rfl, (bind1 rfl (by (intros; rename_i h S; first | (exfalso; revert h; simp [bindV]; done) | (refine some_of h ?_; kernel_rfl))))⟩
theorem fk37 (P : Params) : FnK (hd.heap_39 P) f37 483 := by exact ⟨by kernel_rfl, by kernel_rfl, by kernel_rfl, by kernel_rfl, by kernel_rfl, by kernel_rfl, by kernel_rfl, by kernel_rfl, by kernel_rfl, by kernel_rfl, by kernel_rfl, by kernel_rfl, by kernel_rfl, by kernel_rfl, by kernel_rfl, by kernel_rfl, (bind2 rfl (by (intros; rename_i h S; first | (exfalso; revert h; simp [bindV]; done) | (refine some_of h ?_; kernel_rfl))))⟩
theorem fk38 (P : Params) : FnK (hd.heap_39 P) f38 549 := by exact ⟨by kernel_rfl, by kernel_rfl, by kernel_rfl, by kernel_rfl, by kernel_rfl, by kernel_rfl, by kernel_rfl, by kernel_rfl, by kernel_rfl, by kernel_rfl, by kernel_rfl, by kernel_rfl, by kernel_rfl, by kernel_rfl, by kernel_rfl, by kernel_rfl, (bind5 rfl (by (intros; rename_i h S; first | (exfalso; revert h; simp [bindV]; done) | (refine some_of h ?_; kernel_rfl))))⟩
theorem fk39 (P : Params) : FnK (hd.heap_39 P) f39 570 := by exact ⟨by kernel_rfl, by kernel_rfl, by kernel_rfl, by kernel_rfl, by kernel_rfl, by kernel_rfl, by kernel_rfl, by kernel_rfl, by kernel_rfl, by kernel_rfl, by kernel_rfl, by kernel_rfl, by kernel_rfl, by kernel_rfl, by kernel_rfl, by kernel_rfl, (bind2 rfl (by (intros; rename_i h S; first | (exfalso; revert h; simp [bindV]; done) | (refine some_of h ?_; kernel_rfl))))⟩
theorem fk40 (P : Params) : FnK (hd.heap_39 P) f40 612 := by exact ⟨by kernel_rfl, by kernel_rfl, by kernel_rfl, by kernel_rfl, by kernel_rfl, by kernel_rfl, by kernel_rfl, by kernel_rfl, by kernel_rfl, by kernel_rfl, by kernel_rfl, by kernel_rfl, by kernel_rfl, by kernel_rfl, by kernel_rfl, by kernel_rfl, (bind1 rfl (by (intros; rename_i h S; first | (exfalso; revert h; simp [bindV]; done) | (refine some_of h ?_; kernel_rfl))))⟩
theorem fk41 (P : Params) : FnK (hd.heap_39 P) f41 619 := by exact ⟨by kernel_rfl, by kernel_rfl, by kernel_rfl, by kernel_rfl, by kernel_rfl, by kernel_rfl, by kernel_rfl, by kernel_rfl, by kernel_rfl, by kernel_rfl, by kernel_rfl, by kernel_rfl, by kernel_rfl, by kernel_rfl, by kernel_rfl, by kernel_rfl, (bind5 rfl (by (intros; rename_i h S; first | (exfalso; revert h; simp [bindV]; done) | (refine some_of h ?_; kernel_rfl))))⟩
theorem fk42 (P : Params) : FnK (hd.heap_39 P) f42 664 := by exact ⟨by kernel_rfl, by kernel_rfl, by kernel_rfl, by kernel_rfl, by kernel_rfl, by kernel_rfl, by kernel_rfl, by kernel_rfl, by kernel_rfl, by kernel_rfl, by kernel_rfl, by kernel_rfl, by kernel_rfl, by kernel_rfl, by kernel_rfl, by kernel_rfl, (bind1 rfl (by (intros; rename_i h S; first | (exfalso; revert h; simp [bindV]; done) | (refine some_of h ?_; kernel_rfl))))⟩
noncomputable def fnAddr : List (Nat × Addr) := [(0, 713), (1, 718), (3, 127), (4, 134), (5, 141), (6, 146), (7, 153), (8, 160), (9, 238), (10, 245), (11, 252), (12, 259), (13, 264), (14, 271), (15, 498), (16, 505), (17, 510), (18, 515), (19, 182), (20, 203), (21, 189), (22, 217), (23, 305), (24, 312), (25, 319), (26, 333), (27, 340), (28, 354), (29, 361), (30, 368), (31, 389), (32, 396), (33, 403), (34, 410), (35, 417), (36, 478), (37, 483), (38, 549), (39, 570), (40, 612), (41, 619), (42, 664), (43, 584)]
theorem look_memA {l : List (Nat × Addr)} {k : Nat} {a : Addr} (h : look l k = some a) : (k, a) ∈ l := by
  induction l with
  | nil => cases h
  | cons p r ih =>
    obtain ⟨x, b⟩ := p
    have h : (if x = k then some b else look r k) = some a := by rw [← h]; show _ = ifB (Nat.beq x k) (some b) (look r k); rw [T.ifB_eq]
    by_cases e : x = k
    · rw [if_pos e] at h; cases h; rw [e]; exact .head _
    · rw [if_neg e] at h; exact .tail _ (ih h)
noncomputable def FkP (P : Params) (f : Nat) (fa : Addr) : Prop := ∀ fn, fnT.get f = some fn → f ≠ 0 → FnK (hd.heap_39 P) fn fa
theorem fk_one {P : Params} {f : Nat} {fn : Fn} {fa : Addr} (e : fnT.get f = some fn) (h : FnK (hd.heap_39 P) fn fa) : FkP P f fa := fun fn' e' _ => by
  rw [e] at e'; cases e'; exact h
theorem fk_no {P : Params} {f : Nat} {fa : Addr} (e : fnT.get f = none) : FkP P f fa := fun fn' e' _ => by
  rw [e] at e'; cases e'
theorem fk_0 {P : Params} {fa : Addr} : FkP P 0 fa := fun _ _ h => absurd rfl h
theorem fk_cons {P : Params} {f : Nat} {fa : Addr} {l : List (Nat × Addr)} (h : FkP P f fa) (t : ∀ f fa, (f, fa) ∈ l → FkP P f fa) : ∀ g ga, (g, ga) ∈ (f, fa) :: l → FkP P g ga := fun g ga m => by
  rcases List.mem_cons.mp m with m | m
  · cases m; exact h
  · exact t g ga m
theorem fk_nil {P : Params} : ∀ g ga, (g, ga) ∈ ([] : List (Nat × Addr)) → FkP P g ga := fun _ _ m => by cases m
theorem fk_list (P : Params) : ∀ f fa, (f, fa) ∈ fnAddr → FkP P f fa :=
  fk_cons fk_0 <|
  fk_cons (fk_one (fn := f1) (by kernel_rfl) (fk1 P)) <|
  fk_cons (fk_one (fn := f3) (by kernel_rfl) (fk3 P)) <|
  fk_cons (fk_one (fn := f4) (by kernel_rfl) (fk4 P)) <|
  fk_cons (fk_one (fn := f5) (by kernel_rfl) (fk5 P)) <|
  fk_cons (fk_one (fn := f6) (by kernel_rfl) (fk6 P)) <|
  fk_cons (fk_one (fn := f7) (by kernel_rfl) (fk7 P)) <|
  fk_cons (fk_one (fn := f8) (by kernel_rfl) (fk8 P)) <|
  fk_cons (fk_one (fn := f9) (by kernel_rfl) (fk9 P)) <|
  fk_cons (fk_one (fn := f10) (by kernel_rfl) (fk10 P)) <|
  fk_cons (fk_one (fn := f11) (by kernel_rfl) (fk11 P)) <|
  fk_cons (fk_one (fn := f12) (by kernel_rfl) (fk12 P)) <|
  fk_cons (fk_one (fn := f13) (by kernel_rfl) (fk13 P)) <|
  fk_cons (fk_one (fn := f14) (by kernel_rfl) (fk14 P)) <|
  fk_cons (fk_one (fn := f15) (by kernel_rfl) (fk15 P)) <|
  fk_cons (fk_one (fn := f16) (by kernel_rfl) (fk16 P)) <|
  fk_cons (fk_one (fn := f17) (by kernel_rfl) (fk17 P)) <|
  fk_cons (fk_one (fn := f18) (by kernel_rfl) (fk18 P)) <|
  fk_cons (fk_one (fn := f19) (by kernel_rfl) (fk19 P)) <|
  fk_cons (fk_one (fn := f20) (by kernel_rfl) (fk20 P)) <|
  fk_cons (fk_one (fn := f21) (by kernel_rfl) (fk21 P)) <|
  fk_cons (fk_one (fn := f22) (by kernel_rfl) (fk22 P)) <|
  fk_cons (fk_one (fn := f23) (by kernel_rfl) (fk23 P)) <|
  fk_cons (fk_one (fn := f24) (by kernel_rfl) (fk24 P)) <|
  fk_cons (fk_one (fn := f25) (by kernel_rfl) (fk25 P)) <|
  fk_cons (fk_one (fn := f26) (by kernel_rfl) (fk26 P)) <|
  fk_cons (fk_one (fn := f27) (by kernel_rfl) (fk27 P)) <|
  fk_cons (fk_one (fn := f28) (by kernel_rfl) (fk28 P)) <|
  fk_cons (fk_one (fn := f29) (by kernel_rfl) (fk29 P)) <|
  fk_cons (fk_one (fn := f30) (by kernel_rfl) (fk30 P)) <|
  fk_cons (fk_one (fn := f31) (by kernel_rfl) (fk31 P)) <|
  fk_cons (fk_one (fn := f32) (by kernel_rfl) (fk32 P)) <|
  fk_cons (fk_one (fn := f33) (by kernel_rfl) (fk33 P)) <|
  fk_cons (fk_one (fn := f34) (by kernel_rfl) (fk34 P)) <|
  fk_cons (fk_one (fn := f35) (by kernel_rfl) (fk35 P)) <|
  fk_cons (fk_one (fn := f36) (by kernel_rfl) (fk36 P)) <|
  fk_cons (fk_one (fn := f37) (by kernel_rfl) (fk37 P)) <|
  fk_cons (fk_one (fn := f38) (by kernel_rfl) (fk38 P)) <|
  fk_cons (fk_one (fn := f39) (by kernel_rfl) (fk39 P)) <|
  fk_cons (fk_one (fn := f40) (by kernel_rfl) (fk40 P)) <|
  fk_cons (fk_one (fn := f41) (by kernel_rfl) (fk41 P)) <|
  fk_cons (fk_one (fn := f42) (by kernel_rfl) (fk42 P)) <|
  fk_cons (fk_no (by kernel_rfl)) <|
  fk_nil
theorem fk_all (P : Params) : ∀ f fn fa, fnT.get f = some fn → look fnAddr f = some fa → f ≠ 0 → FnK (hd.heap_39 P) fn fa := fun f fn fa h1 h2 h0 => fk_list P f fa (look_memA h2) fn h1 h0
end Mine
end

section
open PySem PySem.W PyProof.Rows PySem.Calls PySem.Spec
set_option maxRecDepth 100000
set_option maxHeartbeats 0
namespace Mine
noncomputable def clsAddr : List (Nat × Addr) := [(0, 220), (1, 371), (2, 486), (3, 552), (4, 695)]
noncomputable def methT : T (List (Nat × Nat)) := (tx true [] true true).meths
noncomputable def initT : T Nat := (tx true [] true true).inits
/-! ## classes in K -/
noncomputable def isNone1 {α : Type} (o : Option (Option α)) : Bool := match o with
  | some none => true
  | _ => false
theorem isNone1_eq {α : Type} {o : Option (Option α)} (h : isNone1 o = true) : o = some none := by
  match o, h with
  | some none, _ => rfl
noncomputable def isRef1 (o : Option (Option Value)) (a : Addr) : Bool := match o with
  | some (some (.ref b)) => Nat.beq b a
  | _ => false
theorem isRef1_eq {o : Option (Option Value)} {a : Addr} (h : isRef1 o a = true) : o = some (some (.ref a)) := by
  match o, h with
  | some (some (.ref b)), h => rw [Nat.eq_of_beq_eq_true h]
noncomputable def isFnTy (o : Option Value) : Bool := match o with
  | some (.type s) => s == "function"
  | _ => false
theorem isFnTy_eq {o : Option Value} (h : isFnTy o = true) : o = some (.type "function") := by
  match o, h with
  | some (.type s), h => rw [eq_of_beq h]
noncomputable def isBi1 (o : Option (Option Value)) (s : String) : Bool := match o with
  | some (some (.builtin b)) => b == s
  | _ => false
theorem isBi1_eq {o : Option (Option Value)} {s : String} (h : isBi1 o s = true) : o = some (some (.builtin s)) := by
  match o, h with
  | some (some (.builtin b)), h => rw [eq_of_beq h]
noncomputable def methOk (K : Frag) (a : Addr) (name : Str) (f : Nat) : Bool := match look fnAddr f with
  | some fa => isRef1 (findIn K (.ref a) name) fa && isFnTy (typeIn K (.ref fa)) && fnIn K fa
  | none => false
structure ClsK (K : Frag) (c : Nat) (a : Addr) : Prop where
  makes : makesIn K a = true
  keep : keepIn K (.ref a) = true
  ga : isBi1 (findIn K (.ref a) "__getattribute__") "object.__getattribute__" = true
  gt : isNone1 (findIn K (.ref a) "__getattr__") = true
  sa : isBi1 (findIn K (.ref a) "__setattr__") "object.__setattr__" = true
  over : plainOver K a = true
  dict : hasDictIn K a = true
  nons : (match methT.get c with | some ms => attrTab.all fun k => (look ms k).isSome || isNone1 (findIn K (.ref a) (strOf k)) | none => true) = true
  meth : (match methT.get c with | some ms => ms.all fun p => methOk K a (strOf p.1) p.2 | none => true) = true
  init : (match initT.get c with | some f => methOk K a "__init__" f | none => true) = true
theorem ck0 (P : Params) : ClsK (hd.heap_39 P) 0 220 := ⟨by kernel_rfl, by kernel_rfl, by kernel_rfl, by kernel_rfl, by kernel_rfl, by kernel_rfl, by kernel_rfl, by kernel_rfl, by kernel_rfl, by kernel_rfl⟩
theorem ck1 (P : Params) : ClsK (hd.heap_39 P) 1 371 := ⟨by kernel_rfl, by kernel_rfl, by kernel_rfl, by kernel_rfl, by kernel_rfl, by kernel_rfl, by kernel_rfl, by kernel_rfl, by kernel_rfl, by kernel_rfl⟩
theorem ck2 (P : Params) : ClsK (hd.heap_39 P) 2 486 := ⟨by kernel_rfl, by kernel_rfl, by kernel_rfl, by kernel_rfl, by kernel_rfl, by kernel_rfl, by kernel_rfl, by kernel_rfl, by kernel_rfl, by kernel_rfl⟩
theorem ck3 (P : Params) : ClsK (hd.heap_39 P) 3 552 := ⟨by kernel_rfl, by kernel_rfl, by kernel_rfl, by kernel_rfl, by kernel_rfl, by kernel_rfl, by kernel_rfl, by kernel_rfl, by kernel_rfl, by kernel_rfl⟩
theorem ck4 (P : Params) : ClsK (hd.heap_39 P) 4 695 := ⟨by kernel_rfl, by kernel_rfl, by kernel_rfl, by kernel_rfl, by kernel_rfl, by kernel_rfl, by kernel_rfl, by kernel_rfl, by kernel_rfl, by kernel_rfl⟩
theorem ck_all (P : Params) (c : Nat) (a : Addr) (h : look clsAddr c = some a) : ClsK (hd.heap_39 P) c a := by
  have m := look_memA h
  unfold clsAddr at m
  rcases List.mem_cons.mp m with m | m
  · cases m; exact ck0 P
  rcases List.mem_cons.mp m with m | m
  · cases m; exact ck1 P
  rcases List.mem_cons.mp m with m | m
  · cases m; exact ck2 P
  rcases List.mem_cons.mp m with m | m
  · cases m; exact ck3 P
  rcases List.mem_cons.mp m with m | m
  · cases m; exact ck4 P
  cases m
theorem mem_inN : ∀ {l : List Nat} {x : Nat}, inN l x = true → x ∈ l
  | [], _, h => by cases h
  | y :: r, x, h => by
    unfold inN at h
    cases e : Nat.beq y x with
    | true => rw [Nat.eq_of_beq_eq_true e]; exact .head _
    | false => rw [e] at h; exact .tail _ (mem_inN h)
theorem look_memN {β : Type} {l : List (Nat × β)} {k : Nat} {a : β} (h : look l k = some a) : (k, a) ∈ l := by
  induction l with
  | nil => cases h
  | cons p r ih =>
    obtain ⟨x, b⟩ := p
    have h : (if x = k then some b else look r k) = some a := by rw [← h]; show _ = ifB (Nat.beq x k) (some b) (look r k); rw [T.ifB_eq]
    by_cases e : x = k
    · rw [if_pos e] at h; cases h; rw [e]; exact .head _
    · rw [if_neg e] at h; exact .tail _ (ih h)
theorem methOk_eq {K : Frag} {a : Addr} {name : Str} {f : Nat} (h : methOk K a name f = true) : ∃ fa, look fnAddr f = some fa ∧ findIn K (.ref a) name = some (some (.ref fa)) ∧ typeIn K (.ref fa) = some (.type "function") ∧ fnIn K fa = true := by
  unfold methOk at h
  cases q : look fnAddr f with
  | none => rw [q] at h; cases h
  | some fa =>
    rw [q] at h
    obtain ⟨h, h3⟩ := and_true h
    obtain ⟨h1, h2⟩ := and_true h
    exact ⟨fa, rfl, isRef1_eq h1, isFnTy_eq h2, h3⟩
theorem cls_ok {G : Ctx} {P : Params} (hK : G.K = hd.heap_39 P) (hm : G.tx.meths = methT) (hi : G.tx.inits = initT) (hf : G.fn = look fnAddr) (c : Nat) (a : Addr) (h : look clsAddr c = some a) : ClsOk G c a := by
  have C := ck_all P c a h
  rw [← hK] at C
  refine ⟨C.makes, C.keep, isBi1_eq C.ga, isNone1_eq C.gt, isBi1_eq C.sa, C.over, C.dict, fun ms k h1 h2 h3 => ?_, fun ms k f h1 h2 => ?_, fun f h1 => ?_⟩
  · have := C.nons
    rw [← hm, h1] at this
    have := List.all_eq_true.mp this k (mem_inN h3)
    rw [h2] at this
    exact isNone1_eq (by simpa using this)
  · have := C.meth
    rw [← hm, h1] at this
    have := List.all_eq_true.mp this _ (look_memN h2)
    rw [hf]
    exact methOk_eq this
  · have := C.init
    rw [← hi, h1] at this
    rw [hf]
    obtain ⟨fa, a1, a2, a3, _⟩ := methOk_eq this
    exact ⟨fa, a1, a2, a3⟩
/-! ## the main module's names -/
noncomputable def esAt (K : Frag) : Array DictEntry := match (objAt K 3).data with
  | .dict es _ => es
  | _ => #[]
noncomputable def epAt (K : Frag) : Nat := match (objAt K 3).data with
  | .dict _ ep => ep
  | _ => 0
theorem mg_at (P : Params) {h : Heap} {mg : Str → Option Value} (X : (hd.heap_39 P).In h) (g : h.Ns mainGlobals mg) (x : Str) : mg x = nsFind (esAt (hd.heap_39 P)) x := by
  obtain ⟨o, es, ep, e1, e2, _, e4⟩ := g
  have e := X 3 (objAt (hd.heap_39 P) 3) (by kernel_rfl)
  have e1 : h.get? 3 = some o := e1
  rw [e] at e1; cases e1
  have e5 : (objAt (hd.heap_39 P) 3).data = .dict (esAt (hd.heap_39 P)) (epAt (hd.heap_39 P)) := by kernel_rfl
  rw [e5] at e2
  cases e2
  exact (e4 x).symm
noncomputable def isRefO (o : Option Value) (a : Addr) : Bool := match o with
  | some (.ref b) => Nat.beq b a
  | _ => false
theorem isRefO_eq {o : Option Value} {a : Addr} (h : isRefO o a = true) : o = some (.ref a) := by
  match o, h with
  | some (.ref b), h => rw [Nat.eq_of_beq_eq_true h]
theorem names_fn (P : Params) : (fnNames.all fun p => match look fnAddr p.2 with | some fa => isRefO (nsFind (esAt (hd.heap_39 P)) (strOf p.1)) fa && fnIn (hd.heap_39 P) fa | none => false) = true := by kernel_rfl
theorem names_cls (P : Params) : (clsNames.all fun p => match look clsAddr p.2 with | some a => isRefO (nsFind (esAt (hd.heap_39 P)) (strOf p.1)) a | none => false) = true := by kernel_rfl
noncomputable def isBiV (o : Option Value) (v : Value) : Bool := match o, v with
  | some (.builtin s), .builtin t => s == t
  | some (.type s), .type t => s == t
  | _, _ => false
theorem isBiV_eq {o : Option Value} {v : Value} (h : isBiV o v = true) : o = some v := by
  unfold isBiV at h
  split at h
  · rw [eq_of_beq h]
  · rw [eq_of_beq h]
  · cases h
theorem names_bi (P : Params) : (biNames.all fun p => (nsFind (esAt (hd.heap_39 P)) (strOf p.1)).isNone && isBiV (bootBuiltins (strOf p.1)) (biVal p.2)) = true := by kernel_rfl
end Mine
end

section
open PySem PySem.W PyProof.Rows PySem.Calls PySem.Spec
set_option maxRecDepth 100000
set_option maxHeartbeats 400000
namespace Mine
/-! ## the script's numbers -/
theorem dval_range (ns : List Int) (k : Nat) {m : Nat} (hm : 0 < m) : 0 ≤ dval ns k m ∧ dval ns k m < m := by
  unfold dval
  have h : (0 : Int) < m := by omega
  split
  · exact ⟨Int.fmod_nonneg_of_pos _ h, Int.fmod_lt_of_pos _ h⟩
  · exact ⟨Int.fmod_nonneg_of_pos _ h, Int.fmod_lt_of_pos _ h⟩
noncomputable def dN (ns : List Int) (k m : Nat) : Nat := (dval ns k m).toNat
theorem dN_eq (ns : List Int) (k : Nat) {m : Nat} (hm : 0 < m) : ((dN ns k m : Nat) : Int) = dval ns k m := Int.toNat_of_nonneg (dval_range ns k hm).1
theorem dN_lt (ns : List Int) (k : Nat) {m : Nat} (hm : 0 < m) : dN ns k m < m := by
  have := (dval_range ns k hm).2
  have := dN_eq ns k hm
  omega
section
variable (ns : List Int)
noncomputable def cPv : Bool := !decide (dval ns 0 4 = 1)
noncomputable def cN : Nat := dN ns 2 4
noncomputable def cAsks : List Bool := (List.range (cN ns)).map fun i => !decide (dval ns (3 + i) 3 = 0)
noncomputable def c8 : Nat := dN ns (cN ns + 3) 4
noncomputable def c6 : Nat := dN ns (cN ns + 4) 4
noncomputable def c7 : Nat := dN ns (cN ns + 5) 3
noncomputable def c0 : Nat := dN ns (cN ns + 6) 50
noncomputable def c1 : Nat := dN ns 1 3
end
noncomputable def cameOf (i : Nat) : Int := [2000, 400, 500, 100].getD i 0
noncomputable def wentOf (i : Nat) : Int := [0, 200, 300].getD i 0
noncomputable def lossOf (i : Nat) : Int := if i = 3 then 5000 else 2500
noncomputable def roomOf (i j : Nat) : Int := 3 * cameOf i - wentOf j
noncomputable def nuOf (l c i j e : Nat) : List Int := [l, c, 2 ^ c, cameOf i, roomOf i j, lossOf e, i, j, e]
noncomputable def bsOf (hi : Bool) : List (Int × Int) := [(0, 49), (0, 2), (1, 4), (100, 2000), (match hi with | true => (1200, 6000) | false => (0, 1199)), (2500, 5000), (0, 3), (0, 2), (0, 3)]
theorem rooms : ∀ i : Fin 4, ∀ j : Fin 3, (100 ≤ cameOf i ∧ cameOf i ≤ 2000) ∧ 0 ≤ roomOf i j ∧ roomOf i j ≤ 6000 ∧ (wentOf j = 3 * cameOf i - roomOf i j) := by decide
theorem pw2 : ∀ c : Fin 3, (1 : Int) ≤ 2 ^ c.val ∧ (2 : Int) ^ c.val ≤ 4 := by decide
theorem inB_of {l c i j e : Nat} (hl : l < 50) (hc : c < 3) (hi : i < 4) (hj : j < 3) (he : e < 4) : InB (bsOf (decide (1200 ≤ roomOf i j))) (nuOf l c i j e) := by
  obtain ⟨⟨r1, r2⟩, r3, r4, _⟩ := rooms ⟨i, hi⟩ ⟨j, hj⟩
  obtain ⟨p1, p2⟩ := pw2 ⟨c, hc⟩
  simp only at r1 r2 r3 r4 p1 p2
  refine ⟨rfl, fun k b x h1 h2 => ?_⟩
  match k, h1, h2 with
  | 0, h1, h2 => cases h1; cases h2; exact ⟨by show (0 : Int) ≤ (l : Int); omega, by show (l : Int) ≤ 49; omega⟩
  | 1, h1, h2 => cases h1; cases h2; exact ⟨by show (0 : Int) ≤ (c : Int); omega, by show (c : Int) ≤ 2; omega⟩
  | 2, h1, h2 => cases h1; cases h2; exact ⟨p1, p2⟩
  | 3, h1, h2 => cases h1; cases h2; exact ⟨r1, r2⟩
  | 4, h1, h2 =>
    cases h2
    cases q : decide (1200 ≤ roomOf i j) with
    | true => rw [q] at h1; cases h1; exact ⟨of_decide_eq_true q, r4⟩
    | false =>
      rw [q] at h1; cases h1
      have := of_decide_eq_false q
      exact ⟨r3, by show roomOf i j ≤ 1199; omega⟩
  | 5, h1, h2 => cases h1; cases h2; unfold lossOf; constructor <;> split <;> simp
  | 6, h1, h2 => cases h1; cases h2; exact ⟨by show (0 : Int) ≤ (i : Int); omega, by show (i : Int) ≤ 3; omega⟩
  | 7, h1, h2 => cases h1; cases h2; exact ⟨by show (0 : Int) ≤ (j : Int); omega, by show (j : Int) ≤ 2; omega⟩
  | 8, h1, h2 => cases h1; cases h2; exact ⟨by show (0 : Int) ≤ (e : Int); omega, by show (e : Int) ≤ 3; omega⟩
  | k + 9, h1, h2 => simp [bsOf] at h1
theorem un_val {l c i j e : Nat} : (un 0).val (nuOf l c i j e) = l ∧ (un 1).val (nuOf l c i j e) = c ∧ (un 2).val (nuOf l c i j e) = 2 ^ c ∧ (un 3).val (nuOf l c i j e) = cameOf i ∧ (un 5).val (nuOf l c i j e) = lossOf e ∧ (un 6).val (nuOf l c i j e) = i ∧ (un 7).val (nuOf l c i j e) = j ∧ (un 8).val (nuOf l c i j e) = e ∧
    (LI.mk 0 [0, 0, 0, 3, -1]).val (nuOf l c i j e) = wentOf j := by
  have z : ∀ x : Int, (0 : Int) * x = 0 := Int.zero_mul
  refine ⟨?_, ?_, ?_, ?_, ?_, ?_, ?_, ?_, ?_⟩ <;> simp [LI.val, un, nuOf, dot, List.replicate]
  unfold roomOf; omega
theorem sameV_eq {a b : AV} (h : sameV a b = true) : a = b := by
  cases a <;> cases b <;> first | rfl | (exact congrArg AV.int (LI.same_eq h)) | cases h
theorem sameVs_eq : ∀ {a b : List AV}, sameVs a b = true → a = b
  | [], [], _ => rfl
  | x :: a, y :: b, h => by
    unfold sameVs at h
    cases q : sameV x y with
    | true => rw [q] at h; rw [sameV_eq q, sameVs_eq h]
    | false => rw [q] at h; cases h
  | [], _ :: _, h => by cases h
  | _ :: _, [], h => by cases h
theorem menu_mem : ∀ {mn : List (List AV × LI × AV)} {xs : List AV} {i : LI} {r : AV}, menuOf mn xs i = some r → (xs, i, r) ∈ mn
  | [], _, _, _, h => by cases h
  | p :: q, xs, i, r, h => by
    unfold menuOf at h
    cases h1 : p.2.1.same i with
    | false => rw [h1] at h; exact .tail _ (menu_mem h)
    | true =>
      rw [h1] at h
      cases h2 : sameVs p.1 xs with
      | false => rw [h2] at h; exact .tail _ (menu_mem h)
      | true =>
        rw [h2] at h
        cases h
        have e1 := LI.same_eq h1
        have e2 := sameVs_eq h2
        obtain ⟨a, b, c⟩ := p
        simp only at e1 e2
        subst e1 e2
        exact .head _
theorem pow_mem : ∀ {pw : List (LI × LI × LI)} {a b r : LI}, powOf pw a b = some r → (a, b, r) ∈ pw
  | [], _, _, _, h => by cases h
  | p :: q, a, b, r, h => by
    unfold powOf at h
    cases h1 : p.1.same a with
    | false => rw [h1] at h; exact .tail _ (pow_mem h)
    | true =>
      rw [h1] at h
      cases h2 : p.2.1.same b with
      | false => rw [h2] at h; exact .tail _ (pow_mem h)
      | true =>
        rw [h2] at h
        cases h
        have e1 := LI.same_eq h1
        have e2 := LI.same_eq h2
        obtain ⟨x, y, z⟩ := p
        simp only at e1 e2
        subst e1 e2
        exact .head _
section
variable {l c i j e : Nat} (hl : l < 50) (hc : c < 3) (hi : i < 4) (hj : j < 3) (he : e < 4) {pv : Bool} {asks : List Bool} {hb : Bool}
include hc in
theorem pows_of {a b r : LI} (h : powOf (tx pv asks (decide (2 ≤ e)) hb).pows a b = some r) : 0 ≤ b.val (nuOf l c i j e) ∧ (Builtin.Int.intBits (a.val (nuOf l c i j e)) : Int) * b.val (nuOf l c i j e) ≤ 2 ^ 27 ∧
    r.val (nuOf l c i j e) = a.val (nuOf l c i j e) ^ (b.val (nuOf l c i j e)).toNat := by
  have m := pow_mem h
  have m : (a, b, r) ∈ [(num 2, un 1, un 2)] := m
  rw [List.mem_singleton] at m
  cases m
  obtain ⟨_, u1, u2, _⟩ := un_val (l := l) (c := c) (i := i) (j := j) (e := e)
  rw [u1, u2, LI.val_const]
  refine ⟨by omega, ?_, by simp⟩
  have : Builtin.Int.intBits (Int.ofNat 2) = 2 := by decide
  rw [this]
  omega
include hi hj he in
theorem menus_of {xs : List AV} {x : LI} {r : AV} (h : menuOf (tx pv asks (decide (2 ≤ e)) hb).menus xs x = some r) :
    ∃ k : Nat, x.val (nuOf l c i j e) = k ∧ ∃ y, xs[k]? = some y ∧ ∀ ρ v, VRel (nuOf l c i j e) ρ y v → VRel (nuOf l c i j e) ρ r v := by
  obtain ⟨_, _, _, u3, u5, u6, u7, u8, u9⟩ := un_val (l := l) (c := c) (i := i) (j := j) (e := e)
  have m := menu_mem h
  have m : (xs, x, r) ∈ [([AV.none, .none, .int (num 2500), .int (num 5000)], un 8, (match decide (2 ≤ e) with | true => AV.int (un 5) | false => .none)), ([.int (num 2000), .int (num 400), .int (num 500), .int (num 100)], un 6, .int (un 3)), ([.int (num 0), .int (num 200), .int (num 300)], un 7, .int (.mk 0 [0, 0, 0, 3, -1]))] := m
  have num_rel : ∀ {n : Nat} {li : LI} {ρ v}, li.val (nuOf l c i j e) = n → VRel (nuOf l c i j e) ρ (.int (num n)) v → VRel (nuOf l c i j e) ρ (.int li) v := fun {n li ρ v} hn hv => by
    obtain ⟨t, rfl⟩ := hv
    exact ⟨t, by rw [hn, LI.val_const]; rfl⟩
  rcases List.mem_cons.mp m with m | m
  · cases m
    refine ⟨e, u8, ?_⟩
    match e, he with
    | 0, _ => exact ⟨_, rfl, fun ρ v h => h⟩
    | 1, _ => exact ⟨_, rfl, fun ρ v h => h⟩
    | 2, _ => exact ⟨_, rfl, fun ρ v h => num_rel (by rw [u5]; rfl) h⟩
    | 3, _ => exact ⟨_, rfl, fun ρ v h => num_rel (by rw [u5]; rfl) h⟩
  rcases List.mem_cons.mp m with m | m
  · cases m
    refine ⟨i, u6, ?_⟩
    match i, hi with
    | 0, _ => exact ⟨_, rfl, fun ρ v h => num_rel (by rw [u3]; rfl) h⟩
    | 1, _ => exact ⟨_, rfl, fun ρ v h => num_rel (by rw [u3]; rfl) h⟩
    | 2, _ => exact ⟨_, rfl, fun ρ v h => num_rel (by rw [u3]; rfl) h⟩
    | 3, _ => exact ⟨_, rfl, fun ρ v h => num_rel (by rw [u3]; rfl) h⟩
  rcases List.mem_cons.mp m with m | m
  · cases m
    refine ⟨j, u7, ?_⟩
    match j, hj with
    | 0, _ => exact ⟨_, rfl, fun ρ v h => num_rel (by rw [u9]; rfl) h⟩
    | 1, _ => exact ⟨_, rfl, fun ρ v h => num_rel (by rw [u9]; rfl) h⟩
    | 2, _ => exact ⟨_, rfl, fun ρ v h => num_rel (by rw [u9]; rfl) h⟩
  cases m
end
end Mine
end

section
open PySem PySem.W PyProof.Rows PySem.Calls PySem.Spec
set_option maxRecDepth 100000
set_option maxHeartbeats 400000
namespace Mine
theorem drawAt_get : ∀ {dr : List (Nat × AV)} {k m : Nat} {av : AV}, drawAt dr k m = some av → dr[k]? = some (m, av)
  | [], _, _, _, h => by cases h
  | p :: r, 0, m, av, h => by
    unfold drawAt at h
    cases q : Nat.beq p.1 m with
    | false => simp only [q] at h; cases h
    | true =>
      simp only [q] at h
      cases h
      rw [← Nat.eq_of_beq_eq_true q]; rfl
  | p :: r, k + 1, m, av, h => drawAt_get (dr := r) h
section
variable (ns : List Int)
noncomputable def theNu : List Int := nuOf (c0 ns) (c1 ns) (c6 ns) (c7 ns) (c8 ns)
noncomputable def theHi : Bool := decide (1200 ≤ roomOf (c6 ns) (c7 ns))
noncomputable def theLoss : Bool := decide (2 ≤ c8 ns)
noncomputable def theTx : Txt := tx (cPv ns) (cAsks ns) (theLoss ns) (theHi ns)
theorem draws_of {k m : Nat} {av : AV} (h : drawAt (theTx ns).draws k m = some av) : 0 < m ∧ k < 1000 ∧ ∀ ρ t, VRel (theNu ns) ρ av (.int (dval ns k m) t) := by
  have h := drawAt_get h
  have hN : cN ns < 4 := dN_lt ns 2 (by decide)
  have hl : (cAsks ns).length = cN ns := by unfold cAsks; simp
  obtain ⟨u0, u1, _, _, _, u6, u7, u8, _⟩ := un_val (l := c0 ns) (c := c1 ns) (i := c6 ns) (j := c7 ns) (e := c8 ns)
  have rel : ∀ {li : LI} {n k m : Nat} {ρ t}, 0 < m → li.val (theNu ns) = n → n = dN ns k m → VRel (theNu ns) ρ (.int li) (.int (dval ns k m) t) := fun {li n k m ρ t} hm h1 h2 => ⟨t, by rw [h1, h2, dN_eq ns k hm]⟩
  have e : (theTx ns).draws = [(4, match cPv ns with | true => AV.oth 1 | false => .int (num 1)), (3, .int (un 1)), (4, .int (num (cAsks ns).length))] ++ ((cAsks ns).map (fun b => (3, match b with | true => AV.oth 0 | false => .int (num 0))) ++ [(4, .int (un 8)), (4, .int (un 6)), (3, .int (un 7)), (50, .int (un 0))]) := by
    exact List.append_assoc _ _ _
  rw [e] at h
  clear e
  match k, h with
  | 0, h =>
    cases h
    refine ⟨by decide, by decide, fun ρ t => ?_⟩
    unfold cPv
    cases q : decide (dval ns 0 4 = 1) with
    | true => exact ⟨t, by rw [of_decide_eq_true q, LI.val_const]; rfl⟩
    | false => exact ⟨_, t, rfl, of_decide_eq_false q⟩
  | 1, h => cases h; exact ⟨by decide, by decide, fun ρ t => rel (by decide) u1 rfl⟩
  | 2, h => cases h; exact ⟨by decide, by decide, fun ρ t => rel (n := cN ns) (by decide) (by rw [hl, LI.val_const]; rfl) rfl⟩
  | k + 3, h =>
    have g : ((cAsks ns).map (fun b => (3, match b with | true => AV.oth 0 | false => .int (num 0))) ++ [(4, .int (un 8)), (4, .int (un 6)), (3, .int (un 7)), (50, .int (un 0))])[k]? = some (m, av) := h
    clear h
    by_cases hk : k < cN ns
    · rw [List.getElem?_append_left (by simpa [hl] using hk), List.getElem?_map] at g
      have ek : (cAsks ns)[k]? = some (!decide (dval ns (3 + k) 3 = 0)) := by
        unfold cAsks; simp [hk]
      rw [ek] at g
      cases g
      refine ⟨by decide, by omega, fun ρ t => ?_⟩
      have e3 : k + 3 = 3 + k := by omega
      rw [e3]
      cases q : decide (dval ns (3 + k) 3 = 0) with
      | true => exact ⟨t, by rw [of_decide_eq_true q, LI.val_const]; rfl⟩
      | false => exact ⟨_, t, rfl, of_decide_eq_false q⟩
    · rw [List.getElem?_append_right (by simp [hl]; omega)] at g
      simp only [List.length_map, hl] at g
      have hk' : k = cN ns + (k - cN ns) := by omega
      generalize hd : k - cN ns = d at g hk'
      subst hk'
      match d, g with
      | 0, g => cases g; exact ⟨by decide, by omega, fun ρ t => rel (by decide) u8 rfl⟩
      | 1, g => cases g; exact ⟨by decide, by omega, fun ρ t => rel (by decide) u6 (by show c6 ns = _; unfold c6; congr 1)⟩
      | 2, g => cases g; exact ⟨by decide, by omega, fun ρ t => rel (by decide) u7 (by show c7 ns = _; unfold c7; congr 1)⟩
      | 3, g => cases g; exact ⟨by decide, by omega, fun ρ t => rel (by decide) u0 (by show c0 ns = _; unfold c0; congr 1)⟩
      | d + 4, g => simp at g
/-! ## every case comes out -/
theorem pats_all {a : List Bool} (h : a.length ≤ 3) : a ∈ pats := by
  match a, h with
  | [], _ => decide
  | [x], _ => cases x <;> decide
  | [x, y], _ => cases x <;> cases y <;> decide
  | [x, y, z], _ => cases x <;> cases y <;> cases z <;> decide
theorem runs_all (pv : Bool) (asks : List Bool) (loss hi : Bool) (h : asks.length ≤ 3) : runs pv asks loss hi = true := by
  have m := pats_all h
  cases pv <;> cases loss <;> cases hi
  · exact List.all_eq_true.mp all8 _ m
  · exact List.all_eq_true.mp all7 _ m
  · exact List.all_eq_true.mp all6 _ m
  · exact List.all_eq_true.mp all5 _ m
  · exact List.all_eq_true.mp all4 _ m
  · exact List.all_eq_true.mp all3 _ m
  · exact List.all_eq_true.mp all2 _ m
  · exact List.all_eq_true.mp all1 _ m
theorem run_it : (denS (theTx ns) (run (theTx ns) 20) lawAll).exs loc0 h0 okEnd = true := runs_all _ _ _ _ (by
  have : (cAsks ns).length = cN ns := by unfold cAsks; simp
  rw [this]
  have := dN_lt ns 2 (m := 4) (by decide)
  unfold cN; omega)
end
end Mine
end

section
open PySem PySem.W PyProof.Rows PySem.Calls PySem.Spec
set_option maxRecDepth 100000
set_option maxHeartbeats 0
namespace Mine
/-- where _law_take's parts stand -/
noncomputable def takePos (i : Nat) : Pos := ([⟨447, 4, 447, 7⟩, ⟨447, 8, 447, 9⟩, ⟨447, 4, 447, 10⟩, ⟨447, 13, 447, 16⟩, ⟨447, 17, 447, 18⟩, ⟨447, 13, 447, 19⟩, ⟨447, 22, 447, 23⟩, ⟨447, 13, 447, 23⟩, ⟨447, 4, 447, 23⟩, ⟨448, 7, 448, 10⟩, ⟨448, 11, 448, 12⟩, ⟨448, 7, 448, 13⟩, ⟨448, 17, 448, 20⟩, ⟨448, 21, 448, 24⟩, ⟨448, 25, 448, 26⟩, ⟨448, 21, 448, 27⟩, ⟨448, 17, 448, 28⟩, ⟨448, 7, 448, 28⟩, ⟨449, 15, 449, 18⟩, ⟨449, 19, 449, 22⟩, ⟨449, 23, 449, 24⟩, ⟨449, 19, 449, 25⟩, ⟨449, 26, 449, 29⟩, ⟨449, 30, 449, 31⟩, ⟨449, 26, 449, 32⟩, ⟨449, 35, 449, 36⟩, ⟨449, 26, 449, 36⟩, ⟨449, 19, 449, 37⟩, ⟨449, 15, 449, 38⟩, ⟨449, 41, 449, 45⟩, ⟨449, 15, 449, 45⟩, ⟨449, 8, 449, 45⟩, ⟨448, 4, 449, 45⟩, ⟨450, 12, 450, 13⟩, ⟨450, 16, 450, 19⟩, ⟨450, 20, 450, 21⟩, ⟨450, 16, 450, 22⟩, ⟨450, 12, 450, 22⟩, ⟨450, 25, 450, 28⟩, ⟨450, 29, 450, 30⟩, ⟨450, 25, 450, 31⟩, ⟨450, 35, 450, 36⟩, ⟨450, 25, 450, 36⟩, ⟨450, 12, 450, 36⟩, ⟨450, 40, 450, 44⟩, ⟨450, 11, 450, 44⟩, ⟨450, 4, 450, 44⟩] : List Pos).getD i ⟨0, 0, 0, 0⟩
/-- what _law_take is in K -/
structure TakeK (K : Frag) (fa : Addr) : Prop where
  at_ : K.lookup fa = some (objAt K fa)
  fd : (objAt K fa).data = .func (fdAt K fa)
  body : (fdAt K fa).body = .stmts (takeB takePos)
  code : (fdAt K fa).code = .ref (codeOf (fdAt K fa).code)
  codeAt : K.lookup (codeOf (fdAt K fa).code) = some (objAt K (codeOf (fdAt K fa).code))
  codeF : (objAt K (codeOf (fdAt K fa).code)).data = .fields (fieldsAt K (codeOf (fdAt K fa).code))
  codeN : (fieldsAt K (codeOf (fdAt K fa).code))[1]? = some (.str (fdAt K fa).qualname (tokAt K (codeOf (fdAt K fa).code)))
  clo : (fdAt K fa).closure = []
  glob : (fdAt K fa).globals = mainGlobals
  bi : (fdAt K fa).builtins = builtinsNs
  co : (fdAt K fa).scope.isCoroutine = false
  gen : (fdAt K fa).scope.isGenerator = false
  kind : (fdAt K fa).scope.kind = .function
  n1 : (fdAt K fa).scope.names.lookup ("box" : Str) = some .local
  n2 : (fdAt K fa).scope.names.lookup ("many" : Str) = some .local
  n3 : (fdAt K fa).scope.names.lookup ("len" : Str) = some .globalImplicit
  n4 : (fdAt K fa).scope.names.lookup ("abs" : Str) = some .globalImplicit
  nc : ((fdAt K fa).scope.names.all fun x => match x.2 with | .cell => false | _ => true) = true
  bind : ∀ a b S, peek K S (PySem.bindArgs (fdAt K fa) ⟨[a, b], []⟩) = some [(("box" : Str), a), (("many" : Str), b)]
theorem TakeK.binds {K : Frag} {fa : Addr} (F : TakeK K fa) (a b : Value) (s : Shared) (X : K.In s.heap) : BindsTo s (fdAt K fa) ⟨[a, b], []⟩ [(("box" : Str), a), (("many" : Str), b)] := kp_binds X (F.bind a b)
theorem tk_take (P : Params) : TakeK (hd.heap_39 P) 713 := ⟨by kernel_rfl, by kernel_rfl, by kernel_rfl, by kernel_rfl, by kernel_rfl, by kernel_rfl, by kernel_rfl, by kernel_rfl, by kernel_rfl, by kernel_rfl, by kernel_rfl, by kernel_rfl, by kernel_rfl, by kernel_rfl, by kernel_rfl, by kernel_rfl, by kernel_rfl, by kernel_rfl,
  by intros; kernel_rfl⟩
noncomputable def theG (prog : Program) (w : World) (h₀ : Heap) (mg mb : Str → Option Value) (ns : List Int) (aq ab : Addr) : Ctx :=
  { prog := prog, w := w, K := hd.heap_39 w.params, h₀ := h₀, mg := mg, mb := mb, ν := theNu ns, tx := theTx ns, ρ₀ := [120, 491, aq, ab, 715], ns := ns, cls := look clsAddr, fn := look fnAddr, cc := 717 }
theorem theG_K (prog : Program) (w : World) (h₀ : Heap) (mg mb : Str → Option Value) (ns : List Int) (aq ab : Addr) : (theG prog w h₀ mg mb ns aq ab).K = hd.heap_39 w.params := by
  delta theG; rfl
theorem take_ok {G : Ctx} {K : Frag} {fa : Addr} (hK : G.K = K) (F : TakeK K fa) (X : K.In G.h₀) (h1 : G.mg "len" = none ∧ G.mb "len" = some (.builtin "len")) (h2 : G.mg "abs" = none ∧ G.mb "abs" = some (.builtin "abs"))
    (h3 : ∀ k m av, drawAt G.tx.draws k m = some av → 0 < m ∧ k < 1000 ∧ ∀ ρ t, VRel G.ν ρ av (.int (dval G.ns k m) t)) (h4 : G.ns.length ≤ 100) : TakeOk G fa := by
  subst hK
  refine ⟨⟨_, _, takePos, X _ _ F.at_, F.fd, F.body, ⟨_, _, _, _, F.code, X _ _ F.codeAt, F.codeF, F.codeN⟩, F.clo, F.glob, F.bi, F.co, F.gen, F.kind, F.n1, F.n2, F.n3, F.n4, fun x hx hc => ?_, F.binds⟩, h1, h2, h3, h4⟩
  have := List.all_eq_true.mp F.nc x hx
  rw [hc] at this; cases this
noncomputable def tokOf (o : Option Value) : Tok := match o with
  | some (.int _ t) => t
  | some (.str _ t) => t
  | _ => 0
theorem lams_eq {j : Nat} {v : AV} (h : T.get (.node (some (AV.bool false)) (.node (some (.int (.mk 25000 []))) .nil .nil) .nil) j = some v) : (j = 0 ∧ v = .bool false) ∨ (j = 1 ∧ v = .int (.mk 25000 [])) := by
  rw [T.get_node] at h
  by_cases h0 : j = 0
  · rw [if_pos h0] at h; cases h; exact .inl ⟨h0, rfl⟩
  · rw [if_neg h0] at h
    by_cases h1 : j % 2 = 1
    · rw [if_pos h1, T.get_node] at h
      by_cases h2 : j / 2 = 0
      · rw [if_pos h2] at h; cases h; exact .inr ⟨by omega, rfl⟩
      · rw [if_neg h2] at h
        split at h <;> cases h
    · rw [if_neg h1] at h; cases h
theorem gl61 (P : Params) : nsFind (esAt (hd.heap_39 P)) (strOf 61) = some (.ref 120) := by kernel_rfl
theorem gl96 (P : Params) : nsFind (esAt (hd.heap_39 P)) (strOf 96) = some (.ref 491) := by kernel_rfl
theorem gl106 (P : Params) : nsFind (esAt (hd.heap_39 P)) (strOf 106) = some (.int 333000 (tokOf (nsFind (esAt (hd.heap_39 P)) (strOf 106)))) := by kernel_rfl
theorem gl116 (P : Params) : nsFind (esAt (hd.heap_39 P)) (strOf 116) = some (.int 1000 (tokOf (nsFind (esAt (hd.heap_39 P)) (strOf 116)))) := by kernel_rfl
theorem gl126 (P : Params) : nsFind (esAt (hd.heap_39 P)) (strOf 126) = some (.int 3 (tokOf (nsFind (esAt (hd.heap_39 P)) (strOf 126)))) := by kernel_rfl
theorem gl119 (P : Params) : nsFind (esAt (hd.heap_39 P)) (strOf 119) = some (.str (strOf 173) (tokOf (nsFind (esAt (hd.heap_39 P)) (strOf 119)))) := by kernel_rfl
theorem gl130 (P : Params) : nsFind (esAt (hd.heap_39 P)) (strOf 130) = some (.str (strOf 174) (tokOf (nsFind (esAt (hd.heap_39 P)) (strOf 130)))) := by kernel_rfl
theorem gl118 (P : Params) : nsFind (esAt (hd.heap_39 P)) (strOf 118) = some (.str (strOf 175) (tokOf (nsFind (esAt (hd.heap_39 P)) (strOf 118)))) := by kernel_rfl
theorem gl132 (P : Params) : nsFind (esAt (hd.heap_39 P)) (strOf 132) = some (.str (strOf 176) (tokOf (nsFind (esAt (hd.heap_39 P)) (strOf 132)))) := by kernel_rfl
section
variable {prog : Program} {w : World} {h₀ : Heap} {mg mb : Str → Option Value} {ns : List Int} {aq ab : Addr} {p : Program} {lo : List Str} {mean : ExcName → Option Value}
theorem ok_of (X : (hd.heap_39 w.params).In h₀) (T : Top p lo mean mg mb h₀) (C : CodeHd h₀ 717 715) : (theG prog w h₀ mg mb ns aq ab).Ok where
  X := X
  g := T.g
  b := T.b
  lim := T.nolimit
  bnd := inB_of (dN_lt ns _ (by decide)) (dN_lt ns _ (by decide)) (dN_lt ns _ (by decide)) (dN_lt ns _ (by decide)) (dN_lt ns _ (by decide))
  globs := fun x av h => by
    have m := look_memN h
    have e := mg_at w.params X T.g
    show ∃ v, mg (strOf x) = some v ∧ VRel (theNu ns) [120, 491, aq, ab, 715] av v
    have m : (x, av) ∈ [(61, AV.ref 0), (96, .ref 1), (106, .int (.mk 333000 [])), (116, .int (.mk 1000 [])), (126, .int (.mk 3 [])), (119, (.str 173)), (130, (.str 174)), (118, (.str 175)), (132, (.str 176))] := m
    rcases List.mem_cons.mp m with m | m
    · cases m
      exact ⟨_, (e _).trans (gl61 w.params), _, rfl, rfl⟩
    rcases List.mem_cons.mp m with m | m
    · cases m
      exact ⟨_, (e _).trans (gl96 w.params), _, rfl, rfl⟩
    rcases List.mem_cons.mp m with m | m
    · cases m
      exact ⟨_, (e _).trans (gl106 w.params), _, by rw [LI.val_const]⟩
    rcases List.mem_cons.mp m with m | m
    · cases m
      exact ⟨_, (e _).trans (gl116 w.params), _, by rw [LI.val_const]⟩
    rcases List.mem_cons.mp m with m | m
    · cases m
      exact ⟨_, (e _).trans (gl126 w.params), _, by rw [LI.val_const]⟩
    rcases List.mem_cons.mp m with m | m
    · cases m
      exact ⟨_, (e _).trans (gl119 w.params), _, rfl⟩
    rcases List.mem_cons.mp m with m | m
    · cases m
      exact ⟨_, (e _).trans (gl130 w.params), _, rfl⟩
    rcases List.mem_cons.mp m with m | m
    · cases m
      exact ⟨_, (e _).trans (gl118 w.params), _, rfl⟩
    rcases List.mem_cons.mp m with m | m
    · cases m
      exact ⟨_, (e _).trans (gl132 w.params), _, rfl⟩
    cases m
  pows := fun a b r h => pows_of (dN_lt ns _ (by decide)) h
  menus := fun xs i r h => menus_of (dN_lt ns _ (by decide)) (dN_lt ns _ (by decide)) (dN_lt ns _ (by decide)) h
  cls := fun c a h => cls_ok (P := w.params) rfl rfl rfl rfl c a h
  cnames := fun x c h => by
    have m := List.all_eq_true.mp (names_cls w.params) _ (look_memN h)
    show ∃ a, look clsAddr c = some a ∧ mg (strOf x) = some (.ref a)
    cases q : look clsAddr c with
    | none => simp only [q] at m; cases m
    | some a => simp only [q] at m; exact ⟨a, rfl, (mg_at w.params X T.g _).trans (isRefO_eq m)⟩
  fnames := fun x f h => by
    have m := List.all_eq_true.mp (names_fn w.params) _ (look_memN h)
    show ∃ a, look fnAddr f = some a ∧ fnIn (hd.heap_39 w.params) a = true ∧ mg (strOf x) = some (.ref a)
    cases q : look fnAddr f with
    | none => simp only [q] at m; cases m
    | some a =>
      simp only [q] at m
      obtain ⟨m1, m2⟩ := and_true m
      exact ⟨a, rfl, m2, (mg_at w.params X T.g _).trans (isRefO_eq m1)⟩
  lams := fun j v h => lams_eq h
  names := ⟨by kernel_rfl, by kernel_rfl, by kernel_rfl⟩
  code := ⟨715, rfl, C⟩
  bmain := T.bmain
  bnames := fun x b h => by
    have m := List.all_eq_true.mp (names_bi w.params) _ (look_memN h)
    obtain ⟨m1, m2⟩ := and_true m
    refine ⟨(mg_at w.params X T.g _).trans (Option.isNone_iff_eq_none.mp m1), (T.builtins _ (no_name x)).trans (isBiV_eq m2)⟩
end
end Mine
end

section
open PySem PySem.W PyProof.Rows PySem.Calls PySem.Spec
set_option maxRecDepth 100000
set_option maxHeartbeats 0
namespace Mine
theorem fn0 : fnT.get 0 = none := by kernel_rfl
theorem len_mg (P : Params) : nsFind (esAt (hd.heap_39 P)) "len" = none := by kernel_rfl
theorem abs_mg (P : Params) : nsFind (esAt (hd.heap_39 P)) "abs" = none := by kernel_rfl
section
variable {prog : Program} {w : World} {h₀ : Heap} {mg mb : Str → Option Value} {ns : List Int} {aq ab : Addr} {p : Program} {lo : List Str} {mean : ExcName → Option Value}
theorem all_of (X : (hd.heap_39 w.params).In h₀) (TT : Top p lo mean mg mb h₀) (C : CodeHd h₀ 717 715) (hns : ns.length ≤ 100) : (theG prog w h₀ mg mb ns aq ab).All where
  ok := ok_of X TT C
  fns := fun f fn fa h1 h2 => by
    have h1 : fnT.get f = some fn := h1
    have h2 : look fnAddr f = some fa := h2
    have h0 : f ≠ 0 := by rintro rfl; rw [fn0] at h1; cases h1
    have F := fk_all w.params f fn fa h1 h2 h0
    refine ⟨_, _, X _ _ F.at_, F.fd, F.body, ⟨_, _, _, _, F.code, X _ _ F.codeAt, F.codeF, F.codeN⟩, F.clo, F.glob, F.bi, F.co, F.gen, F.kind, F.wf, fun hl => ?_, F.par, F.bind⟩
    have l := F.lam
    rw [hl] at l
    exact eq_of_beq l
  take := fun fa h => by
    have h : some 713 = some fa := h
    cases h
    have e := mg_at w.params X TT.g
    exact take_ok (theG_K prog w h₀ mg mb ns aq ab) (tk_take w.params) X ⟨(e _).trans (len_mg _), (TT.builtins _ (by decide)).trans (by kernel_rfl)⟩ ⟨(e _).trans (abs_mg _), (TT.builtins _ (by decide)).trans (by kernel_rfl)⟩ (fun k m av hd => draws_of ns hd) hns
end
/-! ## the law's own frame -/
/-- the law's first statement: what is left after it -/
theorem law_rest {prog : Program} {w : World} {h₀ : Heap} {mg mb : Str → Option Value} {ns : List Int} {aq ab : Addr} (O : (theG prog w h₀ mg mb ns aq ab).All) {A : Around} {E : Value → Shared → Prop} {env : Env} {s : Shared} {Q : Flow → Shared → Prop}
    (X : At (theG prog w h₀ mg mb ns aq ab) 21 A env [120, 491, aq, ab, 715] loc0 h0 s.heap) (W : wfS lawAll env.scope.names = true)
    (h : ∀ h' tk, (∀ b o, h₀.get? b = some o → h'.get? b = some o) → (∃ ps, h'.get? 715 = some (tabObj ps)) → Q (.ret (.bool true)) { s with heap := h', toks := tk }) : wpAny (model prog w) A (execs (toSs lawAll) env) Q E s := by
  refine law_sound O lawAll X W (run_it ns) fun fl loc' σ' ρ' f h' tk hk hl X' S r => ?_
  cases fl with
  | ret v =>
    cases v with
    | bool b =>
      cases b with
      | true =>
        obtain ⟨v, rfl, hv⟩ := r
        have hv : v = .bool true := hv
        subst hv
        obtain ⟨ob, e1, hk⟩ := at_true hk
        obtain ⟨k, rfl, _⟩ := isTab_true hk
        obtain ⟨a, o, g1, g2, ⟨ps, g3, _⟩, _⟩ := X'.r.obj _ _ e1
        refine h h' tk X'.r.base ⟨ps, ?_⟩
        have : ρ'[4]? = some 715 := S.at (l := 4) rfl
        rw [this] at g1; cases g1
        rw [g2, g3]
      | false => cases hk
    | _ => cases hk
  | _ => cases hk
end Mine
end

section
open PySem PySem.W PyProof.Rows PySem.Calls PySem.Spec
set_option maxRecDepth 100000
set_option maxHeartbeats 0
namespace Mine
theorem list_mg (P : Params) : nsFind (esAt (hd.heap_39 P)) "list" = none := by kernel_rfl
noncomputable def seqAt (K : Frag) (a : Addr) : Array Value := match (objAt K a).data with
  | .seq vs _ => vs
  | _ => #[]
noncomputable def seqN (K : Frag) (a : Addr) : Nat := match (objAt K a).data with
  | .seq _ n => n
  | _ => 0
noncomputable def tokIn (K : Frag) (a : Addr) (i : Nat) : Tok := match (seqAt K a).getD i .none with
  | .str _ t => t
  | _ => 0
structure TupK (K : Frag) (a : Addr) (x y z : Nat) : Prop where
  at_ : K.lookup a = some (objAt K a)
  cls : (objAt K a).cls = .type "tuple"
  data : (objAt K a).data = .seq ([Value.str (strOf x) (tokIn K a 0), .str (strOf y) (tokIn K a 1), .str (strOf z) (tokIn K a 2)] : List Value).toArray (seqN K a)
theorem tup120 (P : Params) : TupK (hd.heap_39 P) 120 8 9 10 := ⟨by kernel_rfl, by kernel_rfl, by kernel_rfl⟩
theorem tup491 (P : Params) : TupK (hd.heap_39 P) 491 39 177 97 := ⟨by kernel_rfl, by kernel_rfl, by kernel_rfl⟩
theorem h0_get {l : Nat} {ao : AO} (h : h0.t.get l = some ao) : (l = 0 ∧ ao = .tup [.str 8, .str 9, .str 10]) ∨ (l = 1 ∧ ao = .tup [.str 39, .str 177, .str 97]) ∨ (l = 2 ∧ ao = .ints) ∨ (l = 3 ∧ ao = .list [.ref 2, .int (.mk 0 [])]) ∨ (l = 4 ∧ ao = .tab 0) := by
  unfold h0 at h
  simp only [T.get_node, T.get_nil] at h
  by_cases e0 : l = 0
  · simp [e0] at h; exact .inl ⟨e0, h.symm⟩
  · simp only [e0, if_false] at h
    by_cases e1 : l % 2 = 1
    · simp only [e1, if_true] at h
      by_cases e2 : l / 2 = 0
      · simp [e2] at h; exact .inr (.inl ⟨by omega, h.symm⟩)
      · simp only [e2, if_false] at h
        by_cases e3 : l / 2 % 2 = 1
        · simp only [e3, if_true] at h
          by_cases e4 : l / 2 / 2 = 0
          · simp [e4] at h; exact .inr (.inr (.inr (.inl ⟨by omega, h.symm⟩)))
          · simp [e4] at h
        · simp [e3] at h
    · simp only [e1, if_false] at h
      by_cases e2 : l / 2 - 1 = 0
      · simp [e2] at h; exact .inr (.inr (.inl ⟨by omega, h.symm⟩))
      · simp only [e2, if_false] at h
        by_cases e3 : (l / 2 - 1) % 2 = 1
        · simp only [e3, if_true] at h
          by_cases e4 : (l / 2 - 1) / 2 = 0
          · simp [e4] at h; exact .inr (.inr (.inr (.inr ⟨by omega, h.symm⟩)))
          · simp [e4] at h
        · simp [e3] at h
theorem box_name : strOf 29 = "box" := by decide
section
variable {prog : Program} {w : World} {h₀ : Heap} {mg mb : Str → Option Value} {ns : List Int} {aq ab : Addr} {p : Program} {lo : List Str} {mean : ExcName → Option Value}
theorem rel0 (O : (theG prog w h₀ mg mb ns aq ab).All) {h : Heap} (base : ∀ b o, h₀.get? b = some o → h.get? b = some o) (q0 : h₀.get? aq = none) (b0 : h₀.get? ab = none) (hqb : aq ≠ ab) (hq7 : aq ≠ 715) (hb7 : ab ≠ 715) (hb2 : 2 ≤ ab)
    {ws : List Value} {nq nb : Nat} {t : Tok} (hq : h.get? aq = some (listOf (List.toArray ws) nq)) (hi : IntsAre ws ns) (hb : h.get? ab = some (listOf #[.ref aq, .int 0 t] nb)) (h7 : h.get? 715 = some (tabObj #[])) (h70 : h₀.get? 715 = none) :
    Rel (theG prog w h₀ mg mb ns aq ab) [120, 491, aq, ab, 715] h0 h := by
  have X : (hd.heap_39 w.params).In h₀ := O.ok.X
  have T1 := tup120 w.params
  have T2 := tup491 w.params
  have e1 := X _ _ T1.at_
  have e2 := X _ _ T2.at_
  have n1 : ∀ {a b o}, h₀.get? a = some o → h₀.get? b = none → a ≠ b := fun x y z => by rw [z, y] at x; cases x
  refine ⟨base, ⟨[], rfl⟩, rfl, by decide, ?_, fun a ha => ?_, fun l ao hl => ?_⟩
  · have a1 := n1 e1 q0; have a2 := n1 e1 b0; have a3 := n1 e1 h70; have a4 := n1 e2 q0; have a5 := n1 e2 b0; have a6 := n1 e2 h70
    simp [a1, a2, a4, a5, hqb, hq7, hb7]
  · simp only [List.mem_cons, List.not_mem_nil, or_false] at ha
    rcases ha with rfl | rfl | rfl | rfl | rfl
    · exact ⟨_, base _ _ e1⟩
    · exact ⟨_, base _ _ e2⟩
    · exact ⟨_, hq⟩
    · exact ⟨_, hb⟩
    · exact ⟨_, h7⟩
  · rcases h0_get hl with ⟨rfl, rfl⟩ | ⟨rfl, rfl⟩ | ⟨rfl, rfl⟩ | ⟨rfl, rfl⟩ | ⟨rfl, rfl⟩
    · exact ⟨120, _, rfl, base _ _ e1, ⟨T1.cls, _, _, T1.data, .cons ⟨_, rfl⟩ (.cons ⟨_, rfl⟩ (.cons ⟨_, rfl⟩ .nil))⟩, rfl, fun z => by cases z⟩
    · exact ⟨491, _, rfl, base _ _ e2, ⟨T2.cls, _, _, T2.data, .cons ⟨_, rfl⟩ (.cons ⟨_, rfl⟩ (.cons ⟨_, rfl⟩ .nil))⟩, rfl, fun z => by cases z⟩
    · exact ⟨aq, _, rfl, hq, ⟨ws, nq, rfl, hi⟩, rfl, fun z => by cases z⟩
    · exact ⟨ab, _, rfl, hb, ⟨[.ref aq, .int 0 t], nb, rfl, .cons ⟨aq, rfl, rfl⟩ (.cons ⟨t, by rw [LI.val_const]⟩ .nil)⟩, rfl, fun _ => ⟨b0, hb2⟩⟩
    · exact ⟨715, _, rfl, h7, ⟨#[], rfl, rfl⟩, rfl, fun _ => ⟨h70, by decide⟩⟩
end
end Mine
end

section
open PySem PySem.W PyProof.Rows PySem.Calls PySem.Spec
set_option maxRecDepth 100000
set_option maxHeartbeats 1000000
namespace Mine
/-- the law's first statement -/
noncomputable def first (q : Nat → Pos) : Stmt := .Assign [.Name "box" (q 0)] (.List [.Call (.Name "list" (q 1)) [.Subscript (.Name "script" (q 2)) (.Slice none (some (.Constant (.int 16) 0 (q 3))) none (q 4)) (q 5)] [] (q 6), .Constant (.int 0) 0 (q 7)] (q 8)) (q 9)
theorem law_first {prog : Program} {w : World} {h₀ : Heap} {mg mb : Str → Option Value} {ns : List Int} {p : Program} {lo : List Str} {mean : ExcName → Option Value} (X : (hd.heap_39 w.params).In h₀) (TT : Top p lo mean mg mb h₀) (C : CodeHd h₀ 717 715)
    {A : Around} {E : Value → Shared → Prop} {env : Env} {s : Shared} {Q : Flow → Shared → Prop} {m : Str → Option Value} {l : Addr} {vs : List Value} {q : Nat → Pos} (hA : AOk 21 A) (kx : env.scope.kind = .function) (gl : env.globals = mainGlobals) (bi : env.builtins = builtinsNs)
    (kb : env.kindOf ("box" : Str) = some .local) (ks : env.kindOf ("script" : Str) = some .local) (kl : env.kindOf ("list" : Str) = some .globalImplicit) (W : wfS lawAll env.scope.names = true) (hlam : isLocal (env.scope.names.lookup (strOf 3)) = false) (hcells : env.cells = [])
    (hnc : ∀ x, isCell (env.scope.names.lookup x) = false) (F : Fr h₀ env.locals s.heap m) (hm : m "script" = some (.ref l)) (hl : h₀.IsList l vs.toArray) (hI : IntsAre vs ns) (hlen : ns.length ≤ 63) (h7 : s.heap.get? 715 = some (tabObj #[])) (h70 : h₀.get? 715 = none)
    (h : ∀ h' tk, (∀ b o, h₀.get? b = some o → h'.get? b = some o) → (∃ ps, h'.get? 715 = some (tabObj ps)) → Q (.ret (.bool true)) { s with heap := h', toks := tk }) : wpAny (model prog w) A (execs (first q :: toSs lawAll) env) Q E s := by
  have kp : ∀ (h : Heap) (o1 : Obj) b o, h.get? b = some o → (h.push o1).get? b = some o := fun h o1 b o e => Heap.get?_push_of_some _ e
  have lv := intsLen hI
  have hl1 : s.heap.IsList l vs.toArray := by obtain ⟨o, e, r⟩ := hl; exact ⟨o, F.keep _ _ e, r⟩
  have hsz : vs.toArray.size ≤ sizeLine := by rw [List.size_toArray, sizeLine_eq]; omega
  refine wpAny_execs_cons (wpAny_Assign_Name (wpAny_List (wpAny_items_cons ?_)) rfl)
  rw [arm_eval_Call_Name']
  refine wpAny_bind (Name_function_global kx kl (loadGlobal_builtin (env := env) (by rw [gl]; exact TT.g.keeps F.keep) ((mg_at w.params X TT.g _).trans (list_mg _)) (by rw [bi]; exact TT.b.keeps F.keep) ((TT.builtins _ (by decide)).trans (show bootBuiltins (Str.ofString "list") = some (.type "list") by kernel_rfl)) ?_) (by decide))
  refine PyProof.Rows.callWith_type rfl (Calls.evalArgs_plain (Calls.spliced_cons (wpAny_Subscript_list_slice (wpAny_Name (wpAny_loadName_local kx ks F.ns hm ?_) (by decide)))))
  rw [evalPart_none]
  refine wpAny_pure ?_
  rw [evalPart_some]
  refine wpAny_Constant_int ⟨l, vs.toArray, none, some 16, rfl, hl1, hsz, .none, .int 16 _, Calls.spliced_nil ?_⟩
  generalize hO : ({ cls := .type "slice", data := .fields #[.none, .int 16 s.toks, .none] } : Obj) = oS
  have hz1 : (s.heap.push oS).objs.size = s.heap.objs.size + 1 := Heap.size_push ..
  have pk : IntsAre (slicePick vs.toArray none (some 16) none).toList (ns.take 16) := slice_ints_uptoW hI (by decide)
  generalize hP : slicePick vs.toArray none (some 16) none = items at pk ⊢
  have isz : items.size ≤ 63 := by
    have := intsLen pk
    rw [Array.length_toList] at this
    rw [this, List.length_take]; omega
  refine call_list_seq (T := "list") (s.heap.objs.size + 1) (.inl rfl) (o := { cls := .type "list", data := .seq items }) (by rw [← hz1]; exact Heap.get?_push_size _ rfl) rfl rfl (fun h1 c1 k1 e1 => ?_) (by rw [sizeLine_eq]; omega)
  dsimp only at k1 e1
  generalize hQ : ((s.heap.push oS).push { cls := .type "list", data := .seq items }).objs.size = aq at e1 ⊢
  have hq1 : aq = s.heap.objs.size + 2 := by rw [← hQ, Heap.size_push, hz1]
  refine wpAny_items_cons (wpAny_Constant_int (wpAny_items_nil ⟨by show 2 ≤ sizeLine; rw [sizeLine_eq]; decide, ?_⟩)) rfl
  dsimp only
  generalize hB : h1.objs.size = ab
  generalize hOB : ({ cls := .type "list", data := .seq (List.toArray [Value.ref aq, .int 0 (s.toks + 1)]) } : Obj) = oB
  have k2 : ∀ b o, s.heap.get? b = some o → (h1.push oB).get? b = some o := fun b o e => kp _ _ _ _ (k1 _ _ (kp _ _ _ _ (kp _ _ _ _ e)))
  have ns2 : (h1.push oB).Ns env.locals m := by obtain ⟨o, es, ep, e, r⟩ := F.ns; exact ⟨o, es, ep, k2 _ _ e, r⟩
  have sl : env.locals < s.heap.objs.size := F.ns.lt
  have qlt : aq < h1.objs.size := Heap.lt_size e1
  have szq : s.heap.objs.size ≤ aq := hq1 ▸ Nat.le_add_right _ _
  have qb : aq < ab := hB ▸ qlt
  have ql : aq ≠ env.locals := Nat.ne_of_gt (Nat.lt_of_lt_of_le sl szq)
  have bl : ab ≠ env.locals := Nat.ne_of_gt (Nat.lt_trans (Nat.lt_of_lt_of_le sl szq) qb)
  have l0 : h₀.get? env.locals = none := Heap.get?_none_of_le F.above
  have q0 : h₀.get? aq = none := by
    cases e : h₀.get? aq with
    | none => rfl
    | some o => exact absurd (Heap.lt_size (F.keep _ _ e)) (Nat.not_lt.mpr szq)
  have b0 : h₀.get? ab = none := by
    cases e : h₀.get? ab with
    | none => rfl
    | some o => exact absurd (Heap.lt_size (F.keep _ _ e)) (Nat.not_lt.mpr (Nat.le_trans szq (Nat.le_of_lt qb)))
  have s7 : 715 < s.heap.objs.size := Heap.lt_size h7
  have l7 : (715 : Nat) ≠ env.locals := fun z => by
    obtain ⟨o, es, ep, e, hd, _⟩ := F.ns
    rw [← z] at e
    have e : s.heap.get? 715 = some o := e
    rw [h7] at e; cases e; cases hd
  refine wpAny_storeName_local (m := m) kb ns2 (fun h3 hn3 hs3 => ?_) (by rw [kx]; rfl)
  have x3 := hs3.extBut
  have O : (theG prog w h₀ mg mb (ns.take 16) aq ab).All := all_of X TT C (by rw [List.length_take]; omega)
  have base : ∀ b o, h₀.get? b = some o → h3.get? b = some o := fun b o e => x3 _ _ (fun z => by rw [z, l0] at e; cases e) (k2 _ _ (F.keep _ _ e))
  have g2 : h3.get? ab = some (listOf #[.ref aq, .int 0 (s.toks + 1)] 0) := x3 _ _ bl (by rw [← hB, ← hOB]; exact Heap.get?_push_size _ rfl)
  have g1 : h3.get? aq = some (listOf (List.toArray items.toList) c1) := by
    rw [Array.toArray_toList]
    exact x3 _ _ ql (kp _ _ _ _ e1)
  have g7 : h3.get? 715 = some (tabObj #[]) := x3 _ _ l7 (k2 _ _ h7)
  have R := rel0 O base q0 b0 (Nat.ne_of_lt qb) (Nat.ne_of_gt (Nat.lt_of_lt_of_le s7 szq)) (Nat.ne_of_gt (Nat.lt_trans (Nat.lt_of_lt_of_le s7 szq) qb)) (Nat.le_trans (show 2 ≤ 715 by decide) (Nat.le_of_lt (Nat.lt_trans (Nat.lt_of_lt_of_le s7 szq) qb))) g1 pk g2 g7 h70
  have outL : env.locals ∉ [120, 491, aq, ab, 715] := fun z => by
    have := R.live _ z
    simp only [List.mem_cons, List.not_mem_nil, or_false] at z
    have T1 := X _ _ (tup120 w.params).at_
    have T2 := X _ _ (tup491 w.params).at_
    rcases z with z | z | z | z | z
    · rw [z, T1] at l0; cases l0
    · rw [z, T2] at l0; cases l0
    · exact ql z.symm
    · exact bl z.symm
    · exact l7 z.symm
  have X0 : At (theG prog w h₀ mg mb (ns.take 16) aq ab) 21 A env [120, 491, aq, ab, 715] loc0 h0 h3 := by
    refine ⟨hA, ⟨kx, gl, bi, ⟨_, hn3⟩, outL, l0, fun e => (by rw [hlam] at e; cases e), fun y e => (by rw [hnc] at e; cases e), fun y c e => (by rw [hcells] at e; cases e), fun y z c e => (by rw [hcells] at e; cases e)⟩, fun k av hk hi => ?_, R⟩
    have m := look_memN hk
    have m : (k, av) ∈ [(29, AV.ref 3)] := m
    rw [List.mem_singleton] at m
    cases m
    refine ⟨.ref ab, ⟨ab, rfl, rfl⟩, .inl ⟨by rw [box_name]; exact kb, _, hn3, by rw [box_name]; simp⟩⟩
  exact law_rest O (s := { s with heap := h3, toks := _ }) X0 W h
end Mine
end

section
open PySem PySem.W PyProof.Rows PySem.Calls PySem.Spec
set_option maxRecDepth 100000
set_option maxHeartbeats 0
namespace Mine
noncomputable def lawPos (i : Nat) : Pos := ([⟨462, 4, 462, 7⟩, ⟨462, 11, 462, 15⟩, ⟨462, 16, 462, 22⟩, ⟨462, 24, 462, 26⟩, ⟨462, 23, 462, 26⟩, ⟨462, 16, 462, 27⟩, ⟨462, 11, 462, 28⟩, ⟨462, 30, 462, 31⟩, ⟨462, 10, 462, 32⟩, ⟨462, 4, 462, 32⟩] : List Pos).getD i ⟨0, 0, 0, 0⟩
theorem wpAny_body {M : Model} {A : Around} {E : Value → Shared → Prop} {env : Env} {s : Shared} {Q : Flow → Shared → Prop} {b1 b2 : List Stmt} (e : b1 = b2) (h : wpAny M A (execs b2 env) Q E s) : wpAny M A (execs b1 env) Q E s := e ▸ h
theorem noCells {names : List (Str × NameKind)} (h : (names.all fun p => match p.2 with | .cell => false | _ => true) = true) (x : Str) : isCell (names.lookup x) = false := by
  cases q : names.lookup x with
  | none => rfl
  | some k =>
    have := List.all_eq_true.mp h _ (lookup_mem q)
    cases k <;> first | rfl | cases this
theorem callerOk (env : Env) : AOk 21 (callerA.deeper env) := ⟨rfl, by show callerA.depth + 1 + 5 * 21 ≤ 900; decide, by show callerA.units + 3 + 30 * 21 ≤ 9000; decide⟩
theorem cw : PySem.Challenge.rw_pf0277_01.Holds := hd (by
  k_go0
  refine wpAny_body (b2 := first lawPos :: toSs lawAll) (by kernel_rfl) ?_
  refine law_first (q := lawPos) (by assumption) (by assumption) codeHd ?hA rfl rfl rfl ?kb ?ks ?kl ?W ?hlam rfl ?hnc (by assumption) rfl lifted (by assumption) ?len ?h7 ?h70 ?fin
  case hA => exact callerOk _
  case kb => kernel_rfl
  case ks => kernel_rfl
  case kl => kernel_rfl
  case W => kernel_rfl
  case hlam => kernel_rfl
  case hnc => exact noCells (by kernel_rfl)
  case len => omega
  case h7 => rename News _ _ _ _ => N; exact (N _ (.head _)).1
  case h70 => rename News _ _ _ _ => N; exact (N _ (.head _)).2.2
  case fin =>
    intro h' tk k1 k2
    refine ⟨⟨.inl ⟨.bool true, .bool true, [], rfl, fun _ => rfl, .bool true, ?_, fun _ => ⟨List.nodup_nil, fun _ h => by cases h⟩⟩, k1, rfl, by assumption⟩, k2, trivial⟩
    kernel_rfl)
end Mine
end

theorem PySem.Challenge.cw_pf0277_01_holds : PySem.Challenge.rw_pf0277_01.Holds :=
  Mine.cw
