import PyProof.Rows.All
import Wide.All
import OpenK.AllK
import Wide.FinOn
import Lean
import PySem.Challenge.RW_pb0163_01
set_option Elab.async false
set_option maxRecDepth 100000
set_option maxHeartbeats 8000000
set_option linter.unusedVariables false
namespace Mine
open PySem PySem.W PyProof.Rows
open_top Hd for PySem.Challenge.rw_pb0163_01
section
theorem ex1 {α1 : Type} {P : α1 → Prop} {C : Prop} (h : ∃ a1, P a1) (k : ∀ a1, P a1 → C) : C := by
  obtain ⟨a1, q⟩ := h
  exact k a1 q
theorem ex2 {α1 α2 : Type} {P : α1 → α2 → Prop} {C : Prop} (h : ∃ a1, ∃ a2, P a1 a2) (k : ∀ a1 a2, P a1 a2 → C) : C := by
  obtain ⟨a1, a2, q⟩ := h
  exact k a1 a2 q
theorem ex3 {α1 α2 α3 : Type} {P : α1 → α2 → α3 → Prop} {C : Prop} (h : ∃ a1, ∃ a2, ∃ a3, P a1 a2 a3) (k : ∀ a1 a2 a3, P a1 a2 a3 → C) : C := by
  obtain ⟨a1, a2, a3, q⟩ := h
  exact k a1 a2 a3 q
theorem exi3 {α1 α2 α3 : Type} {P : α1 → α2 → α3 → Prop} (a1 : α1) (a2 : α2) (a3 : α3) (q : P a1 a2 a3) : ∃ a1, ∃ a2, ∃ a3, P a1 a2 a3 := ⟨a1, a2, a3, q⟩
theorem exi6 {α1 α2 α3 α4 α5 α6 : Type} {P : α1 → α2 → α3 → α4 → α5 → α6 → Prop} (a1 : α1) (a2 : α2) (a3 : α3) (a4 : α4) (a5 : α5) (a6 : α6) (q : P a1 a2 a3 a4 a5 a6) : ∃ a1, ∃ a2, ∃ a3, ∃ a4, ∃ a5, ∃ a6, P a1 a2 a3 a4 a5 a6 := ⟨a1, a2, a3, a4, a5, a6, q⟩
theorem exi7 {α1 α2 α3 α4 α5 α6 α7 : Type} {P : α1 → α2 → α3 → α4 → α5 → α6 → α7 → Prop} (a1 : α1) (a2 : α2) (a3 : α3) (a4 : α4) (a5 : α5) (a6 : α6) (a7 : α7) (q : P a1 a2 a3 a4 a5 a6 a7) : ∃ a1, ∃ a2, ∃ a3, ∃ a4, ∃ a5, ∃ a6, ∃ a7, P a1 a2 a3 a4 a5 a6 a7 := ⟨a1, a2, a3, a4, a5, a6, a7, q⟩
theorem exi8 {α1 α2 α3 α4 α5 α6 α7 α8 : Type} {P : α1 → α2 → α3 → α4 → α5 → α6 → α7 → α8 → Prop} (a1 : α1) (a2 : α2) (a3 : α3) (a4 : α4) (a5 : α5) (a6 : α6) (a7 : α7) (a8 : α8) (q : P a1 a2 a3 a4 a5 a6 a7 a8) : ∃ a1, ∃ a2, ∃ a3, ∃ a4, ∃ a5, ∃ a6, ∃ a7, ∃ a8, P a1 a2 a3 a4 a5 a6 a7 a8 := ⟨a1, a2, a3, a4, a5, a6, a7, a8, q⟩
theorem ex9 {α1 α2 α3 α4 α5 α6 α7 α8 α9 : Type} {P : α1 → α2 → α3 → α4 → α5 → α6 → α7 → α8 → α9 → Prop} {C : Prop} (h : ∃ a1, ∃ a2, ∃ a3, ∃ a4, ∃ a5, ∃ a6, ∃ a7, ∃ a8, ∃ a9, P a1 a2 a3 a4 a5 a6 a7 a8 a9) (k : ∀ a1 a2 a3 a4 a5 a6 a7 a8 a9, P a1 a2 a3 a4 a5 a6 a7 a8 a9 → C) : C := by
  obtain ⟨a1, a2, a3, a4, a5, a6, a7, a8, a9, q⟩ := h
  exact k a1 a2 a3 a4 a5 a6 a7 a8 a9 q
theorem exi9 {α1 α2 α3 α4 α5 α6 α7 α8 α9 : Type} {P : α1 → α2 → α3 → α4 → α5 → α6 → α7 → α8 → α9 → Prop} (a1 : α1) (a2 : α2) (a3 : α3) (a4 : α4) (a5 : α5) (a6 : α6) (a7 : α7) (a8 : α8) (a9 : α9) (q : P a1 a2 a3 a4 a5 a6 a7 a8 a9) : ∃ a1, ∃ a2, ∃ a3, ∃ a4, ∃ a5, ∃ a6, ∃ a7, ∃ a8, ∃ a9, P a1 a2 a3 a4 a5 a6 a7 a8 a9 := ⟨a1, a2, a3, a4, a5, a6, a7, a8, a9, q⟩
theorem ex10 {α1 α2 α3 α4 α5 α6 α7 α8 α9 α10 : Type} {P : α1 → α2 → α3 → α4 → α5 → α6 → α7 → α8 → α9 → α10 → Prop} {C : Prop} (h : ∃ a1, ∃ a2, ∃ a3, ∃ a4, ∃ a5, ∃ a6, ∃ a7, ∃ a8, ∃ a9, ∃ a10, P a1 a2 a3 a4 a5 a6 a7 a8 a9 a10) (k : ∀ a1 a2 a3 a4 a5 a6 a7 a8 a9 a10, P a1 a2 a3 a4 a5 a6 a7 a8 a9 a10 → C) : C := by
  obtain ⟨a1, a2, a3, a4, a5, a6, a7, a8, a9, a10, q⟩ := h
  exact k a1 a2 a3 a4 a5 a6 a7 a8 a9 a10 q
theorem exi10 {α1 α2 α3 α4 α5 α6 α7 α8 α9 α10 : Type} {P : α1 → α2 → α3 → α4 → α5 → α6 → α7 → α8 → α9 → α10 → Prop} (a1 : α1) (a2 : α2) (a3 : α3) (a4 : α4) (a5 : α5) (a6 : α6) (a7 : α7) (a8 : α8) (a9 : α9) (a10 : α10) (q : P a1 a2 a3 a4 a5 a6 a7 a8 a9 a10) : ∃ a1, ∃ a2, ∃ a3, ∃ a4, ∃ a5, ∃ a6, ∃ a7, ∃ a8, ∃ a9, ∃ a10, P a1 a2 a3 a4 a5 a6 a7 a8 a9 a10 := ⟨a1, a2, a3, a4, a5, a6, a7, a8, a9, a10, q⟩
theorem ex11 {α1 α2 α3 α4 α5 α6 α7 α8 α9 α10 α11 : Type} {P : α1 → α2 → α3 → α4 → α5 → α6 → α7 → α8 → α9 → α10 → α11 → Prop} {C : Prop} (h : ∃ a1, ∃ a2, ∃ a3, ∃ a4, ∃ a5, ∃ a6, ∃ a7, ∃ a8, ∃ a9, ∃ a10, ∃ a11, P a1 a2 a3 a4 a5 a6 a7 a8 a9 a10 a11) (k : ∀ a1 a2 a3 a4 a5 a6 a7 a8 a9 a10 a11, P a1 a2 a3 a4 a5 a6 a7 a8 a9 a10 a11 → C) : C := by
  obtain ⟨a1, a2, a3, a4, a5, a6, a7, a8, a9, a10, a11, q⟩ := h
  exact k a1 a2 a3 a4 a5 a6 a7 a8 a9 a10 a11 q
theorem exi11 {α1 α2 α3 α4 α5 α6 α7 α8 α9 α10 α11 : Type} {P : α1 → α2 → α3 → α4 → α5 → α6 → α7 → α8 → α9 → α10 → α11 → Prop} (a1 : α1) (a2 : α2) (a3 : α3) (a4 : α4) (a5 : α5) (a6 : α6) (a7 : α7) (a8 : α8) (a9 : α9) (a10 : α10) (a11 : α11) (q : P a1 a2 a3 a4 a5 a6 a7 a8 a9 a10 a11) : ∃ a1, ∃ a2, ∃ a3, ∃ a4, ∃ a5, ∃ a6, ∃ a7, ∃ a8, ∃ a9, ∃ a10, ∃ a11, P a1 a2 a3 a4 a5 a6 a7 a8 a9 a10 a11 := ⟨a1, a2, a3, a4, a5, a6, a7, a8, a9, a10, a11, q⟩
theorem ex7 {α1 α2 α3 α4 α5 α6 α7 : Type} {P : α1 → α2 → α3 → α4 → α5 → α6 → α7 → Prop} {C : Prop} (h : ∃ a1, ∃ a2, ∃ a3, ∃ a4, ∃ a5, ∃ a6, ∃ a7, P a1 a2 a3 a4 a5 a6 a7) (k : ∀ a1 a2 a3 a4 a5 a6 a7, P a1 a2 a3 a4 a5 a6 a7 → C) : C := by
  obtain ⟨a1, a2, a3, a4, a5, a6, a7, q⟩ := h
  exact k a1 a2 a3 a4 a5 a6 a7 q
theorem ex8 {α1 α2 α3 α4 α5 α6 α7 α8 : Type} {P : α1 → α2 → α3 → α4 → α5 → α6 → α7 → α8 → Prop} {C : Prop} (h : ∃ a1, ∃ a2, ∃ a3, ∃ a4, ∃ a5, ∃ a6, ∃ a7, ∃ a8, P a1 a2 a3 a4 a5 a6 a7 a8) (k : ∀ a1 a2 a3 a4 a5 a6 a7 a8, P a1 a2 a3 a4 a5 a6 a7 a8 → C) : C := by
  obtain ⟨a1, a2, a3, a4, a5, a6, a7, a8, q⟩ := h
  exact k a1 a2 a3 a4 a5 a6 a7 a8 q
theorem ex6 {α1 α2 α3 α4 α5 α6 : Type} {P : α1 → α2 → α3 → α4 → α5 → α6 → Prop} {C : Prop} (h : ∃ a1, ∃ a2, ∃ a3, ∃ a4, ∃ a5, ∃ a6, P a1 a2 a3 a4 a5 a6) (k : ∀ a1 a2 a3 a4 a5 a6, P a1 a2 a3 a4 a5 a6 → C) : C := by
  obtain ⟨a1, a2, a3, a4, a5, a6, q⟩ := h
  exact k a1 a2 a3 a4 a5 a6 q
theorem exi2 {α1 α2 : Type} {P : α1 → α2 → Prop} (a1 : α1) (a2 : α2) (q : P a1 a2) : ∃ a1, ∃ a2, P a1 a2 := ⟨a1, a2, q⟩
theorem nameGoal {C : Prop} (h : ∀ G : Prop, (C → G) → G) : C := h C id
theorem subCons {α : Type} {x : α} {l B : List α} (h : x ∈ B) (k : ∀ p ∈ l, p ∈ B) : ∀ p ∈ x :: l, p ∈ B := List.forall_mem_cons.mpr ⟨h, k⟩
theorem subApp {α : Type} {a b B : List α} (h : ∀ p ∈ a, p ∈ B) (k : ∀ p ∈ b, p ∈ B) : ∀ p ∈ a ++ b, p ∈ B := fun p hp => (List.mem_append.mp hp).elim (h p) (k p)
theorem subNil {α : Type} {B : List α} : ∀ p ∈ ([] : List α), p ∈ B := fun _ h => nomatch h
theorem allCons {α : Type} {x : α} {l : List α} {P : α → Prop} (h : P x) (k : ∀ p ∈ l, P p) : ∀ p ∈ x :: l, P p := List.forall_mem_cons.mpr ⟨h, k⟩
theorem allNil {α : Type} {P : α → Prop} : ∀ p ∈ ([] : List α), P p := fun _ h => nomatch h
theorem allApp {α : Type} {a b : List α} {P : α → Prop} (h : ∀ p ∈ a, P p) (k : ∀ p ∈ b, P p) : ∀ p ∈ a ++ b, P p := fun p hp => (List.mem_append.mp hp).elim (h p) (k p)
theorem ltG {d e a b k R : Nat} (h : d + a < R) (he : e ≤ d + k) (hb : b + k ≤ a) : e + b < R := by omega
theorem an3 {a1 a2 a3 C : Prop} (h : a1 ∧ a2 ∧ a3) (c : a1 → a2 → a3 → C) : C := c h.1 h.2.1 h.2.2
theorem an4 {a1 a2 a3 a4 C : Prop} (h : a1 ∧ a2 ∧ a3 ∧ a4) (c : a1 → a2 → a3 → a4 → C) : C := c h.1 h.2.1 h.2.2.1 h.2.2.2
theorem an5 {a1 a2 a3 a4 a5 C : Prop} (h : a1 ∧ a2 ∧ a3 ∧ a4 ∧ a5) (c : a1 → a2 → a3 → a4 → a5 → C) : C := c h.1 h.2.1 h.2.2.1 h.2.2.2.1 h.2.2.2.2
theorem an6 {a1 a2 a3 a4 a5 a6 C : Prop} (h : a1 ∧ a2 ∧ a3 ∧ a4 ∧ a5 ∧ a6) (c : a1 → a2 → a3 → a4 → a5 → a6 → C) : C := c h.1 h.2.1 h.2.2.1 h.2.2.2.1 h.2.2.2.2.1 h.2.2.2.2.2
theorem an7 {a1 a2 a3 a4 a5 a6 a7 C : Prop} (h : a1 ∧ a2 ∧ a3 ∧ a4 ∧ a5 ∧ a6 ∧ a7) (c : a1 → a2 → a3 → a4 → a5 → a6 → a7 → C) : C := c h.1 h.2.1 h.2.2.1 h.2.2.2.1 h.2.2.2.2.1 h.2.2.2.2.2.1 h.2.2.2.2.2.2
theorem an8 {a1 a2 a3 a4 a5 a6 a7 a8 C : Prop} (h : a1 ∧ a2 ∧ a3 ∧ a4 ∧ a5 ∧ a6 ∧ a7 ∧ a8) (c : a1 → a2 → a3 → a4 → a5 → a6 → a7 → a8 → C) : C := c h.1 h.2.1 h.2.2.1 h.2.2.2.1 h.2.2.2.2.1 h.2.2.2.2.2.1 h.2.2.2.2.2.2.1 h.2.2.2.2.2.2.2
end
section
open PySem PySem.W PyProof.Rows PySem.Calls


/-- The part of the state that is known: the base heap `b`. -/
structure Gnd (w : World) (mg mb : Str → Option Value) (b : Heap) : Prop where
  X : (Hd.heap_39 w.params).In b
  T : TopRead Hd.view_39 (looseW Hd.view_39 [Str.ofString "gather"]) mg mb b

theorem Gnd.keeps {w : World} {mg mb : Str → Option Value} {b h : Heap} (G : Gnd w mg mb b) (k : ∀ a o, b.get? a = some o → h.get? a = some o) : Gnd w mg mb h :=
  ⟨G.X.keeps k, G.T.keeps k⟩

def Kp (D : List Addr) (h h' : Heap) : Prop := ∀ a o, h.get? a = some o → a ∉ D → h'.get? a = some o

section
variable {w : World} {mg mb : Str → Option Value} {A : Around} {s : Shared} {b : Heap} {fp : List (Addr × Obj)}
  {R : Result → Shared → Prop} {name qual : Str} {params : Arguments} {body : List Stmt} {scope : Scope} {dV kV doc pm cdv ct oc : Value} {an od : Option Addr} {osl : Array (Option Value)} {f : Addr} {args : Args} {binds : List (Str × Value)}

theorem enterP (G : Gnd w mg mb b) (hb : ∀ a o, b.get? a = some o → s.heap.get? a = some o) (hfp : ∀ p ∈ fp, s.heap.get? p.1 = some p.2 ∧ b.get? p.1 = none)
    (ho : (Hd.heap_39 w.params).lookup f = some ⟨oc, od, .func (fnOf name qual params body scope dV kV doc pm an cdv ct), osl⟩) (hcd : codeIn (Hd.heap_39 w.params) cdv qual = true) (hroom : A.depth < recursionLimit)
    (hbind : BindsTo s (fnOf name qual params body scope dV kV doc pm an cdv ct) args binds) (hloc : ∀ y ∈ binds, scope.names.lookup y.1 = some .local)
    (h : ∀ g L h₁, Fr g L h₁ (fun y => binds.reverse.lookup y) → News g L h₁ fp → Gnd w mg mb g → (∀ a o, s.heap.get? a = some o → a ∉ fp.map (·.1) → g.get? a = some o) → (∀ a o, g.get? a = some o → s.heap.get? a = some o) →
      wpAny (model PySem.Challenge.rw_pb0163_01.row.prog w) (A.deeper (envOf qual scope L f cdv)) (execs body (envOf qual scope L f cdv))
        (fun fl s' => R (.ok (.ret (match fl with | .ret v => v | _ => .none))) s') (fun _ _ => False)
        { s with heap := h₁, toks := s.toks + binds.length })
    (hco : scope.isCoroutine = false) (hgen : scope.isGenerator = false) (hk : scope.kind = .function)
    (hcell : ∀ x ∈ scope.names, x.2 ≠ .cell) : codeAny (model PySem.Challenge.rw_pb0163_01.row.prog w) A (.call (.ref f) args) R s := by
  have Gs := G.keeps hb
  refine codeAny_call_def (fd := fnOf name qual params body scope dV kV doc pm an cdv ct) (body := body) (binds := binds) hroom (Gs.X _ _ ho) rfl Gs.T.nolimit (codeRec_of Gs.X hcd) rfl hbind hcell hloc (fun h₁ hns hk₁ => ?_) hco hgen hk
  have nb : ∀ a o, b.get? a = some o → a ∉ fp.map (·.1) := fun a o e q => by
    obtain ⟨p, hp, rfl⟩ := List.mem_map.mp q
    rw [(hfp p hp).2] at e; cases e
  have up : ∀ a o, s.heap.get? a = some o → a ∉ fp.map (·.1) → (hideAll s.heap (fp.map (·.1))).get? a = some o := fun a o e n => hideAll_get _ e n
  refine wpAny_mono (h (hideAll s.heap (fp.map (·.1))) s.heap.objs.size h₁ ⟨hns, fun a o e => hk₁ a o (of_hideAll _ e), Nat.le_of_eq (hideAll_size _ _)⟩
    (fun p hp => ⟨hk₁ _ _ (hfp p hp).1, Nat.ne_of_lt (Heap.lt_size (hfp p hp).1), hideAll_none _ (List.mem_map_of_mem hp)⟩)
    (G.keeps fun a o e => up a o (hb a o e) (nb a o e)) up (fun a o e => of_hideAll _ e)) (fun _ _ z => z) fun _ _ z => z.elim

theorem enterC (G : Gnd w mg mb b) (hb : ∀ a o, b.get? a = some o → s.heap.get? a = some o) (hfp : ∀ p ∈ fp, s.heap.get? p.1 = some p.2 ∧ b.get? p.1 = none)
    (ho : (Hd.heap_39 w.params).lookup f = some ⟨oc, od, .func (fnOf name qual params body scope dV kV doc pm an cdv ct), osl⟩) (hcd : codeIn (Hd.heap_39 w.params) cdv qual = true) (hroom : A.depth < recursionLimit)
    (hbind : BindsTo s (fnOf name qual params body scope dV kV doc pm an cdv ct) args binds) (hkind : (binds.all fun y => scope.names.lookup y.1 == some .local || scope.names.lookup y.1 == some .cell) = true)
    (hnd : ((cellsFrom 0 scope.names []).map (·.1)).Nodup)
    (h : ∀ g L h₁ tk cells, Fr g L h₁ (bindL (envOfC qual scope L f cdv).kindOf binds fun _ => none) → News g L h₁ (cells ++ fp) →
      CellsAre (bindC (envOfC qual scope L f cdv).kindOf binds fun _ => none) (cellsFrom (L + 1) scope.names []) cells →
      Gnd w mg mb g → (∀ a o, s.heap.get? a = some o → a ∉ fp.map (·.1) → g.get? a = some o) → (∀ a o, g.get? a = some o → s.heap.get? a = some o) → (∀ a o, s.heap.get? a = some o → a < L) →
      wpAny (model PySem.Challenge.rw_pb0163_01.row.prog w) (A.deeper (envOfC qual scope L f cdv)) (execs body (envOfC qual scope L f cdv))
        (fun fl s' => R (.ok (.ret (match fl with | .ret v => v | _ => .none))) s') (fun _ _ => False)
        { s with heap := h₁, toks := tk })
    (hco : scope.isCoroutine = false) (hgen : scope.isGenerator = false) (hk : scope.kind = .function) : codeAny (model PySem.Challenge.rw_pb0163_01.row.prog w) A (.call (.ref f) args) R s := by
  have Gs := G.keeps hb
  refine codeAny_call_function hroom (Gs.X _ _ ho) rfl hco hgen rfl (codeRec_of Gs.X hcd) (hbind _ _ _ _ ?_)
  refine wpAny_newFunctionEnv_cells hk (kindsX hkind _) fun env' he s' x => ?_
  subst he
  refine ⟨Gs.T.nolimit.keeps x.toInCall.keep, codeAny_func ?_⟩
  obtain ⟨h₁, tk, rfl, _⟩ := x.done
  have hk₁ := x.toInCall.keep
  obtain ⟨cells, NC, Y⟩ := Cl.news (h₀ := s.heap) (Nat.le_refl _) fun n c hm => ⟨x.cell n c (lookup_of_mem_nodup (cellsFrom_names scope.names 0 (s.heap.objs.size + 1) [] [] rfl ▸ hnd) hm), x.above n c hm⟩
  have nb : ∀ a o, b.get? a = some o → a ∉ fp.map (·.1) := fun a o e q => by
    obtain ⟨p, hp, rfl⟩ := List.mem_map.mp q
    rw [(hfp p hp).2] at e; cases e
  have up : ∀ a o, s.heap.get? a = some o → a ∉ fp.map (·.1) → (hideAll s.heap (fp.map (·.1))).get? a = some o := fun a o e n => hideAll_get _ e n
  refine wpAny_mono (h (hideAll s.heap (fp.map (·.1))) s.heap.objs.size h₁ tk cells ⟨x.toInCall.ns, fun a o e => hk₁ a o (of_hideAll _ e), Nat.le_of_eq (hideAll_size _ _)⟩ (fun p hp => ?_) Y
    (G.keeps fun a o e => up a o (hb a o e) (nb a o e)) up (fun a o e => of_hideAll _ e) (fun a o e => Heap.lt_size e)) (fun _ _ z => z) fun _ _ z => z.elim
  rcases List.mem_append.mp hp with hp | hp
  · refine ⟨(NC p hp).1, (NC p hp).2.1, ?_⟩
    cases q : (hideAll s.heap (fp.map (·.1))).get? p.1 with
    | none => rfl
    | some o => have := of_hideAll _ q; rw [(NC p hp).2.2] at this; cases this
  · exact ⟨hk₁ _ _ (hfp p hp).1, Nat.ne_of_lt (Heap.lt_size (hfp p hp).1), hideAll_none _ (List.mem_map_of_mem hp)⟩
end
end
section
open PySem PySem.W PyProof.Rows PySem.Calls

structure HoldP (P : Prop) : Prop where
  out : P
theorem hold {α : Type} {M : Model} {A : Around} {t : Sem α} {Q : α → Shared → Prop} {E : Value → Shared → Prop} {s : Shared} (h : wpAny M A t (fun v s => HoldP (Q v s)) E s) : wpAny M A t Q E s :=
  wpAny_mono h (fun _ _ h => h.out) fun _ _ e => e
theorem viaQ {α : Type} {M : Model} {A : Around} {t : Sem α} {Q : α → Shared → Prop} {E : Value → Shared → Prop} {s : Shared} (h : ∀ R : α → Shared → Prop, (∀ v s', Q v s' → R v s') → wpAny M A t R E s) : wpAny M A t Q E s :=
  h Q fun _ _ z => z
theorem joinG {α : Type} {M : Model} {A : Around} {t : Sem α} {Q : α → Shared → Prop} {E : Value → Shared → Prop} {s : Shared} (J : (α → Shared → Prop) → Prop) (h : ∀ R, J R → wpAny M A t R E s) (k : J Q) : wpAny M A t Q E s := h Q k
theorem ifJoin {M : Model} {A : Around} {E : Value → Shared → Prop} {s : Shared} {env : Env} {test body orelse : PySem.Expr} {Q : Value → Shared → Prop} (J : (Value → Shared → Prop) → Prop)
    (h : ∀ R, J R → wpAny M A (isTrue test env (eval test env)) (fun c s₂ => if c then wpAny M A (eval body env) R E s₂ else wpAny M A (eval orelse env) R E s₂) E s) (k : J Q) :
    wpAny M A (isTrue test env (eval test env)) (fun c s₂ => if c then wpAny M A (eval body env) Q E s₂ else wpAny M A (eval orelse env) Q E s₂) E s := h Q k

section
variable {prog : Program} {w : World} {A : Around} {h₀ : Heap} {L : Addr} {m : Str → Option Value} {env : Env} {elt ct : PySem.Expr} {x : Str} {scope : Scope} {cl : List (Str × Addr)} {s : Shared} {S : List (Addr × Obj) → Prop} {P : Nat → Value → Prop} {Fin : List Value → List (Addr × Obj) → Prop} {news : List (Addr × Obj)} {n : Nat}

theorem rest_inv (J : Nat → List Value → List (Addr × Obj) → Prop) (h0 : J 0 [] news)
    (turn : ∀ i v I oI C oC D m₂ ys nw h tk (E' : Value → Shared → Prop), i < n → P i v → J i ys nw → LCg.NsObj oC m₂ → m₂ x = some v → Fr h₀ L h m → News h₀ L h ((I, oI) :: (C, oC) :: (D, LCg.lst ys) :: nw) → LCg.Off3 I C D nw → ((@Ne Nat I C) ∧ (@Ne Nat I D) ∧ (@Ne Nat C D)) →
      wpAny (model prog w) A (eval elt (compEnvC scope cl C env)) (LCg.CompEnd h₀ L m { s with heap := h, toks := tk } I oI C oC D (LCg.lst ys) S (fun y nw' => J (i + 1) (ys ++ [y]) nw')) E' { s with heap := h, toks := tk })
    (fin : ∀ ys nw, J n ys nw → Fin ys nw) : LCg.CompRest prog w A h₀ L m env elt x scope cl s S P Fin n 0 [] news := by
  have key : ∀ (j i : Nat) (ys : List Value) (nw : List (Addr × Obj)), i + j = n → J i ys nw → LCg.CompRest prog w A h₀ L m env elt x scope cl s S P Fin j i ys nw := by
    intro j
    induction j with
    | zero =>
      intro i ys nw hi hJ
      obtain rfl : i = n := by omega
      exact LCg.CompRest.zero (fin ys nw hJ)
    | succ j ih =>
      intro i ys nw hi hJ
      refine LCg.CompRest.succ ?_
      intro v I oI C oC D m₂ h tk E' hv hC hx F N off ne
      refine wpAny_mono (turn i v I oI C oC D m₂ ys nw h tk E' (by omega) hv hJ hC hx F N off ne) (fun y s₂ hq => ?_) fun _ _ e => e
      obtain ⟨h', tk', nw', e, F', N', off', hS, hJ'⟩ := hq
      exact ⟨h', tk', nw', e, F', N', off', hS, ih (i + 1) _ _ (by omega) hJ'⟩
  exact key n 0 [] news (by omega) h0

theorem rest_invT (J : Nat → List Value → List (Addr × Obj) → Prop) (h0 : J 0 [] news)
    (turn : ∀ i v I oI C oC D m₂ ys nw h tk (E' : Value → Shared → Prop), i < n → P i v → J i ys nw → LCg.NsObj oC m₂ → m₂ x = some v → Fr h₀ L h m → News h₀ L h ((I, oI) :: (C, oC) :: (D, LCg.lst ys) :: nw) → LCg.Off3 I C D nw → ((@Ne Nat I C) ∧ (@Ne Nat I D) ∧ (@Ne Nat C D)) →
      wpAny (model prog w) A (isTrue ct (compEnvC scope cl C env) (eval ct (compEnvC scope cl C env))) (fun ok s' => if ok = true then
        wpAny (model prog w) A (eval elt (compEnvC scope cl C env)) (LCg.CompEnd h₀ L m { s with heap := h, toks := tk } I oI C oC D (LCg.lst ys) S (fun y nw' => J (i + 1) (ys ++ [y]) nw')) E' s'
        else LCg.CompEnd h₀ L m { s with heap := h, toks := tk } I oI C oC D (LCg.lst ys) S (fun _ nw' => J (i + 1) ys nw') Value.none s') E' { s with heap := h, toks := tk })
    (fin : ∀ ys nw, J n ys nw → Fin ys nw) : LCt.CompRestT prog w A h₀ L m env ct elt x scope cl s S P Fin n 0 [] news := by
  have key : ∀ (j i : Nat) (ys : List Value) (nw : List (Addr × Obj)), i + j = n → J i ys nw → LCt.CompRestT prog w A h₀ L m env ct elt x scope cl s S P Fin j i ys nw := by
    intro j
    induction j with
    | zero =>
      intro i ys nw hi hJ
      obtain rfl : i = n := by omega
      exact LCt.CompRestT.zero (fin ys nw hJ)
    | succ j ih =>
      intro i ys nw hi hJ
      refine LCt.CompRestT.succ ?_
      intro v I oI C oC D m₂ h tk E' hv hC hx F N off ne
      refine wpAny_mono (turn i v I oI C oC D m₂ ys nw h tk E' (by omega) hv hJ hC hx F N off ne) (fun ok s₂ hq => ?_) fun _ _ e => e
      have imp : ∀ (a : List Value → Value → List Value) y s₂, LCg.CompEnd h₀ L m { s with heap := h, toks := tk } I oI C oC D (LCg.lst ys) S (fun y nw' => J (i + 1) (a ys y) nw') y s₂ →
          LCg.CompEnd h₀ L m { s with heap := h, toks := tk } I oI C oC D (LCg.lst ys) S (fun y nw' => LCt.CompRestT prog w A h₀ L m env ct elt x scope cl s S P Fin j (i + 1) (a ys y) nw') y s₂ := by
        rintro a y s₂ ⟨h', tk', nw', e, F', N', off', hS, hJ'⟩
        exact ⟨h', tk', nw', e, F', N', off', hS, ih (i + 1) _ _ (by omega) hJ'⟩
      split at hq
      · rename_i hok
        rw [if_pos hok]
        exact wpAny_mono hq (fun y s₂ q => imp (fun ys y => ys ++ [y]) y s₂ q) fun _ _ e => e
      · rename_i hok
        rw [if_neg hok]
        exact imp (fun ys _ => ys) _ _ hq
  exact key n 0 [] news (by omega) h0
end

theorem fresh_of {h g : Heap} {D : Addr} {l : List Addr} (up : ∀ a o, h.get? a = some o → a ∉ l → g.get? a = some o) (hg : g.get? D = none) (hD : D ∉ l) : h.get? D = none := by
  cases e : h.get? D with
  | none => rfl
  | some o => rw [up _ _ e hD] at hg; cases hg
theorem neA {a b : Addr} (h : @Ne Nat a b) : a ≠ b := h

theorem none_of {b b' : Heap} {a : Addr} (k : ∀ a o, b.get? a = some o → b'.get? a = some o) (h : b'.get? a = none) : b.get? a = none := by
  cases e : b.get? a with
  | none => rfl
  | some o => rw [k _ _ e] at h; cases h
def Dom (b b' : Heap) : Prop := ∀ a, b'.get? a = none → b.get? a = none
theorem Dom.keep {b b' : Heap} (k : ∀ a o, b.get? a = some o → b'.get? a = some o) : Dom b b' := fun _ h => none_of k h
theorem Dom.trans {a b c : Heap} (x : Dom a b) (y : Dom b c) : Dom a c := fun d h => x d (y d h)
theorem Kp.dom {D : List Addr} {h h' : Heap} (k : Kp D h h') (hD : ∀ d ∈ D, (h'.get? d).isSome = true) : Dom h h' := fun a e => by
  cases q : h.get? a with
  | none => rfl
  | some o =>
    by_cases m : a ∈ D
    · have := hD a m; rw [e] at this; cases this
    · rw [k _ _ q m] at e; cases e
theorem Kp.trans {D D' : List Addr} {a b c : Heap} (x : Kp D a b) (y : Kp D' b c) (hs : ∀ d ∈ D', d ∈ D) : Kp D a c := fun d o e n => y _ _ (x _ _ e n) fun q => n (hs _ q)
theorem fr_kp {g h h' : Heap} {L : Addr} {m : Str → Option Value} {D : List Addr} (F : Fr g L h m) (k : Kp D h h') (hD : ∀ d ∈ D, g.get? d = none ∧ d ≠ L) : Fr g L h' m :=
  ⟨F.ns.at' fun o e => k _ _ e fun q => (hD _ q).2 rfl, fun a o e => k _ _ (F.keep a o e) fun q => (by rw [(hD _ q).1] at e; cases e), F.above⟩
theorem news_kp {g h h' : Heap} {L : Addr} {D : List Addr} {news : List (Addr × Obj)} (N : News g L h news) (k : Kp D h h') (off : ∀ p ∈ news, p.1 ∉ D) : News g L h' news :=
  fun p hp => ⟨k _ _ (N p hp).1 (off p hp), (N p hp).2⟩
theorem led_kp {g h h' : Heap} {L : Addr} {m : Str → Option Value} {D : List Addr} {news : List (Addr × Obj)} (new rest : List (Addr × Obj)) (F : Fr g L h m) (N : News g L h news) (k : Kp D h h') (hD : ∀ d ∈ D, g.get? d = none ∧ d ≠ L)
    (hr : ∀ p ∈ rest, p ∈ news ∧ p.1 ∉ D) (hn : ∀ p ∈ new, h'.get? p.1 = some p.2 ∧ (h.get? p.1 = none ∨ p.1 ∈ D)) : Fr g L h' m ∧ News g L h' (new ++ rest) := by
  refine ⟨fr_kp F k hD, fun p hp => ?_⟩
  rcases List.mem_append.mp hp with hp | hp
  · obtain ⟨e, q⟩ := hn p hp
    refine ⟨e, ?_⟩
    rcases q with q | q
    · refine ⟨fun z => ?_, none_of F.keep q⟩
      obtain ⟨o, _, _, e', _⟩ := F.ns
      rw [z, e'] at q; cases q
    · exact ⟨(hD _ q).2, (hD _ q).1⟩
  · exact news_kp (fun p hp => N p (hr p hp).1) k (fun p hp => (hr p hp).2) p hp

section
variable {g h h' : Heap} {L : Addr} {m : Str → Option Value} {news : List (Addr × Obj)} {C : Prop}
theorem kp0K (F : Fr g L h m) (N : News g L h news) (k : Kp [] h h') (c : Fr g L h' m → News g L h' news → C) : C := by
  obtain ⟨a, b⟩ := led_kp (D := []) [] news F N k (by simp) (fun p hp => ⟨hp, by simp⟩) (by simp)
  exact c a b
theorem kp1K (a : Addr) (o : Obj) (F : Fr g L h m) (N : News g L h news) (k : Kp [] h h') (e : h'.get? a = some o) (f : h.get? a = none) (c : Fr g L h' m → News g L h' ((a, o) :: news) → C) : C := by
  obtain ⟨x, y⟩ := led_kp (D := []) [(a, o)] news F N k (by simp) (fun p hp => ⟨hp, by simp⟩) (by intro p hp; rw [List.mem_singleton.mp hp]; exact ⟨e, .inl f⟩)
  exact c x y
theorem kpLK (new : List (Addr × Obj)) (F : Fr g L h m) (N : News g L h news) (k : Kp [] h h') (hn : ∀ p ∈ new, h'.get? p.1 = some p.2 ∧ h.get? p.1 = none) (c : Fr g L h' m → News g L h' (new ++ news) → C) : C := by
  obtain ⟨x, y⟩ := led_kp (D := []) new news F N k (by simp) (fun p hp => ⟨hp, by simp⟩) (fun p hp => ⟨(hn p hp).1, .inl (hn p hp).2⟩)
  exact c x y
end
section
variable {g h : Heap} {L : Addr} {m : Str → Option Value} {C : Prop}
theorem genMap (F : Fr g L h m) (c : ∀ m₀, Fr g L h m₀ → C) : C := c m F
theorem genMap1 {k : Str} {v : Option Value} (F : Fr g L h (fun y => if y = k then v else m y)) (c : ∀ m₀ : Str → Option Value, Fr g L h (fun y => if y = k then v else m₀ y) → C) : C := c m F
theorem genToks {α : Type} {M : Model} {A : Around} {x : Sem α} {Q : α → Shared → Prop} {E : Value → Shared → Prop} {s : Shared} (c : ∀ t, wpAny M A x Q E { s with toks := t }) : wpAny M A x Q E s := c s.toks
theorem mapAdd {k : Str} {v : Value} (e : m k = some v) : (fun y => if y = k then some v else m y) = m := by
  funext y
  by_cases a : y = k
  · rw [if_pos a, a, e]
  · rw [if_neg a]
theorem baseK1 (k1 : Str) (v1 : Value) (F : Fr g L h m) (e1 : m k1 = some v1) (c : ∀ m₀ : Str → Option Value, Fr g L h (fun y => if y = k1 then some v1 else m₀ y) → C) : C :=
  c m (by
    have q : Fr g L h m := F
    have e : (fun y => if y = k1 then some v1 else m y) = m := by
      exact mapAdd e1
    rw [e]; exact q)
theorem baseK2 (k1 : Str) (v1 : Value) (k2 : Str) (v2 : Value) (F : Fr g L h m) (e1 : m k1 = some v1) (e2 : m k2 = some v2) (c : ∀ m₀ : Str → Option Value, Fr g L h (fun y => if y = k1 then some v1 else if y = k2 then some v2 else m₀ y) → C) : C :=
  c m (by
    have q : Fr g L h m := F
    have e : (fun y => if y = k1 then some v1 else if y = k2 then some v2 else m y) = m := by
      funext y
      by_cases a1 : y = k1
      · rw [if_pos a1, a1, e1]
      by_cases a2 : y = k2
      · rw [if_neg a1, if_pos a2, a2, e2]
      rw [if_neg a1, if_neg a2]
    rw [e]; exact q)
theorem baseK3 (k1 : Str) (v1 : Value) (k2 : Str) (v2 : Value) (k3 : Str) (v3 : Value) (F : Fr g L h m) (e1 : m k1 = some v1) (e2 : m k2 = some v2) (e3 : m k3 = some v3) (c : ∀ m₀ : Str → Option Value, Fr g L h (fun y => if y = k1 then some v1 else if y = k2 then some v2 else if y = k3 then some v3 else m₀ y) → C) : C :=
  c m (by
    have q : Fr g L h m := F
    have e : (fun y => if y = k1 then some v1 else if y = k2 then some v2 else if y = k3 then some v3 else m y) = m := by
      funext y
      by_cases a1 : y = k1
      · rw [if_pos a1, a1, e1]
      by_cases a2 : y = k2
      · rw [if_neg a1, if_pos a2, a2, e2]
      by_cases a3 : y = k3
      · rw [if_neg a1, if_neg a2, if_pos a3, a3, e3]
      rw [if_neg a1, if_neg a2, if_neg a3]
    rw [e]; exact q)
theorem baseK4 (k1 : Str) (v1 : Value) (k2 : Str) (v2 : Value) (k3 : Str) (v3 : Value) (k4 : Str) (v4 : Value) (F : Fr g L h m) (e1 : m k1 = some v1) (e2 : m k2 = some v2) (e3 : m k3 = some v3) (e4 : m k4 = some v4) (c : ∀ m₀ : Str → Option Value, Fr g L h (fun y => if y = k1 then some v1 else if y = k2 then some v2 else if y = k3 then some v3 else if y = k4 then some v4 else m₀ y) → C) : C :=
  c m (by
    have q : Fr g L h m := F
    have e : (fun y => if y = k1 then some v1 else if y = k2 then some v2 else if y = k3 then some v3 else if y = k4 then some v4 else m y) = m := by
      funext y
      by_cases a1 : y = k1
      · rw [if_pos a1, a1, e1]
      by_cases a2 : y = k2
      · rw [if_neg a1, if_pos a2, a2, e2]
      by_cases a3 : y = k3
      · rw [if_neg a1, if_neg a2, if_pos a3, a3, e3]
      by_cases a4 : y = k4
      · rw [if_neg a1, if_neg a2, if_neg a3, if_pos a4, a4, e4]
      rw [if_neg a1, if_neg a2, if_neg a3, if_neg a4]
    rw [e]; exact q)
end
theorem inst_base {g h : Heap} {L x C dx : Addr} {m : Str → Option Value} {od : Obj} {sl : Array (Option Value)} (F : Fr g L h m) (h1 : g.get? x = some (⟨.ref C, some dx, .plain, sl⟩ : Obj)) (h2 : g.get? dx = some od) :
    InstAt h x ⟨.ref C, some dx, .plain, sl⟩ C (some od) := ⟨F.keep _ _ h1, rfl, rfl, F.keep _ _ h2⟩
theorem inst_bag {g h : Heap} {L x C dx : Addr} {news led : List (Addr × Obj)} {od : Obj} {sl : Array (Option Value)} (N : News g L h news) (h1 : (x, (⟨.ref C, some dx, .plain, sl⟩ : Obj)) ∈ led) (h2 : (dx, od) ∈ led) (hs : ∀ q ∈ led, q ∈ news) :
    InstAt h x ⟨.ref C, some dx, .plain, sl⟩ C (some od) := ⟨N.get (hs _ h1), rfl, rfl, N.get (hs _ h2)⟩
theorem range_ok {d : Int} (h0 : 0 ≤ d) (h1 : d ≤ 1000) : Builtin.Range.small 0 d 1 = true ∧ Builtin.Range.rangeSize 0 d 1 = ((d.toNat : Nat) : Int) := by
  have e : Builtin.Range.rangeSize 0 d 1 = d := by
    unfold Builtin.Range.rangeSize
    by_cases h : (0 : Int) < d
    · rw [if_pos (by decide), if_pos h, Int.ediv_one]; omega
    · rw [if_pos (by decide), if_neg h]; omega
  refine ⟨?_, by rw [e]; omega⟩
  unfold Builtin.Range.small
  rw [e]
  simp only [Builtin.Range.rangeFitsLong, Bool.and_eq_true, Bool.or_eq_true, decide_eq_true_eq, beq_iff_eq]
  have : (1 : Int) > 0 := by decide
  simp only [this, if_true, decide_eq_true_eq, Bool.and_eq_true]
  refine ⟨⟨⟨⟨?_, ?_⟩, ?_⟩, ?_⟩, ?_⟩ <;> first | omega | (right; omega) | decide

section
variable {prog : Program} {w : World} {A : Around} {E : Value → Shared → Prop} {s : Shared} {env : Env} {h₀ : Heap} {x : Str} {body : List Stmt} {Q : Flow → Shared → Prop}
theorem loop_list {l : Addr} {its : Array Value} {m₀ : Str → Option Value} {news : List (Addr × Obj)} (J : (Str → Option Value) → Nat → (Str → Option Value) → List (Addr × Obj) → Prop)
    (hh : A.handled = none) (hl : s.heap.IsList l its) (hlL : @Ne Nat env.locals l) (off : ∀ p ∈ news, p.1 ≠ l) (F : Fr h₀ env.locals s.heap m₀) (N : News h₀ env.locals s.heap news) (hj : J m₀ 0 m₀ news)
    (turn : ∀ i v m₁ news₁ h tk own, its[i]? = some v → news₁.map (·.1) = news.map (·.1) → OwnOff own (news.map (·.1)) → J m₀ i m₁ news₁ → Fr h₀ env.locals h (fun y => if y = x then some v else m₁ y) → News h₀ env.locals h (news₁ ++ own) →
      wpAny (model prog w) A (execs body env) (InvPostN h₀ env.locals (J m₀ (i + 1)) own (news.map (·.1)) { s with heap := h, toks := tk } Q) E { s with heap := h, toks := tk })
    (done : ∀ m₁ news₁ h tk, J m₀ its.size m₁ news₁ → Fr h₀ env.locals h m₁ → News h₀ env.locals h news₁ → Q .next { s with heap := h, toks := tk }) :
    wpAny (model prog w) A (pyIter (.ref l)) (fun it s₂ => LoopAtV prog w A h₀ env x body Q E it s₂) E s := by
  obtain ⟨ol, hol, _⟩ := id hl
  have hlt : l < s.heap.objs.size := Heap.lt_size hol
  have hne : l ≠ s.heap.objs.size := Nat.ne_of_lt hlt
  refine wpAny_pyIter_list hl ?_
  have hLlt := F.ns.lt
  refine loop_invN (J m₀) (Walks.list (prog := prog) (w := w) hh s.heap.objs.size l hne its) ?_ ?_ ?_ ?_ ⟨⟨_, Heap.get?_push_size _ rfl, rfl, rfl⟩, hl.push _⟩ (F.push _) (fun p hp => ⟨Heap.get?_push_of_some _ (N p hp).1, (N p hp).2⟩) hj ?_ ?_
  · intro hm
    rcases List.mem_cons.mp hm with e | hm
    · exact absurd hLlt (e ▸ Nat.lt_irrefl _)
    · exact hlL (List.mem_singleton.mp hm)
  · intro b hb
    rw [List.mem_singleton.mp hb]
    exact next_is_new F
  · intro p hp hI
    exact absurd (Heap.lt_size (N p hp).1) ((List.mem_singleton.mp hI) ▸ Nat.lt_irrefl _)
  · intro p hp hI
    rcases List.mem_cons.mp hI with e | hI
    · exact absurd (Heap.lt_size (N p hp).1) (e ▸ Nat.lt_irrefl _)
    · exact off p hp (List.mem_singleton.mp hI)
  · intro i v m₁ nw h tk own _ hP ha ho hJ F' N'
    exact turn i v m₁ nw h tk own hP ha ho hJ F' N'
  · exact done

theorem loop_tuple {l : Addr} {its : Array Value} {m₀ : Str → Option Value} {news : List (Addr × Obj)} (J : (Str → Option Value) → Nat → (Str → Option Value) → List (Addr × Obj) → Prop)
    (hh : A.handled = none) (hl : s.heap.IsTuple l its) (hlL : @Ne Nat env.locals l) (off : ∀ p ∈ news, p.1 ≠ l) (F : Fr h₀ env.locals s.heap m₀) (N : News h₀ env.locals s.heap news) (hj : J m₀ 0 m₀ news)
    (turn : ∀ i v m₁ news₁ h tk own, its[i]? = some v → news₁.map (·.1) = news.map (·.1) → OwnOff own (news.map (·.1)) → J m₀ i m₁ news₁ → Fr h₀ env.locals h (fun y => if y = x then some v else m₁ y) → News h₀ env.locals h (news₁ ++ own) →
      wpAny (model prog w) A (execs body env) (InvPostN h₀ env.locals (J m₀ (i + 1)) own (news.map (·.1)) { s with heap := h, toks := tk } Q) E { s with heap := h, toks := tk })
    (done : ∀ m₁ news₁ h tk, J m₀ its.size m₁ news₁ → Fr h₀ env.locals h m₁ → News h₀ env.locals h news₁ → Q .next { s with heap := h, toks := tk }) :
    wpAny (model prog w) A (pyIter (.ref l)) (fun it s₂ => LoopAtV prog w A h₀ env x body Q E it s₂) E s := by
  obtain ⟨ol, hol, _⟩ := id hl
  have hlt : l < s.heap.objs.size := Heap.lt_size hol
  have hne : l ≠ s.heap.objs.size := Nat.ne_of_lt hlt
  refine wpAny_pyIter_tuple hl ?_
  have hLlt := F.ns.lt
  refine loop_invN (J m₀) (Walks.tuple (prog := prog) (w := w) hh s.heap.objs.size l hne its) ?_ ?_ ?_ ?_ ⟨⟨_, Heap.get?_push_size _ rfl, rfl, rfl⟩, hl.push _⟩ (F.push _) (fun p hp => ⟨Heap.get?_push_of_some _ (N p hp).1, (N p hp).2⟩) hj ?_ ?_
  · intro hm
    rcases List.mem_cons.mp hm with e | hm
    · exact absurd hLlt (e ▸ Nat.lt_irrefl _)
    · exact hlL (List.mem_singleton.mp hm)
  · intro b hb
    rw [List.mem_singleton.mp hb]
    exact next_is_new F
  · intro p hp hI
    exact absurd (Heap.lt_size (N p hp).1) ((List.mem_singleton.mp hI) ▸ Nat.lt_irrefl _)
  · intro p hp hI
    rcases List.mem_cons.mp hI with e | hI
    · exact absurd (Heap.lt_size (N p hp).1) (e ▸ Nat.lt_irrefl _)
    · exact off p hp (List.mem_singleton.mp hI)
  · intro i v m₁ nw h tk own _ hP ha ho hJ F' N'
    exact turn i v m₁ nw h tk own hP ha ho hJ F' N'
  · exact done
end

theorem exec1 {M : Model} {A : Around} {E : Value → Shared → Prop} {s : Shared} {env : Env} {st : Stmt} {rest : List Stmt} {Q : Flow → Shared → Prop}
    (h : wpAny M A (exec st env) (fun f s' => HoldP (match f with | .next => wpAny M A (execs rest env) Q E s' | f => Q f s')) E s) : wpAny M A (execs (st :: rest) env) Q E s :=
  wpAny_execs_cons (wpAny_mono h (fun _ _ x => x.out) fun _ _ e => e)

theorem for_start {prog : Program} {w : World} {A : Around} {E : Value → Shared → Prop} {s : Shared} {env : Env} {Q : Flow → Shared → Prop} {x : Str} {px pos : Pos} {iter : PySem.Expr} {body : List Stmt} (h₀ : Heap) (hx : env.kindOf x = some .local)
    (hp : (env.scope.kind == .class || (env.scope.kind == .module && env.locals != env.globals)) = false)
    (h : wpAny (model prog w) A (eval iter env) (fun xv s₁ => HoldP (wpAny (model prog w) A (pyIter xv) (fun it s₂ => LoopAtV prog w A h₀ env x body Q (fun _ _ => False) it s₂) (fun _ _ => False) s₁)) (fun _ _ => False) s)
    (hs : ∀ x, foldedSetIterable iter env x = pure x := by intro _; rfl) :
    wpAny (model prog w) A (exec (.For (.Name x px) iter body [] pos) env) Q E s :=
  wpAny_noRaise (For_invV h₀ hx hp (wpAny_mono h (fun _ _ x => x.out) fun _ _ e => e) hs PassesOwn.never)

/-- A dict in a ledger's head is stored into. -/
theorem dict_put {prog : Program} {w : World} {K : Type} [DecidableEq K] {knd : KeyKind prog w K} {A : Around} {E : Value → Shared → Prop} {s : Shared} {h₀ : Heap} {L d : Addr} {m : Str → Option Value} {rest : List (Addr × Obj)} {o : Obj} {kvs : List (K × Value)} {k : K} {key v : Value}
    {Q : Unit → Shared → Prop} (F : Fr h₀ L s.heap m) (N : News h₀ L s.heap ((d, o) :: rest)) (hne : ∀ p ∈ rest, p.1 ≠ d) (hd : o.IsDictOf knd kvs) (hkey : knd.is k key = true) (hsz : kvs.length ≤ 1000)
    (h : ∀ h' o', Fr h₀ L h' m → News h₀ L h' ((d, o') :: rest) → o'.IsDictOf knd (stored kvs k v) → Q () { s with heap := h', toks := s.toks + 1 }) : wpAny (model prog w) A (setItem (.ref d) key v) Q E s :=
  kda_set F N (UpdF.head hne) hd hkey (by rw [sizeLine_eq]; omega) h

theorem map1 {m₁ m₀ : Str → Option Value} {x : Str} {v : Value} (h : ∀ z, z ≠ x → m₁ z = m₀ z) : (fun y => if y = x then some v else m₁ y) = fun y => if y = x then some v else m₀ y := by
  funext z
  by_cases h1 : z = x
  · simp [h1]
  · simp only [if_neg h1]; exact h z h1
theorem map2 {m₁ m₀ : Str → Option Value} {x a : Str} {v : Value} (h : ∀ z, z ≠ x → z ≠ a → m₁ z = m₀ z) : (fun y => if y = x then some v else m₁ y) = fun y => if y = x then some v else if y = a then m₁ a else m₀ y := by
  funext z
  by_cases h1 : z = x
  · simp [h1]
  by_cases h2 : z = a
  · simp [h2]
  · simp only [if_neg h1, if_neg h2]; exact h z h1 h2
theorem map3 {m₁ m₀ : Str → Option Value} {x a b : Str} {v : Value} (h : ∀ z, z ≠ x → z ≠ a → z ≠ b → m₁ z = m₀ z) : (fun y => if y = x then some v else m₁ y) = fun y => if y = x then some v else if y = a then m₁ a else if y = b then m₁ b else m₀ y := by
  funext z
  by_cases h1 : z = x
  · simp [h1]
  by_cases h2 : z = a
  · simp [h2]
  by_cases h3 : z = b
  · simp only [if_neg h1, if_neg h2, if_pos h3]; rw [h3]
  · simp only [if_neg h1, if_neg h2, if_neg h3]; exact h z h1 h2 h3
theorem map0 {m₁ m₀ : Str → Option Value} {x : Str} (h : ∀ z, z ≠ x → m₁ z = m₀ z) : m₁ = fun y => if y = x then m₁ x else m₀ y := by
  funext z
  by_cases h1 : z = x
  · simp [h1]
  · simp only [if_neg h1]; exact h z h1
theorem map03 {m₁ m₀ : Str → Option Value} {x a b : Str} (h : ∀ z, z ≠ x → z ≠ a → z ≠ b → m₁ z = m₀ z) : m₁ = fun y => if y = x then m₁ x else if y = a then m₁ a else if y = b then m₁ b else m₀ y := by
  funext z
  by_cases h1 : z = x
  · simp [h1]
  by_cases h2 : z = a
  · simp only [if_neg h1, if_pos h2]; rw [h2]
  by_cases h3 : z = b
  · simp only [if_neg h1, if_neg h2, if_pos h3]; rw [h3]
  · simp only [if_neg h1, if_neg h2, if_neg h3]; exact h z h1 h2 h3
theorem map02 {m₁ m₀ : Str → Option Value} {x a : Str} (h : ∀ z, z ≠ x → z ≠ a → m₁ z = m₀ z) : m₁ = fun y => if y = x then m₁ x else if y = a then m₁ a else m₀ y := by
  funext z
  by_cases h1 : z = x
  · simp [h1]
  by_cases h2 : z = a
  · simp only [if_neg h1, if_pos h2]; rw [h2]
  · simp only [if_neg h1, if_neg h2]; exact h z h1 h2
theorem news_sub {h₀ h : Heap} {L : Addr} {news news' : List (Addr × Obj)} (N : News h₀ L h news) (hs : ∀ p ∈ news', p ∈ news) : News h₀ L h news' := fun p hp => N p (hs p hp)
theorem off1_mem {D : Addr} : ∀ {l : List (Addr × Obj)}, LCg.Off1 D l → ∀ p ∈ l, p.1 ≠ D
  | [], _, _, h => nomatch h
  | _ :: _, x, p, h => by
    rcases List.mem_cons.mp h with rfl | h
    · exact x.1
    · exact off1_mem x.2 p h
end
section
open PySem PySem.W PyProof.Rows PySem.Calls
local macro_rules | `(tactic| units_room) => `(tactic| exact ltG ‹_ + _ < cLine› (Nat.le_refl (_ + 3)) (by decide))
section
open PySem PySem.W PyProof.Rows PySem.Calls

structure PenOk (b h : Heap) (pen P : Addr) : Prop where
  ex : ∃ (vs : List Value) (xs : List Int) (n c : Int) (tn tc : Tok) (ep ep2 : Nat), h.get? pen = some (W.listOf #[.ref P, .int n tn, .int c tc] ep) ∧ h.get? P = some (W.listOf vs.toArray ep2) ∧ IntsAre vs xs ∧ xs.length ≤ 64
  b1 : b.get? pen = none
  b2 : b.get? P = none
  ne : @Ne Nat pen P

theorem fillk2 (w : World) : Hd.heap_39 w.params = Hd.heap_39 w.params ∧ PySem.Challenge.rw_pb0163_01 = PySem.Challenge.rw_pb0163_01 := by k_fill; exact ⟨rfl, rfl⟩

theorem pop0 {prog : Program} {w : World} {A : Around} {E : Value → Shared → Prop} {s : Shared} {h₀ : Heap} {L D : Addr} {m : Str → Option Value} {news news' : List (Addr × Obj)} {n : Nat} {v : Value} {rest : List Value} {u : Tok} {Q : Value → Shared → Prop}
  (F : Fr h₀ L s.heap m) (N : News h₀ L s.heap news) (U : Upd D (W.listOf (v :: rest).toArray n) (W.listOf rest.toArray (n + 1)) news news') (hz : rest.length ≤ 1000)
  (h : ∀ h', Fr h₀ L h' m → News h₀ L h' news' → Q v { s with heap := h' }) : wpAny (model prog w) A (call (.builtin "list.pop") [.ref D, .int 0 u]) Q E s :=
  kl_popAt (k := 0) (p := []) (q := rest) F N rfl (by simp [seqIndex?]) rfl U (by simp; rw [sizeLine_eq]; omega) h

theorem penMk {b h : Heap} {pen P : Addr} {vs : List Value} {xs : List Int} {n c : Int} {tn tc : Tok} {ep ep2 : Nat} (h1 : h.get? pen = some (W.listOf #[.ref P, .int n tn, .int c tc] ep)) (h2 : h.get? P = some (W.listOf vs.toArray ep2))
  (hi : IntsAre vs xs) (hl : xs.length ≤ 64) (b1 : b.get? pen = none) (b2 : b.get? P = none) (hne : pen ≠ P) : PenOk b h pen P := ⟨⟨vs, xs, n, c, tn, tc, ep, ep2, h1, h2, hi, hl⟩, b1, b2, hne⟩
theorem penEl {b h : Heap} {pen P : Addr} {C : Prop} (p : PenOk b h pen P) (k : ∀ (vs : List Value) (xs : List Int) (n c : Int) (tn tc : Tok) (ep ep2 : Nat), h.get? pen = some (W.listOf #[.ref P, .int n tn, .int c tc] ep) → h.get? P = some (W.listOf vs.toArray ep2) →
  IntsAre vs xs → xs.length ≤ 64 → b.get? pen = none → b.get? P = none → pen ≠ P → C) : C := by
  obtain ⟨⟨vs, xs, n, c, tn, tc, ep, ep2, h1, h2, hi, hl⟩, b1, b2, hne⟩ := p
  exact k vs xs n c tn tc ep ep2 h1 h2 hi hl b1 b2 hne
theorem draw_ok {w : World} {mg mb : Str → Option Value} {A : Around} {s : Shared} {b : Heap} {Q E : Value → Shared → Prop} {pen P : Addr} {many : Int} {tm : Tok}
  (G : Gnd w mg mb b) (hb : ∀ a o, b.get? a = some o → s.heap.get? a = some o) (hA : A.handled = none) (hdp : A.depth + 1 < recursionLimit) (hun : A.units + 400 < cLine)
  (hm : 0 < many) (hm2 : many ≤ 64) (hp : PenOk b s.heap pen P)
  (hret : ∀ (d : Int) (t : Tok) (h' : Heap) (tk' : Nat), 0 ≤ d → d < many → PenOk b h' pen P → Kp [pen, P] s.heap h' → Q (.int d t) { s with heap := h', toks := tk' }) :
  wpAny (model PySem.Challenge.rw_pb0163_01.row.prog w) A (call (.ref 182) [.ref pen, .int many tm]) Q E s := by
  obtain ⟨_, dp, fr, gd, un⟩ := A
  obtain rfl := hA
  obtain ⟨⟨vs, xs, n, c, tn, tc, ep, ep2, h1, h2, hi, hlen⟩, b1, b2, hne⟩ := hp
  refine wpAny_call ?_
  k_dflt (refine' enterP (fp := [(pen, W.listOf #[.ref P, .int n tn, .int c tc] ep), (P, W.listOf vs.toArray ep2)]) G hb (by simp [h1, h2, b1, b2]) ?ho ?hcd (by dsimp only at hdp ⊢; omega) ?hbind ?hloc ?_ ?hco ?hgen ?hk ?hcell; (case ho => k_is); (case hcd => k_is); (case hbind => exact BindsTo.of_eq rfl); (case hcell => decide); (case hloc => exact locs rfl); (case hco => exact rfl); (case hgen => exact rfl); (case hk => exact rfl))
  intro g L h₁ F N Gg up dn
  have X := Gg.X
  have T := Gg.T
  dsimp only
  try k_unmd
  k_fold
  refine baseK2 (Str.ofString "pen") (.ref pen) (Str.ofString "many") (.int many tm) F (by rfl) (by rfl) ?_
  clear F
  intro mB F
  refine genToks ?_
  intro tkB
  dsimp only
  refine exec1 (viaQ ?_)
  intro R hR
  k_steps
  refine hR _ _ (HoldP.mk ?_)
  clear R hR
  rename Fr _ _ _ _ => Fa
  rename News _ _ _ _ => Na
  clear F N
  refine exec1 (wpAny_mono (Q := fun f s' => HoldP (f = .next ∧ ∃ (h' : Heap) (tk' : Nat) (vs : List Value) (xs : List Int) (c : Int) (tc : Tok) (ep ep2 : Nat), s' = { s with heap := h', toks := tk' } ∧ IntsAre vs xs ∧ xs.length ≤ 64 ∧
      Fr g L h' (fun y => if y = Str.ofString "pen" then some (.ref pen) else if y = Str.ofString "many" then some (.int many tm) else mB y) ∧
      News g L h' [(pen, W.listOf #[.ref P, .int (n + 1) (tkB + 1 + 1), .int c tc] ep), (P, W.listOf vs.toArray ep2)])) ?_ (fun f s' x => ?_) (fun _ _ e => e))
  · refine viaQ ?_
    intro R hR
    cases hi with
    | nil =>
      k_steps
      all_goals first
        | (exfalso; simp_all; done)
        | (rename Fr _ _ _ _ => Fz; rename News _ _ _ _ => Nz
           first | exact hR _ _ (HoldP.mk ⟨rfl, exi8 _ _ _ _ _ _ _ _ ⟨rfl, .nil, by simp, Fz, Nz⟩⟩) | exact hR _ _ (HoldP.mk ⟨rfl, exi8 _ _ _ _ _ _ _ _ ⟨rfl, .nil, by simp, Fz, news_sub Nz fun _ h => List.Mem.tail _ h⟩⟩))
    | cons k t r =>
      k_steps
      rotate_left
      · k_dflt (refine' pop0 ?F ?N ?U ?z ?_; (case F => k_asm); (case N => k_asm); (case U => k_upd); (case z => (have hl9 := r.length; simp at hlen ⊢; omega)))
        intro h' F' N'
        k_steps
        rename Fr _ _ _ _ => Fz; rename News _ _ _ _ => Nz
        first | exact hR _ _ (HoldP.mk ⟨rfl, exi8 _ _ _ _ _ _ _ _ ⟨rfl, r, by simp at hlen; omega, Fz, Nz⟩⟩) | exact hR _ _ (HoldP.mk ⟨rfl, exi8 _ _ _ _ _ _ _ _ ⟨rfl, r, by simp at hlen; omega, Fz, news_sub Nz fun _ h => List.Mem.tail _ h⟩⟩)
      all_goals
        rename Fr _ _ _ _ => Fz; rename News _ _ _ _ => Nz
        first | exact hR _ _ (HoldP.mk ⟨rfl, exi8 _ _ _ _ _ _ _ _ ⟨rfl, .cons k t r, hlen, Fz, Nz⟩⟩) | exact hR _ _ (HoldP.mk ⟨rfl, exi8 _ _ _ _ _ _ _ _ ⟨rfl, .cons k t r, hlen, Fz, news_sub Nz fun _ h => List.Mem.tail _ h⟩⟩)
  · have q0 := x.out
    refine ex8 q0.2 ?_
    intro h' tk' vs xs c tc ep ep2 q1
    refine an5 q1 ?_
    intro e0 hi hlen Fb Nb
    have e1 := q0.1
    clear q1 q0
    subst e1
    subst e0
    refine HoldP.mk ?_
    clear Fa Na x
    refine exec1 (viaQ ?_)
    intro R hR
    k_steps
    refine hR _ _ (HoldP.mk ?_)
    clear R hR
    refine exec1 (viaQ ?_)
    intro R hR
    k_steps
    refine hR _ _ (HoldP.mk ?_)
    clear R hR
    refine viaQ ?_
    intro R hR
    k_steps
    refine hR _ _ ?_
    clear R hR
    rename Fr _ _ _ _ => Fz
    rename News _ _ _ _ => Nz
    exact hret _ _ _ _ (fmod_lo _ hm) (fmod_hi _ hm) (penMk (Nz.get (a := pen) (by k_mem)) (Nz.get (a := P) (by k_mem)) hi hlen b1 b2 hne) (fun a o e q => Fz.keep _ _ (up a o e (by first | exact q | simpa using q)))
end
section
open PySem PySem.W PyProof.Rows PySem.Calls


/-- A draw, seen by a caller with a ledger. -/
theorem draw_N {w : World} {mg mb : Str → Option Value} {A : Around} {s : Shared} {Q E : Value → Shared → Prop} {pen P : Addr} {many : Int} {tm : Tok}
  {g : Heap} {L : Addr} {m : Str → Option Value} {news : List (Addr × Obj)} {vs : List Value} {xs : List Int} {n c : Int} {tn tc : Tok} {ep ep2 : Nat} (rest : List (Addr × Obj))
  (G : Gnd w mg mb g) (F : Fr g L s.heap m) (N : News g L s.heap news) (m1 : (pen, W.listOf #[.ref P, .int n tn, .int c tc] ep) ∈ news) (m2 : (P, W.listOf vs.toArray ep2) ∈ news) (hi : IntsAre vs xs) (hl : xs.length ≤ 64) (hne : @Ne Nat pen P)
  (hr : ∀ p ∈ rest, p ∈ news ∧ p.1 ≠ pen ∧ p.1 ≠ P)
  (hA : A.handled = none) (hdp : A.depth + 1 < recursionLimit) (hun : A.units + 400 < cLine) (hm : 0 < many) (hm2 : many ≤ 64)
  (hret : ∀ (d : Int) (t : Tok) (h' : Heap) (tk' : Nat) (vs : List Value) (xs : List Int) (n c : Int) (tn tc : Tok) (ep ep2 : Nat), 0 ≤ d → d < many → IntsAre vs xs → xs.length ≤ 64 → Fr g L h' m →
    News g L h' ((pen, W.listOf #[.ref P, .int n tn, .int c tc] ep) :: (P, W.listOf vs.toArray ep2) :: rest) → Q (.int d t) { s with heap := h', toks := tk' }) :
  wpAny (model PySem.Challenge.rw_pb0163_01.row.prog w) A (call (.ref 182) [.ref pen, .int many tm]) Q E s := by
  refine draw_ok G F.keep hA hdp hun hm hm2 (penMk (vs := vs) (xs := xs) (n := n) (c := c) (tn := tn) (tc := tc) (ep := ep) (ep2 := ep2) (N.get m1) (N.get m2) hi hl (N.fresh m1) (N.fresh m2) hne) ?_
  rintro d t h' tk' h0 h1 ⟨⟨vs', xs', n', c', tn', tc', ep', ep2', e1, e2, hi', hl'⟩, b1, b2, _⟩ k
  have hD : ∀ d ∈ [pen, P], g.get? d = none ∧ d ≠ L := by
    intro d hd
    simp only [List.mem_cons, List.not_mem_nil, or_false] at hd
    rcases hd with rfl | rfl
    · exact ⟨b1, (N _ m1).2.1⟩
    · exact ⟨b2, (N _ m2).2.1⟩
  refine hret d t h' tk' vs' xs' n' c' tn' tc' ep' ep2' h0 h1 hi' hl' (fr_kp F k hD) ?_
  have N' : News g L h' rest := news_kp (fun p hp => N p (hr p hp).1) k (fun p hp q => by
    simp only [List.mem_cons, List.not_mem_nil, or_false] at q
    rcases q with q | q
    · exact (hr p hp).2.1 q
    · exact (hr p hp).2.2 q)
  intro p hp
  rcases List.mem_cons.mp hp with rfl | hp
  · exact ⟨e1, (N _ m1).2.1, b1⟩
  rcases List.mem_cons.mp hp with rfl | hp
  · exact ⟨e2, (N _ m2).2.1, b2⟩
  exact N' p hp

theorem pick_ok {w : World} {mg mb : Str → Option Value} {A : Around} {s : Shared} {b : Heap} {Q E : Value → Shared → Prop} {pen P so : Addr} {ws : List Value} {es : Nat}
  (G : Gnd w mg mb b) (hb : ∀ a o, b.get? a = some o → s.heap.get? a = some o) (hA : A.handled = none) (hdp : A.depth + 2 < recursionLimit) (hun : A.units + 420 < cLine)
  (hp : PenOk b s.heap pen P) (hso : s.heap.get? so = some (W.listOf ws.toArray es)) (bso : b.get? so = none) (ne1 : @Ne Nat so pen) (ne2 : @Ne Nat so P) (hw : 0 < ws.length) (hw2 : ws.length ≤ 64)
  (hret : ∀ (v : Value) (h' : Heap) (tk' : Nat), v ∈ ws → PenOk b h' pen P → Kp [pen, P] s.heap h' → Q v { s with heap := h', toks := tk' }) :
  wpAny (model PySem.Challenge.rw_pb0163_01.row.prog w) A (call (.ref 189) [.ref pen, .ref so]) Q E s := by
  obtain ⟨_, dp, fr, gd, un⟩ := A
  obtain rfl := hA
  refine penEl hp ?_
  intro vs xs n c tn tc ep ep2 h1 h2 hi hlen b1 b2 hne
  refine wpAny_call ?_
  k_dflt (refine' enterP (fp := [(so, W.listOf ws.toArray es), (pen, W.listOf #[.ref P, .int n tn, .int c tc] ep), (P, W.listOf vs.toArray ep2)]) G hb (by simp [h1, h2, b1, b2, hso, bso]) ?ho ?hcd (by dsimp only at hdp ⊢; omega) ?hbind ?hloc ?_ ?hco ?hgen ?hk ?hcell; (case ho => k_is); (case hcd => k_is); (case hbind => exact BindsTo.of_eq rfl); (case hcell => decide); (case hloc => exact locs rfl); (case hco => exact rfl); (case hgen => exact rfl); (case hk => exact rfl))
  intro g L h₁ F N Gg up dn
  have X := Gg.X
  have T := Gg.T
  dsimp only
  try k_unmd
  k_fold
  refine baseK2 (Str.ofString "pen") (.ref pen) (Str.ofString "some") (.ref so) F (by rfl) (by rfl) ?_
  clear F
  intro mB F
  k_steps
  refine Calls.call_len_list (N.isList (by k_mem)) (by simp; omega) ?_
  k_steps
  refine draw_N [(so, W.listOf ws.toArray es)] Gg F N (pen := pen) (P := P) (by k_mem) (by k_mem) hi hlen hne (by simp [ne1, ne2]) rfl (ltG hdp (Nat.le_refl (dp + 1)) (by decide)) (ltG hun (Nat.le_refl (un + 3)) (by decide)) (by simp; omega) (by simp; omega) ?_
  intro d t h' tk' vs' xs' n' c' tn' tc' ep' ep2' h0 h1 hi' hl' F' N'
  have hd : d.toNat < ws.length := by simp at h1; omega
  refine item_list (N'.isList (by k_mem)) h0 (by simp at h1; omega) (x := ws[d.toNat]) (by simp [hd]) ?_ (by with_unfolding_all rfl) (by intro _; with_unfolding_all rfl)
  refine hret _ _ _ (List.getElem_mem hd) (penMk  (N'.get (a := pen) (by k_mem)) (N'.get (a := P) (by k_mem)) hi' hl' b1 b2 hne) (fun a o e q => ?_)
  by_cases hq : a = so
  · subst hq
    rw [hso] at e; cases e
    exact N'.get (by k_mem)
  · exact F'.keep _ _ (up a o e (by simpa [hq] using q))
end
section
open PySem PySem.W PyProof.Rows PySem.Calls


theorem numbers_ok {w : World} {mg mb : Str → Option Value} {A : Around} {s : Shared} {b : Heap} {Q E : Value → Shared → Prop} {pen P : Addr} {most : Int} {tm : Tok}
  (G : Gnd w mg mb b) (hb : ∀ a o, b.get? a = some o → s.heap.get? a = some o) (hA : A.handled = none) (hdp : A.depth + 2 < recursionLimit) (hun : A.units + 420 < cLine)
  (hp : PenOk b s.heap pen P) (hm : 0 < most) (hm2 : most ≤ 64)
  (hret : ∀ (D : Addr) (ys : List Value) (ns : List Int) (h' : Heap) (tk' : Nat), IntsAre ys ns → ns.length ≤ 4 → (∀ n ∈ ns, 0 ≤ n ∧ n < most) → h'.get? D = some (LCg.lst ys) → s.heap.get? D = none → PenOk b h' pen P → Kp [pen, P] s.heap h' → Q (.ref D) { s with heap := h', toks := tk' }) :
  wpAny (model PySem.Challenge.rw_pb0163_01.row.prog w) A (call (.ref 194) [.ref pen, .int most tm]) Q E s := by
  obtain ⟨_, dp, fr, gd, un⟩ := A
  obtain rfl := hA
  refine penEl hp ?_
  intro vs xs n c tn tc ep ep2 h1 h2 hi hlen b1 b2 hne
  refine wpAny_call ?_
  k_dflt (refine' enterC (fp := [(pen, W.listOf #[.ref P, .int n tn, .int c tc] ep), (P, W.listOf vs.toArray ep2)]) G hb (by simp [h1, h2, b1, b2]) ?ho ?hcd (by dsimp only at hdp ⊢; omega) ?hbind ?hkind ?hnd ?_ ?hco ?hgen ?hk; (case ho => k_is); (case hcd => k_is); (case hbind => exact BindsTo.of_eq rfl); (case hkind => exact rfl); (case hnd => decide +kernel); (case hco => exact rfl); (case hgen => exact rfl); (case hk => exact rfl))
  intro g L h₁ tk cells F N Y Gg up dn lt
  refine nameGoal ?_
  intro kG3 hG3
  obtain ⟨o1, o2, hE, d1, d2⟩ := CellsAre.two Y
  refine hG3 ?_
  clear hG3 kG3
  subst hE
  clear Y
  have d1 : o1.data = .cell (some (.int most tm)) := d1
  have d2 : o2.data = .cell (some (.ref pen)) := d2
  simp only [List.cons_append, List.nil_append] at N
  have X := Gg.X
  have T := Gg.T
  dsimp only
  try k_unmd
  k_fold
  refine genMap F ?_
  clear F
  intro mB F
  refine wpAny_execs_cons (wpAny_Return_some ?_)
  with_unfolding_all refine LCg.ListComp_U F (by rfl) (by decide) (by rfl) (by decide) (by rfl) ?_
  refine hold ?_
  k_steps
  have lp : @LT.lt Nat _ pen L := lt _ _ h1
  have lP : @LT.lt Nat _ P L := lt _ _ h2
  refine draw_N [(L + 1 + 1, o1), (L + 1, o2)] Gg F N (pen := pen) (P := P) (by k_mem) (by k_mem) hi hlen hne ?_ rfl (ltG hdp (Nat.le_refl (dp + 1)) (by decide)) (ltG hun (Nat.le_refl (un + 3)) (by decide)) (by first | exact Nat.le_trans (by assumption) (by decide) | omega) (by first | exact Nat.le_trans (by assumption) (by decide) | omega) ?_
  · exact allCons ⟨by k_mem, neA (Nat.ne_of_gt (Nat.lt_succ_of_lt (Nat.lt_succ_of_lt lp))), neA (Nat.ne_of_gt (Nat.lt_succ_of_lt (Nat.lt_succ_of_lt lP)))⟩ (allCons ⟨by k_mem, neA (Nat.ne_of_gt (Nat.lt_succ_of_lt lp)), neA (Nat.ne_of_gt (Nat.lt_succ_of_lt lP))⟩ allNil)
  clear N F hi hlen
  intro d t h' tk' vs' xs' n' c' tn' tc' ep' ep2' h0 h1 hi' hl' F' N'
  k_steps
  rename Fr _ _ _ _ => F2
  rename News _ _ _ _ => N2
  rename IsRange _ _ _ _ _ _ _ _ => hr
  refine HoldP.mk ?_
  obtain ⟨r1, r2⟩ := range_ok h0 (by first | exact Nat.le_trans (by assumption) (by decide) | omega)
  refine LCg.CompSrc.range (n := d.toNat) rfl F2 N2 hr r1 r2 (by rw [sizeLine_eq]; omega) ?_
  intro gg
  refine rest_inv (fun i ys nw => ∃ (vs : List Value) (xs : List Int) (n c : Int) (tn tc : Tok) (ep ep2 : Nat) (ns : List Int), nw = [(pen, W.listOf #[.ref P, .int n tn, .int c tc] ep), (P, W.listOf vs.toArray ep2), (L + 1 + 1, o1), (L + 1, o2)] ∧
    IntsAre vs xs ∧ xs.length ≤ 64 ∧ IntsAre ys ns ∧ ns.length = i ∧ ∀ n ∈ ns, 0 ≤ n ∧ n < most) (exi9 _ _ _ _ _ _ _ _ [] ⟨rfl, hi', hl', .nil, rfl, by simp⟩) ?_ ?_
  · intro i v I oI C oC D m₂ ys nw h tk3 E' hlt hv hZ4i
    refine ex9 (hZ4i) ?_
    intro vs xs n c tn tc ep ep2 ns hZ4
    refine an6 hZ4 ?_
    clear hZ4 hZ4i
    intro hZ4e0 hi hl hy hn hall
    intro hC hx F3 N3 off ne
    rw [hZ4e0] at N3 off
    clear hZ4e0
    try k_fold
    clear F2 N2 hr hi' hl'
    k_steps
    rename Fr _ _ _ _ => F4
    have off' := off
    simp only [LCg.Off3] at off'
    refine draw_N [(I, oI), (C, oC), (D, LCg.lst ys), (L + 1 + 1, o1), (L + 1, o2)] Gg F4 N3 (pen := pen) (P := P) (by k_mem) (by k_mem) hi hl hne ?_ rfl (ltG hdp (Nat.le_refl (dp + 1)) (by decide)) (ltG hun (Nat.le_refl (un + 3)) (by decide)) hm hm2 ?_
    · exact allCons ⟨by k_mem, neA (Ne.symm off'.1.1), neA (Ne.symm off'.2.1.1)⟩ (allCons ⟨by k_mem, neA (Ne.symm off'.1.2.1), neA (Ne.symm off'.2.1.2.1)⟩ (allCons ⟨by k_mem, neA (Ne.symm off'.1.2.2), neA (Ne.symm off'.2.1.2.2)⟩
        (allCons ⟨by k_mem, neA (Nat.ne_of_gt (Nat.lt_succ_of_lt (Nat.lt_succ_of_lt lp))), neA (Nat.ne_of_gt (Nat.lt_succ_of_lt (Nat.lt_succ_of_lt lP)))⟩ (allCons ⟨by k_mem, neA (Nat.ne_of_gt (Nat.lt_succ_of_lt lp)), neA (Nat.ne_of_gt (Nat.lt_succ_of_lt lP))⟩ allNil))))
    intro d t h' tk' vs' xs' n' c' tn' tc' ep' ep2' h0 h1 hi' hl' F' N'
    refine LCg.CompEnd.intro F' N' [(pen, W.listOf #[.ref P, .int n' tn', .int c' tc'] ep'), (P, W.listOf vs'.toArray ep2'), (L + 1 + 1, o1), (L + 1, o2)] ?_ ?_ trivial (exi9 vs' xs' n' c' tn' tc' ep' ep2' (ns ++ [d]) ⟨rfl, hi', hl', IntsAre.append hy (.cons d t .nil), by simp [hn], ?_⟩)
    · intro p hp
      (revert hp; revert p; (repeat' (first | refine subCons ?_ ?_ | refine subApp ?_ ?_ | exact subNil | exact List.Mem.head _ | refine List.mem_cons_of_mem _ ?_ | (intro pS hS; (repeat (first | exact hS | exact List.mem_append_left _ hS | exact List.mem_append_left _ (List.mem_append_left _ hS) | exact List.mem_append_left _ (List.mem_append_right _ hS) | refine List.mem_cons_of_mem _ ?_ | refine List.mem_append_right _ ?_)); done) | refine List.mem_append_right _ ?_)))
    · exact off
    · intro k hk
      rcases List.mem_append.mp hk with hk | hk
      · exact hall k hk
      · rw [List.mem_singleton.mp hk]; exact ⟨h0, h1⟩
  · intro ys nw hZ5i
    refine ex9 (hZ5i) ?_
    intro vs xs n c tn tc ep ep2 ns hZ5
    refine an6 hZ5 ?_
    clear hZ5 hZ5i
    intro hZ5e0 hi hl hy hn hall
    intro D h tk2 F3 N3 off
    rw [hZ5e0] at N3 off
    clear hZ5e0
    try k_fold
    simp only [LCg.Off1] at off
    refine hret D ys ns _ _ hy (by clear off; omega) hall (N3.get (by k_mem)) (fresh_of up (N3.fresh (by k_mem)) ?_) (penMk  (N3.get (a := pen) (by k_mem)) (N3.get (a := P) (by k_mem)) hi hl b1 b2 hne) (fun a o e q => F3.keep _ _ (up a o e (by first | exact q | simpa using q)))
    simp only [List.map_cons, List.map_nil, List.mem_cons, List.not_mem_nil, or_false, not_or]
    exact ⟨Ne.symm (neA off.1), Ne.symm (neA off.2.1)⟩
end
section
open PySem PySem.W PyProof.Rows PySem.Calls


theorem mk_obj {w : World} {mg mb : Str → Option Value} {A : Around} {s : Shared} {b : Heap} {Q E : Value → Shared → Prop} {rest : List Value} (C fI : Addr)
  (G : Gnd w mg mb b) (hb : ∀ a o, b.get? a = some o → s.heap.get? a = some o)
  (hm : makesIn (Hd.heap_39 w.params) C = true) (hi : findIn (Hd.heap_39 w.params) (.ref C) "__init__" = some (some (.ref fI))) (hf : isFn (Hd.heap_39 w.params) (.ref fI) = true)
  (h : ∀ x dx h2, h2.get? x = some (instObj C dx) → h2.get? dx = some emptyDict → (∀ a o, s.heap.get? a = some o → h2.get? a = some o) → s.heap.get? x = none → s.heap.get? dx = none → @Ne Nat x dx →
    codeAny (model PySem.Challenge.rw_pb0163_01.row.prog w) (A.under (.builtin "type.__call__" ⟨.ref C :: rest, []⟩)) (.call (.ref fI) ⟨.ref x :: rest, []⟩) (InitBack x fun r s' => match r with | .ok (.ret v) => Q v s' | .ok _ => False | .error e => E e s') { s with heap := h2 }) :
  wpAny (model PySem.Challenge.rw_pb0163_01.row.prog w) A (call (.ref C) rest) Q E s := by
  have X := (G.keeps hb).X
  refine wpAny_call ?_
  refine nameGoal ?_
  intro kG1 hG1
  obtain ⟨hh, g, d, t, os⟩ := s
  refine hG1 ?_
  clear hG1 kG1
  refine make_core (makes_of X hm) (looks_findIn X hi) (fun self => bind_fn X self (beq_iff_eq.mp hf)) (.inl rfl) ?_
  have nn : ∀ a, hh.objs.size ≤ a → hh.get? a = none := fun a ha => by
    cases e : hh.get? a with
    | none => rfl
    | some o => exact absurd (Heap.lt_size e) (Nat.not_lt.mpr ha)
  have hsz : (hh.push emptyDict).objs.size = hh.objs.size + 1 := Heap.size_push ..
  refine h (hh.objs.size + 1) hh.objs.size _ ?_ (Heap.get?_push_of_some _ (Heap.get?_push_size _ rfl)) (fun a o e => Heap.get?_push_of_some _ (Heap.get?_push_of_some _ e)) (nn _ (Nat.le_succ _)) (nn _ (Nat.le_refl _)) (Nat.succ_ne_self _)
  rw [← hsz]
  exact Heap.get?_push_size _ rfl

abbrev lsDict (w : World) (k1 k2 : Tok) (r : Int) (t1 : Tok) (l : Addr) : Obj :=
  dictOf [⟨PyData.keyHash w.params (Str.ofString "required"), .str (Str.ofString "required") k1, .int r t1⟩, ⟨PyData.keyHash w.params (Str.ofString "features"), .str (Str.ofString "features") k2, .ref l⟩] 2

/-- A language's object: fresh over `b`. -/
def LSAt (w : World) (b h : Heap) (x : Addr) (r : Int) (fs : List Int) : Prop :=
  ∃ (dx l : Addr) (k1 k2 t1 : Tok) (vs : List Value) (e : Nat), h.get? x = some (instObj 38 dx) ∧ h.get? dx = some (lsDict w k1 k2 r t1 l) ∧ h.get? l = some (W.listOf vs.toArray e) ∧ IntsAre vs fs ∧
    b.get? x = none ∧ b.get? dx = none ∧ b.get? l = none

theorem lsatK {w : World} {b h : Heap} {x : Addr} {r : Int} {fs : List Int} {C : Prop} (p : LSAt w b h x r fs)
    (c : ∀ (dx l : Addr) (k1 k2 t1 : Tok) (vs : List Value) (e : Nat), h.get? x = some (instObj 38 dx) → h.get? dx = some (lsDict w k1 k2 r t1 l) → h.get? l = some (W.listOf vs.toArray e) → IntsAre vs fs →
      b.get? x = none → b.get? dx = none → b.get? l = none → C) : C := by
  obtain ⟨dx, l, k1, k2, t1, vs, e, a1, a2, a3, a4, a5, a6, a7⟩ := p
  exact c dx l k1 k2 t1 vs e a1 a2 a3 a4 a5 a6 a7
theorem LSAt.base {w : World} {b b' h : Heap} {x : Addr} {r : Int} {fs : List Int} (p : LSAt w b' h x r fs) (k : Dom b b') : LSAt w b h x r fs := by
  refine lsatK p ?_
  intro dx l k1 k2 t1 vs e a1 a2 a3 a4 c1 c2 c3
  exact (exi7 dx l k1 k2 t1 vs e ⟨a1, a2, a3, a4, k _ c1, k _ c2, k _ c3⟩)
theorem LSAt.kp {w : World} {b h h' : Heap} {x : Addr} {r : Int} {fs : List Int} {D : List Addr} (p : LSAt w b h x r fs) (k : Kp D h h') (hD : ∀ d ∈ D, (b.get? d).isSome = true) : LSAt w b h' x r fs := by
  refine lsatK p ?_
  intro dx l k1 k2 t1 vs e a1 a2 a3 a4 c1 c2 c3
  have n : ∀ a, b.get? a = none → a ∉ D := fun a q hm => by have := hD a hm; rw [q] at this; cases this
  exact (exi7 dx l k1 k2 t1 vs e ⟨k _ _ a1 (n _ c1), k _ _ a2 (n _ c2), k _ _ a3 (n _ c3), a4, c1, c2, c3⟩)

theorem ls_init {w : World} {mg mb : Str → Option Value} {A : Around} {s : Shared} {b : Heap} {R : Result → Shared → Prop} {x dx l : Addr} {r : Int} {tr : Tok} {vs : List Value} {fs : List Int} {e : Nat}
  (G : Gnd w mg mb b) (hb : ∀ a o, b.get? a = some o → s.heap.get? a = some o) (hA : A.handled = none) (hdp : A.depth + 1 < recursionLimit) (hun : A.units + 400 < cLine)
  (hx : s.heap.get? x = some (instObj 38 dx)) (hdx : s.heap.get? dx = some emptyDict) (hl : s.heap.get? l = some (W.listOf vs.toArray e)) (bx : b.get? x = none) (bdx : b.get? dx = none) (bl : b.get? l = none)
  (n1 : @Ne Nat x dx) (n2 : @Ne Nat l dx) (n3 : @Ne Nat x l) (hi : IntsAre vs fs) (hz : fs.length ≤ 1000)
  (hret : ∀ (D : Addr) (c k1 k2 : Nat) (h' : Heap) (tk : Nat), h'.get? x = some (instObj 38 dx) → h'.get? dx = some (lsDict w k1 k2 r tr D) → h'.get? D = some (W.listOf vs.toArray c) → s.heap.get? D = none → Kp [dx] s.heap h' →
    R (.ok (.ret .none)) { s with heap := h', toks := tk }) :
  codeAny (model PySem.Challenge.rw_pb0163_01.row.prog w) A (.call (.ref 28) ⟨[.ref x, .int r tr, .ref l], []⟩) R s := by
  obtain ⟨_, dp, fr, gd, un⟩ := A
  obtain rfl := hA
  k_dflt (refine' enterP (fp := [(x, instObj 38 dx), (dx, dictOf [] 0), (l, W.listOf vs.toArray e)]) G hb ?hfp ?ho ?hcd (by dsimp only at hdp ⊢; omega) ?hbind ?hloc ?_ ?hco ?hgen ?hk ?hcell; (case ho => k_is); (case hcd => k_is); (case hbind => exact BindsTo.of_eq rfl); (case hcell => decide); (case hloc => exact locs rfl); (case hco => exact rfl); (case hgen => exact rfl); (case hk => exact rfl))
  · simp only [List.forall_mem_cons, List.not_mem_nil, false_implies, implies_true, and_true]
    exact ⟨⟨hx, bx⟩, ⟨hdx, bdx⟩, hl, bl⟩
  intro g L h₁ F N Gg up dn
  have X := Gg.X
  have T := Gg.T
  dsimp only
  try k_unmd
  k_fold
  refine baseK3 (Str.ofString "self") (.ref x) (Str.ofString "required") (.int r tr) (Str.ofString "features") (.ref l) F (by rfl) (by rfl) (by rfl) ?_
  clear F
  intro mB F
  k_steps
  rename News _ _ _ _ => Nz
  rename Fr _ _ _ _ => Fz
  rename (_ ∧ _) => l1
  refine hret _ _ _ _ _ _ (Nz.get (a := x) (by k_mem)) (Nz.get (a := dx) (by k_mem)) (Nz.get (List.Mem.head _)) (fresh_of up (Nz.fresh (List.Mem.head _)) ?_) (fun a o e q => ?_)
  · simp only [List.map_cons, List.map_nil, List.mem_cons, List.not_mem_nil, or_false, not_or]
    refine ⟨neA ?_, neA ?_, neA ?_⟩ <;> (obtain ⟨q1, q2, q3⟩ := l1; omega)
  · by_cases h1 : a = x
    · subst h1; rw [hx] at e; cases e; exact Nz.get (by k_mem)
    by_cases h2 : a = l
    · subst h2; rw [hl] at e; cases e; exact Nz.get (by k_mem)
    exact Fz.keep _ _ (up a o e (by simpa [h1, h2] using q))

theorem ls_new {w : World} {mg mb : Str → Option Value} {A : Around} {s : Shared} {b : Heap} {Q E : Value → Shared → Prop} {l : Addr} {r : Int} {tr : Tok} {vs : List Value} {fs : List Int} {e : Nat}
  (G : Gnd w mg mb b) (hb : ∀ a o, b.get? a = some o → s.heap.get? a = some o) (hA : A.handled = none) (hdp : A.depth + 2 < recursionLimit) (hun : A.units + 410 < cLine)
  (hl : s.heap.get? l = some (W.listOf vs.toArray e)) (bl : b.get? l = none) (hi : IntsAre vs fs) (hz : fs.length ≤ 1000)
  (hret : ∀ (x : Addr) (h' : Heap) (tk : Nat), LSAt w s.heap h' x r fs → Kp [] s.heap h' → Q (.ref x) { s with heap := h', toks := tk }) :
  wpAny (model PySem.Challenge.rw_pb0163_01.row.prog w) A (call (.ref 38) [.int r tr, .ref l]) Q E s := by
  refine mk_obj 38 28 G hb (by k_is) (by k_is) (by k_is) ?_
  intro x dx h2 hx hdx k2 fx fdx n1
  have hlx : @Ne Nat l dx := fun q => by subst q; rw [hl] at fdx; cases fdx
  have hxl : @Ne Nat x l := fun q => by subst q; rw [hl] at fx; cases fx
  refine ls_init (s := { s with heap := h2 }) G (fun a o e => k2 _ _ (hb _ _ e)) hA (by rw [depth_under_make]; omega) (by rw [units_under_make]; omega) hx hdx (k2 _ _ hl) (none_of hb fx) (none_of hb fdx) bl n1 hlx hxl hi hz ?_
  intro D c k1 k3 h' tk e1 e2 e3 e4 kp
  refine ⟨rfl, hret x h' tk ⟨dx, D, k1, k3, tr, vs, c, e1, e2, e3, hi, fx, fdx, none_of k2 e4⟩ (fun a o e _ => kp _ _ (k2 _ _ e) ?_)⟩
  simp only [List.mem_singleton]
  intro q; subst q; rw [fdx] at e; cases e

theorem langsys_ok {w : World} {mg mb : Str → Option Value} {A : Around} {s : Shared} {b : Heap} {Q E : Value → Shared → Prop} {pen P : Addr}
  (G : Gnd w mg mb b) (hb : ∀ a o, b.get? a = some o → s.heap.get? a = some o) (hA : A.handled = none) (hdp : A.depth + 3 < recursionLimit) (hun : A.units + 440 < cLine)
  (hp : PenOk b s.heap pen P)
  (hret : ∀ (x : Addr) (r : Int) (fs : List Int) (h' : Heap) (tk' : Nat), LSAt w s.heap h' x r fs → -1 ≤ r → r ≤ 4 → fs.length ≤ 4 → (∀ n ∈ fs, 0 ≤ n ∧ n < 6) → PenOk b h' pen P → Kp [pen, P] s.heap h' → Q (.ref x) { s with heap := h', toks := tk' }) :
  wpAny (model PySem.Challenge.rw_pb0163_01.row.prog w) A (call (.ref 201) [.ref pen]) Q E s := by
  obtain ⟨_, dp, fr, gd, un⟩ := A
  obtain rfl := hA
  refine penEl hp ?_
  intro vs xs n c tn tc ep ep2 h1 h2 hi hlen b1 b2 hne
  refine wpAny_call ?_
  k_dflt (refine' enterP (fp := [(pen, W.listOf #[.ref P, .int n tn, .int c tc] ep), (P, W.listOf vs.toArray ep2)]) G hb (by simp [h1, h2, b1, b2]) ?ho ?hcd (by dsimp only at hdp ⊢; omega) ?hbind ?hloc ?_ ?hco ?hgen ?hk ?hcell; (case ho => k_is); (case hcd => k_is); (case hbind => exact BindsTo.of_eq rfl); (case hcell => decide); (case hloc => exact locs rfl); (case hco => exact rfl); (case hgen => exact rfl); (case hk => exact rfl))
  intro g L h₁ F N Gg up dn
  have X := Gg.X
  have T := Gg.T
  dsimp only
  try k_unmd
  k_fold
  refine baseK1 (Str.ofString "pen") (.ref pen) F (by rfl) ?_
  clear F
  intro mB F
  k_steps
  refine draw_N [] Gg F N (pen := pen) (P := P) (by k_mem) (by k_mem) hi hlen hne (by simp) rfl (ltG hdp (Nat.le_refl (dp + 1)) (by decide)) (ltG hun (Nat.le_refl (un + 3)) (by decide)) (by first | exact Nat.le_trans (by assumption) (by decide) | omega) (by first | exact Nat.le_trans (by assumption) (by decide) | omega) ?_
  clear F N hi hlen
  intro d t h' tk' vs' xs' n' c' tn' tc' ep' ep2' d0 d1 hi' hl' F1 N1
  k_steps
  refine numbers_ok Gg F1.keep rfl (ltG hdp (Nat.le_refl (dp + 1)) (by decide)) (ltG hun (Nat.le_refl (un + 3)) (by decide)) (penMk (vs := vs') (xs := xs') (n := n') (c := c') (tn := tn') (tc := tc') (ep := ep') (ep2 := ep2') (N1.get (by k_mem)) (N1.get (by k_mem)) hi' hl' (N1.fresh (List.Mem.head _)) (N1.fresh (List.Mem.tail _ (List.Mem.head _))) hne) (by first | exact Nat.le_trans (by assumption) (by decide) | omega) (by first | exact Nat.le_trans (by assumption) (by decide) | omega) ?_
  intro D ys ns h2 tk2 hys hns hall eD fD hp2 kp2
  refine penEl hp2 ?_
  intro vs2 xs2 n2 c2 tn2 tc2 ep2 ep22 p1 p2 hi2 hl2 _ _ _
  have hD : ∀ d ∈ [pen, P], g.get? d = none ∧ d ≠ L := by
    intro d hd
    simp only [List.mem_cons, List.not_mem_nil, or_false] at hd
    rcases hd with rfl | rfl
    · exact (N1 _ (List.Mem.head _)).2.symm
    · exact (N1 _ (List.Mem.tail _ (List.Mem.head _))).2.symm
  have hZ8 := led_kp [(D, LCg.lst ys), (pen, W.listOf #[.ref P, .int n2 tn2, .int c2 tc2] ep2), (P, W.listOf vs2.toArray ep22)] [] F1 N1 kp2 hD (by simp) (by
    intro p hp
    simp only [List.mem_cons, List.not_mem_nil, or_false] at hp
    rcases hp with rfl | rfl | rfl
    · exact ⟨eD, .inl fD⟩
    · exact ⟨p1, .inr (by simp)⟩
    · exact ⟨p2, .inr (by simp)⟩)
  have F2 := hZ8.1
  have N2 := hZ8.2
  clear hZ8
  rw [List.append_nil] at N2
  k_steps
  refine ls_new Gg F2.keep rfl (ltG hdp (Nat.le_refl (dp + 1)) (by decide)) (ltG hun (Nat.le_refl (un + 3)) (by decide)) (N2.get (List.Mem.head _)) (N2.fresh (List.Mem.head _)) hys (by first | exact Nat.le_trans (by assumption) (by decide) | omega) ?_
  intro x h3 tk3 hx kp3
  k_steps
  have g1 := N2.get (a := pen) (List.Mem.tail _ (List.Mem.head _))
  have g2 := N2.get (a := P) (List.Mem.tail _ (List.Mem.tail _ (List.Mem.head _)))
  have k12 : Kp [pen, P] s.heap h2 := fun a o e q => F2.keep _ _ (up a o e (by first | exact q | simpa using q))
  refine hret x (d - 1) ns _ _ (hx.base (k12.dom ?_)) (by first | exact Nat.le_trans (by assumption) (by decide) | omega) (by first | exact Nat.le_trans (by assumption) (by decide) | omega) hns hall (penMk  (kp3 _ _ g1 (by simp)) (kp3 _ _ g2 (by simp)) hi2 hl2 b1 b2 hne) (k12.trans kp3 (by simp))
  intro d hd
  simp only [List.mem_cons, List.not_mem_nil, or_false] at hd
  rcases hd with rfl | rfl
  · rw [g1]; rfl
  · rw [g2]; rfl
end
section
open PySem PySem.W PyProof.Rows PySem.Calls


abbrev ftDict (w : World) (k1 k2 : Tok) (tg : Str) (t1 : Tok) (l : Addr) : Obj :=
  dictOf [⟨PyData.keyHash w.params (Str.ofString "tag"), .str (Str.ofString "tag") k1, .str tg t1⟩, ⟨PyData.keyHash w.params (Str.ofString "lookups"), .str (Str.ofString "lookups") k2, .ref l⟩] 2

/-- A feature's object, its parts in a ledger. -/
def FTIn (w : World) (led : List (Addr × Obj)) (x : Addr) (tg : Str) (ls : List Int) : Prop :=
  ∃ (dx l : Addr) (k1 k2 t1 : Tok) (vs : List Value) (e : Nat), (x, instObj 92 dx) ∈ led ∧ (dx, ftDict w k1 k2 tg t1 l) ∈ led ∧ (l, W.listOf vs.toArray e) ∈ led ∧ IntsAre vs ls
theorem FTIn.mono {w : World} {led led' : List (Addr × Obj)} {x : Addr} {tg : Str} {ls : List Int} (p : FTIn w led x tg ls) (h : ∀ q ∈ led, q ∈ led') : FTIn w led' x tg ls := by
  obtain ⟨dx, l, k1, k2, t1, vs, e, a1, a2, a3, a4⟩ := p
  exact (exi7 dx l k1 k2 t1 vs e ⟨h _ a1, h _ a2, h _ a3, a4⟩)

theorem ft_init {w : World} {mg mb : Str → Option Value} {A : Around} {s : Shared} {b : Heap} {R : Result → Shared → Prop} {x dx l : Addr} {tg : Str} {tr : Tok} {vs : List Value} {fs : List Int} {e : Nat}
  (G : Gnd w mg mb b) (hb : ∀ a o, b.get? a = some o → s.heap.get? a = some o) (hA : A.handled = none) (hdp : A.depth + 1 < recursionLimit) (hun : A.units + 400 < cLine)
  (hx : s.heap.get? x = some (instObj 92 dx)) (hdx : s.heap.get? dx = some emptyDict) (hl : s.heap.get? l = some (W.listOf vs.toArray e)) (bx : b.get? x = none) (bdx : b.get? dx = none) (bl : b.get? l = none)
  (n1 : @Ne Nat x dx) (n2 : @Ne Nat l dx) (n3 : @Ne Nat x l) (hi : IntsAre vs fs) (hz : fs.length ≤ 1000)
  (hret : ∀ (D : Addr) (c k1 k2 : Nat) (h' : Heap) (tk : Nat), h'.get? x = some (instObj 92 dx) → h'.get? dx = some (ftDict w k1 k2 tg tr D) → h'.get? D = some (W.listOf vs.toArray c) → s.heap.get? D = none → Kp [dx] s.heap h' →
    R (.ok (.ret .none)) { s with heap := h', toks := tk }) :
  codeAny (model PySem.Challenge.rw_pb0163_01.row.prog w) A (.call (.ref 82) ⟨[.ref x, .str tg tr, .ref l], []⟩) R s := by
  obtain ⟨_, dp, fr, gd, un⟩ := A
  obtain rfl := hA
  k_dflt (refine' enterP (fp := [(x, instObj 92 dx), (dx, dictOf [] 0), (l, W.listOf vs.toArray e)]) G hb ?hfp ?ho ?hcd (by dsimp only at hdp ⊢; omega) ?hbind ?hloc ?_ ?hco ?hgen ?hk ?hcell; (case ho => k_is); (case hcd => k_is); (case hbind => exact BindsTo.of_eq rfl); (case hcell => decide); (case hloc => exact locs rfl); (case hco => exact rfl); (case hgen => exact rfl); (case hk => exact rfl))
  · simp only [List.forall_mem_cons, List.not_mem_nil, false_implies, implies_true, and_true]
    exact ⟨⟨hx, bx⟩, ⟨hdx, bdx⟩, hl, bl⟩
  intro g L h₁ F N Gg up dn
  have X := Gg.X
  have T := Gg.T
  dsimp only
  try k_unmd
  k_fold
  refine baseK3 (Str.ofString "self") (.ref x) (Str.ofString "tag") (.str tg tr) (Str.ofString "lookups") (.ref l) F (by rfl) (by rfl) (by rfl) ?_
  clear F
  intro mB F
  k_steps
  rename News _ _ _ _ => Nz
  rename Fr _ _ _ _ => Fz
  rename (_ ∧ _) => l1
  refine hret _ _ _ _ _ _ (Nz.get (a := x) (by k_mem)) (Nz.get (a := dx) (by k_mem)) (Nz.get (List.Mem.head _)) (fresh_of up (Nz.fresh (List.Mem.head _)) ?_) (fun a o e q => ?_)
  · simp only [List.map_cons, List.map_nil, List.mem_cons, List.not_mem_nil, or_false, not_or]
    refine ⟨neA ?_, neA ?_, neA ?_⟩ <;> (obtain ⟨q1, q2, q3⟩ := l1; omega)
  · by_cases h1 : a = x
    · subst h1; rw [hx] at e; cases e; exact Nz.get (by k_mem)
    by_cases h2 : a = l
    · subst h2; rw [hl] at e; cases e; exact Nz.get (by k_mem)
    exact Fz.keep _ _ (up a o e (by simpa [h1, h2] using q))

theorem ft_new {w : World} {mg mb : Str → Option Value} {A : Around} {s : Shared} {b : Heap} {Q E : Value → Shared → Prop} {l : Addr} {tg : Str} {tr : Tok} {vs : List Value} {fs : List Int} {e : Nat}
  (G : Gnd w mg mb b) (hb : ∀ a o, b.get? a = some o → s.heap.get? a = some o) (hA : A.handled = none) (hdp : A.depth + 2 < recursionLimit) (hun : A.units + 410 < cLine)
  (hl : s.heap.get? l = some (W.listOf vs.toArray e)) (bl : b.get? l = none) (hi : IntsAre vs fs) (hz : fs.length ≤ 1000)
  (hret : ∀ (x : Addr) (led : List (Addr × Obj)) (h' : Heap) (tk : Nat), FTIn w led x tg fs → (∀ p ∈ led, h'.get? p.1 = some p.2 ∧ s.heap.get? p.1 = none) → Kp [] s.heap h' → Q (.ref x) { s with heap := h', toks := tk }) :
  wpAny (model PySem.Challenge.rw_pb0163_01.row.prog w) A (call (.ref 92) [.str tg tr, .ref l]) Q E s := by
  refine mk_obj 92 82 G hb (by k_is) (by k_is) (by k_is) ?_
  intro x dx h2 hx hdx k2 fx fdx n1
  have hlx : @Ne Nat l dx := fun q => by subst q; rw [hl] at fdx; cases fdx
  have hxl : @Ne Nat x l := fun q => by subst q; rw [hl] at fx; cases fx
  refine ft_init (s := { s with heap := h2 }) G (fun a o e => k2 _ _ (hb _ _ e)) hA (by rw [depth_under_make]; omega) (by rw [units_under_make]; omega) hx hdx (k2 _ _ hl) (none_of hb fx) (none_of hb fdx) bl n1 hlx hxl hi hz ?_
  intro D c k1 k3 h' tk e1 e2 e3 e4 kp
  refine ⟨rfl, hret x [(x, instObj 92 dx), (dx, ftDict w k1 k3 tg tr D), (D, W.listOf vs.toArray c)] h' tk (exi7 dx D k1 k3 tr vs c ⟨List.Mem.head _, List.Mem.tail _ (List.Mem.head _), List.Mem.tail _ (List.Mem.tail _ (List.Mem.head _)), hi⟩) ?_ (fun a o e _ => kp _ _ (k2 _ _ e) ?_)⟩
  · exact allCons ⟨e1, fx⟩ (allCons ⟨e2, fdx⟩ (allCons ⟨e3, none_of k2 e4⟩ allNil))
  · simp only [List.mem_singleton]
    intro q; subst q; rw [fdx] at e; cases e
end
section
open PySem PySem.W PyProof.Rows PySem.Calls


theorem sc_init {w : World} {mg mb : Str → Option Value} {A : Around} {s : Shared} {b : Heap} {R : Result → Shared → Prop} {x dx : Addr} {tg : Str} {tr : Tok} {dv : Value} {lg : Addr}
  (G : Gnd w mg mb b) (hb : ∀ a o, b.get? a = some o → s.heap.get? a = some o) (hA : A.handled = none) (hdp : A.depth + 1 < recursionLimit)
  (hx : s.heap.get? x = some (instObj 64 dx)) (hdx : s.heap.get? dx = some emptyDict) (bx : b.get? x = none) (bdx : b.get? dx = none)
  (n1 : @Ne Nat x dx)
  (hret : ∀ (h' : Heap) (tk : Nat), h'.get? x = some (instObj 64 dx) → Kp [dx] s.heap h' → R (.ok (.ret .none)) { s with heap := h', toks := tk }) :
  codeAny (model PySem.Challenge.rw_pb0163_01.row.prog w) A (.call (.ref 56) ⟨[.ref x, .str tg tr, dv, .ref lg], []⟩) R s := by
  obtain ⟨_, dp, fr, gd, un⟩ := A
  obtain rfl := hA
  k_dflt (refine' enterP (fp := [(x, instObj 64 dx), (dx, dictOf [] 0)]) G hb ?hfp ?ho ?hcd (by dsimp only at hdp ⊢; omega) ?hbind ?hloc ?_ ?hco ?hgen ?hk ?hcell; (case ho => k_is); (case hcd => k_is); (case hbind => exact BindsTo.of_eq rfl); (case hcell => decide); (case hloc => exact locs rfl); (case hco => exact rfl); (case hgen => exact rfl); (case hk => exact rfl))
  · simp only [List.forall_mem_cons, List.not_mem_nil, false_implies, implies_true, and_true]
    exact ⟨⟨hx, bx⟩, hdx, bdx⟩
  intro g L h₁ F N Gg up dn
  have X := Gg.X
  have T := Gg.T
  dsimp only
  try k_unmd
  k_fold
  refine baseK4 (Str.ofString "self") (.ref x) (Str.ofString "tag") (.str tg tr) (Str.ofString "default") (dv) (Str.ofString "languages") (.ref lg) F (by rfl) (by rfl) (by rfl) (by rfl) ?_
  clear F
  intro mB F
  k_steps
  rename News _ _ _ _ => Nz
  rename Fr _ _ _ _ => Fz
  refine hret _ _ (Nz.get (a := x) (by k_mem)) (fun a o e q => ?_)
  by_cases h1 : a = x
  · subst h1; rw [hx] at e; cases e; exact Nz.get (by k_mem)
  exact Fz.keep _ _ (up a o e (by simpa [h1] using q))

theorem sc_new {w : World} {mg mb : Str → Option Value} {A : Around} {s : Shared} {b : Heap} {Q E : Value → Shared → Prop} {tg : Str} {tr : Tok} {dv : Value} {lg : Addr}
  (G : Gnd w mg mb b) (hb : ∀ a o, b.get? a = some o → s.heap.get? a = some o) (hA : A.handled = none) (hdp : A.depth + 2 < recursionLimit)
  (hret : ∀ (x : Addr) (h' : Heap) (tk : Nat), Kp [] s.heap h' → Q (.ref x) { s with heap := h', toks := tk }) :
  wpAny (model PySem.Challenge.rw_pb0163_01.row.prog w) A (call (.ref 64) [.str tg tr, dv, .ref lg]) Q E s := by
  refine mk_obj 64 56 G hb (by k_is) (by k_is) (by k_is) ?_
  intro x dx h2 hx hdx k2 fx fdx n1
  refine sc_init (s := { s with heap := h2 }) G (fun a o e => k2 _ _ (hb _ _ e)) hA (by rw [depth_under_make]; omega) hx hdx (none_of hb fx) (none_of hb fdx) n1 ?_
  intro h' tk e1 kp
  refine ⟨rfl, hret x h' tk (fun a o e _ => kp _ _ (k2 _ _ e) ?_)⟩
  simp only [List.mem_singleton]
  intro q; subst q; rw [fdx] at e; cases e

abbrev lyDict (w : World) (k1 k2 k3 : Tok) (sc fl ll : Addr) : Obj :=
  dictOf [⟨PyData.keyHash w.params (Str.ofString "scripts"), .str (Str.ofString "scripts") k1, .ref sc⟩, ⟨PyData.keyHash w.params (Str.ofString "features"), .str (Str.ofString "features") k2, .ref fl⟩, ⟨PyData.keyHash w.params (Str.ofString "lookups"), .str (Str.ofString "lookups") k3, .ref ll⟩] 3

theorem ly_init {w : World} {mg mb : Str → Option Value} {A : Around} {s : Shared} {b : Heap} {R : Result → Shared → Prop} {x dx sc fl ll : Addr}
  (G : Gnd w mg mb b) (hb : ∀ a o, b.get? a = some o → s.heap.get? a = some o) (hA : A.handled = none) (hdp : A.depth + 1 < recursionLimit)
  (hx : s.heap.get? x = some (instObj 118 dx)) (hdx : s.heap.get? dx = some emptyDict) (bx : b.get? x = none) (bdx : b.get? dx = none)
  (n1 : @Ne Nat x dx)
  (hret : ∀ (k1 k2 k3 : Nat) (h' : Heap) (tk : Nat), h'.get? x = some (instObj 118 dx) → h'.get? dx = some (lyDict w k1 k2 k3 sc fl ll) → Kp [dx] s.heap h' → R (.ok (.ret .none)) { s with heap := h', toks := tk }) :
  codeAny (model PySem.Challenge.rw_pb0163_01.row.prog w) A (.call (.ref 110) ⟨[.ref x, .ref sc, .ref fl, .ref ll], []⟩) R s := by
  obtain ⟨_, dp, fr, gd, un⟩ := A
  obtain rfl := hA
  k_dflt (refine' enterP (fp := [(x, instObj 118 dx), (dx, dictOf [] 0)]) G hb ?hfp ?ho ?hcd (by dsimp only at hdp ⊢; omega) ?hbind ?hloc ?_ ?hco ?hgen ?hk ?hcell; (case ho => k_is); (case hcd => k_is); (case hbind => exact BindsTo.of_eq rfl); (case hcell => decide); (case hloc => exact locs rfl); (case hco => exact rfl); (case hgen => exact rfl); (case hk => exact rfl))
  · simp only [List.forall_mem_cons, List.not_mem_nil, false_implies, implies_true, and_true]
    exact ⟨⟨hx, bx⟩, hdx, bdx⟩
  intro g L h₁ F N Gg up dn
  have X := Gg.X
  have T := Gg.T
  dsimp only
  try k_unmd
  k_fold
  refine baseK4 (Str.ofString "self") (.ref x) (Str.ofString "scripts") (.ref sc) (Str.ofString "features") (.ref fl) (Str.ofString "lookups") (.ref ll) F (by rfl) (by rfl) (by rfl) (by rfl) ?_
  clear F
  intro mB F
  k_steps
  rename News _ _ _ _ => Nz
  rename Fr _ _ _ _ => Fz
  refine hret _ _ _ _ _ (Nz.get (a := x) (by k_mem)) (Nz.get (a := dx) (by k_mem)) (fun a o e q => ?_)
  by_cases h1 : a = x
  · subst h1; rw [hx] at e; cases e; exact Nz.get (by k_mem)
  exact Fz.keep _ _ (up a o e (by simpa [h1] using q))

theorem ly_new {w : World} {mg mb : Str → Option Value} {A : Around} {s : Shared} {b : Heap} {Q E : Value → Shared → Prop} {sc fl ll : Addr}
  (G : Gnd w mg mb b) (hb : ∀ a o, b.get? a = some o → s.heap.get? a = some o) (hA : A.handled = none) (hdp : A.depth + 2 < recursionLimit)
  (hret : ∀ (x dx : Addr) (k1 k2 k3 : Nat) (h' : Heap) (tk : Nat), h'.get? x = some (instObj 118 dx) → h'.get? dx = some (lyDict w k1 k2 k3 sc fl ll) → s.heap.get? x = none → s.heap.get? dx = none → Kp [] s.heap h' → Q (.ref x) { s with heap := h', toks := tk }) :
  wpAny (model PySem.Challenge.rw_pb0163_01.row.prog w) A (call (.ref 118) [.ref sc, .ref fl, .ref ll]) Q E s := by
  refine mk_obj 118 110 G hb (by k_is) (by k_is) (by k_is) ?_
  intro x dx h2 hx hdx k2 fx fdx n1
  refine ly_init (s := { s with heap := h2 }) G (fun a o e => k2 _ _ (hb _ _ e)) hA (by rw [depth_under_make]; omega) hx hdx (none_of hb fx) (none_of hb fdx) n1 ?_
  intro k1 k3 k4 h' tk e1 e2 kp
  refine ⟨rfl, hret x dx k1 k3 k4 h' tk e1 e2 fx fdx (fun a o e _ => kp _ _ (k2 _ _ e) ?_)⟩
  simp only [List.mem_singleton]
  intro q; subst q; rw [fdx] at e; cases e
end
section
open PySem PySem.W PyProof.Rows PySem.Calls


def FtOk (ft : Str × List Int) : Prop := (ft.2.length ≤ 4 ∧ PyData.strOk ft.1 = true) ∧ ∀ n ∈ ft.2, 0 ≤ n ∧ n < 7
inductive FtsIn (w : World) (led : List (Addr × Obj)) : List Addr → List (Str × List Int) → Prop
  | nil : FtsIn w led [] []
  | cons {x : Addr} {ft : Str × List Int} {xs : List Addr} {fts : List (Str × List Int)} : FTIn w led x ft.1 ft.2 → FtsIn w led xs fts → FtsIn w led (x :: xs) (ft :: fts)

theorem FtsIn.mono {w : World} {led led' : List (Addr × Obj)} {xs : List Addr} {fts : List (Str × List Int)} (p : FtsIn w led xs fts) (h : ∀ q ∈ led, q ∈ led') : FtsIn w led' xs fts := by
  induction p with
  | nil => exact .nil
  | cons a _ ih => exact .cons (a.mono h) ih
theorem FtsIn.snoc {w : World} {led : List (Addr × Obj)} {xs : List Addr} {fts : List (Str × List Int)} {x : Addr} {ft : Str × List Int} (p : FtsIn w led xs fts) (q : FTIn w led x ft.1 ft.2) : FtsIn w led (xs ++ [x]) (fts ++ [ft]) := by
  induction p with
  | nil => exact .cons q .nil
  | cons a _ ih => exact .cons a ih
theorem FtsIn.length {w : World} {led : List (Addr × Obj)} {xs : List Addr} {fts : List (Str × List Int)} (p : FtsIn w led xs fts) : xs.length = fts.length := by
  induction p with
  | nil => rfl
  | cons _ _ ih => simp [ih]

def LayAt (w : World) (b h : Heap) (x : Addr) (fts : List (Str × List Int)) (nl : Nat) : Prop :=
  ∃ (dx sc fl ll : Addr) (k1 k2 k3 : Tok) (xs : List Addr) (led : List (Addr × Obj)) (e e' : Nat), h.get? x = some (instObj 118 dx) ∧ h.get? dx = some (lyDict w k1 k2 k3 sc fl ll) ∧
    h.get? fl = some (W.listOf (xs.map Value.ref).toArray e) ∧ h.get? ll = some (W.listOf (List.replicate nl Value.none).toArray e') ∧ FtsIn w led xs fts ∧ (∀ p ∈ led, h.get? p.1 = some p.2 ∧ b.get? p.1 = none) ∧
    b.get? x = none ∧ b.get? dx = none ∧ b.get? fl = none ∧ b.get? ll = none

theorem layatK {w : World} {b h : Heap} {x : Addr} {fts : List (Str × List Int)} {nl : Nat} {C : Prop} (p : LayAt w b h x fts nl)
    (c : ∀ (dx sc fl ll : Addr) (k1 k2 k3 : Tok) (xs : List Addr) (led : List (Addr × Obj)) (e e' : Nat), h.get? x = some (instObj 118 dx) → h.get? dx = some (lyDict w k1 k2 k3 sc fl ll) →
      h.get? fl = some (W.listOf (xs.map Value.ref).toArray e) → h.get? ll = some (W.listOf (List.replicate nl Value.none).toArray e') → FtsIn w led xs fts → (∀ p ∈ led, h.get? p.1 = some p.2 ∧ b.get? p.1 = none) →
      b.get? x = none → b.get? dx = none → b.get? fl = none → b.get? ll = none → C) : C := by
  obtain ⟨dx, sc, fl, ll, k1, k2, k3, xs, led, e, e', a1, a2, a3, a4, a5, a6, a7, a8, a9, a10⟩ := p
  exact c dx sc fl ll k1 k2 k3 xs led e e' a1 a2 a3 a4 a5 a6 a7 a8 a9 a10
theorem flat1 {α : Type} (v : α) : ∀ n : Nat, (List.replicate n [v]).flatten = List.replicate n v
  | 0 => rfl
  | n + 1 => by rw [List.replicate_succ, List.flatten_cons, flat1 v n, List.replicate_succ]; rfl
theorem pen_led {g h h' : Heap} {L pen P : Addr} {m : Str → Option Value} {news : List (Addr × Obj)} {oa ob : Obj} (new rest : List (Addr × Obj)) (F : Fr g L h m) (N : News g L h news) (m1 : (pen, oa) ∈ news) (m2 : (P, ob) ∈ news)
    (hp : PenOk g h' pen P) (k : Kp [pen, P] h h') (hr : ∀ p ∈ rest, p ∈ news ∧ p.1 ≠ pen ∧ p.1 ≠ P) (hn : ∀ p ∈ new, h'.get? p.1 = some p.2 ∧ h.get? p.1 = none) :
    ∃ (vs : List Value) (xs : List Int) (n c : Int) (tn tc : Tok) (ep ep2 : Nat), IntsAre vs xs ∧ xs.length ≤ 64 ∧ Fr g L h' m ∧
      News g L h' (new ++ (pen, W.listOf #[.ref P, .int n tn, .int c tc] ep) :: (P, W.listOf vs.toArray ep2) :: rest) := by
  refine penEl hp ?_
  intro vs xs n c tn tc ep ep2 p1 p2 hi hl _ _ _
  have hD : ∀ d ∈ [pen, P], g.get? d = none ∧ d ≠ L := by
    intro d hd
    simp only [List.mem_cons, List.not_mem_nil, or_false] at hd
    rcases hd with rfl | rfl
    · exact (N _ m1).2.symm
    · exact (N _ m2).2.symm
  obtain ⟨F2, N2⟩ := led_kp (new ++ [(pen, W.listOf #[.ref P, .int n tn, .int c tc] ep), (P, W.listOf vs.toArray ep2)]) rest F N k hD (fun p hp => ⟨(hr p hp).1, fun q => by
    simp only [List.mem_cons, List.not_mem_nil, or_false] at q
    rcases q with q | q
    · exact (hr p hp).2.1 q
    · exact (hr p hp).2.2 q⟩) (by
    intro p hp
    rcases List.mem_append.mp hp with hp | hp
    · exact ⟨(hn p hp).1, .inl (hn p hp).2⟩
    simp only [List.mem_cons, List.not_mem_nil, or_false] at hp
    rcases hp with rfl | rfl
    · exact ⟨p1, .inr (by simp)⟩
    · exact ⟨p2, .inr (by simp)⟩)
  refine ⟨vs, xs, n, c, tn, tc, ep, ep2, hi, hl, F2, ?_⟩
  simpa using N2

theorem pen_ledK {g h h' : Heap} {L pen P : Addr} {m : Str → Option Value} {news : List (Addr × Obj)} {oa ob : Obj} {C : Prop} (new rest : List (Addr × Obj)) (F : Fr g L h m) (N : News g L h news) (m1 : (pen, oa) ∈ news) (m2 : (P, ob) ∈ news)
    (hp : PenOk g h' pen P) (k : Kp [pen, P] h h') (hr : ∀ p ∈ rest, p ∈ news ∧ p.1 ≠ pen ∧ p.1 ≠ P) (hn : ∀ p ∈ new, h'.get? p.1 = some p.2 ∧ h.get? p.1 = none)
    (c : ∀ (vs : List Value) (xs : List Int) (n c : Int) (tn tc : Tok) (ep ep2 : Nat), IntsAre vs xs → xs.length ≤ 64 → Fr g L h' m →
      News g L h' (new ++ (pen, W.listOf #[.ref P, .int n tn, .int c tc] ep) :: (P, W.listOf vs.toArray ep2) :: rest) → C) : C := by
  obtain ⟨vs, xs, n, cc, tn, tc, ep, ep2, a1, a2, a3, a4⟩ := pen_led new rest F N m1 m2 hp k hr hn
  exact c vs xs n cc tn tc ep ep2 a1 a2 a3 a4

local macro_rules | `(tactic| walk_at "binaryOp Mult ref int") => `(tactic| (refine KMa.mul (by k_asm) (by k_asm) (by is_list) (by omega) (by omega) (by simp; omega) (flat1 Value.none _) ?_; intro D' h' F' N' l1))
theorem layout_ok {w : World} {mg mb : Str → Option Value} {A : Around} {s : Shared} {b : Heap} {Q E : Value → Shared → Prop} {pen P : Addr}
  (G : Gnd w mg mb b) (hb : ∀ a o, b.get? a = some o → s.heap.get? a = some o) (hA : A.handled = none) (hdp : A.depth + 5 < recursionLimit) (hun : A.units + 460 < cLine)
  (hp : PenOk b s.heap pen P)
  (hret : ∀ (x : Addr) (fts : List (Str × List Int)) (nl : Nat) (h' : Heap) (tk' : Nat), LayAt w s.heap h' x fts nl → fts.length ≤ 5 → (∀ ft ∈ fts, FtOk ft) → nl ≤ 6 → PenOk b h' pen P → Kp [pen, P] s.heap h' → Q (.ref x) { s with heap := h', toks := tk' }) :
  wpAny (model PySem.Challenge.rw_pb0163_01.row.prog w) A (call (.ref 206) [.ref pen]) Q E s := by
  refine nameGoal ?_
  intro kG2 hG2
  obtain ⟨_, dp, fr, gd, un⟩ := A
  refine hG2 ?_
  clear hG2 kG2
  obtain rfl := hA
  refine penEl hp ?_
  intro vs xs n c tn tc ep ep2 h1 h2 hi hlen b1 b2 hne
  refine wpAny_call ?_
  k_dflt (refine' enterC (fp := [(pen, W.listOf #[.ref P, .int n tn, .int c tc] ep), (P, W.listOf vs.toArray ep2)]) G hb (by simp [h1, h2, b1, b2]) ?ho ?hcd (by dsimp only at hdp ⊢; omega) ?hbind ?hkind ?hnd ?_ ?hco ?hgen ?hk; (case ho => k_is); (case hcd => k_is); (case hbind => exact BindsTo.of_eq rfl); (case hkind => exact rfl); (case hnd => decide +kernel); (case hco => exact rfl); (case hgen => exact rfl); (case hk => exact rfl))
  intro g L h₁ tk cells F N Y Gg up dn lt
  refine nameGoal ?_
  intro kG4 hG4
  obtain ⟨o1, hE, d1⟩ := CellsAre.one Y
  refine hG4 ?_
  clear hG4 kG4
  subst hE
  clear Y
  have d1 : o1.data = .cell (some (.ref pen)) := d1
  simp only [List.cons_append, List.nil_append] at N
  have X := Gg.X
  have T := Gg.T
  have lp : @LT.lt Nat _ pen L := lt _ _ h1
  have lP : @LT.lt Nat _ P L := lt _ _ h2
  dsimp only
  try k_unmd
  k_fold
  refine genMap F ?_
  clear F
  intro mB F
  refine wpAny_execs_cons ?_
  with_unfolding_all refine LCg.Assign_ListComp_U F (by rfl) (by rfl) (by rfl) (by decide) (by rfl) (by decide) (by rfl) (by rfl) (by rfl) ?_
  refine hold ?_
  k_steps
  refine draw_N [(L + 1, o1)] Gg F N (pen := pen) (P := P) (by k_mem) (by k_mem) hi hlen hne ?_ rfl (ltG hdp (Nat.le_refl (dp + 1)) (by decide)) (ltG hun (Nat.le_refl (un + 3)) (by decide)) (by first | exact Nat.le_trans (by assumption) (by decide) | omega) (by first | exact Nat.le_trans (by assumption) (by decide) | omega) ?_
  · intro p hp
    simp only [List.mem_cons, List.not_mem_nil, or_false] at hp
    rcases hp with rfl
    exact ⟨by k_mem, by first | exact neA (Nat.ne_of_gt (Nat.lt_succ_of_lt lp)) | exact neA (Nat.ne_of_gt (Nat.lt_succ_of_lt lP)) | (show @Ne Nat _ _; dsimp only; omega), by first | exact neA (Nat.ne_of_gt (Nat.lt_succ_of_lt lp)) | exact neA (Nat.ne_of_gt (Nat.lt_succ_of_lt lP)) | (show @Ne Nat _ _; dsimp only; omega)⟩
  clear N F hi hlen
  intro d t h' tk' vs' xs' n' c' tn' tc' ep' ep2' d0 d5 hi' hl' F' N'
  k_steps
  rename Fr _ _ _ _ => F2
  rename News _ _ _ _ => N2
  rename IsRange _ _ _ _ _ _ _ _ => hr
  refine HoldP.mk ?_
  obtain ⟨r1, r2⟩ := range_ok (d := 1 + d) (by first | exact Nat.le_trans (by assumption) (by decide) | omega) (by first | exact Nat.le_trans (by assumption) (by decide) | omega)
  refine LCg.CompSrc.range (n := (1 + d).toNat) rfl F2 N2 hr r1 r2 (by rw [sizeLine_eq]; omega) ?_
  intro gg
  refine rest_inv (fun i ys nw => ∃ (vs : List Value) (xs : List Int) (n c : Int) (tn tc : Tok) (ep ep2 : Nat) (fl : List (Addr × Obj)) (fx : List Addr) (fts : List (Str × List Int)),
    nw = (pen, W.listOf #[.ref P, .int n tn, .int c tc] ep) :: (P, W.listOf vs.toArray ep2) :: (L + 1, o1) :: fl ∧ (∀ p ∈ fl, (@Ne Nat p.1 pen) ∧ (@Ne Nat p.1 P)) ∧
    IntsAre vs xs ∧ xs.length ≤ 64 ∧ ys = fx.map Value.ref ∧ FtsIn w fl fx fts ∧ fts.length = i ∧ ∀ ft ∈ fts, FtOk ft) (exi11 _ _ _ _ _ _ _ _ [] [] [] ⟨rfl, by simp, hi', hl', rfl, .nil, rfl, by simp⟩) ?_ ?_
  · intro i v I oI C oC D m₂ ys nw h tk3 E' hlt hv hZ5i
    refine ex11 (hZ5i) ?_
    intro vs xs n c tn tc ep ep2 fl fx fts hZ5
    refine an8 hZ5 ?_
    clear hZ5 hZ5i
    intro hZ5e0 hfl hi hl hZ5e1 hfx hft hall
    intro hC hx F3 N3 off ne
    rw [hZ5e0] at N3 off
    clear hZ5e0
    try k_fold
    clear F2 N2 hr hi' hl'
    k_steps
    rename Fr _ _ _ _ => F4
    rename News _ _ _ _ => N4
    rename (_ ∧ _ ∧ _ ∧ _) => l4
    have offm := off.mem
    have pk : PenOk g _ pen P := (penMk (vs := vs) (xs := xs) (n := n) (c := c) (tn := tn) (tc := tc) (ep := ep) (ep2 := ep2) (N4.get (a := pen) (by k_mem)) (N4.get (a := P) (by k_mem)) hi hl (N4.fresh (a := pen) (by k_mem)) (N4.fresh (a := P) (by k_mem)) hne)
    refine pick_ok Gg F4.keep rfl (ltG hdp (Nat.le_refl (dp + 1)) (by decide)) (ltG hun (Nat.le_refl (un + 3)) (by decide)) pk (N4.get (List.Mem.head _)) (N4.fresh (List.Mem.head _)) (by first | exact Nat.le_trans (by assumption) (by decide) | omega) (by first | exact Nat.le_trans (by assumption) (by decide) | omega) (by simp) (by simp) ?_
    intro v5 h5 tk5 hv5 pk5 kp5
    have hrest : ∀ p ∈ (I, oI) :: (C, oC) :: (D, LCg.lst ys) :: (L + 1, o1) :: fl, p.1 ≠ pen ∧ p.1 ≠ P := by
      exact (allCons (⟨neA (Ne.symm (offm _ (List.Mem.head _)).1), neA (Ne.symm (offm _ (List.Mem.tail _ (List.Mem.head _))).1)⟩) (allCons (⟨neA (Ne.symm (offm _ (List.Mem.head _)).2.1), neA (Ne.symm (offm _ (List.Mem.tail _ (List.Mem.head _))).2.1)⟩) (allCons (⟨neA (Ne.symm (offm _ (List.Mem.head _)).2.2), neA (Ne.symm (offm _ (List.Mem.tail _ (List.Mem.head _))).2.2)⟩) (allCons (⟨by first | exact neA (Nat.ne_of_gt (Nat.lt_succ_of_lt lp)) | exact neA (Nat.ne_of_gt (Nat.lt_succ_of_lt lP)) | (show @Ne Nat _ _; dsimp only; omega), by first | exact neA (Nat.ne_of_gt (Nat.lt_succ_of_lt lp)) | exact neA (Nat.ne_of_gt (Nat.lt_succ_of_lt lP)) | (show @Ne Nat _ _; dsimp only; omega)⟩) (fun p hp => hfl p hp)))))
    refine pen_ledK [] ((I, oI) :: (C, oC) :: (D, LCg.lst ys) :: (L + 1, o1) :: fl) F4 N4 (pen := pen) (P := P) (by k_mem) (by k_mem) pk5 kp5 (fun p hp => ⟨by (revert hp; revert p; (repeat' (first | refine subCons ?_ ?_ | refine subApp ?_ ?_ | exact subNil | exact List.Mem.head _ | refine List.mem_cons_of_mem _ ?_ | (intro pS hS; (repeat (first | exact hS | exact List.mem_append_left _ hS | exact List.mem_append_left _ (List.mem_append_left _ hS) | exact List.mem_append_left _ (List.mem_append_right _ hS) | refine List.mem_cons_of_mem _ ?_ | refine List.mem_append_right _ ?_)); done) | refine List.mem_append_right _ ?_))), hrest p hp⟩) (by simp) ?_
    intro vs5 xs5 n5 c5 tn5 tc5 ep5 ep25 hi5 hl5 F5 N5
    have hv5' : ∃ tg t, v5 = .str tg t ∧ PyData.strOk tg = true := by
      simp only [List.mem_cons, List.not_mem_nil, or_false] at hv5
      rcases hv5 with rfl | rfl | rfl <;> exact ⟨_, _, rfl, by decide +kernel⟩
    refine nameGoal ?_
    intro kG7 hG7
    obtain ⟨tg, tt, rfl, htg⟩ := hv5'
    refine hG7 ?_
    clear hG7 kG7
    simp only [List.nil_append] at N5
    have pk6 : PenOk g _ pen P := (penMk (vs := vs5) (xs := xs5) (n := n5) (c := c5) (tn := tn5) (tc := tc5) (ep := ep5) (ep2 := ep25) (N5.get (a := pen) (List.Mem.head _)) (N5.get (a := P) (List.Mem.tail _ (List.Mem.head _))) hi5 hl5 (N5.fresh (List.Mem.head _)) (N5.fresh (List.Mem.tail _ (List.Mem.head _))) hne)
    k_steps
    rename Fr _ _ _ _ => F6
    refine numbers_ok Gg F6.keep rfl (ltG hdp (Nat.le_refl (dp + 1)) (by decide)) (ltG hun (Nat.le_refl (un + 3)) (by decide)) pk6 (by first | exact Nat.le_trans (by assumption) (by decide) | omega) (by first | exact Nat.le_trans (by assumption) (by decide) | omega) ?_
    intro D7 ys7 ns7 h7 tk7 hys7 hns7 hall7 eD7 fD7 pk7 kp7
    refine pen_ledK [(D7, LCg.lst ys7)] ((I, oI) :: (C, oC) :: (D, LCg.lst ys) :: (L + 1, o1) :: fl) F6 N5 (pen := pen) (P := P) (List.Mem.head _) (List.Mem.tail _ (List.Mem.head _)) pk7 kp7
      (fun p hp => ⟨List.Mem.tail _ (List.Mem.tail _ hp), hrest p hp⟩) (by
        intro p hp
        rw [List.mem_singleton.mp hp]
        exact ⟨eD7, fD7⟩) ?_
    intro vs7 xs7 n7 c7 tn7 tc7 ep7 ep27 hi7 hl7 F7 N7
    k_steps
    rename Fr _ _ _ _ => F8
    refine ft_new Gg F8.keep rfl (ltG hdp (Nat.le_refl (dp + 1)) (by decide)) (ltG hun (Nat.le_refl (un + 3)) (by decide)) (N7.get (List.Mem.head _)) (N7.fresh (List.Mem.head _)) hys7 (by first | exact Nat.le_trans (by assumption) (by decide) | omega) ?_
    intro x9 led9 h9 tk9 hx9 hled9 kp9
    refine kpLK led9 F8 N7 kp9 hled9 ?_
    intro F9 N9
    have old : ∀ (a : Addr) (o : Obj), Heap.get? _ a = some o → ∀ p ∈ led9, p.1 ≠ a := fun a o e p hp z => by
      have e1 := (hled9 p hp).2
      rw [z] at e1
      exact absurd (e1.symm.trans e) (by simp)
    refine LCg.CompEnd.intro F9 N9 ((pen, W.listOf #[.ref P, .int n7 tn7, .int c7 tc7] ep7) :: (P, W.listOf vs7.toArray ep27) :: (L + 1, o1) :: (fl ++ led9)) ?_ (LCg.Off3.of ?_) trivial
      (exi11 vs7 xs7 n7 c7 tn7 tc7 ep7 ep27 (fl ++ led9) (fx ++ [x9]) (fts ++ [(tg, ns7)]) ⟨rfl, ?_, hi7, hl7, by rw [hZ5e1, List.map_append]; rfl, (hfx.mono fun q hq => List.mem_append_left _ hq).snoc (hx9.mono fun q hq => List.mem_append_right _ hq), by simp [hft], ?_⟩)
    · first | ((repeat' (first | refine subCons ?_ ?_ | refine subApp ?_ ?_ | exact subNil | exact List.Mem.head _ | refine List.mem_cons_of_mem _ ?_ | (intro pS hS; (repeat (first | exact hS | exact List.mem_append_left _ hS | exact List.mem_append_left _ (List.mem_append_left _ hS) | exact List.mem_append_left _ (List.mem_append_right _ hS) | refine List.mem_cons_of_mem _ ?_ | refine List.mem_append_right _ ?_)); done) | refine List.mem_append_right _ ?_)); done) | (intro p hp; simp only [List.mem_cons, List.mem_append] at hp ⊢; rcases hp with rfl | rfl | rfl | rfl | rfl | rfl | hp | hp <;> simp [*])
    · exact allCons (offm (pen, W.listOf #[.ref P, .int n tn, .int c tc] ep) (List.Mem.head _)) (allCons (offm (P, W.listOf vs.toArray ep2) (List.Mem.tail _ (List.Mem.head _))) (allCons (offm (L + 1, _) (List.Mem.tail _ (List.Mem.tail _ (List.Mem.head _)))) (allApp (fun p hp => offm p (List.Mem.tail _ (List.Mem.tail _ (List.Mem.tail _ hp))))
        (fun p hp => ⟨old _ _ (N7.get (a := I) (by k_mem)) p hp, old _ _ (N7.get (a := C) (by k_mem)) p hp, old _ _ (N7.get (a := D) (o := LCg.lst ys) (by k_mem)) p hp⟩))))
    · exact allApp hfl (fun p hp => ⟨old _ _ (N7.get (a := pen) (by k_mem)) p hp, old _ _ (N7.get (a := P) (by k_mem)) p hp⟩)
    · intro ft hf
      rcases List.mem_append.mp hf with hf | hf
      · exact hall ft hf
      · rw [List.mem_singleton.mp hf]; exact ⟨⟨hns7, htg⟩, hall7⟩
  · intro ys nw hZ10i
    refine ex11 (hZ10i) ?_
    intro vs xs n c tn tc ep ep2 fl fx fts hZ10
    refine an8 hZ10 ?_
    clear hZ10 hZ10i
    intro hZ10e0 hfl hi hl hZ10e1 hfx hft hall
    intro D h tk2 F3 N3 off
    rw [hZ10e0, hZ10e1] at N3
    rw [hZ10e0] at off
    clear hZ10e0 hZ10e1
    try k_fold
    have offm := off1_mem off
    refine exec1 ?_
    k_steps
    refine HoldP.mk ?_
    rename Fr _ _ _ _ => F4
    rename News _ _ _ _ => N4
    refine exec1 ?_
    with_unfolding_all refine for_start g (by rfl) (by rfl) ?_
    k_steps
    refine HoldP.mk ?_
    rename_i sc hA o hlo hds hfs hdi hfi l1 hB T5 hC F5 N5 l2
    have hsc : ∀ p ∈ fl, p.1 ≠ sc := fun p hp => Nat.ne_of_lt (ktn_ltOf l1.2.2.2.2 p hp)
    have hT5 : ∀ p ∈ fl, p.1 ≠ T5 := fun p hp => Nat.ne_of_lt (ktn_ltOf l2.2.2.2.2.2 p hp)
    have LT5 : @Ne Nat L T5 := by first | exact Nat.ne_of_gt l2.2.2.2.2.1 | exact Nat.ne_of_lt l2.2.2.2.2.1 | exact Nat.ne_of_lt (Nat.lt_of_succ_lt l2.2.2.2.2.1) | (have := l2.2.2.2.2.1; omega)
    have hfD : ∀ p ∈ fl, p.1 ≠ D := fun p hp => offm p (List.Mem.tail _ (List.Mem.tail _ (List.Mem.tail _ hp)))
    refine loop_tuple (fun m₀ i m nw => ∃ (vs : List Value) (xs : List Int) (n c : Int) (tn tc : Tok) (ep ep2 : Nat) (o : Obj) (kvs : List (Str × Value)),
        nw = (pen, W.listOf #[.ref P, .int n tn, .int c tc] ep) :: (P, W.listOf vs.toArray ep2) :: (sc, o) :: (D, LCg.lst (List.map Value.ref fx)) :: (L + 1, o1) :: fl ∧
        IntsAre vs xs ∧ xs.length ≤ 64 ∧ Obj.IsDictOf (PySem.strKind PySem.Challenge.rw_pb0163_01.row.prog w) o kvs ∧ kvs.length ≤ i ∧ i ≤ 3 ∧ ∀ z, z ≠ Str.ofString "tag" → z ≠ Str.ofString "languages" → z ≠ Str.ofString "language" → m z = m₀ z)
      rfl ⟨_, N5.get (a := T5) (List.Mem.head _), rfl, _, rfl⟩ LT5 ?_ F5 (news_sub N5 ?_) (exi10 vs xs n c tn tc ep ep2 o [] ⟨rfl, hi, hl, hds, by simp, by simp, fun _ _ _ _ => rfl⟩) ?_ ?_
    · exact (allCons (Nat.ne_of_lt l2.2.2.1) (allCons (Nat.ne_of_lt l2.2.2.2.1) (allCons (Nat.ne_of_lt l2.1) (allCons (Nat.ne_of_lt l2.2.1) (allCons (Nat.ne_of_lt l2.2.2.2.2.1) (fun p hp => hT5 p hp))))))
    · first | ((repeat' (first | refine subCons ?_ ?_ | refine subApp ?_ ?_ | exact subNil | exact List.Mem.head _ | refine List.mem_cons_of_mem _ ?_ | (intro pS hS; (repeat (first | exact hS | exact List.mem_append_left _ hS | exact List.mem_append_left _ (List.mem_append_left _ hS) | exact List.mem_append_left _ (List.mem_append_right _ hS) | refine List.mem_cons_of_mem _ ?_ | refine List.mem_append_right _ ?_)); done) | refine List.mem_append_right _ ?_)); done) | (intro p hp; simp only [List.mem_cons] at hp ⊢; grind)
    · intro i v m₁ nw₁ h6 tk6 own hv _ hown hZ11i
      refine ex10 (hZ11i) ?_
      intro vs xs n c tn tc ep ep2 o kvs hZ11
      refine an7 hZ11 ?_
      clear hZ11 hZ11i
      intro hZ11e0 hi hl hds hk hi3 hm
      intro F6 N6
      rw [hZ11e0] at N6
      clear hZ11e0
      try k_fold
      rw [map3 hm] at F6
      refine nameGoal ?_
      intro kG12 hG12
      obtain ⟨tg, tt, rfl⟩ : ∃ tg tt, v = .str tg tt := by
        have := List.mem_of_getElem? (by rw [← Array.getElem?_toList] at hv; exact hv)
        simp only [List.mem_cons, List.not_mem_nil, or_false] at this
        rcases this with rfl | rfl | rfl <;> exact ⟨_, _, rfl⟩
      refine hG12 ?_
      clear hG12 kG12
      have hi3' : i + 1 ≤ 3 := by
        have := (Array.getElem?_eq_some_iff.mp hv).1
        simp at this
        omega
      simp only [List.cons_append] at N6
      have hRp : ∀ p ∈ fl ++ own, p.1 ≠ pen ∧ p.1 ≠ P ∧ p.1 ≠ sc := by
        intro p hp
        rcases List.mem_append.mp hp with hp | hp
        · exact ⟨(hfl p hp).1, (hfl p hp).2, hsc p hp⟩
        · exact ⟨hown p hp _ (by simp), hown p hp _ (by simp), hown p hp _ (by simp)⟩
      have sp : @Ne Nat sc pen := by first | exact Nat.ne_of_gt l1.2.1 | exact Nat.ne_of_lt l1.2.1 | exact Nat.ne_of_lt (Nat.lt_of_succ_lt l1.2.1) | (have := l1.2.1; omega)
      have sP : @Ne Nat sc P := by first | exact Nat.ne_of_gt l1.2.2.1 | exact Nat.ne_of_lt l1.2.2.1 | exact Nat.ne_of_lt (Nat.lt_of_succ_lt l1.2.2.1) | (have := l1.2.2.1; omega)
      have hrest : ∀ (o : Obj), ∀ p ∈ (sc, o) :: (D, LCg.lst (List.map Value.ref fx)) :: (L + 1, o1) :: (fl ++ own), p.1 ≠ pen ∧ p.1 ≠ P := by
        exact fun o => (allCons (⟨neA sp, neA sP⟩) (allCons (⟨neA (Ne.symm (offm _ (List.Mem.head _))), neA (Ne.symm (offm _ (List.Mem.tail _ (List.Mem.head _))))⟩) (allCons (⟨by first | exact neA (Nat.ne_of_gt (Nat.lt_succ_of_lt lp)) | exact neA (Nat.ne_of_gt (Nat.lt_succ_of_lt lP)) | (show @Ne Nat _ _; dsimp only; omega), by first | exact neA (Nat.ne_of_gt (Nat.lt_succ_of_lt lp)) | exact neA (Nat.ne_of_gt (Nat.lt_succ_of_lt lP)) | (show @Ne Nat _ _; dsimp only; omega)⟩) (fun p hp => ⟨(hRp p hp).1, (hRp p hp).2.1⟩))))
      refine wpAny_execs_cons (wpAny_If (hold ?_))
      k_steps
      refine draw_N _ Gg F6 N6 (pen := pen) (P := P) (by k_mem) (by k_mem) hi hl hne (fun p hp => ⟨List.Mem.tail _ (List.Mem.tail _ hp), hrest _ p hp⟩) rfl (ltG hdp (Nat.le_refl (dp + 1)) (by decide)) (ltG hun (Nat.le_refl (un + 3)) (by decide)) (by first | exact Nat.le_trans (by assumption) (by decide) | omega) (by first | exact Nat.le_trans (by assumption) (by decide) | omega) ?_
      intro d7 t7 h7 tk7 vs7 xs7 n7 c7 tn7 tc7 ep7 ep27 d70 d74 hi7 hl7 F7 N7
      k_steps
      refine HoldP.mk ?_
      split
      · refine exec1 ?_
        k_steps
        refine HoldP.mk ?_
        rename Fr _ _ _ _ => F8
        rename News _ _ _ _ => N8
        rename_i lg hB8 ol F8o N8o hlo8 hds8 hfs8 hdi8 hfi8 l8 h8
        refine exec1 ?_
        with_unfolding_all refine for_start g (by rfl) (by rfl) ?_
        k_steps
        rename Fr _ _ _ _ => F9
        rename News _ _ _ _ => N9
        rename_i l9 h9 q9
        have lgp : @Ne Nat lg pen := by first | exact Nat.ne_of_gt l8.1 | exact Nat.ne_of_lt l8.1 | exact Nat.ne_of_lt (Nat.lt_of_succ_lt l8.1) | (have := l8.1; omega)
        have lgP : @Ne Nat lg P := by first | exact Nat.ne_of_gt l8.2.1 | exact Nat.ne_of_lt l8.2.1 | exact Nat.ne_of_lt (Nat.lt_of_succ_lt l8.2.1) | (have := l8.2.1; omega)
        have l9p : @Ne Nat l9 pen := by first | exact Nat.ne_of_gt q9.2.1 | exact Nat.ne_of_lt q9.2.1 | exact Nat.ne_of_lt (Nat.lt_of_succ_lt q9.2.1) | (have := q9.2.1; omega)
        have l9P : @Ne Nat l9 P := by first | exact Nat.ne_of_gt q9.2.2.1 | exact Nat.ne_of_lt q9.2.2.1 | exact Nat.ne_of_lt (Nat.lt_of_succ_lt q9.2.2.1) | (have := q9.2.2.1; omega)
        refine draw_N ((l9, W.listOf #[Value.str (Str.ofString "URD ") (tk7 + 1 + 1), Value.str (Str.ofString "ARA ") (tk7 + 1 + 1 + 1)] 0) :: (lg, ol) :: (sc, o) :: (D, LCg.lst (List.map Value.ref fx)) :: (L + 1, o1) :: (fl ++ own)) Gg F9 N9 (pen := pen) (P := P) (by k_mem) (by k_mem) hi7 hl7 hne ?_ rfl (ltG hdp (Nat.le_refl (dp + 1)) (by decide)) (ltG hun (Nat.le_refl (un + 3)) (by decide)) (by first | exact Nat.le_trans (by assumption) (by decide) | omega) (by first | exact Nat.le_trans (by assumption) (by decide) | omega) ?_
        · intro p hp
          rcases List.mem_cons.mp hp with rfl | hp
          · exact ⟨List.Mem.head _, neA l9p, neA l9P⟩
          rcases List.mem_cons.mp hp with rfl | hp
          · exact ⟨by k_mem, neA lgp, neA lgP⟩
          exact ⟨by simp only [List.mem_cons] at hp ⊢; rcases hp with h | h | h | h <;> simp [h], hrest _ p hp⟩
        intro da ta ha tka vsa xsa na ca tna tca epa epa2 da0 da3 hia hla Fa Na
        k_steps
        refine HoldP.mk ?_
        rename Fr _ _ _ _ => Fb
        rename News _ _ _ _ => Nb
        have ltb : ∀ p : Addr × Obj, p ∈ _ → p.1 < ha.objs.size := fun p hp => Heap.lt_size (Na p hp).1
        have Lb : @Ne Nat L (ha.objs.size + 1) := Nat.ne_of_lt (Nat.lt_succ_of_lt Fa.ns.lt)
        have hslice : ∀ v ∈ (slicePick #[Value.str (Str.ofString "URD ") (tk7 + 1 + 1), Value.str (Str.ofString "ARA ") (tk7 + 1 + 1 + 1)] (some da) none none).toList, ∃ u t, v = Value.str u t := by
          rw [show da = ((da.toNat : Nat) : Int) by omega, slicePick_from']
          intro v hv
          have := List.mem_of_mem_drop hv
          simp only [List.mem_cons, List.not_mem_nil, or_false] at this
          rcases this with rfl | rfl <;> exact ⟨_, _, rfl⟩
        have hsz : (slicePick #[Value.str (Str.ofString "URD ") (tk7 + 1 + 1), Value.str (Str.ofString "ARA ") (tk7 + 1 + 1 + 1)] (some da) none none).size ≤ 2 := slicePick_size_le _ _ _ _
        have hrest2 : ∀ (ol o : Obj), ∀ p ∈ (lg, ol) :: (sc, o) :: (D, LCg.lst (List.map Value.ref fx)) :: (L + 1, o1) :: (fl ++ own), p.1 ≠ pen ∧ p.1 ≠ P := by
          exact fun ol => fun o => (allCons (⟨neA lgp, neA lgP⟩) (fun p hp => hrest _ p hp))
        have hlg : ∀ (o : Obj), ∀ p ∈ (sc, o) :: (D, LCg.lst (List.map Value.ref fx)) :: (L + 1, o1) :: (fl ++ own), p.1 ≠ lg := by
          intro o p hp
          have q := l8.2.2
          rcases List.mem_cons.mp hp with rfl | hp
          · exact Nat.ne_of_lt q.1
          rcases List.mem_cons.mp hp with rfl | hp
          · exact Nat.ne_of_lt q.2.1
          rcases List.mem_cons.mp hp with rfl | hp
          · exact Nat.ne_of_lt q.2.2.1
          · exact Nat.ne_of_lt (ktn_ltOf q.2.2.2 p hp)
        refine loop_list (fun m₀ i m nw => ∃ (vs : List Value) (xs : List Int) (n c : Int) (tn tc : Tok) (ep ep2 : Nat) (ol : Obj) (kvs : List (Str × Value)),
            nw = (pen, W.listOf #[.ref P, .int n tn, .int c tc] ep) :: (P, W.listOf vs.toArray ep2) :: (lg, ol) :: (sc, o) :: (D, LCg.lst (List.map Value.ref fx)) :: (L + 1, o1) :: (fl ++ own) ∧
            IntsAre vs xs ∧ xs.length ≤ 64 ∧ Obj.IsDictOf (PySem.strKind PySem.Challenge.rw_pb0163_01.row.prog w) ol kvs ∧ kvs.length ≤ i ∧ i ≤ 2 ∧ ∀ z, z ≠ Str.ofString "language" → m z = m₀ z)
          rfl ⟨_, (Nb _ (List.Mem.head _)).1, rfl, _, rfl⟩ Lb ?_ Fb (news_sub Nb ?_) (exi10 vsa xsa na ca tna tca epa epa2 ol [] ⟨rfl, hia, hla, hds8, by simp, by simp, fun _ _ => rfl⟩) ?_ ?_
        · intro p hp
          refine Nat.ne_of_lt (Nat.lt_succ_of_lt (ltb p ?_))
          (revert hp; revert p; (repeat' (first | refine subCons ?_ ?_ | refine subApp ?_ ?_ | exact subNil | exact List.Mem.head _ | refine List.mem_cons_of_mem _ ?_ | (intro pS hS; (repeat (first | exact hS | exact List.mem_append_left _ hS | exact List.mem_append_left _ (List.mem_append_left _ hS) | exact List.mem_append_left _ (List.mem_append_right _ hS) | refine List.mem_cons_of_mem _ ?_ | refine List.mem_append_right _ ?_)); done) | refine List.mem_append_right _ ?_)))
        · first | ((repeat' (first | refine subCons ?_ ?_ | refine subApp ?_ ?_ | exact subNil | exact List.Mem.head _ | refine List.mem_cons_of_mem _ ?_ | (intro pS hS; (repeat (first | exact hS | exact List.mem_append_left _ hS | exact List.mem_append_left _ (List.mem_append_left _ hS) | exact List.mem_append_left _ (List.mem_append_right _ hS) | refine List.mem_cons_of_mem _ ?_ | refine List.mem_append_right _ ?_)); done) | refine List.mem_append_right _ ?_)); done) | (intro p hp; simp only [List.mem_cons] at hp ⊢; rcases hp with h | h | h | h | h | h | h <;> simp [h])
        · intro i2 v2 m2 nw2 h2b tk2b own2 hv2 _ hown2 hZ13i
          refine ex10 (hZ13i) ?_
          intro vs xs n c tn tc ep ep2 ol kvs2 hZ13
          refine an7 hZ13 ?_
          clear hZ13 hZ13i
          intro hZ13e0 hi hl hds2 hk2 hi2 hm2
          intro F2b N2b
          rw [hZ13e0] at N2b
          clear hZ13e0
          try k_fold
          rw [map1 hm2] at F2b
          simp only [List.cons_append] at N2b
          refine nameGoal ?_
          intro kG14 hG14
          obtain ⟨u2, t2, rfl⟩ : ∃ u t, v2 = .str u t := hslice v2 (by rw [← Array.getElem?_toList] at hv2; exact List.mem_of_getElem? hv2)
          refine hG14 ?_
          clear hG14 kG14
          have hi2' : i2 < 2 := by
            have : i2 < _ := (Array.getElem?_eq_some_iff.mp hv2).1
            omega
          have pkb : PenOk g h2b pen P := (penMk (vs := vs) (xs := xs) (n := n) (c := c) (tn := tn) (tc := tc) (ep := ep) (ep2 := ep2) (N2b.get (a := pen) (List.Mem.head _)) (N2b.get (a := P) (List.Mem.tail _ (List.Mem.head _))) hi hl (N2b.fresh (List.Mem.head _)) (N2b.fresh (List.Mem.tail _ (List.Mem.head _))) hne)
          have hrest3 : ∀ p ∈ (lg, ol) :: (sc, o) :: (D, LCg.lst (List.map Value.ref fx)) :: (L + 1, o1) :: (fl ++ own ++ own2), p.1 ≠ pen ∧ p.1 ≠ P := by
            intro p hp
            rw [← List.cons_append, ← List.cons_append, ← List.cons_append, ← List.cons_append] at hp
            rcases List.mem_append.mp hp with hp | hp
            · exact hrest2 _ _ p hp
            · exact ⟨hown2 p hp _ (by simp), hown2 p hp _ (by simp)⟩
          k_steps
          refine langsys_ok Gg F2b.keep rfl (ltG hdp (Nat.le_refl (dp + 1)) (by decide)) (ltG hun (Nat.le_refl (un + 3)) (by decide)) pkb ?_
          intro x3 r3 fs3 h3 tk3 hx3 _ _ _ _ pk3 kp3
          refine pen_ledK [] ((lg, ol) :: (sc, o) :: (D, LCg.lst (List.map Value.ref fx)) :: (L + 1, o1) :: (fl ++ own ++ own2)) F2b N2b (pen := pen) (P := P) (List.Mem.head _) (List.Mem.tail _ (List.Mem.head _)) pk3 kp3
            (fun p hp => ⟨List.Mem.tail _ (List.Mem.tail _ hp), hrest3 p hp⟩) (by simp) ?_
          intro vs3 xs3 n3 c3 tn3 tc3 ep3 ep23 hi3' hl3 F3 N3
          simp only [List.nil_append] at N3
          k_steps
          refine dict_put (d := lg) (o := ol) (rest := (pen, W.listOf #[.ref P, .int n3 tn3, .int c3 tc3] ep3) :: (P, W.listOf vs3.toArray ep23) :: (sc, o) :: (D, LCg.lst (List.map Value.ref fx)) :: (L + 1, o1) :: (fl ++ own ++ own2)) F3
            (news_sub N3 (by first | ((repeat' (first | refine subCons ?_ ?_ | refine subApp ?_ ?_ | exact subNil | exact List.Mem.head _ | refine List.mem_cons_of_mem _ ?_ | (intro pS hS; (repeat (first | exact hS | exact List.mem_append_left _ hS | exact List.mem_append_left _ (List.mem_append_left _ hS) | exact List.mem_append_left _ (List.mem_append_right _ hS) | refine List.mem_cons_of_mem _ ?_ | refine List.mem_append_right _ ?_)); done) | refine List.mem_append_right _ ?_)); done) | (intro p hp; simp only [List.mem_cons, List.mem_append] at hp ⊢; grind))) ?_ hds2 (strKind_is _ _ _ _) (by first | exact Nat.le_trans (by assumption) (by decide) | omega) ?_
          · intro p hp
            rcases List.mem_cons.mp hp with rfl | hp
            · exact neA (Ne.symm lgp)
            rcases List.mem_cons.mp hp with rfl | hp
            · exact neA (Ne.symm lgP)
            rw [← List.cons_append, ← List.cons_append, ← List.cons_append] at hp
            rcases List.mem_append.mp hp with hp | hp
            · exact hlg _ p hp
            · exact hown2 p hp _ (by simp)
          intro h5b ol5 F5b N5b hds5
          k_steps
          refine InvEndN.intro (nx := (pen, W.listOf #[.ref P, .int n3 tn3, .int c3 tc3] ep3) :: (P, W.listOf vs3.toArray ep23) :: (lg, ol5) :: (sc, o) :: (D, LCg.lst (List.map Value.ref fx)) :: (L + 1, o1) :: (fl ++ own)) F5b N5b
            (exi10 vs3 xs3 n3 c3 tn3 tc3 ep3 ep23 ol5 _ ⟨rfl, hi3', hl3, hds5, Nat.le_trans (stored_length_le _ _ _) (Nat.succ_le_succ hk2), hi2', fun z hz => by simp [hz]⟩) rfl ?_ ?_
          · first | ((repeat' (first | refine subCons ?_ ?_ | refine subApp ?_ ?_ | exact subNil | exact List.Mem.head _ | refine List.mem_cons_of_mem _ ?_ | (intro pS hS; (repeat (first | exact hS | exact List.mem_append_left _ hS | exact List.mem_append_left _ (List.mem_append_left _ hS) | exact List.mem_append_left _ (List.mem_append_right _ hS) | refine List.mem_cons_of_mem _ ?_ | refine List.mem_append_right _ ?_)); done) | refine List.mem_append_right _ ?_)); done) | (intro p hp; simp only [List.mem_cons, List.mem_append] at hp ⊢; rcases hp with h | h | h | h | h | h | h | h <;> simp [h])
          · first | ((repeat' (first | refine subCons ?_ ?_ | refine subApp ?_ ?_ | exact subNil | exact List.Mem.head _ | refine List.mem_cons_of_mem _ ?_ | (intro pS hS; (repeat (first | exact hS | exact List.mem_append_left _ hS | exact List.mem_append_left _ (List.mem_append_left _ hS) | exact List.mem_append_left _ (List.mem_append_right _ hS) | refine List.mem_cons_of_mem _ ?_ | refine List.mem_append_right _ ?_)); done) | refine List.mem_append_right _ ?_)); done) | (intro p hp; simp only [List.mem_cons, List.mem_append]; simp [hp])
        · intro m2 nw2 h2b tk2b hZ16i
          refine ex10 (hZ16i) ?_
          intro vs xs n c tn tc ep ep2 ol kvs2 hZ16
          refine an7 hZ16 ?_
          clear hZ16 hZ16i
          intro hZ16e0 hi hl hds2 hk2 hi2 hm2
          intro F2b N2b
          rw [hZ16e0] at N2b
          clear hZ16e0
          try k_fold
          rw [map0 hm2] at F2b
          refine HoldP.mk ?_
          generalize hie : PySem.Expr.Compare _ [PySem.CmpOp.Gt] _ _ = ie
          k_steps
          refine ifJoin (fun R => ∀ v h' tk', PenOk g h' pen P → Kp [pen, P] h2b h' → R v { s with heap := h', toks := tk' }) (fun R hR => ?_) (fun v4 h4 tk4 pk4 kp4 => ?_)
          · rw [← hie]
            k_steps
            refine draw_ok Gg F2b.keep rfl (ltG hdp (Nat.le_refl (dp + 1)) (by decide)) (ltG hun (Nat.le_refl (un + 3)) (by decide)) (by decide) (by decide) (penMk (vs := vs) (xs := xs) (n := n) (c := c) (tn := tn) (tc := tc) (ep := ep) (ep2 := ep2) (N2b.get (a := pen) (List.Mem.head _)) (N2b.get (a := P) (List.Mem.tail _ (List.Mem.head _))) hi hl (N2b.fresh (List.Mem.head _)) (N2b.fresh (List.Mem.tail _ (List.Mem.head _))) hne) ?_
            intro dc tc' hc tkc dc0 dc3 pkc kpc
            refine pen_ledK [] ((lg, ol) :: (sc, o) :: (D, LCg.lst (List.map Value.ref fx)) :: (L + 1, o1) :: (fl ++ own)) F2b N2b (pen := pen) (P := P) (List.Mem.head _) (List.Mem.tail _ (List.Mem.head _)) pkc kpc
              (fun p hp => ⟨List.Mem.tail _ (List.Mem.tail _ hp), hrest2 _ _ p hp⟩) (by simp) ?_
            intro vsc xsc nc cc tnc tcc epc epc2 hic hlc Fc Nc
            k_steps
            · refine langsys_ok Gg Fc.keep rfl (ltG hdp (Nat.le_refl (dp + 1)) (by decide)) (ltG hun (Nat.le_refl (un + 3)) (by decide)) pkc ?_
              intro x4 r4 fs4 h4 tk4 hx4 _ _ _ _ pk4 kp4
              exact hR _ _ _ pk4 (kpc.trans kp4 (fun _ h => h))
            · exact hR _ _ _ pkc kpc
          clear hie
          refine pen_ledK [] ((lg, ol) :: (sc, o) :: (D, LCg.lst (List.map Value.ref fx)) :: (L + 1, o1) :: (fl ++ own)) F2b N2b (pen := pen) (P := P) (List.Mem.head _) (List.Mem.tail _ (List.Mem.head _)) pk4 kp4
            (fun p hp => ⟨List.Mem.tail _ (List.Mem.tail _ hp), hrest2 _ _ p hp⟩) (by simp) ?_
          intro vs4 xs4 n4 c4 tn4 tc4 ep4 ep24 hi4 hl4 F4 N4
          simp only [List.nil_append] at N4
          k_steps
          refine sc_new Gg F4.keep rfl (ltG hdp (Nat.le_refl (dp + 1)) (by decide)) ?_
          intro x5 h5 tk5 kp5
          refine kp0K F4 N4 kp5 ?_
          intro F5 N5
          k_steps
          refine dict_put (d := sc) (o := o) (rest := (pen, W.listOf #[.ref P, .int n4 tn4, .int c4 tc4] ep4) :: (P, W.listOf vs4.toArray ep24) :: (D, LCg.lst (List.map Value.ref fx)) :: (L + 1, o1) :: (fl ++ own)) F5
            (news_sub N5 (by first | ((repeat' (first | refine subCons ?_ ?_ | refine subApp ?_ ?_ | exact subNil | exact List.Mem.head _ | refine List.mem_cons_of_mem _ ?_ | (intro pS hS; (repeat (first | exact hS | exact List.mem_append_left _ hS | exact List.mem_append_left _ (List.mem_append_left _ hS) | exact List.mem_append_left _ (List.mem_append_right _ hS) | refine List.mem_cons_of_mem _ ?_ | refine List.mem_append_right _ ?_)); done) | refine List.mem_append_right _ ?_)); done) | (intro p hp; simp only [List.mem_cons, List.mem_append] at hp ⊢; grind))) ?_ hds (strKind_is _ _ _ _) (by first | exact Nat.le_trans (by assumption) (by decide) | omega) ?_
          · exact (allCons (neA (Ne.symm sp)) (allCons (neA (Ne.symm sP)) (allCons (Nat.ne_of_lt l1.1) (allCons (Nat.ne_of_lt l1.2.2.2.1) (fun p hp => (hRp p hp).2.2)))))
          intro h6b o6 F6b N6b hds6
          k_steps
          refine InvEndN.intro (nx := (pen, W.listOf #[.ref P, .int n4 tn4, .int c4 tc4] ep4) :: (P, W.listOf vs4.toArray ep24) :: (sc, o6) :: (D, LCg.lst (List.map Value.ref fx)) :: (L + 1, o1) :: fl) F6b N6b
            (exi10 vs4 xs4 n4 c4 tn4 tc4 ep4 ep24 o6 _ ⟨rfl, hi4, hl4, hds6, Nat.le_trans (stored_length_le _ _ _) (Nat.succ_le_succ hk), hi3', fun z hz1 hz2 hz3 => by simp [hz1, hz2, hz3]⟩) rfl ?_ ?_
          · first | ((repeat' (first | refine subCons ?_ ?_ | refine subApp ?_ ?_ | exact subNil | exact List.Mem.head _ | refine List.mem_cons_of_mem _ ?_ | (intro pS hS; (repeat (first | exact hS | exact List.mem_append_left _ hS | exact List.mem_append_left _ (List.mem_append_left _ hS) | exact List.mem_append_left _ (List.mem_append_right _ hS) | refine List.mem_cons_of_mem _ ?_ | refine List.mem_append_right _ ?_)); done) | refine List.mem_append_right _ ?_)); done) | (intro p hp; simp only [List.mem_cons, List.mem_append] at hp ⊢; grind)
          · first | ((repeat' (first | refine subCons ?_ ?_ | refine subApp ?_ ?_ | exact subNil | exact List.Mem.head _ | refine List.mem_cons_of_mem _ ?_ | (intro pS hS; (repeat (first | exact hS | exact List.mem_append_left _ hS | exact List.mem_append_left _ (List.mem_append_left _ hS) | exact List.mem_append_left _ (List.mem_append_right _ hS) | refine List.mem_cons_of_mem _ ?_ | refine List.mem_append_right _ ?_)); done) | refine List.mem_append_right _ ?_)); done) | (intro p hp; simp only [List.mem_cons, List.mem_append]; simp [hp])
      · k_steps
        refine InvEndN.intro (nx := (pen, W.listOf #[.ref P, .int n7 tn7, .int c7 tc7] ep7) :: (P, W.listOf vs7.toArray ep27) :: (sc, o) :: (D, LCg.lst (List.map Value.ref fx)) :: (L + 1, o1) :: fl) F7 N7
          (exi10 vs7 xs7 n7 c7 tn7 tc7 ep7 ep27 o _ ⟨rfl, hi7, hl7, hds, Nat.le_succ_of_le hk, hi3', fun z hz1 hz2 hz3 => by simp [hz1, hz2, hz3]⟩) rfl ?_ ?_
        · first | ((repeat' (first | refine subCons ?_ ?_ | refine subApp ?_ ?_ | exact subNil | exact List.Mem.head _ | refine List.mem_cons_of_mem _ ?_ | (intro pS hS; (repeat (first | exact hS | exact List.mem_append_left _ hS | exact List.mem_append_left _ (List.mem_append_left _ hS) | exact List.mem_append_left _ (List.mem_append_right _ hS) | refine List.mem_cons_of_mem _ ?_ | refine List.mem_append_right _ ?_)); done) | refine List.mem_append_right _ ?_)); done) | (intro p hp; simp only [List.mem_cons, List.mem_append] at hp ⊢; grind)
        · first | ((repeat' (first | refine subCons ?_ ?_ | refine subApp ?_ ?_ | exact subNil | exact List.Mem.head _ | refine List.mem_cons_of_mem _ ?_ | (intro pS hS; (repeat (first | exact hS | exact List.mem_append_left _ hS | exact List.mem_append_left _ (List.mem_append_left _ hS) | exact List.mem_append_left _ (List.mem_append_right _ hS) | refine List.mem_cons_of_mem _ ?_ | refine List.mem_append_right _ ?_)); done) | refine List.mem_append_right _ ?_)); done) | (intro p hp; simp only [List.mem_cons, List.mem_append]; simp [hp])
    · intro m₁ nw₁ h6 tk6 hZ20i
      refine ex10 (hZ20i) ?_
      intro vs xs n c tn tc ep ep2 o kvs hZ20
      refine an7 hZ20 ?_
      clear hZ20 hZ20i
      intro hZ20e0 hi hl hds hk hi3 hm
      intro F6 N6
      rw [hZ20e0] at N6
      clear hZ20e0
      try k_fold
      rw [map03 hm] at F6
      refine HoldP.mk ?_
      k_steps
      rename Fr _ _ _ _ => F7
      rename News _ _ _ _ => N7
      rename_i l7 h7 q7
      have sp : @Ne Nat sc pen := by first | exact Nat.ne_of_gt l1.2.1 | exact Nat.ne_of_lt l1.2.1 | exact Nat.ne_of_lt (Nat.lt_of_succ_lt l1.2.1) | (have := l1.2.1; omega)
      have sP : @Ne Nat sc P := by first | exact Nat.ne_of_gt l1.2.2.1 | exact Nat.ne_of_lt l1.2.2.1 | exact Nat.ne_of_lt (Nat.lt_of_succ_lt l1.2.2.1) | (have := l1.2.2.1; omega)
      have hr7 : ∀ p ∈ (l7, W.listOf #[Value.none] 0) :: (sc, o) :: (D, LCg.lst (List.map Value.ref fx)) :: (L + 1, o1) :: fl, p.1 ≠ pen ∧ p.1 ≠ P := by
        exact (allCons (⟨neA (by first | exact Nat.ne_of_gt q7.1 | (have := q7.1; show @Ne Nat _ _; omega)), neA (by first | exact Nat.ne_of_gt q7.2.1 | (have := q7.2.1; show @Ne Nat _ _; omega))⟩) (allCons (⟨neA sp, neA sP⟩) (allCons (⟨neA (Ne.symm (offm _ (List.Mem.head _))), neA (Ne.symm (offm _ (List.Mem.tail _ (List.Mem.head _))))⟩) (allCons (⟨by first | exact neA (Nat.ne_of_gt (Nat.lt_succ_of_lt lp)) | exact neA (Nat.ne_of_gt (Nat.lt_succ_of_lt lP)) | (show @Ne Nat _ _; dsimp only; omega), by first | exact neA (Nat.ne_of_gt (Nat.lt_succ_of_lt lp)) | exact neA (Nat.ne_of_gt (Nat.lt_succ_of_lt lP)) | (show @Ne Nat _ _; dsimp only; omega)⟩) (fun p hp => hfl p hp)))))
      refine draw_N ((l7, W.listOf #[Value.none] 0) :: (sc, o) :: (D, LCg.lst (List.map Value.ref fx)) :: (L + 1, o1) :: fl) Gg F7 N7 (pen := pen) (P := P) (by k_mem) (by k_mem) hi hl hne (fun p hp => ⟨by (revert hp; revert p; (repeat' (first | refine subCons ?_ ?_ | refine subApp ?_ ?_ | exact subNil | exact List.Mem.head _ | refine List.mem_cons_of_mem _ ?_ | (intro pS hS; (repeat (first | exact hS | exact List.mem_append_left _ hS | exact List.mem_append_left _ (List.mem_append_left _ hS) | exact List.mem_append_left _ (List.mem_append_right _ hS) | refine List.mem_cons_of_mem _ ?_ | refine List.mem_append_right _ ?_)); done) | refine List.mem_append_right _ ?_))), hr7 p hp⟩) rfl (ltG hdp (Nat.le_refl (dp + 1)) (by decide)) (ltG hun (Nat.le_refl (un + 3)) (by decide)) (by first | exact Nat.le_trans (by assumption) (by decide) | omega) (by first | exact Nat.le_trans (by assumption) (by decide) | omega) ?_
      intro d8 t8 h8 tk8 vs8 xs8 n8 c8 tn8 tc8 ep8 ep28 d80 d86 hi8 hl8 F8 N8
      k_steps
      rename Fr _ _ _ _ => F9
      rename News _ _ _ _ => N9
      rename_i l9 h9 lt9
      refine ly_new Gg F9.keep rfl (ltG hdp (Nat.le_refl (dp + 1)) (by decide)) ?_
      intro x dx k1 k2 k3 ha tka ex edx fx' fdx kpa
      have gp := N9.get (a := pen) (List.Mem.tail _ (List.Mem.head _))
      have gP := N9.get (a := P) (List.Mem.tail _ (List.Mem.tail _ (List.Mem.head _)))
      have gD := N9.get (a := D) (o := LCg.lst (List.map Value.ref fx)) (by k_mem)
      have gl := N9.get (a := l9) (List.Mem.head _)
      have upK : Kp [pen, P] s.heap h9 := fun a o e q => F9.keep _ _ (up a o e (by first | exact q | simpa using q))
      have frs : ∀ a : Addr, g.get? a = none → a ≠ pen → a ≠ P → s.heap.get? a = none := fun a e q1 q2 => fresh_of up e (by simp only [List.map_cons, List.map_nil, List.mem_cons, List.not_mem_nil, or_false, not_or]; exact ⟨q1, q2⟩)
      have dm : Dom s.heap h9 := upK.dom (by
        intro d hd
        simp only [List.mem_cons, List.not_mem_nil, or_false] at hd
        rcases hd with rfl | rfl
        · rw [gp]; rfl
        · rw [gP]; rfl)
      refine hret x fts (1 + d8).toNat ha tka (exi11 dx sc D l9 k1 k2 k3 fx fl _ _ ⟨ex, edx, kpa _ _ gD (by simp), kpa _ _ gl (by simp), hfx, ?_, dm _ fx', dm _ fdx,
        frs _ (N9.fresh (a := D) (o := LCg.lst (List.map Value.ref fx)) (by k_mem)) (neA (Ne.symm (offm _ (List.Mem.head _)))) (neA (Ne.symm (offm _ (List.Mem.tail _ (List.Mem.head _))))),
        frs _ (N9.fresh (List.Mem.head _)) (Nat.ne_of_gt (lt9 _ (List.Mem.head _))) (Nat.ne_of_gt (lt9 _ (List.Mem.tail _ (List.Mem.head _))))⟩) (by first | exact Nat.le_trans (by assumption) (by decide) | omega) hall (by first | exact Nat.le_trans (by assumption) (by decide) | omega)
        (penMk  (kpa _ _ gp (by simp)) (kpa _ _ gP (by simp)) hi8 hl8 b1 b2 hne) (upK.trans kpa (by simp))
      intro p hp
      have q := N9 p (by simp only [List.mem_cons]; simp [hp])
      exact ⟨kpa _ _ q.1 (by simp), frs _ q.2.2 (hfl p hp).1 (hfl p hp).2⟩
end
section
open PySem PySem.W PyProof.Rows PySem.Calls


theorem nameG_B {M : Model} {A : Around} {E : Value → Shared → Prop} {s : Shared} {env : Env} {h₀ : Heap} {L : Addr} {m : Str → Option Value} {K : Frag} {mg mb : Str → Option Value} {p : Program} {loose : List Str} {x : Str} {pos : Pos} {v : Value} {Q : Value → Shared → Prop}
    (F : Fr h₀ L s.heap m) (X : K.In h₀) (T : TopRead p loose mg mb h₀) (e : nsIn K mainGlobals x = some none) (hv : bootBuiltins x = some v) (hn : x ≠ "__name__") (h : Q v s)
    (hg : env.globals = mainGlobals) (hb : env.builtins = builtinsNs) (hk : env.scope.kind = .function) (hx : env.kindOf x = some .globalImplicit) (hd : (x == ("__debug__" : Str)) = false) :
    wpAny M A (eval (.Name x pos) env) Q E s :=
  Name_function_global hk hx (loadGlobal_builtin (env := env) (by rw [hg]; exact T.g.keeps F.keep) (mg_none_of X T.g e) (by rw [hb]; exact T.b.keeps F.keep) ((T.builtins x hn).trans hv) h) hd

theorem lawpen_ok {w : World} {mg mb : Str → Option Value} {A : Around} {s : Shared} {b : Heap} {Q E : Value → Shared → Prop} {sl : Addr} {vs : List Value} {ns : List Int}
  (G : Gnd w mg mb b) (hb : ∀ a o, b.get? a = some o → s.heap.get? a = some o) (hA : A.handled = none) (hdp : A.depth + 2 < recursionLimit) (hun : A.units + 420 < cLine)
  (hs : b.IsList sl vs.toArray) (hi : IntsAre vs ns) (hl : ns.length ≤ 63)
  (hret : ∀ (pen P : Addr) (h' : Heap) (tk' : Nat), PenOk s.heap h' pen P → Kp [] s.heap h' → Q (.ref pen) { s with heap := h', toks := tk' }) :
  wpAny (model PySem.Challenge.rw_pb0163_01.row.prog w) A (call (.ref 175) [.ref sl]) Q E s := by
  obtain ⟨_, dp, fr, gd, un⟩ := A
  obtain rfl := hA
  refine wpAny_call ?_
  k_dflt (refine' enterP (fp := []) G hb (by simp) ?ho ?hcd (by dsimp only at hdp ⊢; omega) ?hbind ?hloc ?_ ?hco ?hgen ?hk ?hcell; (case ho => k_is); (case hcd => k_is); (case hbind => exact BindsTo.of_eq rfl); (case hcell => decide); (case hloc => exact locs rfl); (case hco => exact rfl); (case hgen => exact rfl); (case hk => exact rfl))
  intro g L h₁ F N Gg up dn
  have X := Gg.X
  have T := Gg.T
  have hsg : g.IsList sl vs.toArray := by
    obtain ⟨o, ho, r⟩ := hs
    exact ⟨o, up _ _ (hb _ _ ho) (by simp), r⟩
  dsimp only
  try k_unmd
  k_fold
  refine baseK1 (Str.ofString "script") (.ref sl) F (by rfl) ?_
  clear F
  intro mB F
  refine wpAny_execs_cons (wpAny_Return_some (List_ (wpAny_items_cons ?_)))
  with_unfolding_all refine LCg.ListComp_U F (by rfl) (by decide) (by rfl) (by decide) (by rfl) ?_
  refine hold ?_
  k_steps
  rename Fr _ _ _ _ => F2
  rename News _ _ _ _ => N2
  refine HoldP.mk ?_
  rename_i S9 ws hS hIw hCw hLw l1
  have hwl : ws.length ≤ 40 := by have := hIw.length; rw [this, hCw]; exact Nat.min_le_left _ _
  refine LCg.CompSrc.ledger rfl F2 N2 (List.Mem.head _) (by rw [sizeLine_eq, List.size_toArray]; omega) ?_
  intro gg
  refine rest_inv (fun i ys nw => nw = [(S9, W.listOf ws.toArray 0)] ∧ ∃ ks, IntsAre ys ks ∧ ks.length = i) ⟨rfl, [], .nil, rfl⟩ ?_ ?_
  · rintro i v I oI C oC D m₂ ys nw h tk3 E' hlt hv ⟨rfl, ks, hy, hk⟩ hC hx F3 N3 off ne
    clear F2 N2
    obtain ⟨k, t, rfl, hkk⟩ := IntsAre.at hIw i v (by simpa using hv)
    k_steps
    iterate 3
      rename Fr _ _ _ _ => F4
      refine' nameG_B F4 ?k1 ?k2 ?k3 ?kv ?kn ?_ ?k4 ?kb ?k5 ?k6 ?k7
      case k4 => rfl
      case kb => rfl
      case k5 => rfl
      case k6 => rfl
      case k7 => decide
      case k1 => k_asm
      case k2 => k_asm
      case k3 => k_is
      case kv => boot_by_name
      case kn => decide
      k_steps
    rename Fr _ _ _ _ => F4
    refine LCg.CompEnd.intro F4 N3 [(S9, W.listOf ws.toArray 0)] (fun _ hp => hp) off (.inr ⟨_, List.Mem.head _, rfl, _, rfl⟩) ⟨rfl, _, IntsAre.append hy (.cons _ _ .nil), by simp [hk]⟩
  · rintro ys nw ⟨rfl, ks, hy, hk⟩
    intro D h tk2 F3 N3 off
    k_steps
    rename Fr _ _ _ _ => F4
    rename News _ _ _ _ => N4
    rename_i l9 h9 q9
    have hk' : ks.length ≤ 64 := by rw [hk, List.size_toArray]; omega
    refine hret l9 D _ _ ⟨⟨ys, ks, 0, 0, _, _, _, _, N4.get (List.Mem.head _), N4.get (a := D) (List.Mem.tail _ (List.Mem.head _)), hy, hk'⟩, fresh_of up (N4.fresh (List.Mem.head _)) (by simp), fresh_of up (N4.fresh (List.Mem.tail _ (List.Mem.head _))) (by simp), by have := q9.1; omega⟩ (fun a o e q => F4.keep _ _ (up a o e (by simp)))
end
section
open PySem PySem.W PyProof.Rows PySem.Calls
local macro_rules | `(tactic| k_inst) => `(tactic| first | exact inst_base (by k_asm) (by assumption) (by assumption) | exact inst_bag (by k_asm) (by assumption) (by assumption) (by intro q h; repeat (first | exact h | exact List.mem_append_left _ h | apply List.mem_append_right | apply List.Mem.tail)))
section
open PySem PySem.W PyProof.Rows PySem.Calls


def onceStep (acc : List Int) (n : Int) : List Int := if n ∈ acc then acc else acc ++ [n]
def once (l : List Int) : List Int := l.foldl onceStep []

theorem once_take {l : List Int} {i : Nat} {k : Int} (h : l[i]? = some k) : once (l.take (i + 1)) = onceStep (once (l.take i)) k := by
  unfold once
  rw [List.take_add_one, h, List.foldl_append]; rfl
theorem once_len (l : List Int) : ∀ acc : List Int, (l.foldl onceStep acc).length ≤ acc.length + l.length := by
  induction l with
  | nil => intro acc; simp
  | cons n r ih =>
    intro acc
    have h := ih (onceStep acc n)
    have h2 : (onceStep acc n).length ≤ acc.length + 1 := by unfold onceStep; split <;> simp
    simp only [List.foldl_cons, List.length_cons]
    omega
theorem once_length (l : List Int) : (once l).length ≤ l.length := by have := once_len l []; simpa [once] using this

theorem merged_ok {w : World} {mg mb : Str → Option Value} {A : Around} {s : Shared} {b : Heap} {Q E : Value → Shared → Prop} {one other : Addr} {r1 r2 : Int} {fs1 fs2 : List Int}
  (G : Gnd w mg mb b) (hb : ∀ a o, b.get? a = some o → s.heap.get? a = some o) (hA : A.handled = none) (hdp : A.depth + 4 < recursionLimit) (hun : A.units + 440 < cLine)
  (p1 : LSAt w b s.heap one r1 fs1) (p2 : LSAt w b s.heap other r2 fs2) (hl1 : fs1.length ≤ 16) (hl2 : fs2.length ≤ 16)
  (hret : ∀ (x : Addr) (h' : Heap) (tk' : Nat), LSAt w s.heap h' x (if 0 ≤ r1 then r1 else r2) (once (fs1 ++ fs2)) → Kp [] s.heap h' → Q (.ref x) { s with heap := h', toks := tk' }) :
  wpAny (model PySem.Challenge.rw_pb0163_01.row.prog w) A (call (.ref 170) [.ref one, .ref other]) Q E s := by
  obtain ⟨_, dp, fr, gd, un⟩ := A
  obtain rfl := hA
  refine lsatK p1 ?_
  intro d1 l1 k1 k2 t1 vs1 e1 a1 a2 a3 hi1 c1 c2 c3
  refine lsatK p2 ?_
  intro d2 l2 k3 k4 t2 vs2 e2 a4 a5 a6 hi2 c4 c5 c6
  refine wpAny_call ?_
  k_dflt (refine' enterP (fp := []) G hb (by simp) ?ho ?hcd (by dsimp only at hdp ⊢; omega) ?hbind ?hloc ?_ ?hco ?hgen ?hk ?hcell; (case ho => k_is); (case hcd => k_is); (case hbind => exact BindsTo.of_eq rfl); (case hcell => decide); (case hloc => exact locs rfl); (case hco => exact rfl); (case hgen => exact rfl); (case hk => exact rfl))
  intro g L h₁ F N Gg up dn
  have X := Gg.X
  have T := Gg.T
  have upg : ∀ a o, s.heap.get? a = some o → g.get? a = some o := fun a o e => up a o e (by simp)
  have b1 := upg _ _ a1
  have b2 := upg _ _ a2
  have b3 : g.IsList l1 vs1.toArray := ⟨_, upg _ _ a3, rfl, _, rfl⟩
  have b4 := upg _ _ a4
  have b5 := upg _ _ a5
  have b6 : g.IsList l2 vs2.toArray := ⟨_, upg _ _ a6, rfl, _, rfl⟩
  dsimp only
  try k_unmd
  k_fold
  refine baseK2 (Str.ofString "one") (.ref one) (Str.ofString "other") (.ref other) F (by rfl) (by rfl) ?_
  clear F
  intro mB F
  refine exec1 ?_
  k_steps
  refine HoldP.mk ?_
  rename Fr _ _ _ _ => F1
  rename News _ _ _ _ => N1
  refine exec1 ?_
  with_unfolding_all refine for_start g (by rfl) (by rfl) ?_
  k_steps
  refine HoldP.mk ?_
  rename Fr _ _ _ _ => F2
  rename News _ _ _ _ => N2
  rename_i fl hf q1 hf2 D5 ws hD hIw q2
  have wl := hIw.length
  refine loop_list (fun m₀ i m nw => ∃ (acc : List Int) (va : List Value) (ea : Nat), nw = [(fl, W.listOf va.toArray ea)] ∧
      IntsAre va acc ∧ acc = once ((fs1 ++ fs2).take i) ∧ ∀ z, z ≠ Str.ofString "number" → m z = m₀ z)
    rfl (N2.isList (List.Mem.head _)) (fun q => (N2 _ (List.Mem.head _)).2.1 q.symm) (allCons (Nat.ne_of_lt q2) allNil) F2 (news_sub N2 fun _ h => List.Mem.tail _ h) (exi3 [] [] 0 ⟨rfl, .nil, rfl, fun _ _ => rfl⟩) ?_ ?_
  · intro i v m₁ nw₁ h6 tk6 own hv _ hown hZ4i
    refine ex3 (hZ4i) ?_
    intro acc va ea hZ4
    refine an4 hZ4 ?_
    clear hZ4 hZ4i
    intro hZ4e0 hia hacc hm
    intro F6 N6
    rw [hZ4e0] at N6
    clear hZ4e0
    try k_fold
    rw [map1 hm] at F6
    simp only [List.cons_append, List.nil_append] at N6
    refine nameGoal ?_
    intro kG5 hG5
    obtain ⟨k, t, rfl, hk⟩ := IntsAre.at hIw i v (by simpa using hv)
    refine hG5 ?_
    clear hG5 kG5
    have hlen : acc.length ≤ 32 := by
      rw [hacc]
      refine Nat.le_trans (once_length _) ?_
      rw [List.length_take, List.length_append]
      omega
    have hst := once_take hk
    rw [← hacc] at hst
    k_steps
    · refine InvEndN.intro (nx := [(fl, W.listOf va.toArray ea)]) F6 N6
        (exi3 acc va ea ⟨rfl, hia, ?_, fun z hz => by simp [hz]⟩) rfl ?_ ?_
      · rename_i hany
        rw [hst, onceStep, if_pos]
        simpa using hany
      · first | ((repeat' (first | refine subCons ?_ ?_ | refine subApp ?_ ?_ | exact subNil | exact List.Mem.head _ | refine List.mem_cons_of_mem _ ?_ | (intro pS hS; (repeat (first | exact hS | exact List.mem_append_left _ hS | exact List.mem_append_left _ (List.mem_append_left _ hS) | exact List.mem_append_left _ (List.mem_append_right _ hS) | refine List.mem_cons_of_mem _ ?_ | refine List.mem_append_right _ ?_)); done) | refine List.mem_append_right _ ?_)); done) | (intro p hp; simp only [List.mem_cons, List.not_mem_nil, or_false] at hp ⊢; grind)
      · first | ((repeat' (first | refine subCons ?_ ?_ | refine subApp ?_ ?_ | exact subNil | exact List.Mem.head _ | refine List.mem_cons_of_mem _ ?_ | (intro pS hS; (repeat (first | exact hS | exact List.mem_append_left _ hS | exact List.mem_append_left _ (List.mem_append_left _ hS) | exact List.mem_append_left _ (List.mem_append_right _ hS) | refine List.mem_cons_of_mem _ ?_ | refine List.mem_append_right _ ?_)); done) | refine List.mem_append_right _ ?_)); done) | (intro p hp; simp only [List.mem_cons]; simp [hp])
    · rename Fr _ _ _ _ => F6'
      rename News _ _ _ _ => N6'
      rename (_ = false) => hany
      rw [show va.toArray.push (Value.int k t) = (va ++ [Value.int k t]).toArray by simp] at N6'
      refine InvEndN.intro (nx := [(fl, W.listOf (va ++ [Value.int k t]).toArray (ea + 1))]) F6' N6'
        ⟨acc ++ [k], _, _, rfl, IntsAre.append hia (.cons k t .nil), ?_, fun z hz => by simp [hz]⟩ rfl ?_ ?_
      · rw [hst, onceStep, if_neg]
        intro hmem
        simp at hany
        exact hany k hmem rfl
      · first | ((repeat' (first | refine subCons ?_ ?_ | refine subApp ?_ ?_ | exact subNil | exact List.Mem.head _ | refine List.mem_cons_of_mem _ ?_ | (intro pS hS; (repeat (first | exact hS | exact List.mem_append_left _ hS | exact List.mem_append_left _ (List.mem_append_left _ hS) | exact List.mem_append_left _ (List.mem_append_right _ hS) | refine List.mem_cons_of_mem _ ?_ | refine List.mem_append_right _ ?_)); done) | refine List.mem_append_right _ ?_)); done) | (intro p hp; simp only [List.mem_cons, List.not_mem_nil, or_false] at hp ⊢; grind)
      · first | ((repeat' (first | refine subCons ?_ ?_ | refine subApp ?_ ?_ | exact subNil | exact List.Mem.head _ | refine List.mem_cons_of_mem _ ?_ | (intro pS hS; (repeat (first | exact hS | exact List.mem_append_left _ hS | exact List.mem_append_left _ (List.mem_append_left _ hS) | exact List.mem_append_left _ (List.mem_append_right _ hS) | refine List.mem_cons_of_mem _ ?_ | refine List.mem_append_right _ ?_)); done) | refine List.mem_append_right _ ?_)); done) | (intro p hp; simp only [List.mem_cons]; simp [hp])
  · intro m₁ nw₁ h6 tk6 hZ6i
    refine ex3 (hZ6i) ?_
    intro acc va ea hZ6
    refine an4 hZ6 ?_
    clear hZ6 hZ6i
    intro hZ6e0 hia hacc hm
    intro F6 N6
    rw [hZ6e0] at N6
    clear hZ6e0
    try k_fold
    rw [map0 hm] at F6
    refine HoldP.mk ?_
    have hfull : acc = once (fs1 ++ fs2) := by
      rw [hacc, List.size_toArray, wl, List.take_length]
    have hlen : acc.length ≤ 32 := by
      rw [hfull]
      refine Nat.le_trans (once_length _) ?_
      rw [List.length_append]
      omega
    generalize hie : PySem.Expr.Compare _ _ _ _ = ie
    k_steps
    refine ifJoin (fun R => ∀ tk tk', R (.int (if 0 ≤ r1 then r1 else r2) tk) { s with heap := h6, toks := tk' }) (fun R hR => ?_) (fun tkr tkr' => ?_)
    · rw [← hie]
      k_steps
      · have z := hR t1
        rw [if_pos (by assumption)] at z
        exact z _
      · have z := hR t2
        rw [if_neg (by assumption)] at z
        exact z _
    clear hie
    k_steps
    refine ls_new Gg F6.keep rfl (ltG hdp (Nat.le_refl (dp + 1)) (by decide)) (ltG hun (Nat.le_refl (un + 3)) (by decide)) (N6.get (List.Mem.head _)) (N6.fresh (List.Mem.head _)) hia (by first | exact Nat.le_trans (by assumption) (by decide) | omega) ?_
    intro x h7 tk7 hx kp
    rw [hfull] at hx
    have upK : Kp [] s.heap h6 := fun a o e _ => F6.keep _ _ (upg _ _ e)
    exact hret x h7 _ (hx.base (upK.dom (by simp))) (upK.trans kp (by simp))
end
section
open PySem PySem.W PyProof.Rows PySem.Calls


abbrev tupObj (vs : List Value) : Obj := { cls := .type "tuple", data := .seq vs.toArray }

/-- What was kept of a heap at a def's end, its fixed objects in the ledger. -/
theorem keptAll {s : Heap} {g h : Heap} {L : Addr} {m : Str → Option Value} {fp news : List (Addr × Obj)} (F : Fr g L h m) (N : News g L h news) (hfp : ∀ p ∈ fp, s.get? p.1 = some p.2) (hs : ∀ p ∈ fp, p ∈ news)
    (up : ∀ a o, s.get? a = some o → a ∉ fp.map (·.1) → g.get? a = some o) : Kp [] s h := fun a o e _ => by
  by_cases hq : a ∈ fp.map (·.1)
  · obtain ⟨p, hp, rfl⟩ := List.mem_map.mp hq
    have z1 := (N p (hs p hp)).1
    have z2 := hfp p hp
    rw [e] at z2; cases z2
    exact z1
  · exact F.keep _ _ (up a o e hq)

theorem fresh_cls {s : Heap} {g h : Heap} {L D : Addr} {o : Obj} {fp news : List (Addr × Obj)} (N : News g L h news) (hm : (D, o) ∈ news) (hs : ∀ p ∈ fp, p ∈ news) (hc : ∀ p ∈ fp, p.2.cls ≠ o.cls)
    (up : ∀ a o, s.get? a = some o → a ∉ fp.map (·.1) → g.get? a = some o) : s.get? D = none := by
  refine fresh_of up (N.fresh hm) fun hq => ?_
  refine nameGoal ?_
  intro kG1 hG1
  obtain ⟨p, hp, e⟩ := List.mem_map.mp hq
  refine hG1 ?_
  clear hG1 kG1
  have z1 := (N p (hs p hp)).1
  have z2 := N.get hm
  rw [e, z2] at z1
  exact hc p hp (by rw [Option.some.inj z1])

theorem told_ok {w : World} {mg mb : Str → Option Value} {A : Around} {s : Shared} {b : Heap} {Q E : Value → Shared → Prop} {one : Addr} {r : Int} {fs : List Int}
  (G : Gnd w mg mb b) (hb : ∀ a o, b.get? a = some o → s.heap.get? a = some o) (hA : A.handled = none) (hdp : A.depth + 1 < recursionLimit) (hun : A.units + 420 < cLine)
  (p1 : LSAt w b s.heap one r fs) (hl : fs.length ≤ 1000)
  (hret : ∀ (t u : Addr) (tr : Tok) (vs : List Value) (h' : Heap) (tk' : Nat), h'.get? t = some (tupObj [.int r tr, .ref u]) → h'.get? u = some (tupObj vs) → IntsAre vs fs → s.heap.get? t = none → s.heap.get? u = none → Kp [] s.heap h' → Q (.ref t) { s with heap := h', toks := tk' }) :
  wpAny (model PySem.Challenge.rw_pb0163_01.row.prog w) A (call (.ref 35) [.ref one]) Q E s := by
  obtain ⟨_, dp, fr, gd, un⟩ := A
  obtain rfl := hA
  refine lsatK p1 ?_
  intro d1 l1 k1 k2 t1 vs1 e1 a1 a2 a3 hi1 c1 c2 c3
  have hfp : ∀ p ∈ ([(one, instObj 38 d1), (d1, lsDict w k1 k2 r t1 l1), (l1, W.listOf vs1.toArray e1)] : List (Addr × Obj)), s.heap.get? p.1 = some p.2 := by
    simp only [List.forall_mem_cons, List.not_mem_nil, false_implies, implies_true, and_true]
    exact ⟨a1, a2, a3⟩
  refine wpAny_call ?_
  k_dflt (refine' enterP (fp := [(one, instObj 38 d1), (d1, lsDict w k1 k2 r t1 l1), (l1, W.listOf vs1.toArray e1)]) G hb ?hfp ?ho ?hcd (by dsimp only at hdp ⊢; omega) ?hbind ?hloc ?_ ?hco ?hgen ?hk ?hcell; (case ho => k_is); (case hcd => k_is); (case hbind => exact BindsTo.of_eq rfl); (case hcell => decide); (case hloc => exact locs rfl); (case hco => exact rfl); (case hgen => exact rfl); (case hk => exact rfl))
  · simp only [List.forall_mem_cons, List.not_mem_nil, false_implies, implies_true, and_true]
    exact ⟨⟨a1, c1⟩, ⟨a2, c2⟩, a3, c3⟩
  intro g L h₁ F N Gg up dn
  have X := Gg.X
  have T := Gg.T
  dsimp only
  try k_unmd
  k_fold
  refine baseK1 (Str.ofString "self") (.ref one) F (by rfl) ?_
  clear F
  intro mB F
  k_steps
  rename Fr _ _ _ _ => F2
  rename News _ _ _ _ => N2
  rename_i u h2 q2 t h3 q3
  have hsub : ∀ p ∈ ([(one, instObj 38 d1), (d1, lsDict w k1 k2 r t1 l1), (l1, W.listOf vs1.toArray e1)] : List (Addr × Obj)), p ∈ (t, tupObj [.int r t1, .ref u]) :: (u, tupObj vs1) :: [(one, instObj 38 d1), (d1, lsDict w k1 k2 r t1 l1), (l1, W.listOf vs1.toArray e1)] := fun p hp => List.Mem.tail _ (List.Mem.tail _ hp)
  have hcls : ∀ p ∈ ([(one, instObj 38 d1), (d1, lsDict w k1 k2 r t1 l1), (l1, W.listOf vs1.toArray e1)] : List (Addr × Obj)), p.2.cls ≠ Value.type "tuple" := by
    simp only [List.forall_mem_cons, List.not_mem_nil, false_implies, implies_true, and_true]
    exact ⟨by show Value.ref 38 ≠ Value.type "tuple"; decide, by show Value.type "dict" ≠ Value.type "tuple"; decide, by show Value.type "list" ≠ Value.type "tuple"; decide⟩
  exact hret t u t1 vs1 _ _ (N2.get (List.Mem.head _)) (N2.get (List.Mem.tail _ (List.Mem.head _))) hi1 (fresh_cls N2 (List.Mem.head _) hsub hcls up) (fresh_cls N2 (List.Mem.tail _ (List.Mem.head _)) hsub hcls up) (keptAll F2 N2 hfp hsub up)
end
section
open PySem PySem.W PyProof.Rows PySem.Calls


/-- A layout's parts: its object, its dict, its list of features. -/
structure LayU (w : World) (b h : Heap) (lay dx sc fl ll : Addr) (k1 k2 k3 : Tok) (xs : List Addr) (e : Nat) : Prop where
  a1 : h.get? lay = some (instObj 118 dx)
  a2 : h.get? dx = some (lyDict w k1 k2 k3 sc fl ll)
  a3 : h.get? fl = some (W.listOf (xs.map Value.ref).toArray e)
  c1 : b.get? lay = none
  c2 : b.get? dx = none
  c3 : b.get? fl = none

theorem feature_at_ok {w : World} {mg mb : Str → Option Value} {A : Around} {s : Shared} {b : Heap} {Q E : Value → Shared → Prop} {lay dx sc fl ll : Addr} {k1 k2 k3 : Tok} {xs : List Addr} {e : Nat} {n : Int} {tn : Tok}
  (G : Gnd w mg mb b) (hb : ∀ a o, b.get? a = some o → s.heap.get? a = some o) (hA : A.handled = none) (hdp : A.depth + 1 < recursionLimit) (hun : A.units + 400 < cLine)
  (U : LayU w b s.heap lay dx sc fl ll k1 k2 k3 xs e) (hl : xs.length ≤ 64)
  (h1 : ∀ (x : Addr) (h' : Heap) (tk' : Nat), 0 ≤ n → xs[n.toNat]? = some x → Kp [] s.heap h' → Q (.ref x) { s with heap := h', toks := tk' })
  (h2 : ∀ (h' : Heap) (tk' : Nat), ¬ (0 ≤ n ∧ n < (xs.length : Int)) → Kp [] s.heap h' → Q .none { s with heap := h', toks := tk' }) :
  wpAny (model PySem.Challenge.rw_pb0163_01.row.prog w) A (call (.ref 129) [.ref lay, .int n tn]) Q E s := by
  obtain ⟨_, dp, fr, gd, un⟩ := A
  obtain rfl := hA
  obtain ⟨a1, a2, a3, c1, c2, c3⟩ := U
  have hfp : ∀ p ∈ ([(lay, instObj 118 dx), (dx, lyDict w k1 k2 k3 sc fl ll), (fl, W.listOf (xs.map Value.ref).toArray e)] : List (Addr × Obj)), s.heap.get? p.1 = some p.2 := by
    simp only [List.forall_mem_cons, List.not_mem_nil, false_implies, implies_true, and_true]
    exact ⟨a1, a2, a3⟩
  refine wpAny_call ?_
  k_dflt (refine' enterP (fp := [(lay, instObj 118 dx), (dx, lyDict w k1 k2 k3 sc fl ll), (fl, W.listOf (xs.map Value.ref).toArray e)]) G hb ?hfp ?ho ?hcd (by dsimp only at hdp ⊢; omega) ?hbind ?hloc ?_ ?hco ?hgen ?hk ?hcell; (case ho => k_is); (case hcd => k_is); (case hbind => exact BindsTo.of_eq rfl); (case hcell => decide); (case hloc => exact locs rfl); (case hco => exact rfl); (case hgen => exact rfl); (case hk => exact rfl))
  · simp only [List.forall_mem_cons, List.not_mem_nil, false_implies, implies_true, and_true]
    exact ⟨⟨a1, c1⟩, ⟨a2, c2⟩, a3, c3⟩
  intro g L h₁ F N Gg up dn
  have X := Gg.X
  have T := Gg.T
  dsimp only
  try k_unmd
  k_fold
  refine baseK2 (Str.ofString "layout") (.ref lay) (Str.ofString "number") (.int n tn) F (by rfl) (by rfl) ?_
  clear F
  intro mB F
  have kept := fun {h' : Heap} {m' : Str → Option Value} {news' : List (Addr × Obj)} (F' : Fr g L h' m') (N' : News g L h' news') (hs : ∀ p ∈ ([(lay, instObj 118 dx), (dx, lyDict w k1 k2 k3 sc fl ll), (fl, W.listOf (xs.map Value.ref).toArray e)] : List (Addr × Obj)), p ∈ news') => keptAll F' N' hfp hs up
  k_steps
  · refine Calls.call_len_list (N.isList (a := fl) (by k_mem)) (by simp; omega) ?_
    k_steps
    · refine item_list (x := .ref (xs[n.toNat]'(by simp at *; omega))) (N.isList (a := fl) (by k_mem)) (by assumption) (by simp at *; omega) (by simp) ?_ (by with_unfolding_all rfl) (by intro _; with_unfolding_all rfl)
      exact h1 _ _ _ (by assumption) (by simp) (kept F N fun _ hp => hp)
    · exact h2 _ _ (by simp at *; omega) (kept F N fun _ hp => hp)
  · exact h2 _ _ (by omega) (kept F N fun _ hp => hp)
end
section
open PySem PySem.W PyProof.Rows PySem.Calls



def tagOf (fts : List (Str × List Int)) (n : Int) : Option Str := if 0 ≤ n then (fts[n.toNat]?).map (·.1) else none
def featIdx (fts : List (Str × List Int)) (fs : List Int) (tag : Str) : List Int := fs.filter fun n => decide (tagOf fts n = some tag)

theorem FtsIn.at {w : World} {led : List (Addr × Obj)} {xs : List Addr} {fts : List (Str × List Int)} (p : FtsIn w led xs fts) : ∀ (i : Nat) (x : Addr), xs[i]? = some x → ∃ ft, fts[i]? = some ft ∧ FTIn w led x ft.1 ft.2 := by
  induction p with
  | nil => exact fun i x h => nomatch h
  | cons a r ih =>
    intro i x h
    cases i with
    | zero => cases h; exact ⟨_, rfl, a⟩
    | succ i => exact ih i x h

theorem take_filter {α : Type} {p : α → Bool} {l : List α} {i : Nat} {k : α} (h : l[i]? = some k) : (l.take (i + 1)).filter p = (l.take i).filter p ++ (if p k then [k] else []) := by
  rw [List.take_add_one, h, List.filter_append]
  by_cases hp : p k <;> simp [hp]

theorem findex_ok {w : World} {mg mb : Str → Option Value} {A : Around} {s : Shared} {b : Heap} {Q E : Value → Shared → Prop} {lay one : Addr} {fts : List (Str × List Int)} {nl : Nat} {r : Int} {fs : List Int} {tag : Str} {tt : Tok}
  (G : Gnd w mg mb b) (hb : ∀ a o, b.get? a = some o → s.heap.get? a = some o) (hA : A.handled = none) (hdp : A.depth + 2 < recursionLimit) (hun : A.units + 420 < cLine)
  (p1 : LayAt w b s.heap lay fts nl) (p2 : LSAt w b s.heap one r fs) (hl : fts.length ≤ 5) (hl2 : fs.length ≤ 32)
  (hret : ∀ (D : Addr) (ys : List Value) (e : Nat) (h' : Heap) (tk' : Nat), IntsAre ys (featIdx fts fs tag) → h'.get? D = some (W.listOf ys.toArray e) → s.heap.get? D = none → Kp [] s.heap h' → Q (.ref D) { s with heap := h', toks := tk' }) :
  wpAny (model PySem.Challenge.rw_pb0163_01.row.prog w) A (call (.ref 143) [.ref lay, .ref one, .str tag tt]) Q E s := by
  obtain ⟨_, dp, fr, gd, un⟩ := A
  obtain rfl := hA
  refine layatK p1 ?_
  intro dx sc fl ll k1 k2 k3 xs led el el' y1 y2 y3 y4 hft hled z1 z2 z3 z4
  refine lsatK p2 ?_
  intro d1 l1 k4 k5 t1 vs1 e1 a1 a2 a3 hi1 c1 c2 c3
  refine wpAny_call ?_
  k_dflt (refine' enterP (fp := []) G hb (by simp) ?ho ?hcd (by dsimp only at hdp ⊢; omega) ?hbind ?hloc ?_ ?hco ?hgen ?hk ?hcell; (case ho => k_is); (case hcd => k_is); (case hbind => exact BindsTo.of_eq rfl); (case hcell => decide); (case hloc => exact locs rfl); (case hco => exact rfl); (case hgen => exact rfl); (case hk => exact rfl))
  intro g L h₁ F N Gg up dn
  have X := Gg.X
  have T := Gg.T
  have upg : ∀ a o, s.heap.get? a = some o → g.get? a = some o := fun a o e => up a o e (by simp)
  have b1 := upg _ _ a1
  have b2 := upg _ _ a2
  have b3 : g.IsList l1 vs1.toArray := ⟨_, upg _ _ a3, rfl, _, rfl⟩
  have U : LayU w b g lay dx sc fl ll k1 k2 k3 xs el := ⟨upg _ _ y1, upg _ _ y2, upg _ _ y3, z1, z2, z3⟩
  have hxl := hft.length
  dsimp only
  try k_unmd
  k_fold
  refine baseK3 (Str.ofString "layout") (.ref lay) (Str.ofString "langsys") (.ref one) (Str.ofString "tag") (.str tag tt) F (by rfl) (by rfl) (by rfl) ?_
  clear F
  intro mB F
  refine exec1 ?_
  k_steps
  refine HoldP.mk ?_
  rename Fr _ _ _ _ => F1
  rename News _ _ _ _ => N1
  refine exec1 ?_
  refine wpAny_If (hold ?_)
  k_steps
  refine HoldP.mk ?_
  rw [if_pos rfl]
  rename_i fnd q1 q2 h2
  refine exec1 ?_
  with_unfolding_all refine for_start g (by rfl) (by rfl) ?_
  k_steps
  refine HoldP.mk ?_
  have kb : ∀ {h : Heap}, (∀ a o, g.get? a = some o → h.get? a = some o) → ∀ a o, b.get? a = some o → h.get? a = some o := fun k a o e => k _ _ (upg _ _ (hb _ _ e))
  refine loop_list (fun m₀ i m nw => ∃ (acc : List Int) (va : List Value) (ea : Nat), nw = [(fnd, W.listOf va.toArray ea)] ∧
      IntsAre va acc ∧ acc = featIdx fts (fs.take i) tag ∧ ∀ z, z ≠ Str.ofString "number" → z ≠ Str.ofString "feature" → m z = m₀ z)
    rfl (by obtain ⟨o, ho, r⟩ := b3; exact ⟨o, F1.keep _ _ ho, r⟩) ?_ ?_ F1 N1 (exi3 [] [] 0 ⟨rfl, .nil, rfl, fun _ _ _ => rfl⟩) ?_ ?_
  · exact fun q => by
      refine nameGoal ?_
      intro kG4 hG4
      obtain ⟨o, ho, r⟩ := b3
      refine hG4 ?_
      clear hG4 kG4
      exact absurd (Heap.lt_size ho) (Nat.not_lt.mpr (q ▸ F1.above))
  · intro p hp
    rw [List.mem_singleton.mp hp]
    intro q
    have := N1.fresh (List.Mem.head _)
    refine nameGoal ?_
    intro kG5 hG5
    obtain ⟨o, ho, r⟩ := b3
    refine hG5 ?_
    clear hG5 kG5
    rw [show l1 = fnd from q.symm] at ho
    rw [ho] at this; cases this
  · intro i v m₁ nw₁ h6 tk6 own hv _ hown hZ6i
    refine ex3 (hZ6i) ?_
    intro acc va ea hZ6
    refine an4 hZ6 ?_
    clear hZ6 hZ6i
    intro hZ6e0 hia hacc hm
    intro F6 N6
    rw [hZ6e0] at N6
    clear hZ6e0
    try k_fold
    rw [map2 hm] at F6
    simp only [List.cons_append, List.nil_append] at N6
    refine nameGoal ?_
    intro kG7 hG7
    obtain ⟨k, t, rfl, hk⟩ := IntsAre.at hi1 i v (by simpa using hv)
    refine hG7 ?_
    clear hG7 kG7
    have hlen : acc.length ≤ 32 := by
      rw [hacc]
      refine Nat.le_trans (List.length_filter_le _ _) ?_
      rw [List.length_take]; omega
    have hst : featIdx fts (fs.take (i + 1)) tag = acc ++ (if decide (tagOf fts k = some tag) = true then [k] else []) := by rw [hacc]; exact take_filter hk
    refine exec1 ?_
    k_steps
    refine feature_at_ok G (kb F6.keep) rfl (ltG hdp (Nat.le_refl (dp + 1)) (by decide)) (ltG hun (Nat.le_refl (un + 3)) (by decide)) ⟨F6.keep _ _ U.a1, F6.keep _ _ U.a2, F6.keep _ _ U.a3, z1, z2, z3⟩ (by first | exact Nat.le_trans (by assumption) (by decide) | omega) ?_ ?_
    · intro x h7 tk7 hk0 hx kp
      refine ex1 (hft.at _ _ hx) ?_
      intro ft qF
      have hft1 := qF.1
      refine ex7 qF.2 ?_
      intro dx' lx kk1 kk2 tx vx ex qG
      refine an4 qG ?_
      clear qG qF
      intro m1 m2 m3 mi
      have htag : tagOf fts k = some ft.1 := by unfold tagOf; rw [if_pos hk0, hft1]; rfl
      have i1 := upg _ _ (hled _ m1).1
      have i2 := upg _ _ (hled _ m2).1
      refine kp0K F6 N6 kp ?_
      intro F7 N7
      k_steps
      refine HoldP.mk ?_
      k_steps
      · rename Fr _ _ _ _ => F8
        rename News _ _ _ _ => N8
        rename (_ = true) => he
        rw [show va.toArray.push (Value.int k t) = (va ++ [Value.int k t]).toArray by simp] at N8
        refine InvEndN.intro (nx := [(fnd, W.listOf (va ++ [Value.int k t]).toArray (ea + 1))]) F8 N8
          ⟨acc ++ [k], _, _, rfl, IntsAre.append hia (.cons k t .nil), ?_, fun z hz hz2 => by simp [hz, hz2]⟩ rfl ?_ ?_
        · rw [hst, if_pos]
          rw [htag, show ft.1 = tag by simpa using he]; simp
        · first | ((repeat' (first | refine subCons ?_ ?_ | refine subApp ?_ ?_ | exact subNil | exact List.Mem.head _ | refine List.mem_cons_of_mem _ ?_ | (intro pS hS; (repeat (first | exact hS | exact List.mem_append_left _ hS | exact List.mem_append_left _ (List.mem_append_left _ hS) | exact List.mem_append_left _ (List.mem_append_right _ hS) | refine List.mem_cons_of_mem _ ?_ | refine List.mem_append_right _ ?_)); done) | refine List.mem_append_right _ ?_)); done) | (intro p hp; simp only [List.mem_cons, List.not_mem_nil, or_false] at hp ⊢; grind)
        · intro p hp
          simp [hp]
      · rename Fr _ _ _ _ => F8
        rename News _ _ _ _ => N8
        rename (_ = false) => he
        refine InvEndN.intro (nx := [(fnd, W.listOf va.toArray ea)]) F8 N8
          (exi3 acc _ _ ⟨rfl, hia, ?_, fun z hz hz2 => by simp [hz, hz2]⟩) rfl ?_ ?_
        · rw [hst, if_neg, List.append_nil]
          rw [htag]; simpa using he
        · first | ((repeat' (first | refine subCons ?_ ?_ | refine subApp ?_ ?_ | exact subNil | exact List.Mem.head _ | refine List.mem_cons_of_mem _ ?_ | (intro pS hS; (repeat (first | exact hS | exact List.mem_append_left _ hS | exact List.mem_append_left _ (List.mem_append_left _ hS) | exact List.mem_append_left _ (List.mem_append_right _ hS) | refine List.mem_cons_of_mem _ ?_ | refine List.mem_append_right _ ?_)); done) | refine List.mem_append_right _ ?_)); done) | (intro p hp; simp only [List.mem_cons, List.not_mem_nil, or_false] at hp ⊢; grind)
        · intro p hp
          simp [hp]
    · intro h7 tk7 hno kp
      have htag : tagOf fts k = none := by
        unfold tagOf
        by_cases h0 : 0 ≤ k
        · rw [if_pos h0, List.getElem?_eq_none (by first | exact Nat.le_trans (by assumption) (by decide) | omega)]; rfl
        · rw [if_neg h0]
      refine kp0K F6 N6 kp ?_
      intro F7 N7
      k_steps
      refine HoldP.mk ?_
      k_steps
      rename Fr _ _ _ _ => F8
      rename News _ _ _ _ => N8
      refine InvEndN.intro (nx := [(fnd, W.listOf va.toArray ea)]) F8 N8
        (exi3 acc _ _ ⟨rfl, hia, ?_, fun z hz hz2 => by simp [hz, hz2]⟩) rfl ?_ ?_
      · rw [hst, if_neg, List.append_nil]
        rw [htag]; simp
      · first | ((repeat' (first | refine subCons ?_ ?_ | refine subApp ?_ ?_ | exact subNil | exact List.Mem.head _ | refine List.mem_cons_of_mem _ ?_ | (intro pS hS; (repeat (first | exact hS | exact List.mem_append_left _ hS | exact List.mem_append_left _ (List.mem_append_left _ hS) | exact List.mem_append_left _ (List.mem_append_right _ hS) | refine List.mem_cons_of_mem _ ?_ | refine List.mem_append_right _ ?_)); done) | refine List.mem_append_right _ ?_)); done) | (intro p hp; simp only [List.mem_cons, List.not_mem_nil, or_false] at hp ⊢; grind)
      · intro p hp
        simp [hp]
  · intro m₁ nw₁ h6 tk6 hZ11i
    refine ex3 (hZ11i) ?_
    intro acc va ea hZ11
    refine an4 hZ11 ?_
    clear hZ11 hZ11i
    intro hZ11e0 hia hacc hm
    intro F6 N6
    rw [hZ11e0] at N6
    clear hZ11e0
    try k_fold
    rw [map02 hm] at F6
    have hfull : acc = featIdx fts fs tag := by
      rw [hacc, List.size_toArray, hi1.length, List.take_length]
    refine HoldP.mk ?_
    k_steps
    refine HoldP.mk ?_
    k_steps
    rw [hfull] at hia
    exact hret fnd va ea _ _ hia (N6.get (List.Mem.head _)) (fresh_of up (N6.fresh (List.Mem.head _)) (by simp)) (fun a o e _ => F6.keep _ _ (upg _ _ e))
end
section
open PySem PySem.W PyProof.Rows PySem.Calls



theorem StrsAre.at {vs : List Value} {ss : List Str} (h : StrsAre vs ss) : ∀ (i : Nat) (v : Value), vs[i]? = some v → ∃ x t, v = .str x t ∧ ss[i]? = some x := by
  induction h with
  | nil => intro i v h; simp at h
  | cons y t r ih =>
    intro i v h
    cases i with
    | zero => simp at h; exact ⟨y, t, h.symm, by simp⟩
    | succ i => simpa using ih i v (by simpa using h)
theorem strs_app {vs us : List Value} {ss ts : List Str} (h : StrsAre vs ss) (h' : StrsAre us ts) : StrsAre (vs ++ us) (ss ++ ts) := by
  induction h with
  | nil => exact h'
  | cons y t _ ih => exact .cons y t ih
theorem strs_len {vs : List Value} {ss : List Str} (h : StrsAre vs ss) : vs.length = ss.length := by
  induction h with
  | nil => rfl
  | cons y t _ ih => simp [ih]

/-- The tags that some numbers bear. -/
def TagOn (fts : List (Str × List Int)) (fs : List Int) (x : Str) : Prop := ∃ n ∈ fs, tagOf fts n = some x

theorem offered_ok {w : World} {mg mb : Str → Option Value} {A : Around} {s : Shared} {b : Heap} {Q E : Value → Shared → Prop} {lay one : Addr} {fts : List (Str × List Int)} {nl : Nat} {r : Int} {fs : List Int}
  (G : Gnd w mg mb b) (hb : ∀ a o, b.get? a = some o → s.heap.get? a = some o) (hA : A.handled = none) (hdp : A.depth + 2 < recursionLimit) (hun : A.units + 420 < cLine)
  (p1 : LayAt w b s.heap lay fts nl) (p2 : LSAt w b s.heap one r fs) (hl : fts.length ≤ 5) (hl2 : fs.length ≤ 32)
  (hret : ∀ (D : Addr) (vs : List Value) (ss : List Str) (e : Nat) (h' : Heap) (tk' : Nat), StrsAre vs ss → sortedS ss = true → ss.Nodup → (∀ x, x ∈ ss ↔ TagOn fts fs x) → ss.length ≤ 32 → h'.get? D = some (W.listOf vs.toArray e) → s.heap.get? D = none → Kp [] s.heap h' → Q (.ref D) { s with heap := h', toks := tk' }) :
  wpAny (model PySem.Challenge.rw_pb0163_01.row.prog w) A (call (.ref 150) [.ref lay, .ref one]) Q E s := by
  obtain ⟨_, dp, fr, gd, un⟩ := A
  obtain rfl := hA
  refine layatK p1 ?_
  intro dx sc fl ll k1 k2 k3 xs led el el' y1 y2 y3 y4 hft hled z1 z2 z3 z4
  refine lsatK p2 ?_
  intro d1 l1 k4 k5 t1 vs1 e1 a1 a2 a3 hi1 c1 c2 c3
  refine wpAny_call ?_
  k_dflt (refine' enterP (fp := []) G hb (by simp) ?ho ?hcd (by dsimp only at hdp ⊢; omega) ?hbind ?hloc ?_ ?hco ?hgen ?hk ?hcell; (case ho => k_is); (case hcd => k_is); (case hbind => exact BindsTo.of_eq rfl); (case hcell => decide); (case hloc => exact locs rfl); (case hco => exact rfl); (case hgen => exact rfl); (case hk => exact rfl))
  intro g L h₁ F N Gg up dn
  have X := Gg.X
  have T := Gg.T
  have upg : ∀ a o, s.heap.get? a = some o → g.get? a = some o := fun a o e => up a o e (by simp)
  have b1 := upg _ _ a1
  have b2 := upg _ _ a2
  have b3 : g.IsList l1 vs1.toArray := ⟨_, upg _ _ a3, rfl, _, rfl⟩
  have U : LayU w b g lay dx sc fl ll k1 k2 k3 xs el := ⟨upg _ _ y1, upg _ _ y2, upg _ _ y3, z1, z2, z3⟩
  have hxl := hft.length
  dsimp only
  try k_unmd
  k_fold
  refine baseK2 (Str.ofString "layout") (.ref lay) (Str.ofString "langsys") (.ref one) F (by rfl) (by rfl) ?_
  clear F
  intro mB F
  refine exec1 ?_
  k_steps
  refine HoldP.mk ?_
  rename Fr _ _ _ _ => F1
  rename News _ _ _ _ => N1
  refine exec1 ?_
  refine wpAny_If (hold ?_)
  k_steps
  refine HoldP.mk ?_
  rw [if_pos rfl]
  rename_i fnd q1 q2 h2
  refine exec1 ?_
  with_unfolding_all refine for_start g (by rfl) (by rfl) ?_
  k_steps
  refine HoldP.mk ?_
  have kb : ∀ {h : Heap}, (∀ a o, g.get? a = some o → h.get? a = some o) → ∀ a o, b.get? a = some o → h.get? a = some o := fun k a o e => k _ _ (upg _ _ (hb _ _ e))
  refine loop_list (fun m₀ i m nw => ∃ (acc : List Str) (va : List Value) (ea : Nat), nw = [(fnd, W.listOf va.toArray ea)] ∧
      StrsAre va acc ∧ acc.Nodup ∧ (∀ x, x ∈ acc ↔ TagOn fts (fs.take i) x) ∧ acc.length ≤ i ∧ ∀ z, z ≠ Str.ofString "number" → z ≠ Str.ofString "feature" → m z = m₀ z)
    rfl (by obtain ⟨o, ho, r⟩ := b3; exact ⟨o, F1.keep _ _ ho, r⟩) ?_ ?_ F1 N1 (exi3 [] [] 0 ⟨rfl, .nil, .nil, by simp [TagOn], by simp, fun _ _ _ => rfl⟩) ?_ ?_
  · exact fun q => by
      refine nameGoal ?_
      intro kG4 hG4
      obtain ⟨o, ho, r⟩ := b3
      refine hG4 ?_
      clear hG4 kG4
      exact absurd (Heap.lt_size ho) (Nat.not_lt.mpr (q ▸ F1.above))
  · intro p hp
    rw [List.mem_singleton.mp hp]
    intro q
    have := N1.fresh (List.Mem.head _)
    refine nameGoal ?_
    intro kG5 hG5
    obtain ⟨o, ho, r⟩ := b3
    refine hG5 ?_
    clear hG5 kG5
    rw [show l1 = fnd from q.symm] at ho
    rw [ho] at this; cases this
  · intro i v m₁ nw₁ h6 tk6 own hv _ hown hZ6i
    refine ex3 (hZ6i) ?_
    intro acc va ea hZ6
    refine an6 hZ6 ?_
    clear hZ6 hZ6i
    intro hZ6e0 hia hnd hmem hle hm
    intro F6 N6
    rw [hZ6e0] at N6
    clear hZ6e0
    try k_fold
    rw [map2 hm] at F6
    simp only [List.cons_append, List.nil_append] at N6
    refine nameGoal ?_
    intro kG7 hG7
    obtain ⟨k, t, rfl, hk⟩ := IntsAre.at hi1 i v (by simpa using hv)
    refine hG7 ?_
    clear hG7 kG7
    have hi32 : i < fs.length := (List.getElem?_eq_some_iff.mp hk).1
    have hst : ∀ x, TagOn fts (fs.take (i + 1)) x ↔ TagOn fts (fs.take i) x ∨ tagOf fts k = some x := by
      intro x
      unfold TagOn
      rw [List.take_add_one, hk]
      simp only [Option.toList_some, List.mem_append, List.mem_singleton]
      constructor
      · rintro ⟨n, hn | rfl, e⟩
        · exact .inl ⟨n, hn, e⟩
        · exact .inr e
      · rintro (⟨n, hn, e⟩ | e)
        · exact ⟨n, .inl hn, e⟩
        · exact ⟨k, .inr rfl, e⟩
    refine exec1 ?_
    k_steps
    refine feature_at_ok G (kb F6.keep) rfl (ltG hdp (Nat.le_refl (dp + 1)) (by decide)) (ltG hun (Nat.le_refl (un + 3)) (by decide)) ⟨F6.keep _ _ U.a1, F6.keep _ _ U.a2, F6.keep _ _ U.a3, z1, z2, z3⟩ (by first | exact Nat.le_trans (by assumption) (by decide) | omega) ?_ ?_
    · intro x h7 tk7 hk0 hx kp
      refine ex1 (hft.at _ _ hx) ?_
      intro ft qF
      have hft1 := qF.1
      refine ex7 qF.2 ?_
      intro dx' lx kk1 kk2 tx vx ex qG
      refine an4 qG ?_
      clear qG qF
      intro m1 m2 m3 mi
      have htag : tagOf fts k = some ft.1 := by unfold tagOf; rw [if_pos hk0, hft1]; rfl
      have i1 := upg _ _ (hled _ m1).1
      have i2 := upg _ _ (hled _ m2).1
      refine kp0K F6 N6 kp ?_
      intro F7 N7
      k_steps
      refine HoldP.mk ?_
      k_steps
      · rename Fr _ _ _ _ => F8
        rename News _ _ _ _ => N8
        rename (_ = true) => he
        have hin : ft.1 ∈ acc := by simpa using he
        refine InvEndN.intro (nx := [(fnd, W.listOf va.toArray ea)]) F8 N8
          (exi3 acc _ _ ⟨rfl, hia, hnd, ?_, by omega, fun z hz hz2 => by simp [hz, hz2]⟩) rfl ?_ ?_
        · intro x
          rw [hst, ← hmem, htag]
          constructor
          · exact .inl
          · rintro (h | h)
            · exact h
            · rw [← Option.some.inj h]; exact hin
        · first | ((repeat' (first | refine subCons ?_ ?_ | refine subApp ?_ ?_ | exact subNil | exact List.Mem.head _ | refine List.mem_cons_of_mem _ ?_ | (intro pS hS; (repeat (first | exact hS | exact List.mem_append_left _ hS | exact List.mem_append_left _ (List.mem_append_left _ hS) | exact List.mem_append_left _ (List.mem_append_right _ hS) | refine List.mem_cons_of_mem _ ?_ | refine List.mem_append_right _ ?_)); done) | refine List.mem_append_right _ ?_)); done) | (intro p hp; simp only [List.mem_cons, List.not_mem_nil, or_false] at hp ⊢; grind)
        · intro p hp
          simp [hp]
      · rename Fr _ _ _ _ => F8
        rename News _ _ _ _ => N8
        rename (_ = false) => he
        have hin : ft.1 ∉ acc := fun q => by
          simp at he
          exact he _ q rfl
        rw [show va.toArray.push (Value.str ft.1 tx) = (va ++ [Value.str ft.1 tx]).toArray by simp] at N8
        refine InvEndN.intro (nx := [(fnd, W.listOf (va ++ [Value.str ft.1 tx]).toArray (ea + 1))]) F8 N8
          ⟨acc ++ [ft.1], _, _, rfl, strs_app hia (.cons _ _ .nil), ?_, ?_, by simp; omega, fun z hz hz2 => by simp [hz, hz2]⟩ rfl ?_ ?_
        · refine List.nodup_append.mpr ⟨hnd, by simp, ?_⟩
          intro a ha b' hb'
          rw [List.mem_singleton.mp hb']
          exact fun q => hin (q ▸ ha)
        · intro x
          rw [hst, ← hmem, htag, List.mem_append, List.mem_singleton]
          constructor
          · rintro (h | h)
            · exact .inl h
            · exact .inr (by rw [h])
          · rintro (h | h)
            · exact .inl h
            · exact .inr (Option.some.inj h).symm
        · first | ((repeat' (first | refine subCons ?_ ?_ | refine subApp ?_ ?_ | exact subNil | exact List.Mem.head _ | refine List.mem_cons_of_mem _ ?_ | (intro pS hS; (repeat (first | exact hS | exact List.mem_append_left _ hS | exact List.mem_append_left _ (List.mem_append_left _ hS) | exact List.mem_append_left _ (List.mem_append_right _ hS) | refine List.mem_cons_of_mem _ ?_ | refine List.mem_append_right _ ?_)); done) | refine List.mem_append_right _ ?_)); done) | (intro p hp; simp only [List.mem_cons, List.not_mem_nil, or_false] at hp ⊢; grind)
        · intro p hp
          simp [hp]
    · intro h7 tk7 hno kp
      have htag : tagOf fts k = none := by
        unfold tagOf
        by_cases h0 : 0 ≤ k
        · rw [if_pos h0, List.getElem?_eq_none (by first | exact Nat.le_trans (by assumption) (by decide) | omega)]; rfl
        · rw [if_neg h0]
      refine kp0K F6 N6 kp ?_
      intro F7 N7
      k_steps
      refine HoldP.mk ?_
      k_steps
      rename Fr _ _ _ _ => F8
      rename News _ _ _ _ => N8
      refine InvEndN.intro (nx := [(fnd, W.listOf va.toArray ea)]) F8 N8
        (exi3 acc _ _ ⟨rfl, hia, hnd, ?_, by omega, fun z hz hz2 => by simp [hz, hz2]⟩) rfl ?_ ?_
      · intro x
        rw [hst, ← hmem, htag]
        simp
      · first | ((repeat' (first | refine subCons ?_ ?_ | refine subApp ?_ ?_ | exact subNil | exact List.Mem.head _ | refine List.mem_cons_of_mem _ ?_ | (intro pS hS; (repeat (first | exact hS | exact List.mem_append_left _ hS | exact List.mem_append_left _ (List.mem_append_left _ hS) | exact List.mem_append_left _ (List.mem_append_right _ hS) | refine List.mem_cons_of_mem _ ?_ | refine List.mem_append_right _ ?_)); done) | refine List.mem_append_right _ ?_)); done) | (intro p hp; simp only [List.mem_cons, List.not_mem_nil, or_false] at hp ⊢; grind)
      · intro p hp
        simp [hp]
  · intro m₁ nw₁ h6 tk6 hZ11i
    refine ex3 (hZ11i) ?_
    intro acc va ea hZ11
    refine an6 hZ11 ?_
    clear hZ11 hZ11i
    intro hZ11e0 hia hnd hmem hle hm
    intro F6 N6
    rw [hZ11e0] at N6
    clear hZ11e0
    try k_fold
    rw [map02 hm] at F6
    rw [List.size_toArray, hi1.length, List.take_length] at hmem
    rw [List.size_toArray, hi1.length] at hle
    have hvl := strs_len hia
    refine HoldP.mk ?_
    k_steps
    refine HoldP.mk ?_
    refine wpAny_execs_cons (wpAny_Return_some (hold ?_))
    k_steps
    refine sorted_N_str F6 N6 (N6.isList (List.Mem.head _)) hia (by first | exact Nat.le_trans (by assumption) (by decide) | omega) ?_
    intro h7 vs7 ss7 e7 F7 N7 hs7 hp7 ho7
    refine HoldP.mk ?_
    exact hret _ vs7 ss7 e7 _ _ hs7 ho7 (hp7.nodup_iff.mpr hnd) (fun x => (hp7.mem_iff).trans (hmem x)) (by rw [hp7.length_eq]; omega) (N7.get (List.Mem.head _)) (fresh_of up (N7.fresh (List.Mem.head _)) (by simp)) (fun a o e _ => F7.keep _ _ (upg _ _ e))
end
section
open PySem PySem.W PyProof.Rows PySem.Calls

theorem bitOr_nat (m n : Nat) : Builtin.bitOr (m : Int) (n : Int) = ((m ||| n : Nat) : Int) := by
  have e : ∀ k : Nat, Builtin.bitNot (k : Int) = Int.negSucc k := fun k => by unfold Builtin.bitNot; omega
  have e2 : ∀ k : Nat, Builtin.bitNot (Int.negSucc k) = (k : Int) := fun k => by unfold Builtin.bitNot; omega
  have e3 : ∀ k : Nat, (-((k : Nat) : Int) - 1) < 0 := fun k => by omega
  unfold Builtin.bitOr
  rw [e, e]
  unfold Builtin.bitAnd
  have e4 : ∀ k : Nat, decide (0 ≤ Int.negSucc k) = false := fun k => by simp
  simp only [e2, Int.toNat_natCast, e, e4]

section
variable {K : Type} [DecidableEq K]
theorem valueAt_cons (p : K × Value) (r : List (K × Value)) (k : K) : valueAt (p :: r) k = if p.1 = k then some p.2 else valueAt r k := by
  unfold valueAt
  by_cases h : p.1 = k <;> simp [List.find?_cons, h]
theorem valueAt_append (a b : List (K × Value)) (k : K) : valueAt (a ++ b) k = (valueAt a k).or (valueAt b k) := by
  induction a with
  | nil => simp [valueAt]
  | cons p r ih =>
    rw [List.cons_append, valueAt_cons, valueAt_cons, ih]
    by_cases h : p.1 = k <;> simp [h]
theorem valueAt_none {kvs : List (K × Value)} {k : K} : valueAt kvs k = none ↔ k ∉ kvs.map (·.1) := by
  induction kvs with
  | nil => simp [valueAt]
  | cons p r ih =>
    rw [valueAt_cons]
    by_cases h : p.1 = k
    · simp [h]
    · simp only [if_neg h, List.map_cons, List.mem_cons, not_or, ih]
      exact ⟨fun q => ⟨fun z => h z.symm, q⟩, fun q => q.2⟩
theorem valueAt_map (kvs : List (K × Value)) (k : K) (v : Value) (k' : K) : valueAt (kvs.map fun kv => if kv.1 = k then (kv.1, v) else kv) k' = if k' = k then (valueAt kvs k').map fun _ => v else valueAt kvs k' := by
  induction kvs with
  | nil => simp [valueAt]
  | cons p r ih =>
    rw [List.map_cons, valueAt_cons, valueAt_cons, ih]
    by_cases h1 : p.1 = k
    · simp only [h1, if_true]
      by_cases h2 : k = k'
      · subst h2; simp
      · simp [h2, fun z : k' = k => h2 z.symm]
    · simp only [h1, if_false]
      by_cases h2 : p.1 = k'
      · subst h2; simp [h1]
      · simp [h2]
theorem valueAt_stored (kvs : List (K × Value)) (k : K) (v : Value) (k' : K) : valueAt (stored kvs k v) k' = if k' = k then some v else valueAt kvs k' := by
  unfold stored
  by_cases h : kvs.any (fun kv => kv.1 = k) = true
  · rw [if_pos h, valueAt_map]
    by_cases h2 : k' = k
    · subst h2
      rw [if_pos rfl, if_pos rfl]
      cases e : valueAt kvs k' with
      | some u => rfl
      | none =>
        rw [valueAt_none] at e
        obtain ⟨p, hp, q⟩ := List.any_eq_true.mp h
        exact absurd (List.mem_map.mpr ⟨p, hp, by simpa using q⟩) e
    · rw [if_neg h2, if_neg h2]
  · rw [if_neg h, valueAt_append, valueAt_cons]
    have hn : valueAt kvs k = none := by
      rw [valueAt_none]
      intro hm
      obtain ⟨p, hp, q⟩ := List.mem_map.mp hm
      exact h (List.any_eq_true.mpr ⟨p, hp, by simpa using q⟩)
    by_cases h2 : k' = k
    · subst h2; simp [hn]
    · have h3 : ¬ k = k' := fun z => h2 z.symm
      simp only [if_neg h2, if_neg h3]
      cases valueAt kvs k' <;> simp [valueAt]
end

/-- What a dict of masks holds. -/
def Den (kvs : List (Int × Value)) (M : Int → Option Nat) : Prop := ∀ k, match M k with
  | some n => ∃ t, valueAt kvs k = some (.int (n : Int) t)
  | none => valueAt kvs k = none
def Supp (M : Int → Option Nat) : Prop := ∀ k, M k ≠ none → 0 ≤ k ∧ k < 7

theorem Den.mem {kvs : List (Int × Value)} {M : Int → Option Nat} (d : Den kvs M) (k : Int) : k ∈ kvs.map (·.1) ↔ M k ≠ none := by
  have h := d k
  constructor
  · intro hm e
    rw [e] at h
    exact valueAt_none.mp h hm
  · intro hn
    cases e : M k with
    | none => exact absurd e hn
    | some n =>
      rw [e] at h
      obtain ⟨t, ht⟩ := h
      exact Decidable.byContradiction fun q => by rw [valueAt_none.mpr q] at ht; cases ht

theorem nodup_bound : ∀ (n : Nat) (l : List Int), l.Nodup → (∀ k ∈ l, 0 ≤ k ∧ k < (n : Int)) → l.length ≤ n
  | 0, l, _, h => by
    cases l with
    | nil => simp
    | cons a r => have := h a (by simp); omega
  | n + 1, l, hd, h => by
    have h1 := nodup_bound n (l.erase (n : Int)) (hd.erase _) (fun k hk => by
      have h2 := h k (List.mem_of_mem_erase hk)
      have h3 : k ≠ (n : Int) := fun q => by
        rw [q] at hk
        exact absurd hk (by rw [List.Nodup.mem_erase_iff hd]; simp)
      omega)
    have h4 := List.length_erase (a := (n : Int)) (l := l)
    rw [h4] at h1
    split at h1 <;> omega

theorem den_len {kvs : List (Int × Value)} {M : Int → Option Nat} (d : Den kvs M) (hn : (kvs.map (·.1)).Nodup) (hs : Supp M) : kvs.length ≤ 7 := by
  have := nodup_bound 7 _ hn (fun k hk => hs k ((d.mem k).mp hk))
  simpa using this

theorem Den.put {kvs : List (Int × Value)} {M : Int → Option Nat} (d : Den kvs M) (k : Int) (n : Nat) (t : Tok) : Den (stored kvs k (.int (n : Int) t)) (fun j => if j = k then some n else M j) := by
  intro j
  rw [valueAt_stored]
  by_cases h : j = k
  · simp [h]
  · simp only [if_neg h]; exact d j

def addM (nl : Nat) (ls : List Int) (m : Nat) (M : Int → Option Nat) : Int → Option Nat := fun k => if k ∈ ls ∧ k < (nl : Int) then some ((M k).getD 0 ||| m) else M k

theorem or_again (a m : Nat) : (a ||| m) ||| m = a ||| m := by rw [Nat.or_assoc, Nat.or_self]

theorem addM_snoc (nl : Nat) (ls : List Int) (n : Int) (m : Nat) (M : Int → Option Nat) :
    addM nl (ls ++ [n]) m M = if n < (nl : Int) then (fun j => if j = n then some (((addM nl ls m M) n).getD 0 ||| m) else addM nl ls m M j) else addM nl ls m M := by
  funext k
  by_cases hn : n < (nl : Int)
  · rw [if_pos hn]
    by_cases hk : k = n
    · subst hk
      simp only [if_true]
      unfold addM
      by_cases h2 : k ∈ ls
      · simp [h2, hn, or_again]
      · simp [h2, hn]
    · simp only [if_neg hk]
      unfold addM
      simp [hk]
  · rw [if_neg hn]
    unfold addM
    by_cases hk : k = n
    · subst hk; simp [hn]
    · simp [hk]
theorem addM_nil (nl : Nat) (m : Nat) (M : Int → Option Nat) : addM nl [] m M = M := by funext k; simp [addM]
theorem addM_supp {nl : Nat} {ls : List Int} {m : Nat} {M : Int → Option Nat} (hs : Supp M) (hl : ∀ k ∈ ls, 0 ≤ k ∧ k < 7) : Supp (addM nl ls m M) := by
  intro k hk
  unfold addM at hk
  by_cases h : k ∈ ls ∧ k < (nl : Int)
  · exact hl k h.1
  · rw [if_neg h] at hk; exact hs k hk
end
section
open PySem PySem.W PyProof.Rows PySem.Calls



theorem mget {prog : Program} {w : World} {A : Around} {E : Value → Shared → Prop} {s : Shared} {h₀ : Heap} {L d : Addr} {news : List (Addr × Obj)} {o : Obj} {kvs : List (Int × Value)} {M : Int → Option Nat} {k : Int} {t0 t1 : Tok} {Q : Value → Shared → Prop}
    (N : News h₀ L s.heap news) (hp : (d, o) ∈ news) (hd : o.IsDictOf (intKind prog w) kvs) (lo : (d == sysModules) = false) (den : Den kvs M) (h : ∀ t, Q (.int (((M k).getD 0 : Nat) : Int) t) { s with toks := s.toks + 1 }) :
    wpAny (model prog w) A (call (.builtin "dict.get") [.ref d, .int k t0, .int 0 t1]) Q E s := by
  refine kdg_get2 N hp hd lo (intKind_is _ _ _ _) (valueAt kvs k) rfl ?_
  have dk := den k
  cases e : M k with
  | none =>
    rw [e] at dk
    rw [dk]
    have := h t1
    rw [e] at this
    exact this
  | some n =>
    rw [e] at dk
    obtain ⟨t, ht⟩ := dk
    rw [ht]
    have := h t
    rw [e] at this
    exact this

theorem dict_len {w : World} {o : Obj} {kvs : List (Int × Value)} {M : Int → Option Nat} (hd : o.IsDictOf (intKind PySem.Challenge.rw_pb0163_01.row.prog w) kvs) (den : Den kvs M) (supp : Supp M) : kvs.length ≤ 7 := by
  refine nameGoal ?_
  intro kG1 hG1
  obtain ⟨_, _, _, _, _, _, h⟩ := hd
  refine hG1 ?_
  clear hG1 kG1
  exact den_len den h supp

theorem addl_ok {w : World} {mg mb : Str → Option Value} {A : Around} {s : Shared} {b c : Heap} {Q E : Value → Shared → Prop} {md lay dx sc fl ll x dx' lx : Addr} {k1 k2 k3 kk1 kk2 : Tok} {nl e' ex : Nat} {tg : Str} {tx : Tok} {vx : List Value} {ls : List Int} {o : Obj} {kvs : List (Int × Value)} {M : Int → Option Nat} {m : Nat} {tm : Tok}
  (G : Gnd w mg mb b) (hb : ∀ a o, b.get? a = some o → c.get? a = some o) (hc : ∀ a o, c.get? a = some o → s.heap.get? a = some o) (hA : A.handled = none) (hdp : A.depth + 2 < recursionLimit) (hun : A.units + 420 < cLine)
  (hmd : s.heap.get? md = some o) (hmn : c.get? md = none) (lo : (md == sysModules) = false) (hd : o.IsDictOf (intKind PySem.Challenge.rw_pb0163_01.row.prog w) kvs) (den : Den kvs M) (supp : Supp M)
  (a1 : c.get? lay = some (instObj 118 dx)) (a2 : c.get? dx = some (lyDict w k1 k2 k3 sc fl ll)) (a3 : c.get? ll = some (W.listOf (List.replicate nl Value.none).toArray e')) (hnl : nl ≤ 64)
  (b1 : c.get? x = some (instObj 92 dx')) (b2 : c.get? dx' = some (ftDict w kk1 kk2 tg tx lx)) (b3 : c.get? lx = some (W.listOf vx.toArray ex)) (hi : IntsAre vx ls) (hls : ∀ k ∈ ls, 0 ≤ k ∧ k < 7)
  (hret : ∀ (o' : Obj) (kvs' : List (Int × Value)) (h' : Heap) (tk' : Nat), h'.get? md = some o' → o'.IsDictOf (intKind PySem.Challenge.rw_pb0163_01.row.prog w) kvs' → Den kvs' (addM nl ls m M) → Kp [md] s.heap h' → Q .none { s with heap := h', toks := tk' }) :
  wpAny (model PySem.Challenge.rw_pb0163_01.row.prog w) A (call (.ref 157) [.ref md, .ref lay, .ref x, .int (m : Int) tm]) Q E s := by
  obtain ⟨_, dp, fr, gd, un⟩ := A
  obtain rfl := hA
  refine wpAny_call ?_
  k_dflt (refine' enterP (fp := [(md, o)]) G (fun a o e => hc _ _ (hb a o e)) ?hfp ?ho ?hcd (by dsimp only at hdp ⊢; omega) ?hbind ?hloc ?_ ?hco ?hgen ?hk ?hcell; (case ho => k_is); (case hcd => k_is); (case hbind => exact BindsTo.of_eq rfl); (case hcell => decide); (case hloc => exact locs rfl); (case hco => exact rfl); (case hgen => exact rfl); (case hk => exact rfl))
  · intro p hp
    rw [List.mem_singleton.mp hp]
    exact ⟨hmd, none_of hb hmn⟩
  intro g L h₁ F N Gg up dn
  have X := Gg.X
  have T := Gg.T
  have upg : ∀ a o, c.get? a = some o → g.get? a = some o := fun a o e => up a o (hc _ _ e) (by
    intro q
    have : a = md := by simpa using q
    rw [this, hmn] at e; cases e)
  have y1 := upg _ _ a1
  have y2 := upg _ _ a2
  have y3 : g.IsList ll (List.replicate nl Value.none).toArray := ⟨_, upg _ _ a3, rfl, _, rfl⟩
  have z1 := upg _ _ b1
  have z2 := upg _ _ b2
  have z3 : g.IsList lx vx.toArray := ⟨_, upg _ _ b3, rfl, _, rfl⟩
  have hmL : md ≠ L := (N _ (List.Mem.head _)).2.1
  dsimp only
  try k_unmd
  k_fold
  refine baseK4 (Str.ofString "masks") (.ref md) (Str.ofString "layout") (.ref lay) (Str.ofString "feature") (.ref x) (Str.ofString "mask") (.int (m : Int) tm) F (by rfl) (by rfl) (by rfl) (by rfl) ?_
  clear F
  intro mB F
  refine exec1 ?_
  with_unfolding_all refine for_start g (by rfl) (by rfl) ?_
  k_steps
  refine HoldP.mk ?_
  refine loop_list (fun m₀ i m' nw => ∃ (o' : Obj) (kvs' : List (Int × Value)), nw = [(md, o')] ∧ o'.IsDictOf (intKind PySem.Challenge.rw_pb0163_01.row.prog w) kvs' ∧ Den kvs' (addM nl (ls.take i) m M) ∧
      ∀ z, z ≠ Str.ofString "number" → m' z = m₀ z)
    rfl (by obtain ⟨o, ho, r⟩ := z3; exact ⟨o, F.keep _ _ ho, r⟩) ?_ ?_ F N ⟨o, kvs, rfl, hd, by rw [List.take_zero, addM_nil]; exact den, fun _ _ => rfl⟩ ?_ ?_
  · exact fun q => by
      refine nameGoal ?_
      intro kG3 hG3
      obtain ⟨o, ho, r⟩ := z3
      refine hG3 ?_
      clear hG3 kG3
      exact absurd (Heap.lt_size ho) (Nat.not_lt.mpr (q ▸ F.above))
  · intro p hp
    rw [List.mem_singleton.mp hp]
    intro q
    have := N.fresh (List.Mem.head _)
    refine nameGoal ?_
    intro kG4 hG4
    obtain ⟨o, ho, r⟩ := z3
    refine hG4 ?_
    clear hG4 kG4
    rw [show lx = md from q.symm] at ho
    rw [ho] at this; cases this
  · intro i v m₁ nw₁ h6 tk6 own hv _ hown hZ5i
    refine ex2 (hZ5i) ?_
    intro o' kvs' hZ5
    refine an4 hZ5 ?_
    clear hZ5 hZ5i
    intro hZ5e0 hd' den' hm
    intro F6 N6
    rw [hZ5e0] at N6
    clear hZ5e0
    try k_fold
    rw [map1 hm] at F6
    simp only [List.cons_append, List.nil_append] at N6
    refine nameGoal ?_
    intro kG6 hG6
    obtain ⟨k, t, rfl, hk⟩ := IntsAre.at hi i v (by simpa using hv)
    refine hG6 ?_
    clear hG6 kG6
    have hkl : 0 ≤ k ∧ k < 7 := hls k (List.mem_of_getElem? hk)
    have hsn : addM nl (ls.take (i + 1)) m M = if k < (nl : Int) then (fun j => if j = k then some (((addM nl (ls.take i) m M) k).getD 0 ||| m) else addM nl (ls.take i) m M j) else addM nl (ls.take i) m M := by
      rw [List.take_add_one, hk]; exact addM_snoc _ _ _ _ _
    refine exec1 ?_
    k_steps
    refine Calls.call_len_list (by obtain ⟨o, ho, r⟩ := y3; exact ⟨o, F6.keep _ _ ho, r⟩) (by simp; omega) ?_
    have sup' : Supp (addM nl (ls.take i) m M) := addM_supp supp fun k hk => hls k (List.mem_of_mem_take hk)
    have hkn : kvs'.length ≤ 7 := dict_len hd' den' sup'
    k_steps
    · refine mget N6 (List.Mem.head _) hd' lo den' ?_
      intro t9
      k_steps
      refine dict_put F6 N6 (fun p hp => hown p hp _ (by simp)) hd' (intKind_is _ _ _ _) (by first | exact Nat.le_trans (by assumption) (by decide) | omega) ?_
      intro h8 o8 F8 N8 hd8
      rename (k < _) => hlt
      rw [if_pos (by simpa using hlt)] at hsn
      rw [bitOr_nat] at hd8
      k_steps
      refine HoldP.mk ?_
      k_steps
      refine InvEndN.intro (nx := [(md, o8)]) F8 N8 ⟨o8, _, rfl, hd8, ?_, fun z hz => by simp [hz]⟩ rfl ?_ ?_
      · rw [hsn]; exact den'.put _ _ _
      · first | ((repeat' (first | refine subCons ?_ ?_ | refine subApp ?_ ?_ | exact subNil | exact List.Mem.head _ | refine List.mem_cons_of_mem _ ?_ | (intro pS hS; (repeat (first | exact hS | exact List.mem_append_left _ hS | exact List.mem_append_left _ (List.mem_append_left _ hS) | exact List.mem_append_left _ (List.mem_append_right _ hS) | refine List.mem_cons_of_mem _ ?_ | refine List.mem_append_right _ ?_)); done) | refine List.mem_append_right _ ?_)); done) | (intro p hp; simp only [List.mem_cons, List.not_mem_nil, or_false] at hp ⊢; grind)
      · intro p hp
        simp [hp]
    · refine HoldP.mk ?_
      k_steps
      rename (¬ _) => hlt
      rw [if_neg (by simpa using hlt)] at hsn
      refine InvEndN.intro (nx := [(md, o')]) F6 N6 ⟨o', _, rfl, hd', ?_, fun z hz => by simp [hz]⟩ rfl ?_ ?_
      · rw [hsn]; exact den'
      · first | ((repeat' (first | refine subCons ?_ ?_ | refine subApp ?_ ?_ | exact subNil | exact List.Mem.head _ | refine List.mem_cons_of_mem _ ?_ | (intro pS hS; (repeat (first | exact hS | exact List.mem_append_left _ hS | exact List.mem_append_left _ (List.mem_append_left _ hS) | exact List.mem_append_left _ (List.mem_append_right _ hS) | refine List.mem_cons_of_mem _ ?_ | refine List.mem_append_right _ ?_)); done) | refine List.mem_append_right _ ?_)); done) | (intro p hp; simp only [List.mem_cons, List.not_mem_nil, or_false] at hp ⊢; grind)
      · intro p hp
        simp [hp]
  · intro m₁ nw₁ h6 tk6 hZ7i
    refine ex2 (hZ7i) ?_
    intro o' kvs' hZ7
    refine an4 hZ7 ?_
    clear hZ7 hZ7i
    intro hZ7e0 hd' den' hm
    intro F6 N6
    rw [hZ7e0] at N6
    clear hZ7e0
    try k_fold
    refine HoldP.mk ?_
    k_steps
    rw [List.size_toArray, hi.length, List.take_length] at den'
    refine hret o' kvs' _ _ (N6.get (List.Mem.head _)) hd' den' (fun a o e n => F6.keep _ _ (up a o e (by simpa using n)))
end
section
open PySem PySem.W PyProof.Rows PySem.Calls

section
variable {prog : Program} {w : World} {A : Around} {E : Value → Shared → Prop} {s : Shared} {h₀ : Heap} {L D d : Addr} {m : Str → Option Value} {news rest : List (Addr × Obj)} {n : Nat} {vs : List Value} {ss : List Str} {ns : List Int} {Q : Value → Shared → Prop}

theorem lsort_news {out : Array Value} {c : Nat} (N : News h₀ L s.heap ((D, W.listOf vs.toArray n) :: rest)) (x2 : ∀ p ∈ rest, p.1 ≠ D) (hc : (sortedHeap s.heap D vs out).get? D = some (seqObj "list" out c)) :
    News h₀ L (sortedHeap s.heap D vs out) ((D, W.listOf out c) :: rest) := by
  intro p hq
  have z := N _ (List.Mem.head _)
  rcases List.mem_cons.mp hq with rfl | hq
  · exact ⟨hc, z.2⟩
  · have y := N p (.tail _ hq)
    exact ⟨(sortedHeap_old (x2 p hq) (Heap.lt_size y.1)).trans y.1, y.2⟩
theorem lsort_fr {out : Array Value} (F : Fr h₀ L s.heap m) (N : News h₀ L s.heap ((D, W.listOf vs.toArray n) :: rest)) : Fr h₀ L (sortedHeap s.heap D vs out) m :=
  have z := N _ (List.Mem.head _)
  ksk_fr (((ksk_fr F (Heap.SameBut.update s.heap D (Obj.mapSeq fun _ => #[])) z.2.1 z.2.2).push (seqObj "tuple" vs.toArray 0)).push (seqObj "list" #[] 0)) (Heap.SameBut.update _ D (Obj.mapSeq fun _ => out)) z.2.1 z.2.2

theorem lsort_str (F : Fr h₀ L s.heap m) (N : News h₀ L s.heap ((D, W.listOf vs.toArray n) :: rest)) (x2 : ∀ p ∈ rest, p.1 ≠ D) (hS : StrsAre vs ss) (h64 : vs.length < 64)
    (h : ∀ (vs' : List Value) (ss' : List Str) (c : Nat) (h' : Heap), Fr h₀ L h' m → News h₀ L h' ((D, W.listOf vs'.toArray c) :: rest) → StrsAre vs' ss' → ss'.Perm ss → sortedS ss' = true → Q .none { s with heap := h' }) :
    wpAny (model prog w) A (call (.builtin "list.sort") [.ref D]) Q E s := by
  have ho : s.heap.get? D = some (seqObj "list" vs.toArray n) := (N _ (List.Mem.head _)).1
  refine wpAny_call_entry PyProof.Rows.slot_list_sort ⟨_, ho, rfl⟩ PyProof.Rows.entry_list_sort (list_sort_treeK strKind_oneLt ho hS.keysOf (fun v₁ v₂ rest e => keyKind_strs (by rw [← e]; exact hS)) h64 fun st' hp hs => ⟨.none, rfl, ?_⟩) (PyProof.Rows.args_list_sort _)
  obtain ⟨ss', h1, h2, h3⟩ := sorted_out_str hS hp hs
  obtain ⟨c, hc⟩ := sortedHeap_at (vs := vs) (out := (arrOf st').map (·.2)) ho
  exact h _ ss' c _ (lsort_fr F N) (by rw [Array.toArray_toList]; exact lsort_news N x2 hc) h1 h2 h3

theorem lsort_int (F : Fr h₀ L s.heap m) (N : News h₀ L s.heap ((D, W.listOf vs.toArray n) :: rest)) (x2 : ∀ p ∈ rest, p.1 ≠ D) (hS : IntsAre vs ns) (h64 : vs.length < 64)
    (h : ∀ (vs' : List Value) (ns' : List Int) (c : Nat) (h' : Heap), Fr h₀ L h' m → News h₀ L h' ((D, W.listOf vs'.toArray c) :: rest) → IntsAre vs' ns' → ns'.Perm ns → ns'.Pairwise (· ≤ ·) → Q .none { s with heap := h' }) :
    wpAny (model prog w) A (call (.builtin "list.sort") [.ref D]) Q E s := by
  have ho : s.heap.get? D = some (seqObj "list" vs.toArray n) := (N _ (List.Mem.head _)).1
  refine wpAny_call_entry PyProof.Rows.slot_list_sort ⟨_, ho, rfl⟩ PyProof.Rows.entry_list_sort (list_sort_tree ho hS h64 fun out ns' h1 h2 h3 => ⟨.none, rfl, ?_⟩) (PyProof.Rows.args_list_sort _)
  obtain ⟨c, hc⟩ := sortedHeap_at (vs := vs) (out := out) ho
  exact h _ ns' c _ (lsort_fr F N) (by rw [Array.toArray_toList]; exact lsort_news N x2 hc) h1 h2 h3

theorem strs_of : ∀ {kvs : List (Str × Value)} {vs : List Value}, vs.length = kvs.length → (∀ (j : Nat) (v : Value), vs[j]? = some v → ∃ k x, kvs[j]? = some (k, x) ∧ (PySem.strKind prog w).is k v = true) → StrsAre vs (kvs.map (·.1)) := by
  intro kvs
  induction kvs with
  | nil =>
    intro vs hl _
    cases vs with
    | nil => exact .nil
    | cons _ _ => cases hl
  | cons p r ih =>
    intro vs hl h
    cases vs with
    | nil => cases hl
    | cons v vr =>
      obtain ⟨k', x', e, hk⟩ := h 0 v rfl
      cases e
      obtain ⟨t, rfl⟩ := Value.isStrOf_shape hk
      exact .cons _ t (ih (Nat.succ.inj hl) fun j v' e => h (j + 1) v' e)
theorem ints_of : ∀ {kvs : List (Int × Value)} {vs : List Value}, vs.length = kvs.length → (∀ (j : Nat) (v : Value), vs[j]? = some v → ∃ k x, kvs[j]? = some (k, x) ∧ (intKind prog w).is k v = true) → IntsAre vs (kvs.map (·.1)) := by
  intro kvs
  induction kvs with
  | nil =>
    intro vs hl _
    cases vs with
    | nil => exact .nil
    | cons _ _ => cases hl
  | cons p r ih =>
    intro vs hl h
    cases vs with
    | nil => cases hl
    | cons v vr =>
      obtain ⟨k', x', e, hk⟩ := h 0 v rfl
      cases e
      obtain ⟨t, rfl⟩ := Value.isInt_shape hk
      exact .cons _ t (ih (Nat.succ.inj hl) fun j v' e => h (j + 1) v' e)

theorem sorted_strD {kvs : List (Str × Value)} (hh : A.handled = none) (F : Fr h₀ L s.heap m) (N : News h₀ L s.heap news) (hD : s.heap.DictOf (PySem.strKind prog w) d kvs) (lo : (d == sysModules) = false) (hn : kvs.length < 64)
    (h : ∀ (D : Addr) (h' : Heap) (tk : Nat) (vs' : List Value) (ss' : List Str) (c : Nat), Fr h₀ L h' m → News h₀ L h' ((D, W.listOf vs'.toArray c) :: news) → (∀ q ∈ news, q.1 < D) → StrsAre vs' ss' → ss'.Perm (kvs.map (·.1)) → sortedS ss' = true → Q (.ref D) { s with heap := h', toks := tk }) :
    wpAny (model prog w) A (call (.builtin "sorted") [.ref d]) Q E s := by
  obtain ⟨ep, hat⟩ := hD.dictAt
  refine kdu_sorted (kdl_dict (knd := PySem.strKind prog w) (kvs := kvs) (ep := ep) lo) hh F N hat (by rw [sizeLine_eq]; omega) fun D h' tk vs F' N' lt hl hv => ?_
  exact lsort_str F' N' (fun p hp => Nat.ne_of_lt (lt p hp)) (strs_of hl hv) (by omega) fun vs' ss' c h'' F'' N'' a b e => h D h'' tk vs' ss' c F'' N'' lt a b e
theorem sorted_intD {kvs : List (Int × Value)} (hh : A.handled = none) (F : Fr h₀ L s.heap m) (N : News h₀ L s.heap news) (hD : s.heap.DictOf (intKind prog w) d kvs) (lo : (d == sysModules) = false) (hn : kvs.length < 64)
    (h : ∀ (D : Addr) (h' : Heap) (tk : Nat) (vs' : List Value) (ns' : List Int) (c : Nat), Fr h₀ L h' m → News h₀ L h' ((D, W.listOf vs'.toArray c) :: news) → (∀ q ∈ news, q.1 < D) → IntsAre vs' ns' → ns'.Perm (kvs.map (·.1)) → ns'.Pairwise (· ≤ ·) → Q (.ref D) { s with heap := h', toks := tk }) :
    wpAny (model prog w) A (call (.builtin "sorted") [.ref d]) Q E s := by
  obtain ⟨ep, hat⟩ := hD.dictAt
  refine kdu_sorted (kdl_dict (knd := intKind prog w) (kvs := kvs) (ep := ep) lo) hh F N hat (by rw [sizeLine_eq]; omega) fun D h' tk vs F' N' lt hl hv => ?_
  exact lsort_int F' N' (fun p hp => Nat.ne_of_lt (lt p hp)) (ints_of hl hv) (by omega) fun vs' ss' c h'' F'' N'' a b e => h D h'' tk vs' ss' c F'' N'' lt a b e
end
end
section
open PySem PySem.W PyProof.Rows PySem.Calls

def lkOf (fts : List (Str × List Int)) (n : Int) : List Int := if 0 ≤ n then ((fts[n.toNat]?).map (·.2)).getD [] else []
def gFold (fts : List (Str × List Int)) (nl m : Nat) (ns : List Int) (M : Int → Option Nat) : Int → Option Nat := ns.foldl (fun M n => addM nl (lkOf fts n) m M) M
def gStep (fts : List (Str × List Int)) (nl : Nat) (fs : List Int) (t : Str) (m : Nat) (M : Int → Option Nat) : Int → Option Nat := if m ≠ 0 then gFold fts nl m (featIdx fts fs t) M else M
def gM (fts : List (Str × List Int)) (nl : Nat) (fs : List Int) (wt : Str → Nat) (ss : List Str) : Int → Option Nat := ss.foldl (fun M t => gStep fts nl fs t (wt t) M) (fun _ => none)

theorem lkOf_ok {fts : List (Str × List Int)} (hft : ∀ ft ∈ fts, FtOk ft) (n : Int) : ∀ k ∈ lkOf fts n, 0 ≤ k ∧ k < 7 := by
  intro k hk
  unfold lkOf at hk
  by_cases h0 : 0 ≤ n
  · rw [if_pos h0] at hk
    cases e : fts[n.toNat]? with
    | none => rw [e] at hk; simp at hk
    | some ft => rw [e] at hk; exact (hft ft (List.mem_of_getElem? e)).2 k (by simpa using hk)
  · rw [if_neg h0] at hk; simp at hk
theorem gFold_supp {fts : List (Str × List Int)} (hft : ∀ ft ∈ fts, FtOk ft) {nl m : Nat} : ∀ (ns : List Int) {M : Int → Option Nat}, Supp M → Supp (gFold fts nl m ns M)
  | [], _, h => h
  | n :: r, _, h => gFold_supp hft r (addM_supp h (lkOf_ok hft n))
theorem gStep_supp {fts : List (Str × List Int)} (hft : ∀ ft ∈ fts, FtOk ft) {nl m : Nat} {fs : List Int} {t : Str} {M : Int → Option Nat} (h : Supp M) : Supp (gStep fts nl fs t m M) := by
  unfold gStep
  split
  · exact gFold_supp hft _ h
  · exact h
theorem gM_supp {fts : List (Str × List Int)} (hft : ∀ ft ∈ fts, FtOk ft) {nl : Nat} {fs : List Int} {wt : Str → Nat} (ss : List Str) : Supp (gM fts nl fs wt ss) := by
  have key : ∀ (ss : List Str) (M : Int → Option Nat), Supp M → Supp (ss.foldl (fun M t => gStep fts nl fs t (wt t) M) M) := by
    intro ss
    induction ss with
    | nil => exact fun _ h => h
    | cons t r ih => exact fun M h => ih _ (gStep_supp hft h)
  exact key ss _ fun k h => absurd rfl h
theorem gFold_snoc {fts : List (Str × List Int)} {nl m : Nat} {ns : List Int} {i : Nat} {n : Int} {M : Int → Option Nat} (h : ns[i]? = some n) : gFold fts nl m (ns.take (i + 1)) M = addM nl (lkOf fts n) m (gFold fts nl m (ns.take i) M) := by
  unfold gFold
  rw [List.take_add_one, h, List.foldl_append]; rfl
theorem gM_snoc {fts : List (Str × List Int)} {nl : Nat} {fs : List Int} {wt : Str → Nat} {ss : List Str} {i : Nat} {t : Str} (h : ss[i]? = some t) : gM fts nl fs wt (ss.take (i + 1)) = gStep fts nl fs t (wt t) (gM fts nl fs wt (ss.take i)) := by
  unfold gM
  rw [List.take_add_one, h, List.foldl_append]; rfl

/-- The pairs of a map. -/
inductive PrsIn (led : List (Addr × Obj)) : List Addr → List (Int × Nat) → Prop
  | nil : PrsIn led [] []
  | cons {x : Addr} {k : Int} {n : Nat} {t u : Tok} {xs : List Addr} {kns : List (Int × Nat)} : (x, tupObj [.int k t, .int (n : Int) u]) ∈ led → PrsIn led xs kns → PrsIn led (x :: xs) ((k, n) :: kns)
theorem PrsIn.mono {led led' : List (Addr × Obj)} {xs : List Addr} {kns : List (Int × Nat)} (p : PrsIn led xs kns) (h : ∀ q ∈ led, q ∈ led') : PrsIn led' xs kns := by
  induction p with
  | nil => exact .nil
  | cons a _ ih => exact .cons (h _ a) ih
theorem PrsIn.snoc {led : List (Addr × Obj)} {xs : List Addr} {kns : List (Int × Nat)} {x : Addr} {k : Int} {n : Nat} {t u : Tok} (p : PrsIn led xs kns) (h : (x, tupObj [.int k t, .int (n : Int) u]) ∈ led) : PrsIn led (xs ++ [x]) (kns ++ [(k, n)]) := by
  induction p with
  | nil => exact .cons h .nil
  | cons a _ ih => exact .cons a ih
theorem PrsIn.length {led : List (Addr × Obj)} {xs : List Addr} {kns : List (Int × Nat)} (p : PrsIn led xs kns) : xs.length = kns.length := by
  induction p with
  | nil => rfl
  | cons a _ ih => simp [ih]
def PrsAt (b h : Heap) (D : Addr) (kns : List (Int × Nat)) : Prop :=
  ∃ (xs : List Addr) (led : List (Addr × Obj)) (e : Nat), h.get? D = some (W.listOf (xs.map Value.ref).toArray e) ∧ PrsIn led xs kns ∧ (∀ p ∈ led, h.get? p.1 = some p.2 ∧ b.get? p.1 = none) ∧ b.get? D = none
/-- These pairs are that map's, in the order of their keys. -/
def Lists (M : Int → Option Nat) (kns : List (Int × Nat)) : Prop := (kns.map (·.1)).Pairwise (· < ·) ∧ ∀ k n, (k, n) ∈ kns ↔ M k = some n

theorem LayAt.kp {w : World} {b h h' : Heap} {x : Addr} {fts : List (Str × List Int)} {nl : Nat} {l : List Addr} (p : LayAt w b h x fts nl) (k : Kp l h h') (hl : ∀ d ∈ l, (b.get? d).isSome = true) : LayAt w b h' x fts nl := by
  refine layatK p ?_
  intro dx sc fl ll k1 k2 k3 xs led e e' y1 y2 y3 y4 hft hled z1 z2 z3 z4
  have n : ∀ a, b.get? a = none → a ∉ l := fun a q hm => by have := hl a hm; rw [q] at this; cases this
  exact (exi11 dx sc fl ll k1 k2 k3 xs led e e' ⟨k _ _ y1 (n _ z1), k _ _ y2 (n _ z2), k _ _ y3 (n _ z3), k _ _ y4 (n _ z4), hft, fun p hp => ⟨k _ _ (hled p hp).1 (n _ (hled p hp).2), (hled p hp).2⟩, z1, z2, z3, z4⟩)
end
section
open PySem PySem.W PyProof.Rows PySem.Calls


theorem sub_dict {prog : Program} {w : World} {K : Type} [DecidableEq K] {knd : PySem.KeyKind prog w K} {A : Around} {E : Value → Shared → Prop} {s : Shared} {d : Addr} {kvs : List (K × Value)} {k : K} {key v : Value} {value slice : PySem.Expr} {Q : Value → Shared → Prop}
    (hD : s.heap.DictOf knd d kvs) (hkey : knd.is k key = true) (hl : valueAt kvs k = some v) (h : Q v { s with toks := s.toks + 1 })
    (hs : subscripted slice false (.ref d) key = operate [.ref d, key] (getItem (.ref d) key) := by with_unfolding_all rfl) (hg : ∀ r, letTemporaryGo value (.ref d) r = pure () := by intro _; with_unfolding_all rfl) :
    wpAny (model prog w) A (subscriptTail value slice (.ref d) key) Q E s :=
  subscriptTail_builtin hD.typeIs slot_dict_getitem.lookup (wpAny_getItem_of hkey hD.mapOf hl h) hs hg

theorem gather_ok {w : World} {mg mb : Str → Option Value} {A : Around} {s : Shared} {b : Heap} {Q E : Value → Shared → Prop} {lay one wd : Addr} {fts : List (Str × List Int)} {nl : Nat} {r : Int} {fs : List Int} {kw : List (Str × Value)} {wt : Str → Nat}
  (G : Gnd w mg mb b) (hb : ∀ a o, b.get? a = some o → s.heap.get? a = some o) (hA : A.handled = none) (hdp : A.depth + 5 < recursionLimit) (hun : A.units + 500 < cLine)
  (p1 : LayAt w b s.heap lay fts nl) (p2 : LSAt w b s.heap one r fs) (hl : fts.length ≤ 5) (hl2 : fs.length ≤ 32) (hnl : nl ≤ 6) (hft : ∀ ft ∈ fts, FtOk ft)
  (pw : s.heap.DictOf (PySem.strKind PySem.Challenge.rw_pb0163_01.row.prog w) wd kw) (lo : (wd == sysModules) = false) (hkw : kw.length ≤ 16) (hwt : ∀ t ∈ kw.map (·.1), ∃ tok, valueAt kw t = some (.int (wt t : Int) tok))
  (hret : ∀ (D : Addr) (ss : List Str) (kns : List (Int × Nat)) (h' : Heap) (tk' : Nat), ss.Perm (kw.map (·.1)) → sortedS ss = true → Lists (gM fts nl fs wt ss) kns → kns.length ≤ 7 → PrsAt s.heap h' D kns → Kp [] s.heap h' → Q (.ref D) { s with heap := h', toks := tk' }) :
  wpAny (model PySem.Challenge.rw_pb0163_01.row.prog w) A (call (.ref 163) [.ref lay, .ref one, .ref wd, .bool false]) Q E s := by
  obtain ⟨_, dp, fr, gd, un⟩ := A
  obtain rfl := hA
  refine wpAny_call ?_
  k_dflt (refine' enterC (fp := []) G hb (by simp) ?ho ?hcd (by dsimp only at hdp ⊢; omega) ?hbind ?hkind ?hnd ?_ ?hco ?hgen ?hk; ((case ho => k_is); (case hcd => k_is); (case hbind => exact BindsTo.of_defaults rfl (hb _ _ (G.X _ _ (by k_is))) rfl rfl rfl); (case hkind => exact rfl); (case hnd => decide); (case hco => exact rfl); (case hgen => exact rfl); (case hk => exact rfl)))
  intro g L h₁ tk cells F N Y Gg up dn lt
  refine nameGoal ?_
  intro kG2 hG2
  obtain ⟨o1, hE, d1⟩ := CellsAre.one Y
  refine hG2 ?_
  clear hG2 kG2
  subst hE
  clear Y
  have d1 : o1.data = .cell none := d1
  simp only [List.append_nil] at N
  have X := Gg.X
  have T := Gg.T
  have upg : ∀ a o, s.heap.get? a = some o → g.get? a = some o := fun a o e => up a o e (by simp)
  have kg : Kp [] s.heap g := fun a o e _ => upg a o e
  have p1' := p1.kp kg (by simp)
  have p2' := p2.kp kg (by simp)
  have pw' := pw.keep upg
  have p1c := p1'
  refine layatK p1c ?_
  intro dx sc fl ll k1 k2 k3 xs led el el' y1 y2 y3 y4 hfts hled z1 z2 z3 z4
  have hxl := hfts.length
  have kb : ∀ {h : Heap}, (∀ a o, g.get? a = some o → h.get? a = some o) → ∀ a o, b.get? a = some o → h.get? a = some o := fun k a o e => k _ _ (upg _ _ (hb _ _ e))
  dsimp only
  try k_unmd
  k_fold
  refine baseK4 (Str.ofString "layout") (.ref lay) (Str.ofString "langsys") (.ref one) (Str.ofString "wishes") (.ref wd) (Str.ofString "is_required") (.bool false) F (by rfl) (by rfl) (by rfl) (by rfl) ?_
  clear F
  intro mB F
  refine exec1 ?_
  k_steps
  refine HoldP.mk ?_
  rename Fr _ _ _ _ => F1
  rename News _ _ _ _ => N1
  refine exec1 ?_
  k_steps
  refine HoldP.mk ?_
  refine exec1 ?_
  k_steps
  refine HoldP.mk ?_
  rename Fr _ _ _ _ => F2
  rename News _ _ _ _ => N2
  refine exec1 ?_
  with_unfolding_all refine for_start g (by rfl) (by rfl) ?_
  k_steps
  rename_i md h5 o5 lom hs5 hfs5 hd5 hfi5 l1 h6 oc doc h7
  refine sorted_strD rfl F2 N2 (pw'.keep F2.keep) lo (by first | exact Nat.le_trans (by assumption) (by decide) | omega) ?_
  intro DS h8 tk8 vs8 ss c8 F3 N3 lt8 hS8 hP8 ho8
  refine HoldP.mk ?_
  refine loop_list (fun m₀ i m nw => ∃ (o' : Obj) (kvs' : List (Int × Value)), nw = [(md, o'), (L + 1, oc)] ∧ o'.IsDictOf (intKind PySem.Challenge.rw_pb0163_01.row.prog w) kvs' ∧ Den kvs' (gM fts nl fs wt (ss.take i)) ∧
      ∀ z, z ≠ Str.ofString "tag" → z ≠ Str.ofString "number" → m z = m₀ z)
    rfl (N3.isList (List.Mem.head _)) ?_ ?_ F3 (news_sub N3 ?_) ⟨o5, [], rfl, hd5, by intro k; rfl, fun _ _ _ => rfl⟩ ?_ ?_
  · exact fun q => (N3 _ (List.Mem.head _)).2.1 q.symm
  · intro p hp
    exact Nat.ne_of_lt (lt8 p hp)
  · intro p hp
    exact List.Mem.tail _ hp
  · intro i v m₁ nw₁ h9 tk9 own hv _ hown hZ4i
    refine ex2 (hZ4i) ?_
    intro o' kvs' hZ4
    refine an4 hZ4 ?_
    clear hZ4 hZ4i
    intro hZ4e0 hd' den' hm
    intro F6 N6
    rw [hZ4e0] at N6
    clear hZ4e0
    try k_fold
    rw [map2 hm] at F6
    simp only [List.cons_append, List.nil_append] at N6
    refine nameGoal ?_
    intro kG5 hG5
    obtain ⟨t, tt, rfl, ht⟩ := StrsAre.at hS8 i v (by simpa using hv)
    refine hG5 ?_
    clear hG5 kG5
    have hsn := gM_snoc (fts := fts) (nl := nl) (fs := fs) (wt := wt) ht
    obtain ⟨tok, htok⟩ := hwt t (hP8.mem_iff.mp (List.mem_of_getElem? ht))
    refine exec1 ?_
    refine wpAny_If (hold ?_)
    k_steps
    refine sub_dict (pw'.keep F6.keep) (strKind_is _ _ _ _) htok ?_
    k_steps
    refine HoldP.mk ?_
    split
    · rename (_ = true) => hne
      refine exec1 ?_
      with_unfolding_all refine for_start g (by rfl) (by rfl) ?_
      k_steps
      have kg9 : Kp [] g h9 := fun a o e _ => F6.keep a o e
      refine findex_ok G (kb F6.keep) rfl (ltG hdp (Nat.le_refl (dp + 1)) (by decide)) (ltG hun (Nat.le_refl (un + 3)) (by decide)) (p1'.kp kg9 (by simp)) (p2'.kp kg9 (by simp)) hl hl2 ?_
      intro D10 ys10 e10 h10 tk10 hys10 hD10 fD10 kp10
      have hfl10 : (featIdx fts fs t).length ≤ 32 := Nat.le_trans (List.length_filter_le _ _) hl2
      have hyl10 := hys10.length
      refine kp1K D10 (W.listOf ys10.toArray e10) F6 N6 kp10 hD10 fD10 ?_
      intro F10 N10
      refine HoldP.mk ?_
      have n10 : ∀ p ∈ (md, o') :: (L + 1, oc) :: own, p.1 ≠ D10 := fun p hp q => by
        have e1 := (N6 p hp).1
        rw [q, fD10] at e1; cases e1
      refine loop_list (fun m₀ j m nw => ∃ (o2 : Obj) (kvs2 : List (Int × Value)), nw = (md, o2) :: (L + 1, oc) :: own ∧ o2.IsDictOf (intKind PySem.Challenge.rw_pb0163_01.row.prog w) kvs2 ∧
          Den kvs2 (gFold fts nl (wt t) ((featIdx fts fs t).take j) (gM fts nl fs wt (ss.take i))) ∧ ∀ z, z ≠ Str.ofString "number" → m z = m₀ z)
        rfl (N10.isList (List.Mem.head _)) ?_ ?_ F10 (news_sub N10 ?_) ⟨o', kvs', rfl, hd', den', fun _ _ => rfl⟩ ?_ ?_
      · exact fun q => (N10 _ (List.Mem.head _)).2.1 q.symm
      · exact n10
      · intro p hp
        exact List.Mem.tail _ hp
      · intro j v2 m2 nw2 h11 tk11 own2 hv2 _ hown2 hZ7i
        refine ex2 (hZ7i) ?_
        intro o2 kvs2 hZ7
        refine an4 hZ7 ?_
        clear hZ7 hZ7i
        intro hZ7e0 hd2 den2 hm2
        intro F11 N11
        rw [hZ7e0] at N11
        clear hZ7e0
        try k_fold
        rw [map1 hm2] at F11
        simp only [List.cons_append] at N11
        refine nameGoal ?_
        intro kG8 hG8
        obtain ⟨n, tn, rfl, hn⟩ := IntsAre.at hys10 j v2 (by simpa using hv2)
        refine hG8 ?_
        clear hG8 kG8
        have hsn2 := gFold_snoc (fts := fts) (nl := nl) (m := wt t) (M := gM fts nl fs wt (ss.take i)) hn
        refine exec1 ?_
        k_steps
        have hmem : n ∈ fs ∧ tagOf fts n = some t := by have := List.mem_of_getElem? hn; simpa [featIdx] using this
        have htg := hmem.2
        have hn0 : 0 ≤ n := Decidable.byContradiction fun q => by rw [tagOf, if_neg q] at htg; cases htg
        rw [tagOf, if_pos hn0] at htg
        refine nameGoal ?_
        intro kG9 hG9
        obtain ⟨ft, hft1, hft2⟩ := Option.map_eq_some_iff.mp htg
        refine hG9 ?_
        clear hG9 kG9
        have hnl2 : n.toNat < fts.length := (List.getElem?_eq_some_iff.mp hft1).1
        obtain ⟨x, hx⟩ : ∃ x, xs[n.toNat]? = some x := ⟨_, List.getElem?_eq_getElem (by first | exact Nat.le_trans (by assumption) (by decide) | omega)⟩
        refine ex1 (hfts.at _ _ hx) ?_
        intro ft' qF
        have hft1' := qF.1
        refine ex7 qF.2 ?_
        intro dx' lx kk1 kk2 tx vx ex qG
        refine an4 qG ?_
        clear qG qF
        intro m1' m2' m3' mi
        obtain rfl : ft = ft' := by rw [hft1] at hft1'; exact Option.some.inj hft1'
        have hlk : lkOf fts n = ft.2 := by rw [lkOf, if_pos hn0, hft1]; rfl
        refine item_list (x := .ref x) (items := (xs.map Value.ref).toArray) ⟨_, F11.keep _ _ y3, rfl, _, rfl⟩ hn0 (by simp; omega) (by simp [hx]) ?_ (by with_unfolding_all rfl) (by intro _; with_unfolding_all rfl)
        k_steps
        refine sub_dict (pw'.keep F11.keep) (strKind_is _ _ _ _) htok ?_
        k_steps
        have sup2 : Supp (gFold fts nl (wt t) ((featIdx fts fs t).take j) (gM fts nl fs wt (ss.take i))) := gFold_supp hft _ (gM_supp hft _)
        refine addl_ok G (c := g) (o := o2) (fun a o e => upg _ _ (hb _ _ e)) F11.keep rfl (ltG hdp (Nat.le_refl (dp + 1)) (by decide)) (ltG hun (Nat.le_refl (un + 3)) (by decide))
          (N11.get (List.Mem.head _)) (N11.fresh (List.Mem.head _)) lom hd2 den2 sup2 y1 y2 y4 (by first | exact Nat.le_trans (by assumption) (by decide) | omega) (hled _ m1').1 (hled _ m2').1 (hled _ m3').1 mi (hft _ (List.mem_of_getElem? hft1)).2 ?_
        intro o12 kvs12 h12 tk12 e12 hd12 den12 kp12
        obtain ⟨F12, N12⟩ := led_kp [(md, o12)] ((L + 1, oc) :: (own ++ own2)) F11 N11 kp12 (by simp [N11.fresh (List.Mem.head _), (N11 _ (List.Mem.head _)).2.1]) (fun p hp => ⟨List.Mem.tail _ hp, by
            rw [List.mem_singleton]
            rcases List.mem_cons.mp hp with rfl | hp
            · exact Nat.ne_of_lt l1
            · rcases List.mem_append.mp hp with hp | hp
              · exact hown p hp _ (by simp)
              · exact hown2 p hp _ (by simp)⟩) (by intro p hp; rw [List.mem_singleton.mp hp]; exact ⟨e12, .inr (by simp)⟩)
        simp only [List.singleton_append] at N12
        k_steps
        refine HoldP.mk ?_
        k_steps
        refine InvEndN.intro (nx := (md, o12) :: (L + 1, oc) :: own) F12 N12 ⟨o12, kvs12, rfl, hd12, ?_, fun z hz => by simp [hz]⟩ rfl ?_ ?_
        · rw [hsn2, hlk]; exact den12
        · first | ((repeat' (first | refine subCons ?_ ?_ | refine subApp ?_ ?_ | exact subNil | exact List.Mem.head _ | refine List.mem_cons_of_mem _ ?_ | (intro pS hS; (repeat (first | exact hS | exact List.mem_append_left _ hS | exact List.mem_append_left _ (List.mem_append_left _ hS) | exact List.mem_append_left _ (List.mem_append_right _ hS) | refine List.mem_cons_of_mem _ ?_ | refine List.mem_append_right _ ?_)); done) | refine List.mem_append_right _ ?_)); done) | (intro p hp; simp only [List.mem_cons, List.mem_append] at hp ⊢; grind)
        · first | ((repeat' (first | refine subCons ?_ ?_ | refine subApp ?_ ?_ | exact subNil | exact List.Mem.head _ | refine List.mem_cons_of_mem _ ?_ | (intro pS hS; (repeat (first | exact hS | exact List.mem_append_left _ hS | exact List.mem_append_left _ (List.mem_append_left _ hS) | exact List.mem_append_left _ (List.mem_append_right _ hS) | refine List.mem_cons_of_mem _ ?_ | refine List.mem_append_right _ ?_)); done) | refine List.mem_append_right _ ?_)); done) | (intro p hp; simp only [List.mem_cons, List.mem_append]; simp [hp])
      · intro m2 nw2 h11 tk11 hZ11i
        refine ex2 (hZ11i) ?_
        intro o2 kvs2 hZ11
        refine an4 hZ11 ?_
        clear hZ11 hZ11i
        intro hZ11e0 hd2 den2 hm2
        intro F11 N11
        rw [hZ11e0] at N11
        clear hZ11e0
        try k_fold
        rw [map0 hm2] at F11
        rw [List.size_toArray, hyl10, List.take_length] at den2
        refine HoldP.mk ?_
        k_steps
        refine HoldP.mk ?_
        k_steps
        refine InvEndN.intro (nx := [(md, o2), (L + 1, oc)]) F11 N11 ⟨o2, kvs2, rfl, hd2, ?_, fun z hz hz2 => by simp [hz, hz2]⟩ rfl ?_ ?_
        · rw [hsn, gStep, if_pos (by simpa using hne)]; exact den2
        · first | ((repeat' (first | refine subCons ?_ ?_ | refine subApp ?_ ?_ | exact subNil | exact List.Mem.head _ | refine List.mem_cons_of_mem _ ?_ | (intro pS hS; (repeat (first | exact hS | exact List.mem_append_left _ hS | exact List.mem_append_left _ (List.mem_append_left _ hS) | exact List.mem_append_left _ (List.mem_append_right _ hS) | refine List.mem_cons_of_mem _ ?_ | refine List.mem_append_right _ ?_)); done) | refine List.mem_append_right _ ?_)); done) | (intro p hp; simp only [List.mem_cons, List.mem_append] at hp ⊢; grind)
        · first | ((repeat' (first | refine subCons ?_ ?_ | refine subApp ?_ ?_ | exact subNil | exact List.Mem.head _ | refine List.mem_cons_of_mem _ ?_ | (intro pS hS; (repeat (first | exact hS | exact List.mem_append_left _ hS | exact List.mem_append_left _ (List.mem_append_left _ hS) | exact List.mem_append_left _ (List.mem_append_right _ hS) | refine List.mem_cons_of_mem _ ?_ | refine List.mem_append_right _ ?_)); done) | refine List.mem_append_right _ ?_)); done) | (intro p hp; simp only [List.mem_cons]; simp [hp])
    · rename (¬ _) => hne
      k_steps
      refine HoldP.mk ?_
      k_steps
      refine InvEndN.intro (nx := [(md, o'), (L + 1, oc)]) F6 N6 ⟨o', kvs', rfl, hd', ?_, fun z hz hz2 => by simp [hz, hz2]⟩ rfl ?_ ?_
      · rw [hsn, gStep, if_neg (by simpa using hne)]; exact den'
      · first | ((repeat' (first | refine subCons ?_ ?_ | refine subApp ?_ ?_ | exact subNil | exact List.Mem.head _ | refine List.mem_cons_of_mem _ ?_ | (intro pS hS; (repeat (first | exact hS | exact List.mem_append_left _ hS | exact List.mem_append_left _ (List.mem_append_left _ hS) | exact List.mem_append_left _ (List.mem_append_right _ hS) | refine List.mem_cons_of_mem _ ?_ | refine List.mem_append_right _ ?_)); done) | refine List.mem_append_right _ ?_)); done) | (intro p hp; simp only [List.mem_cons, List.mem_append] at hp ⊢; grind)
      · first | ((repeat' (first | refine subCons ?_ ?_ | refine subApp ?_ ?_ | exact subNil | exact List.Mem.head _ | refine List.mem_cons_of_mem _ ?_ | (intro pS hS; (repeat (first | exact hS | exact List.mem_append_left _ hS | exact List.mem_append_left _ (List.mem_append_left _ hS) | exact List.mem_append_left _ (List.mem_append_right _ hS) | refine List.mem_cons_of_mem _ ?_ | refine List.mem_append_right _ ?_)); done) | refine List.mem_append_right _ ?_)); done) | (intro p hp; simp only [List.mem_cons]; simp [hp])
  · intro m₁ nw₁ h9 tk9 hZ12i
    refine ex2 (hZ12i) ?_
    intro o' kvs' hZ12
    refine an4 hZ12 ?_
    clear hZ12 hZ12i
    intro hZ12e0 hd' den' hm
    intro F6 N6
    rw [hZ12e0] at N6
    clear hZ12e0
    try k_fold
    rw [map02 hm] at F6
    rw [List.size_toArray, strs_len hS8, List.take_length] at den'
    refine HoldP.mk ?_
    refine wpAny_execs_cons (wpAny_Return_some ?_)
    with_unfolding_all refine LCg.ListComp_U F6 (by rfl) (by decide) (by rfl) (by decide) (by rfl) ?_
    refine hold ?_
    k_steps
    refine sorted_intD rfl F6 N6 (kda_dict N6 (List.Mem.head _) hd') lom (by have := dict_len hd' den' (gM_supp hft _); omega) ?_
    intro D11 h11 tk11 vs11 ks c11 F11 N11 lt11 hI11 hP11 ho11
    refine HoldP.mk ?_
    have hlk' := dict_len hd' den' (gM_supp hft _)
    have hkl : ks.length ≤ 7 := by rw [hP11.length_eq, List.length_map]; exact hlk'
    have hvl := hI11.length
    refine LCg.CompSrc.ledger rfl F11 N11 (List.Mem.head _) (by rw [sizeLine_eq, List.size_toArray]; omega) ?_
    intro gg
    refine rest_inv (fun i ys nw => ∃ (fl : List (Addr × Obj)) (fx : List Addr) (kns : List (Int × Nat)), nw = (D11, W.listOf vs11.toArray c11) :: (md, o') :: (L + 1, oc) :: fl ∧ ys = fx.map Value.ref ∧ PrsIn fl fx kns ∧
      kns.map (·.1) = ks.take i ∧ ∀ p ∈ kns, gM fts nl fs wt ss p.1 = some p.2) (exi3 [] [] [] ⟨rfl, rfl, .nil, rfl, by simp⟩) ?_ ?_
    · intro i v I oI C oC D m₂ ys nw h tk3 E' hlt hv hZ13i
      refine ex3 (hZ13i) ?_
      intro fl fx kns hZ13
      refine an5 hZ13 ?_
      clear hZ13 hZ13i
      intro hZ13e0 hZ13e1 hpr hks hM
      intro hC hx F12 N12 off ne
      rw [hZ13e0] at N12 off
      clear hZ13e0
      try k_fold
      clear F11 N11
      refine nameGoal ?_
      intro kG14 hG14
      obtain ⟨k, t, rfl, hk⟩ := IntsAre.at hI11 i v (by simpa using hv)
      refine hG14 ?_
      clear hG14 kG14
      obtain ⟨n, hn⟩ : ∃ n, gM fts nl fs wt ss k = some n := Option.ne_none_iff_exists'.mp ((den'.mem k).mp (hP11.mem_iff.mp (List.mem_of_getElem? hk)))
      have ltI : @LT.lt Nat _ I h.objs.size := Heap.lt_size (N12 (I, oI) (List.Mem.head _)).1
      have ltC : @LT.lt Nat _ C h.objs.size := Heap.lt_size (N12 (C, oC) (List.Mem.tail _ (List.Mem.head _))).1
      have ltD : @LT.lt Nat _ D h.objs.size := Heap.lt_size (N12 (D, _) (List.Mem.tail _ (List.Mem.tail _ (List.Mem.head _)))).1
      have dk := den' k
      rw [hn] at dk
      obtain ⟨tv, htv⟩ := dk
      k_steps
      refine sub_dict (kda_dict N12 (d := md) (o := o') (by k_mem) hd') (intKind_is _ _ _ _) htv ?_
      k_steps
      rename Fr _ _ _ _ => F13
      rename News _ _ _ _ => N13
      have offm := off.mem
      refine LCg.CompEnd.intro F13 N13 ((D11, W.listOf vs11.toArray c11) :: (md, o') :: (L + 1, oc) :: (fl ++ [(h.objs.size, tupObj [.int k t, .int (n : Int) tv])])) ?_ (LCg.Off3.of ?_) (.inr ⟨_, List.Mem.head _, rfl, _, rfl⟩)
        (exi3 (fl ++ [(h.objs.size, tupObj [.int k t, .int (n : Int) tv])]) (fx ++ [h.objs.size]) (kns ++ [(k, n)]) ⟨rfl, by rw [hZ13e1, List.map_append]; rfl, (hpr.mono fun q hq => List.mem_append_left _ hq).snoc (List.mem_append_right _ (List.Mem.head _)), ?_, ?_⟩)
      · first | ((repeat' (first | refine subCons ?_ ?_ | refine subApp ?_ ?_ | exact subNil | exact List.Mem.head _ | refine List.mem_cons_of_mem _ ?_ | (intro pS hS; (repeat (first | exact hS | exact List.mem_append_left _ hS | exact List.mem_append_left _ (List.mem_append_left _ hS) | exact List.mem_append_left _ (List.mem_append_right _ hS) | refine List.mem_cons_of_mem _ ?_ | refine List.mem_append_right _ ?_)); done) | refine List.mem_append_right _ ?_)); done) | (intro p hp; simp only [List.mem_cons, List.mem_append, List.not_mem_nil, or_false] at hp ⊢; grind)
      · exact allCons (offm _ (List.Mem.head _)) (allCons (offm _ (List.Mem.tail _ (List.Mem.head _))) (allCons (offm _ (List.Mem.tail _ (List.Mem.tail _ (List.Mem.head _)))) (allApp (fun p hp => offm p (List.Mem.tail _ (List.Mem.tail _ (List.Mem.tail _ hp)))) (allCons ⟨Nat.ne_of_gt ltI, Nat.ne_of_gt ltC, Nat.ne_of_gt ltD⟩ allNil))))
      · rw [List.map_append, hks, List.take_add_one, hk]; rfl
      · intro p hp
        rcases List.mem_append.mp hp with hp | hp
        · exact hM p hp
        · rw [List.mem_singleton.mp hp]; exact hn
    · intro ys nw hZ15i
      refine ex3 (hZ15i) ?_
      intro fl fx kns hZ15
      refine an5 hZ15 ?_
      clear hZ15 hZ15i
      intro hZ15e0 hZ15e1 hpr hks hM
      intro D h tk2 F12 N12 off
      rw [hZ15e0, hZ15e1] at N12
      clear hZ15e0 hZ15e1 off
      try k_fold
      rw [List.size_toArray, hvl, List.take_length] at hks
      k_steps
      refine hret D ss kns _ _ hP8 ho8 ⟨?_, fun k n => ⟨fun hm => hM _ hm, fun hn => ?_⟩⟩ ?_ ⟨fx, fl, _, N12.get (List.Mem.head _), hpr, fun p hp => ?_, fresh_of up (N12.fresh (List.Mem.head _)) (by simp)⟩ (fun a o e _ => F12.keep _ _ (upg _ _ e))
      · rw [hks]
        have nd : ks.Nodup := hP11.nodup_iff.mpr (by obtain ⟨_, _, _, _, _, _, h⟩ := hd'; exact h)
        exact ho11.imp₂ (fun a b h1 h2 => Int.lt_iff_le_and_ne.mpr ⟨h1, h2⟩) nd
      · have hk : k ∈ kns.map (·.1) := by
          rw [hks]
          exact hP11.mem_iff.mpr ((den'.mem k).mpr (by rw [hn]; simp))
        refine nameGoal ?_
        intro kG16 hG16
        obtain ⟨q, hq, rfl⟩ := List.mem_map.mp hk
        refine hG16 ?_
        clear hG16 kG16
        have e2 := hM q hq
        rw [hn] at e2
        obtain rfl := Option.some.inj e2
        exact hq
      · rw [← List.length_map (f := (·.1)), hks]; exact hkl
      · have hm : p ∈ (D, LCg.lst (List.map Value.ref fx)) :: (D11, W.listOf vs11.toArray c11) :: (md, o') :: (L + 1, oc) :: fl := by simp [hp]
        exact ⟨N12.get hm, fresh_of up (N12.fresh hm) (by simp)⟩
end
section
open PySem PySem.W PyProof.Rows PySem.Calls

section
variable {prog : Program} {w : World} {A : Around} {E : Value → Shared → Prop} {s : Shared} {env : Env} {h₀ : Heap} {body : List Stmt} {Q : Flow → Shared → Prop}
theorem loop_pairs {a b' : Str} {pa pb tp : Pos} {kk : Nat} {l : Addr} {items : Array Value} {Ts : Nat → Addr} {Xs Ys : Nat → Value} {m₀ : Str → Option Value} {news : List (Addr × Obj)}
    (J : Nat → (Str → Option Value) → List (Addr × Obj) → Prop)
    (hh : A.handled = none) (ha : env.kindOf a = some .local) (hb : env.kindOf b' = some .local) (hp : (env.scope.kind == .class || (env.scope.kind == .module && env.locals != env.globals)) = false)
    (hl : s.heap.IsList l items) (hlL : @Ne Nat env.locals l) (off : ∀ p ∈ news, p.1 ≠ l)
    (hit : ∀ j, j < items.size → items[j]? = some (.ref (Ts j))) (htup : ∀ j, j < items.size → h₀.IsTuple (Ts j) #[Xs j, Ys j])
    (F : Fr h₀ env.locals s.heap m₀) (N : News h₀ env.locals s.heap news) (hj : J 0 m₀ news)
    (turn : ∀ i m₁ news₁ h tk own, i < items.size → news₁.map (·.1) = news.map (·.1) → OwnOff own (news.map (·.1)) → J i m₁ news₁ → Fr h₀ env.locals h (fun z => if z = b' then some (Ys i) else if z = a then some (Xs i) else m₁ z) → News h₀ env.locals h (news₁ ++ own) →
      wpAny (model prog w) A (execs body env) (InvPostN h₀ env.locals (J (i + 1)) own (news.map (·.1)) { s with heap := h, toks := tk } Q) E { s with heap := h, toks := tk })
    (done : ∀ m₁ news₁ h tk, J items.size m₁ news₁ → Fr h₀ env.locals h m₁ → News h₀ env.locals h news₁ → Q .next { s with heap := h, toks := tk }) :
    wpAny (model prog w) A (pyIter (.ref l)) (fun it s₂ => TurnsAt prog w A h₀ env (.Tuple [.Name a pa, .Name b' pb] kk tp) body Q E it s₂) E s := by
  refine nameGoal ?_
  intro kG1 hG1
  obtain ⟨ol, hol, _⟩ := id hl
  refine hG1 ?_
  clear hG1 kG1
  have hlt : l < s.heap.objs.size := Heap.lt_size hol
  have hne : l ≠ s.heap.objs.size := Nat.ne_of_lt hlt
  have hold : ∀ c o, h₀.get? c = some o → c < env.locals := fun c o e => Nat.lt_of_lt_of_le (Heap.lt_size e) F.above
  have hTL : ∀ j, j < items.size → Ts j < env.locals := fun j hj => by obtain ⟨o, ho, _⟩ := htup j hj; exact hold _ _ ho
  have hLs := F.ns.lt
  refine wpAny_pyIter_list hl ?_
  have hfp : ∀ c, c ∈ s.heap.objs.size :: l :: (List.range items.size).map Ts → c = s.heap.objs.size ∨ c = l ∨ ∃ j, j < items.size ∧ c = Ts j := by
    intro c hc
    rcases List.mem_cons.mp hc with h | hc
    · exact .inl h
    rcases List.mem_cons.mp hc with h | hc
    · exact .inr (.inl h)
    refine nameGoal ?_
    intro kG2 hG2
    obtain ⟨j, hj, e⟩ := List.mem_map.mp hc
    refine hG2 ?_
    clear hG2 kG2
    exact .inr (.inr ⟨j, List.mem_range.mp hj, e.symm⟩)
  have W := KTurns.ofWalksU (elts := [.Name a pa, .Name b' pb]) (k := kk) (pos := tp) (WalksU.listOfTuples (prog := prog) (w := w) hh s.heap.objs.size l hne items Ts (fun j => #[Xs j, Ys j]) hit (fun j hj => Nat.ne_of_lt (Nat.lt_trans (hTL j hj) hLs)))
  let J' : Nat → (Str → Option Value) → List (Addr × Obj) → Prop := fun i m₁ news₁ => news₁.map (·.1) = news.map (·.1) ∧ J i m₁ news₁
  refine exi10 _ _ _ items.size _ _ _ m₀ news J' ⟨rfl, W, ?_, ?_, ?_, ⟨⟨_, Heap.get?_push_size _ rfl, rfl, rfl⟩, hl.push _, fun k hk => ?_⟩, F.push _, (fun p hp => ⟨Heap.get?_push_of_some _ (N p hp).1, (N p hp).2⟩), ⟨rfl, hj⟩, ?_, ?_⟩
  · intro hm
    rcases hfp _ hm with e | e | ⟨j, hj, e⟩
    · exact absurd hLs (e ▸ Nat.lt_irrefl _)
    · exact hlL e
    · exact absurd (hTL j hj) (e ▸ Nat.lt_irrefl _)
  · intro c hc
    rw [List.mem_singleton.mp hc]
    exact next_is_new F
  · intro p hp hI
    exact absurd (Heap.lt_size (N p hp).1) ((List.mem_singleton.mp hI) ▸ Nat.lt_irrefl _)
  · exact (htup k hk).at fun o e => Heap.get?_push_of_some _ (F.keep _ _ e)
  · rintro i v m₁ news₁ h₁ tk₁ own hin ⟨T, vals, rfl, rfl, hT⟩ ⟨hadr, hJ⟩ hoff hown _ _ _ F₁ N₁
    have hsep : OwnOff own (news.map (·.1)) := by
      intro p hp c hc e
      refine nameGoal ?_
      intro kG3 hG3
      obtain ⟨q, hq, rfl⟩ := List.mem_map.mp hc
      refine hG3 ?_
      clear hG3 kG3
      rcases hfp _ (hown p hp) with h1 | h1 | ⟨j, hj, h1⟩
      · exact absurd (Heap.lt_size (N q hq).1) (by rw [← e, h1]; exact Nat.lt_irrefl _)
      · exact off q hq (e.symm.trans h1)
      · obtain ⟨o, ho, _⟩ := htup j hj
        have h3 := (N q hq).2.2
        rw [← e, h1, ho] at h3
        cases h3
    refine kcp_assign hh hT ha hb hp F₁.ns fun h' tk' hns hk => ?_
    have F' : Fr h₀ env.locals h' (fun z => if z = b' then some (Ys i) else if z = a then some (Xs i) else m₁ z) := ⟨hns, fun c o e => hk c o (Nat.ne_of_lt (hold c o e)) (F₁.keep c o e), F₁.above⟩
    have N' : News h₀ env.locals h' (news₁ ++ own) := fun p hp => by
      have hp' : p ∈ own ++ news₁ := (List.mem_append.mp hp).elim (fun h => List.mem_append.mpr (.inr h)) fun h => List.mem_append.mpr (.inl h)
      exact ⟨hk _ _ (N₁ p hp').2.1 (N₁ p hp').1, (N₁ p hp').2⟩
    refine wpAny_mono (turn i m₁ news₁ h' tk' own hin hadr hsep hJ F' N') (fun f s₂ p => ?_) fun _ _ e => e
    have fin : InvEndN h₀ env.locals (J (i + 1)) own (news.map (·.1)) { s with heap := h', toks := tk' } s₂ → LoopStepU h₀ env.locals [s.heap.objs.size] own (J' (i + 1)) { s with heap := h₁, toks := tk₁ } .next s₂ := by
      rintro ⟨h'', tk, m', news', nx, e, F', N', hn, ho, ha, hm⟩
      refine ⟨rfl, h'', tk, m', nx, e, F', fun p hp => N' p ((List.mem_append.mp hp).elim (ho p) (hn p)), fun p hp hq => ?_, ha, hm⟩
      have h1 : p.1 ∈ nx.map (·.1) := List.mem_map.mpr ⟨p, hp, rfl⟩
      rw [ha, ← hadr] at h1
      refine nameGoal ?_
      intro kG4 hG4
      obtain ⟨q, hq1, hq2⟩ := List.mem_map.mp h1
      refine hG4 ?_
      clear hG4 kG4
      exact hoff q hq1 (by rw [hq2]; exact hq)
    cases f with
    | ret v => exact .ret p
    | brk => exact .brk p
    | next => exact .next (fin p)
    | cont => exact .cont (fin p)
  · rintro h' tk m' news' F' N' _ ⟨_, hJ⟩
    exact done m' news' h' tk hJ F' N'

theorem for_pairs {target iter : PySem.Expr} {pos : Pos} {m : Str → Option Value} (F : Fr h₀ env.locals s.heap m)
    (h : wpAny (model prog w) A (eval iter env) (fun xv s₁ => HoldP (wpAny (model prog w) A (pyIter xv) (fun it s₂ => TurnsAt prog w A h₀ env target body Q (fun _ _ => False) it s₂) (fun _ _ => False) s₁)) (fun _ _ => False) s)
    (hs : ∀ x, foldedSetIterable iter env x = pure x := by intro _; rfl) :
    wpAny (model prog w) A (exec (.For target iter body [] pos) env) Q E s :=
  wpAny_noRaise (For_turns F (wpAny_mono h (fun _ _ x => x.out) fun _ _ e => e) hs PassesOwn.never)
end

/-- A map after a list of pairs was laid into it. -/
def joinO : Option Nat → Option Nat → Option Nat
  | none, y => y
  | some a, none => some a
  | some a, some b => some (a ||| b)
def putAll (kns : List (Int × Nat)) (M : Int → Option Nat) : Int → Option Nat := kns.foldl (fun M p => fun j => if j = p.1 then some ((M p.1).getD 0 ||| p.2) else M j) M
theorem putAll_snoc {kns : List (Int × Nat)} {i : Nat} {p : Int × Nat} {M : Int → Option Nat} (h : kns[i]? = some p) :
    putAll (kns.take (i + 1)) M = fun j => if j = p.1 then some ((putAll (kns.take i) M p.1).getD 0 ||| p.2) else putAll (kns.take i) M j := by
  unfold putAll
  rw [List.take_add_one, h, List.foldl_append]; rfl
theorem PrsIn.at {led : List (Addr × Obj)} {xs : List Addr} {kns : List (Int × Nat)} (pp : PrsIn led xs kns) : ∀ (i : Nat) (p : Int × Nat), kns[i]? = some p → ∃ (x : Addr) (t u : Tok), xs[i]? = some x ∧ (x, tupObj [.int p.1 t, .int (p.2 : Int) u]) ∈ led := by
  induction pp with
  | nil => exact fun i p h => nomatch h
  | cons a r ih =>
    rename_i x t u _ _ _ _
    intro i p h
    cases i with
    | zero => cases h; exact exi3 _ _ _ ⟨rfl, a⟩
    | succ i => exact ih i p h
theorem PrsIn.append {led : List (Addr × Obj)} {xs ys : List Addr} {kns jns : List (Int × Nat)} (p : PrsIn led xs kns) (q : PrsIn led ys jns) : PrsIn led (xs ++ ys) (kns ++ jns) := by
  induction p with
  | nil => exact q
  | cons a _ ih => exact .cons a ih

theorem putAll_lists : ∀ {kns : List (Int × Nat)} {M : Int → Option Nat}, (kns.map (·.1)).Nodup → ∀ k, (∀ n, (k, n) ∈ kns → putAll kns M k = some ((M k).getD 0 ||| n)) ∧ (k ∉ kns.map (·.1) → putAll kns M k = M k) := by
  intro kns
  induction kns with
  | nil => intro M _ k; exact ⟨fun n h => (nomatch h), fun _ => rfl⟩
  | cons p r ih0 =>
    intro M hd k
    obtain ⟨h1, h2⟩ := List.nodup_cons.mp hd
    have ih := ih0 (M := fun j => if j = p.1 then some ((M p.1).getD 0 ||| p.2) else M j) h2 k
    refine ⟨fun n hn => ?_, fun hn => ?_⟩
    · show putAll r _ k = _
      rcases List.mem_cons.mp hn with e | hn
      · subst e
        rw [ih.2 h1]; simp
      · have hk : k ≠ p.1 := fun q => h1 (List.mem_map.mpr ⟨(k, n), hn, q⟩)
        rw [ih.1 n hn]; simp [hk]
    · show putAll r _ k = _
      have hk : k ≠ p.1 := fun q => hn (by rw [List.map_cons]; exact List.mem_cons.mpr (.inl q))
      rw [ih.2 (fun q => hn (by rw [List.map_cons]; exact List.mem_cons_of_mem _ q))]; simp [hk]
theorem Lists.nodup {M : Int → Option Nat} {kns : List (Int × Nat)} (h : Lists M kns) : (kns.map (·.1)).Nodup := h.1.imp fun {a b} q => by omega
theorem putAll_is {N : Int → Option Nat} {kns : List (Int × Nat)} (h : Lists N kns) (M : Int → Option Nat) (k : Int) : putAll kns M k = match N k with | some n => some ((M k).getD 0 ||| n) | none => M k := by
  have hp := putAll_lists (M := M) h.nodup k
  cases e : N k with
  | some n => exact hp.1 n ((h.2 k n).mpr e)
  | none =>
    refine hp.2 fun hm => ?_
    refine nameGoal ?_
    intro kG5 hG5
    obtain ⟨q, hq, rfl⟩ := List.mem_map.mp hm
    refine hG5 ?_
    clear hG5 kG5
    have := (h.2 q.1 q.2).mp hq
    rw [e] at this; cases this
theorem putAll_join {M1 M2 : Int → Option Nat} {k1 k2 : List (Int × Nat)} (h1 : Lists M1 k1) (h2 : Lists M2 k2) : putAll (k1 ++ k2) (fun _ => none) = fun k => joinO (M1 k) (M2 k) := by
  funext k
  have e : putAll (k1 ++ k2) (fun _ => none) = putAll k2 (putAll k1 fun _ => none) := by unfold putAll; rw [List.foldl_append]
  rw [e, putAll_is h2, putAll_is h1]
  cases M1 k <;> cases M2 k <;> simp [joinO]
theorem putAll_supp : ∀ {kns : List (Int × Nat)} {M : Int → Option Nat}, (∀ p ∈ kns, 0 ≤ p.1 ∧ p.1 < 7) → Supp M → Supp (putAll kns M)
  | [], _, _, h => h
  | p :: r, M, hk, h => putAll_supp (kns := r) (fun q hq => hk q (List.mem_cons_of_mem _ hq)) (fun k hn => by
      by_cases e : k = p.1
      · rw [e]; exact hk p (List.Mem.head _)
      · simp only [if_neg e] at hn; exact h k hn)
theorem Lists.keys {M : Int → Option Nat} {kns : List (Int × Nat)} (h : Lists M kns) (s : Supp M) : ∀ p ∈ kns, 0 ≤ p.1 ∧ p.1 < 7 := fun p hp => s p.1 (by rw [(h.2 p.1 p.2).mp hp]; simp)

theorem toks_of {n : Nat} {P : Nat → Tok → Tok → Prop} (h : ∀ j, j < n → ∃ t u, P j t u) : ∃ T U : Nat → Tok, ∀ j, j < n → P j (T j) (U j) := by
  classical
  refine ⟨fun j => if hj : j < n then (h j hj).choose else 0, fun j => if hj : j < n then (h j hj).choose_spec.choose else 0, fun j hj => ?_⟩
  simp only [dif_pos hj]
  exact (h j hj).choose_spec.choose_spec
end
section
open PySem PySem.W PyProof.Rows PySem.Calls


theorem joined_ok {w : World} {mg mb : Str → Option Value} {A : Around} {s : Shared} {b : Heap} {Q E : Value → Shared → Prop} {D1 D2 : Addr} {kns1 kns2 : List (Int × Nat)} {M1 M2 : Int → Option Nat}
  (G : Gnd w mg mb b) (hb : ∀ a o, b.get? a = some o → s.heap.get? a = some o) (hA : A.handled = none) (hdp : A.depth + 5 < recursionLimit) (hun : A.units + 500 < cLine)
  (p1 : PrsAt b s.heap D1 kns1) (p2 : PrsAt b s.heap D2 kns2) (hl1 : kns1.length ≤ 7) (hl2 : kns2.length ≤ 7) (li1 : Lists M1 kns1) (li2 : Lists M2 kns2) (su1 : Supp M1) (su2 : Supp M2)
  (hret : ∀ (D : Addr) (kns : List (Int × Nat)) (h' : Heap) (tk' : Nat), Lists (fun k => joinO (M1 k) (M2 k)) kns → kns.length ≤ 7 → PrsAt s.heap h' D kns → Kp [] s.heap h' → Q (.ref D) { s with heap := h', toks := tk' }) :
  wpAny (model PySem.Challenge.rw_pb0163_01.row.prog w) A (call (.ref 211) [.ref D1, .ref D2]) Q E s := by
  obtain ⟨_, dp, fr, gd, un⟩ := A
  obtain rfl := hA
  refine nameGoal ?_
  intro kG2 hG2
  obtain ⟨xs1, led1, e1, a1, pr1, hled1, -⟩ := p1
  refine hG2 ?_
  clear hG2 kG2
  refine nameGoal ?_
  intro kG3 hG3
  obtain ⟨xs2, led2, e2, a2, pr2, hled2, -⟩ := p2
  refine hG3 ?_
  clear hG3 kG3
  refine wpAny_call ?_
  k_dflt (refine' enterC (fp := []) G hb (by simp) ?ho ?hcd (by dsimp only at hdp ⊢; omega) ?hbind ?hkind ?hnd ?_ ?hco ?hgen ?hk; (case ho => k_is); (case hcd => k_is); (case hbind => exact BindsTo.of_eq rfl); (case hkind => exact rfl); (case hnd => decide +kernel); (case hco => exact rfl); (case hgen => exact rfl); (case hk => exact rfl))
  intro g L h₁ tk cells F N Y Gg up dn lt
  refine nameGoal ?_
  intro kG4 hG4
  obtain ⟨o1, hE, d1⟩ := CellsAre.one Y
  refine hG4 ?_
  clear hG4 kG4
  subst hE
  clear Y
  have d1 : o1.data = .cell none := d1
  simp only [List.append_nil] at N
  have X := Gg.X
  have T := Gg.T
  have upg : ∀ a o, s.heap.get? a = some o → g.get? a = some o := fun a o e => up a o e (by simp)
  have y1 : g.IsList D1 (xs1.map Value.ref).toArray := ⟨_, upg _ _ a1, rfl, _, rfl⟩
  have y2 : g.IsList D2 (xs2.map Value.ref).toArray := ⟨_, upg _ _ a2, rfl, _, rfl⟩
  have x1 := pr1.length
  have x2 := pr2.length
  have hpr : PrsIn (led1 ++ led2) (xs1 ++ xs2) (kns1 ++ kns2) := (pr1.mono fun q hq => List.mem_append_left _ hq).append (pr2.mono fun q hq => List.mem_append_right _ hq)
  have hled : ∀ p ∈ led1 ++ led2, g.get? p.1 = some p.2 := fun p hp => (List.mem_append.mp hp).elim (fun h => upg _ _ (hled1 p h).1) fun h => upg _ _ (hled2 p h).1
  refine nameGoal ?_
  intro kG5 hG5
  obtain ⟨Ks, Ns, hKN⟩ := toks_of (n := (kns1 ++ kns2).length) (P := fun j t u => ∃ x, (xs1 ++ xs2)[j]? = some x ∧ ∃ p, (kns1 ++ kns2)[j]? = some p ∧ g.get? x = some (tupObj [.int p.1 t, .int (p.2 : Int) u]))
    (fun j hj => by
      obtain ⟨x, t, u, q1, q2⟩ := hpr.at j _ (List.getElem?_eq_getElem hj)
      exact ⟨t, u, x, q1, _, List.getElem?_eq_getElem hj, hled _ q2⟩)
  refine hG5 ?_
  clear hG5 kG5
  dsimp only
  try k_unmd
  k_fold
  refine baseK2 (Str.ofString "one") (.ref D1) (Str.ofString "other") (.ref D2) F (by rfl) (by rfl) ?_
  clear F
  intro mB F
  refine exec1 ?_
  k_steps
  refine HoldP.mk ?_
  rename Fr _ _ _ _ => F1
  rename News _ _ _ _ => N1
  rename_i md h5 o5 lom hs5 hfs5 hd5 hfi5 l1 h6 oc doc
  refine exec1 ?_
  with_unfolding_all refine for_pairs F1 ?_
  k_steps
  refine HoldP.mk ?_
  rename Fr _ _ _ _ => F2
  rename News _ _ _ _ => N2
  rename_i h7
  have hsz : (List.map Value.ref xs1 ++ List.map Value.ref xs2).toArray.size = (kns1 ++ kns2).length := by simp; omega
  have ltm : ∀ p ∈ [(md, o5), (L + 1, oc)], p.1 < h6.objs.size := fun p hp => Heap.lt_size (N1 p hp).1
  refine loop_pairs (Ts := fun j => ((xs1 ++ xs2)[j]?).getD 0) (Xs := fun j => .int (((kns1 ++ kns2)[j]?).getD (0, 0)).1 (Ks j)) (Ys := fun j => .int ((((kns1 ++ kns2)[j]?).getD (0, 0)).2 : Int) (Ns j))
    (fun i m nw => ∃ (o' : Obj) (kvs' : List (Int × Value)), nw = [(md, o'), (L + 1, oc)] ∧ o'.IsDictOf (intKind PySem.Challenge.rw_pb0163_01.row.prog w) kvs' ∧ Den kvs' (putAll ((kns1 ++ kns2).take i) fun _ => none))
    rfl (by rfl) (by rfl) (by rfl) (N2.isList (List.Mem.head _)) ?_ ?_ ?_ ?_ F2 (news_sub N2 ?_) ⟨o5, [], rfl, hd5, by intro k; rfl⟩ ?_ ?_
  · exact fun q => (N2 _ (List.Mem.head _)).2.1 q.symm
  · intro p hp
    exact Nat.ne_of_lt (ltm p hp)
  · intro j hj
    refine nameGoal ?_
    intro kG6 hG6
    obtain ⟨x, q1, _⟩ := hKN j (by first | exact Nat.le_trans (by assumption) (by decide) | omega)
    refine hG6 ?_
    clear hG6 kG6
    have : ((xs1 ++ xs2).map Value.ref)[j]? = some (.ref x) := by rw [List.getElem?_map, q1]; rfl
    rw [List.map_append] at this
    rw [q1]; simpa using this
  · intro j hj
    refine nameGoal ?_
    intro kG7 hG7
    obtain ⟨x, q1, p, q2, q3⟩ := hKN j (by first | exact Nat.le_trans (by assumption) (by decide) | omega)
    refine hG7 ?_
    clear hG7 kG7
    rw [q1, q2]
    exact ⟨_, q3, rfl, _, rfl⟩
  · intro p hp
    exact List.Mem.tail _ hp
  · intro i m₁ nw₁ h9 tk9 own hi _ hown hZ8i
    refine ex2 (hZ8i) ?_
    intro o' kvs' hZ8
    refine an3 hZ8 ?_
    clear hZ8 hZ8i
    intro hZ8e0 hd' den'
    intro F6 N6
    rw [hZ8e0] at N6
    clear hZ8e0
    try k_fold
    simp only [List.cons_append, List.nil_append] at N6
    have hi' : i < (kns1 ++ kns2).length := by omega
    have hp := List.getElem?_eq_getElem hi'
    have hsn := putAll_snoc (M := fun _ => none) hp
    rw [hp] at F6
    simp only [Option.getD_some] at F6
    generalize hpp : (kns1 ++ kns2)[i] = pp at F6 hsn hp
    obtain ⟨k, n⟩ := pp
    have sup' : Supp (putAll ((kns1 ++ kns2).take i) fun _ => none) := putAll_supp (fun q hq => by
      rcases List.mem_append.mp (List.mem_of_mem_take hq) with h | h
      · exact li1.keys su1 q h
      · exact li2.keys su2 q h) (fun k h => absurd rfl h)
    have hkn : kvs'.length ≤ 7 := dict_len hd' den' sup'
    k_steps
    refine mget N6 (List.Mem.head _) hd' lom den' ?_
    intro t9
    k_steps
    refine dict_put F6 N6 ?_ hd' (intKind_is _ _ _ _) (by first | exact Nat.le_trans (by assumption) (by decide) | omega) ?_
    · exact (allCons (Nat.ne_of_lt l1) (fun p hp => hown p hp _ (by simp)))
    intro h8 o8 F8 N8 hd8
    rw [bitOr_nat] at hd8
    k_steps
    refine InvEndN.intro (nx := [(md, o8), (L + 1, oc)]) F8 N8 ⟨o8, _, rfl, hd8, ?_⟩ rfl ?_ ?_
    · rw [hsn]; exact den'.put _ _ _
    · first | ((repeat' (first | refine subCons ?_ ?_ | refine subApp ?_ ?_ | exact subNil | exact List.Mem.head _ | refine List.mem_cons_of_mem _ ?_ | (intro pS hS; (repeat (first | exact hS | exact List.mem_append_left _ hS | exact List.mem_append_left _ (List.mem_append_left _ hS) | exact List.mem_append_left _ (List.mem_append_right _ hS) | refine List.mem_cons_of_mem _ ?_ | refine List.mem_append_right _ ?_)); done) | refine List.mem_append_right _ ?_)); done) | (intro p hp; simp only [List.mem_cons, List.not_mem_nil, or_false] at hp ⊢; grind)
    · intro p hp
      simp [hp]
  · intro m₁ nw₁ h9 tk9 hZ9i
    refine ex2 (hZ9i) ?_
    intro o' kvs' hZ9
    refine an3 hZ9 ?_
    clear hZ9 hZ9i
    intro hZ9e0 hd' den'
    intro F6 N6
    rw [hZ9e0] at N6
    clear hZ9e0
    try k_fold
    rw [hsz, List.take_length, putAll_join li1 li2] at den'
    have sup : Supp fun k => joinO (M1 k) (M2 k) := fun k hk => by
      by_cases q1 : M1 k = none
      · by_cases q2 : M2 k = none
        · exact absurd (by simp [q1, q2, joinO]) hk
        · exact su2 k q2
      · exact su1 k q1
    generalize hM' : (fun k => joinO (M1 k) (M2 k)) = M' at den' sup hret
    refine HoldP.mk ?_
    refine wpAny_execs_cons (wpAny_Return_some ?_)
    with_unfolding_all refine LCg.ListComp_U F6 (by rfl) (by decide) (by rfl) (by decide) (by rfl) ?_
    refine hold ?_
    k_steps
    refine sorted_intD rfl F6 N6 (kda_dict N6 (List.Mem.head _) hd') lom (by have := dict_len hd' den' (sup); omega) ?_
    intro D11 h11 tk11 vs11 ks c11 F11 N11 lt11 hI11 hP11 ho11
    refine HoldP.mk ?_
    have hlk' := dict_len hd' den' (sup)
    have hkl : ks.length ≤ 7 := by rw [hP11.length_eq, List.length_map]; exact hlk'
    have hvl := hI11.length
    refine LCg.CompSrc.ledger rfl F11 N11 (List.Mem.head _) (by rw [sizeLine_eq, List.size_toArray]; omega) ?_
    intro gg
    refine rest_inv (fun i ys nw => ∃ (fl : List (Addr × Obj)) (fx : List Addr) (kns : List (Int × Nat)), nw = (D11, W.listOf vs11.toArray c11) :: (md, o') :: (L + 1, oc) :: fl ∧ ys = fx.map Value.ref ∧ PrsIn fl fx kns ∧
      kns.map (·.1) = ks.take i ∧ ∀ p ∈ kns, M' p.1 = some p.2) (exi3 [] [] [] ⟨rfl, rfl, .nil, rfl, by simp⟩) ?_ ?_
    · intro i v I oI C oC D m₂ ys nw h tk3 E' hlt hv hZ10i
      refine ex3 (hZ10i) ?_
      intro fl fx kns hZ10
      refine an5 hZ10 ?_
      clear hZ10 hZ10i
      intro hZ10e0 hZ10e1 hpr hks hM
      intro hC hx F12 N12 off ne
      rw [hZ10e0] at N12 off
      clear hZ10e0
      try k_fold
      clear F11 N11
      refine nameGoal ?_
      intro kG11 hG11
      obtain ⟨k, t, rfl, hk⟩ := IntsAre.at hI11 i v (by simpa using hv)
      refine hG11 ?_
      clear hG11 kG11
      obtain ⟨n, hn⟩ : ∃ n, M' k = some n := Option.ne_none_iff_exists'.mp ((den'.mem k).mp (hP11.mem_iff.mp (List.mem_of_getElem? hk)))
      have ltI : @LT.lt Nat _ I h.objs.size := Heap.lt_size (N12 (I, oI) (List.Mem.head _)).1
      have ltC : @LT.lt Nat _ C h.objs.size := Heap.lt_size (N12 (C, oC) (List.Mem.tail _ (List.Mem.head _))).1
      have ltD : @LT.lt Nat _ D h.objs.size := Heap.lt_size (N12 (D, _) (List.Mem.tail _ (List.Mem.tail _ (List.Mem.head _)))).1
      have dk := den' k
      rw [hn] at dk
      obtain ⟨tv, htv⟩ := dk
      k_steps
      refine sub_dict (kda_dict N12 (d := md) (o := o') (by k_mem) hd') (intKind_is _ _ _ _) htv ?_
      k_steps
      rename Fr _ _ _ _ => F13
      rename News _ _ _ _ => N13
      have offm := off.mem
      refine LCg.CompEnd.intro F13 N13 ((D11, W.listOf vs11.toArray c11) :: (md, o') :: (L + 1, oc) :: (fl ++ [(h.objs.size, tupObj [.int k t, .int (n : Int) tv])])) ?_ (LCg.Off3.of ?_) (.inr ⟨_, List.Mem.head _, rfl, _, rfl⟩)
        (exi3 (fl ++ [(h.objs.size, tupObj [.int k t, .int (n : Int) tv])]) (fx ++ [h.objs.size]) (kns ++ [(k, n)]) ⟨rfl, by rw [hZ10e1, List.map_append]; rfl, (hpr.mono fun q hq => List.mem_append_left _ hq).snoc (List.mem_append_right _ (List.Mem.head _)), ?_, ?_⟩)
      · first | ((repeat' (first | refine subCons ?_ ?_ | refine subApp ?_ ?_ | exact subNil | exact List.Mem.head _ | refine List.mem_cons_of_mem _ ?_ | (intro pS hS; (repeat (first | exact hS | exact List.mem_append_left _ hS | exact List.mem_append_left _ (List.mem_append_left _ hS) | exact List.mem_append_left _ (List.mem_append_right _ hS) | refine List.mem_cons_of_mem _ ?_ | refine List.mem_append_right _ ?_)); done) | refine List.mem_append_right _ ?_)); done) | (intro p hp; simp only [List.mem_cons, List.mem_append, List.not_mem_nil, or_false] at hp ⊢; grind)
      · exact allCons (offm _ (List.Mem.head _)) (allCons (offm _ (List.Mem.tail _ (List.Mem.head _))) (allCons (offm _ (List.Mem.tail _ (List.Mem.tail _ (List.Mem.head _)))) (allApp (fun p hp => offm p (List.Mem.tail _ (List.Mem.tail _ (List.Mem.tail _ hp)))) (allCons ⟨Nat.ne_of_gt ltI, Nat.ne_of_gt ltC, Nat.ne_of_gt ltD⟩ allNil))))
      · rw [List.map_append, hks, List.take_add_one, hk]; rfl
      · intro p hp
        rcases List.mem_append.mp hp with hp | hp
        · exact hM p hp
        · rw [List.mem_singleton.mp hp]; exact hn
    · intro ys nw hZ12i
      refine ex3 (hZ12i) ?_
      intro fl fx kns hZ12
      refine an5 hZ12 ?_
      clear hZ12 hZ12i
      intro hZ12e0 hZ12e1 hpr hks hM
      intro D h tk2 F12 N12 off
      rw [hZ12e0, hZ12e1] at N12
      clear hZ12e0 hZ12e1 off
      try k_fold
      rw [List.size_toArray, hvl, List.take_length] at hks
      k_steps
      refine hret D kns _ _ ⟨?_, fun k n => ⟨fun hm => hM _ hm, fun hn => ?_⟩⟩ ?_ ⟨fx, fl, _, N12.get (List.Mem.head _), hpr, fun p hp => ?_, fresh_of up (N12.fresh (List.Mem.head _)) (by simp)⟩ (fun a o e _ => F12.keep _ _ (upg _ _ e))
      · rw [hks]
        have nd : ks.Nodup := hP11.nodup_iff.mpr (by obtain ⟨_, _, _, _, _, _, h⟩ := hd'; exact h)
        exact ho11.imp₂ (fun a b h1 h2 => Int.lt_iff_le_and_ne.mpr ⟨h1, h2⟩) nd
      · have hk : k ∈ kns.map (·.1) := by
          rw [hks]
          exact hP11.mem_iff.mpr ((den'.mem k).mpr (by rw [hn]; simp))
        refine nameGoal ?_
        intro kG13 hG13
        obtain ⟨q, hq, rfl⟩ := List.mem_map.mp hk
        refine hG13 ?_
        clear hG13 kG13
        have e2 := hM q hq
        rw [hn] at e2
        obtain rfl := Option.some.inj e2
        exact hq
      · rw [← List.length_map (f := (·.1)), hks]; exact hkl
      · have hm : p ∈ (D, LCg.lst (List.map Value.ref fx)) :: (D11, W.listOf vs11.toArray c11) :: (md, o') :: (L + 1, oc) :: fl := by simp [hp]
        exact ⟨N12.get hm, fresh_of up (N12.fresh hm) (by simp)⟩
end
section
open PySem PySem.W PyProof.Rows PySem.Calls


theorem once_mem_go (k : Int) : ∀ (l acc : List Int), k ∈ l.foldl onceStep acc ↔ k ∈ acc ∨ k ∈ l := by
  intro l
  induction l with
  | nil => intro acc; simp
  | cons n r ih0 =>
    intro acc
    rw [List.foldl_cons, ih0]
    unfold onceStep
    by_cases h : n ∈ acc
    · rw [if_pos h, List.mem_cons]
      constructor
      · rintro (q | q)
        · exact .inl q
        · exact .inr (.inr q)
      · rintro (q | q | q)
        · exact .inl q
        · exact .inl (q ▸ h)
        · exact .inr q
    · rw [if_neg h, List.mem_append, List.mem_singleton, List.mem_cons, or_assoc]
theorem once_mem (k : Int) (l : List Int) : k ∈ once l ↔ k ∈ l := by rw [once, once_mem_go]; simp

theorem once_ok {w : World} {mg mb : Str → Option Value} {A : Around} {s : Shared} {b : Heap} {Q E : Value → Shared → Prop} {rw : Addr} {vs : List Value} {e : Nat} {ns : List Int}
  (G : Gnd w mg mb b) (hb : ∀ a o, b.get? a = some o → s.heap.get? a = some o) (hA : A.handled = none) (hdp : A.depth + 2 < recursionLimit) (hun : A.units + 420 < cLine)
  (p1 : s.heap.get? rw = some (W.listOf vs.toArray e)) (hi : IntsAre vs ns) (hl : ns.length ≤ 100)
  (hret : ∀ (D : Addr) (ys : List Value) (h' : Heap) (tk' : Nat), IntsAre ys (once ns) → h'.get? D = some (LCg.lst ys) → s.heap.get? D = none → Kp [] s.heap h' → Q (.ref D) { s with heap := h', toks := tk' }) :
  wpAny (model PySem.Challenge.rw_pb0163_01.row.prog w) A (call (.ref 216) [.ref rw]) Q E s := by
  obtain ⟨_, dp, fr, gd, un⟩ := A
  obtain rfl := hA
  refine wpAny_call ?_
  k_dflt (refine' enterC (fp := []) G hb (by simp) ?ho ?hcd (by dsimp only at hdp ⊢; omega) ?hbind ?hkind ?hnd ?_ ?hco ?hgen ?hk; (case ho => k_is); (case hcd => k_is); (case hbind => exact BindsTo.of_eq rfl); (case hkind => exact rfl); (case hnd => decide +kernel); (case hco => exact rfl); (case hgen => exact rfl); (case hk => exact rfl))
  intro g L h₁ tk cells F N Y Gg up dn lt
  refine nameGoal ?_
  intro kG2 hG2
  obtain ⟨o1, hE, d1⟩ := CellsAre.one Y
  refine hG2 ?_
  clear hG2 kG2
  subst hE
  clear Y
  have d1 : o1.data = .cell (some (.ref rw)) := d1
  simp only [List.append_nil] at N
  have X := Gg.X
  have T := Gg.T
  have upg : ∀ a o, s.heap.get? a = some o → g.get? a = some o := fun a o e => up a o e (by simp)
  have y1 : g.IsList rw vs.toArray := ⟨_, upg _ _ p1, rfl, _, rfl⟩
  have hvl := hi.length
  dsimp only
  try k_unmd
  k_fold
  refine genMap F ?_
  clear F
  intro mB F
  refine wpAny_execs_cons (wpAny_Return_some ?_)
  with_unfolding_all refine LCt.ListComp_T F (by rfl) (by decide) (by rfl) (by decide) (by rfl) ?_
  refine hold ?_
  k_steps
  rename Fr _ _ _ _ => F2
  rename News _ _ _ _ => N2
  rename IsRange _ _ _ _ _ _ _ _ => hr
  refine HoldP.mk ?_
  obtain ⟨r1, r2⟩ := range_ok (d := (ns.length : Int)) (by first | exact Nat.le_trans (by assumption) (by decide) | omega) (by first | exact Nat.le_trans (by assumption) (by decide) | omega)
  refine LCt.CompSrcT.range (n := ns.length) rfl F2 N2 hr r1 (by rw [r2]; simp) (by rw [sizeLine_eq]; omega) ?_
  intro gg
  refine rest_invT (fun i ys nw => nw = [(L + 1, o1)] ∧ IntsAre ys (once (ns.take i))) ⟨rfl, .nil⟩ ?_ ?_
  · rintro i v I oI C oC D m₂ ys nw h tk3 E' hlt ⟨tv, rfl⟩ ⟨rfl, hys⟩ hC hx F3 N3 off ne
    clear F2 N2 hr
    rw [show (0 : Int) + (i : Int) = (i : Int) by omega] at hx
    have hk := List.getElem?_eq_getElem hlt
    obtain ⟨k, hkk⟩ : ∃ k, ns[i] = k := ⟨_, rfl⟩
    rw [hkk] at hk
    obtain ⟨t, hvt⟩ := hi.get i k hk
    have hst := once_take hk
    k_steps
    · rename Fr _ _ _ _ => F4
      rename News _ _ _ _ => N4
      rename (_ = true) => hany
      refine LCg.CompEnd.intro F4 N4 [(L + 1, o1)] ?_ off trivial ⟨rfl, ?_⟩
      · first | ((repeat' (first | refine subCons ?_ ?_ | refine subApp ?_ ?_ | exact subNil | exact List.Mem.head _ | refine List.mem_cons_of_mem _ ?_ | (intro pS hS; (repeat (first | exact hS | exact List.mem_append_left _ hS | exact List.mem_append_left _ (List.mem_append_left _ hS) | exact List.mem_append_left _ (List.mem_append_right _ hS) | refine List.mem_cons_of_mem _ ?_ | refine List.mem_append_right _ ?_)); done) | refine List.mem_append_right _ ?_)); done) | (intro p hp; simp only [List.mem_cons, List.not_mem_nil, or_false] at hp ⊢; grind)
      · rw [hst, onceStep, if_pos]
        · exact hys
        · rw [once_mem]
          simp only [Int.toNat_natCast, List.any_eq_true, beq_iff_eq] at hany
          refine nameGoal ?_
          intro kG3 hG3
          obtain ⟨x, hx1, hx2⟩ := hany
          refine hG3 ?_
          clear hG3 kG3
          rw [List.getD_eq_getElem?_getD, hk] at hx2
          have hx3 : x = k := hx2
          exact hx3 ▸ hx1
    · rename Fr _ _ _ _ => F4
      rename News _ _ _ _ => N4
      rename (_ = false) => hany
      refine LCg.CompEnd.intro F4 N4 [(L + 1, o1)] ?_ off trivial ⟨rfl, ?_⟩
      · first | ((repeat' (first | refine subCons ?_ ?_ | refine subApp ?_ ?_ | exact subNil | exact List.Mem.head _ | refine List.mem_cons_of_mem _ ?_ | (intro pS hS; (repeat (first | exact hS | exact List.mem_append_left _ hS | exact List.mem_append_left _ (List.mem_append_left _ hS) | exact List.mem_append_left _ (List.mem_append_right _ hS) | refine List.mem_cons_of_mem _ ?_ | refine List.mem_append_right _ ?_)); done) | refine List.mem_append_right _ ?_)); done) | (intro p hp; simp only [List.mem_cons, List.not_mem_nil, or_false] at hp ⊢; grind)
      · rw [hst, onceStep, if_neg]
        · refine IntsAre.append hys ?_
          rw [show ns.getD (i : Int).toNat 0 = k by rw [Int.toNat_natCast, List.getD_eq_getElem?_getD, hk]; rfl]
          exact .cons _ _ .nil
        · rw [once_mem]
          intro hm
          rw [show ns.getD (i : Int).toNat 0 = k by rw [Int.toNat_natCast, List.getD_eq_getElem?_getD, hk]; rfl, Int.toNat_natCast] at hany
          have : ((ns.take i).any fun x => x == k) = true := List.any_eq_true.mpr ⟨k, hm, by simp⟩
          rw [hany] at this; cases this
  · rintro ys nw ⟨rfl, hys⟩
    intro D h tk2 F3 N3 off
    rw [List.take_length] at hys
    k_steps
    exact hret D ys _ _ hys (N3.get (List.Mem.head _)) (fresh_of up (N3.fresh (List.Mem.head _)) (by simp)) (fun a o e _ => F3.keep _ _ (upg _ _ e))
end
section
open PySem PySem.W PyProof.Rows PySem.Calls PySem.Spec PyProof.V PySem.SeqAt

theorem snoc_ind {α : Type} {P : List α → Prop} (h0 : P []) (h1 : ∀ l a, P l → P (l ++ [a])) (l : List α) : P l := by
  have key : ∀ r : List α, P r.reverse := by
    intro r
    induction r with
    | nil => exact h0
    | cons a r ih => rw [List.reverse_cons]; exact h1 _ _ ih
  have := key l.reverse
  rwa [List.reverse_reverse] at this

theorem once_snoc (l : List Int) (n : Int) : once (l ++ [n]) = onceStep (once l) n := by
  unfold once; rw [List.foldl_append]; rfl
theorem once_nodup (l : List Int) : (once l).Nodup := by
  refine snoc_ind (P := fun l => (once l).Nodup) List.nodup_nil (fun l n ih => ?_) l
  rw [once_snoc]
  unfold onceStep
  split
  · exact ih
  · rename_i h
    refine List.nodup_append.mpr ⟨ih, by simp, fun a ha b hb => ?_⟩
    rw [List.mem_singleton.mp hb]
    exact fun q => h (q ▸ ha)
theorem once_of_nodup (l : List Int) : l.Nodup → once l = l := by
  refine snoc_ind (P := fun l => l.Nodup → once l = l) (fun _ => rfl) (fun l n ih hd => ?_) l
  obtain ⟨h1, _, h2⟩ := List.nodup_append.mp hd
  rw [once_snoc, ih h1, onceStep, if_neg]
  exact fun q => h2 n q n (List.mem_singleton.mpr rfl) rfl
theorem once_append (a b : List Int) : once (a ++ b) = once a ++ (once b).filter (fun n => decide (n ∉ once a)) := by
  refine snoc_ind (P := fun b => once (a ++ b) = once a ++ (once b).filter (fun n => decide (n ∉ once a))) (by simp [once]) (fun l n ih => ?_) b
  rw [← List.append_assoc, once_snoc, once_snoc, ih]
  unfold onceStep
  by_cases h1 : n ∈ once a
  · rw [if_pos (List.mem_append_left _ h1)]
    split
    · rfl
    · rw [List.filter_append]; simp [h1]
  · by_cases h2 : n ∈ once l
    · rw [if_pos (List.mem_append_right _ (List.mem_filter.mpr ⟨h2, by simpa using h1⟩)), if_pos h2]
    · rw [if_neg, if_neg h2, List.filter_append, List.append_assoc]
      · simp [h1]
      · intro q
        rcases List.mem_append.mp q with q | q
        · exact h1 q
        · exact h2 (List.mem_filter.mp q).1
theorem once_once (a : List Int) : once (once a) = once a := once_of_nodup _ (once_nodup a)
theorem once_left (a b : List Int) : once (once a ++ b) = once (a ++ b) := by rw [once_append, once_append a, once_once]
theorem once_right (a b : List Int) : once (a ++ once b) = once (a ++ b) := by rw [once_append, once_append a b, once_once]
theorem once_assoc (a b c : List Int) : once (once (a ++ b) ++ c) = once (a ++ once (b ++ c)) := by rw [once_left, once_right, List.append_assoc]
theorem once_twice (a : List Int) : once (a ++ a) = once a := by
  rw [once_append, List.filter_eq_nil_iff.mpr (by intro n hn; simpa using hn), List.append_nil]
theorem once_filter (p : Int → Bool) (l : List Int) : (once l).filter p = once (l.filter p) := by
  refine snoc_ind (P := fun l => (once l).filter p = once (l.filter p)) rfl (fun l n ih => ?_) l
  rw [once_snoc, List.filter_append]
  unfold onceStep
  by_cases hp : p n = true
  · rw [show [n].filter p = [n] by simp [hp], once_snoc, onceStep, ← ih]
    by_cases h : n ∈ once l
    · rw [if_pos h, if_pos (List.mem_filter.mpr ⟨h, hp⟩)]
    · rw [if_neg h, if_neg (fun q => h (List.mem_filter.mp q).1), List.filter_append]; simp [hp]
  · rw [show [n].filter p = [] by simp [hp], List.append_nil, ← ih]
    split
    · rfl
    · rw [List.filter_append]; simp [hp]
theorem featIdx_once (fts : List (Str × List Int)) (a b : List Int) (tag : Str) : featIdx fts (once (a ++ b)) tag = once (featIdx fts a tag ++ featIdx fts b tag) := by
  unfold featIdx
  rw [once_filter, List.filter_append]
theorem tagOn_once (fts : List (Str × List Int)) (a b : List Int) (x : Str) : TagOn fts (once (a ++ b)) x ↔ TagOn fts a x ∨ TagOn fts b x := by
  unfold TagOn
  constructor
  · rintro ⟨n, hn, e⟩
    rw [once_mem, List.mem_append] at hn
    exact hn.elim (fun h => .inl ⟨n, h, e⟩) fun h => .inr ⟨n, h, e⟩
  · rintro (⟨n, hn, e⟩ | ⟨n, hn, e⟩)
    · exact ⟨n, (once_mem _ _).mpr (List.mem_append_left _ hn), e⟩
    · exact ⟨n, (once_mem _ _).mpr (List.mem_append_right _ hn), e⟩

theorem joinO_none (x : Option Nat) : joinO x none = x := by cases x <;> rfl
theorem joinO_comm (x y : Option Nat) : joinO x y = joinO y x := by cases x <;> cases y <;> simp [joinO, Nat.or_comm]
theorem joinO_assoc (x y z : Option Nat) : joinO (joinO x y) z = joinO x (joinO y z) := by cases x <;> cases y <;> cases z <;> simp [joinO, Nat.or_assoc]
theorem joinO_self (x : Option Nat) : joinO x x = x := by cases x <;> simp [joinO]
theorem joinO_four (a b c d : Option Nat) : joinO (joinO a b) (joinO c d) = joinO (joinO a c) (joinO b d) := by
  rw [joinO_assoc, joinO_assoc, ← joinO_assoc b, ← joinO_assoc c, joinO_comm b c]

open Classical in
noncomputable def hitO (fts : List (Str × List Int)) (nl m : Nat) (ns : List Int) (k : Int) : Option Nat := if ∃ n ∈ ns, k ∈ lkOf fts n ∧ k < (nl : Int) then some m else none
theorem gFold_is (fts : List (Str × List Int)) (nl m : Nat) (k : Int) : ∀ (ns : List Int) (M : Int → Option Nat), gFold fts nl m ns M k = joinO (M k) (hitO fts nl m ns k) := by
  intro ns
  induction ns with
  | nil => intro M; simp [gFold, hitO, joinO_none]
  | cons n r ih0 =>
    intro M
    have ih := ih0 (addM nl (lkOf fts n) m M)
    show gFold fts nl m r (addM nl (lkOf fts n) m M) k = _
    rw [ih]
    unfold addM hitO
    by_cases h1 : k ∈ lkOf fts n ∧ k < (nl : Int)
    · rw [if_pos h1, if_pos (show ∃ x ∈ n :: r, k ∈ lkOf fts x ∧ k < (nl : Int) from ⟨n, List.Mem.head _, h1⟩)]
      split <;> cases M k <;> simp [joinO, or_again]
    · rw [if_neg h1]
      congr 1
      by_cases h2 : ∃ x ∈ r, k ∈ lkOf fts x ∧ k < (nl : Int)
      · rw [if_pos h2, if_pos]
        obtain ⟨x, hx, e⟩ := h2
        exact ⟨x, List.mem_cons_of_mem _ hx, e⟩
      · rw [if_neg h2, if_neg]
        rintro ⟨x, hx, e⟩
        rcases List.mem_cons.mp hx with rfl | hx
        · exact h1 e
        · exact h2 ⟨x, hx, e⟩
open Classical in
noncomputable def stepO (fts : List (Str × List Int)) (nl : Nat) (fs : List Int) (t : Str) (m : Nat) (k : Int) : Option Nat := if m ≠ 0 then hitO fts nl m (featIdx fts fs t) k else none
theorem gStep_is (fts : List (Str × List Int)) (nl : Nat) (fs : List Int) (t : Str) (m : Nat) (M : Int → Option Nat) (k : Int) : gStep fts nl fs t m M k = joinO (M k) (stepO fts nl fs t m k) := by
  unfold gStep stepO
  split
  · exact gFold_is _ _ _ _ _ _
  · rw [joinO_none]
theorem stepO_join (fts : List (Str × List Int)) (nl : Nat) (a b : List Int) (t : Str) (m : Nat) (k : Int) : stepO fts nl (once (a ++ b)) t m k = joinO (stepO fts nl a t m k) (stepO fts nl b t m k) := by
  unfold stepO
  split
  · unfold hitO
    have e : (∃ n ∈ featIdx fts (once (a ++ b)) t, k ∈ lkOf fts n ∧ k < (nl : Int)) ↔ (∃ n ∈ featIdx fts a t, k ∈ lkOf fts n ∧ k < (nl : Int)) ∨ ∃ n ∈ featIdx fts b t, k ∈ lkOf fts n ∧ k < (nl : Int) := by
      rw [featIdx_once]
      constructor
      · rintro ⟨n, hn, e⟩
        rw [once_mem, List.mem_append] at hn
        exact hn.elim (fun h => .inl ⟨n, h, e⟩) fun h => .inr ⟨n, h, e⟩
      · rintro (⟨n, hn, e⟩ | ⟨n, hn, e⟩)
        · exact ⟨n, (once_mem _ _).mpr (List.mem_append_left _ hn), e⟩
        · exact ⟨n, (once_mem _ _).mpr (List.mem_append_right _ hn), e⟩
    by_cases h1 : ∃ n ∈ featIdx fts a t, k ∈ lkOf fts n ∧ k < (nl : Int)
    · rw [if_pos h1, if_pos (e.mpr (.inl h1))]
      split <;> simp [joinO]
    · rw [if_neg h1]
      by_cases h2 : ∃ n ∈ featIdx fts b t, k ∈ lkOf fts n ∧ k < (nl : Int)
      · rw [if_pos h2, if_pos (e.mpr (.inr h2))]; rfl
      · rw [if_neg h2, if_neg (fun q => (e.mp q).elim h1 h2)]; rfl
  · rfl
theorem gM_join (fts : List (Str × List Int)) (nl : Nat) (a b : List Int) (wt : Str → Nat) (ss : List Str) : gM fts nl (once (a ++ b)) wt ss = fun k => joinO (gM fts nl a wt ss k) (gM fts nl b wt ss k) := by
  have key : ∀ (ss : List Str) (M M1 M2 : Int → Option Nat), (∀ k, M k = joinO (M1 k) (M2 k)) → ∀ k, ss.foldl (fun M t => gStep fts nl (once (a ++ b)) t (wt t) M) M k =
      joinO (ss.foldl (fun M t => gStep fts nl a t (wt t) M) M1 k) (ss.foldl (fun M t => gStep fts nl b t (wt t) M) M2 k) := by
    intro ss
    induction ss with
    | nil => exact fun _ _ _ h => h
    | cons t r ih =>
      intro M M1 M2 h
      refine ih _ _ _ fun k => ?_
      show gStep fts nl (once (a ++ b)) t (wt t) M k = joinO (gStep fts nl a t (wt t) M1 k) (gStep fts nl b t (wt t) M2 k)
      rw [gStep_is, gStep_is, gStep_is, h, stepO_join, joinO_four]
  funext k
  exact key ss (fun _ => none) (fun _ => none) (fun _ => none) (fun _ => rfl) k

theorem Lists.uniq {M : Int → Option Nat} : ∀ {a b : List (Int × Nat)}, Lists M a → Lists M b → a = b := by
  have lt_nodup : ∀ {l : List (Int × Nat)}, Lists M l → l.Nodup := fun h => by
    have := h.nodup
    exact (List.pairwise_map.mp this).imp fun {p q} n e => n (by rw [e])
  intro a b ha hb
  have hp : a.Perm b := (List.perm_ext_iff_of_nodup (lt_nodup ha) (lt_nodup hb)).mpr fun p => by rw [ha.2 p.1 p.2, hb.2 p.1 p.2]
  have pa : a.Pairwise (fun p q => p.1 < q.1) := List.pairwise_map.mp ha.1
  have pb : b.Pairwise (fun p q => p.1 < q.1) := List.pairwise_map.mp hb.1
  exact hp.eq_of_pairwise (fun p q _ _ h1 h2 => by omega) pa pb

theorem str_ext {a b : Str} (h : a.cps.toList = b.cps.toList) : a = b := by
  cases a; cases b
  simp only at h
  congr 1
  exact Array.toList_inj.mp h
theorem le_of_rising : ∀ {l : List Str} {p : Str}, risingS p l = true → (∀ x ∈ l, p.cps.toList ≤ x.cps.toList) ∧ l.Pairwise (fun a b => a.cps.toList ≤ b.cps.toList)
  | [], _, _ => ⟨by simp, .nil⟩
  | x :: r, p, h => by
    simp only [risingS, Bool.and_eq_true, Bool.not_eq_true'] at h
    obtain ⟨h1, h2⟩ := h
    obtain ⟨i1, i2⟩ := le_of_rising h2
    have hp : p.cps.toList ≤ x.cps.toList := by
      rw [ltCps_eq] at h1
      exact List.not_lt.mp (of_decide_eq_false h1)
    refine ⟨fun y hy => ?_, .cons i1 i2⟩
    rcases List.mem_cons.mp hy with rfl | hy
    · exact hp
    · exact List.le_trans hp (i1 y hy)
theorem le_of_sortedS : ∀ {l : List Str}, sortedS l = true → l.Pairwise (fun a b => a.cps.toList ≤ b.cps.toList)
  | [], _ => .nil
  | x :: r, h => .cons (le_of_rising h).1 (le_of_rising h).2
theorem sorted_uniq {a b : List Str} (ha : sortedS a = true) (hb : sortedS b = true) (hp : a.Perm b) : a = b :=
  hp.eq_of_pairwise (fun _ _ _ _ h1 h2 => str_ext (List.le_antisymm h1 h2)) (le_of_sortedS ha) (le_of_sortedS hb)
theorem sorted_uniq' {a b : List Str} (ha : sortedS a = true) (hb : sortedS b = true) (na : a.Nodup) (nb : b.Nodup) (h : ∀ x, x ∈ a ↔ x ∈ b) : a = b :=
  sorted_uniq ha hb ((List.perm_ext_iff_of_nodup na nb).mpr h)

mutual
theorem same_self : ∀ d : PyData, Spec.same d d = true
  | .none => by simp [Spec.same]
  | .bool _ => by simp [Spec.same]
  | .int _ => by simp [Spec.same]
  | .str _ => by simp [Spec.same]
  | .list xs => by rw [Spec.same]; exact sameAll_self xs
  | .tuple xs => by rw [Spec.same]; exact sameAll_self xs
  | .dict xs => by rw [Spec.same]; exact samePairs_self xs
theorem sameAll_self : ∀ d : List PyData, Spec.sameAll d d = true
  | [] => by simp [Spec.sameAll]
  | x :: r => by rw [Spec.sameAll, same_self x, sameAll_self r]; rfl
theorem samePairs_self : ∀ d : List (PyData × PyData), Spec.samePairs d d = true
  | [] => by simp [Spec.samePairs]
  | (a, b) :: r => by rw [Spec.samePairs, same_self a, same_self b, samePairs_self r]; rfl
end

structure Nice (d : PyData) : Prop where
  sh : shaped d = true
  nm : noMix d d = true

section
variable {prog : Program} {w : World} {A : Around} {E : Value → Shared → Prop} {s : Shared} {a b : Value} {d : PyData} {as bs : List Addr} {Q : Value → Shared → Prop}
theorem eq_nice (ra : Reads s.heap a d as) (rb : Reads s.heap b d bs) (n : Nice d) (hu : A.units + 64 < cLine) (h : Q (.bool true) s) : wpAny (model prog w) A (compareOp .Eq a b) Q E s :=
  eq_dataH_same ra rb n.sh n.sh hu n.nm (by rw [same_self]; exact h)
theorem ne_nice (ra : Reads s.heap a d as) (rb : Reads s.heap b d bs) (n : Nice d) (hu : A.units + 64 < cLine) (h : Q (.bool false) s) : wpAny (model prog w) A (compareOp .NotEq a b) Q E s :=
  ne_dataH_same ra rb n.sh n.sh hu n.nm (by rw [same_self]; exact h)
end

/-- The data of flat rows. -/
theorem flat_ok {xs : List PyData} (h : ∀ d ∈ xs, PyData.canLay0 d = true ∧ d.depth ≤ 4 ∧ noMix d d = true) : PyData.canLayAll0 xs = true ∧ PyData.depthAll xs ≤ 5 ∧ noMixAll xs xs = true := by
  induction xs with
  | nil => simp [PyData.canLayAll0, PyData.depthAll, noMixAll]
  | cons x r ih =>
    obtain ⟨h1, h2, h3⟩ := h x (List.Mem.head _)
    obtain ⟨i1, i2, i3⟩ := ih fun d hd => h d (List.mem_cons_of_mem _ hd)
    refine ⟨by simp [PyData.canLayAll0, h1, i1], by simp only [PyData.depthAll]; omega, by simp [noMixAll, h3, i3]⟩
end
section
open PySem PySem.W PyProof.Rows PySem.Calls

theorem layNew_led (t : SetTable) (es : Array (Int × Value)) (h : Int) (x : Value) : (layNew t es h x).2.1.led = t.led := by
  unfold layNew
  split
  · simp only [SetTable.put, SetTable.orStandIn, SetTable.standIn]
    repeat' split
    all_goals rfl
  · rfl
theorem laid_keeps {mask finger moves : Nat} {led plain : Bool} {hashes : Array Int} {r : SetTable × Array Nat} (h : SetTable.laid mask finger moves led plain hashes = some r) : r.1.led = led ∧ r.1.plain = plain := by
  unfold SetTable.laid at h
  cases e : SetTable.layClean mask hashes with
  | none => rw [e] at h; cases h
  | some o =>
    rw [e] at h
    have h' := Option.some.inj h
    rw [← h']
    exact ⟨rfl, rfl⟩
theorem relayAll_keeps (t : SetTable) (es : Array (Int × Value)) (wanted : Nat) (hp : t.plain = false) : (relayAll t es wanted).2.1.led = t.led ∧ (relayAll t es wanted).2.1.plain = false := by
  unfold relayAll
  split
  · rename_i t' order e
    have := laid_keeps e
    dsimp only
    split
    · exact ⟨this.1, this.2.trans hp⟩
    · exact ⟨rfl, rfl⟩
  · exact ⟨rfl, rfl⟩

structure SetD (prog : Program) (w : World) (h : Heap) (a : Addr) (es : Array (Int × Value)) (ep : Nat) (t : SetTable) (ks : List Str) : Prop where
  get : h.get? a = some { cls := .type "set", dict := none, data := .set es ep t }
  elems : ElemsOf (PySem.strKind prog w) es.toList
  vals : StrsAre (es.toList.map (·.2)) ks
  fits : t.fits es.size = true
  small : es.size < scanBound
  led : t.led = !(w.params.followText "set-order")
  plain : es.size ≠ 0 → t.plain = false
  nodup : ks.Nodup
def SetS (prog : Program) (w : World) (h : Heap) (a : Addr) (ks : List Str) : Prop := ∃ es ep t, SetD prog w h a es ep t ks

theorem strs_perm {vs us : List Value} {ss : List Str} (h : StrsAre us ss) (p : vs.Perm us) : ∃ ss', StrsAre vs ss' ∧ ss'.Perm ss := by
  refine ⟨vs.map strOf, ?_, ?_⟩
  · exact strsAre_map vs fun v hv => h.all v (p.mem_iff.mp hv)
  · have := p.map strOf
    rwa [h.strs] at this
theorem strs_mem {vs : List Value} {ss : List Str} (p : StrsAre vs ss) : ∀ x, x ∈ ss ↔ ∃ v ∈ vs, v.isStr x = true := by
  induction p with
  | nil => intro x; simp
  | cons y t r ih0 =>
    intro x
    have ih := ih0 x
    rw [List.mem_cons, ih]
    constructor
    · rintro (rfl | ⟨v, hv, e⟩)
      · exact ⟨_, List.Mem.head _, by simp [Value.isStr]⟩
      · exact ⟨v, List.mem_cons_of_mem _ hv, e⟩
    · rintro ⟨v, hv, e⟩
      rcases List.mem_cons.mp hv with rfl | hv
      · have e' : y = x := by simpa [Value.isStr] using e
        exact .inl e'.symm
      · exact .inr ⟨v, hv, e⟩

section
variable {prog : Program} {w : World} {A : Around} {E : Value → Shared → Prop} {s : Shared}

theorem put_get {h : Heap} {a : Addr} {es es' : Array (Int × Value)} {ep : Nat} {t t' : SetTable} (ho : h.get? a = some { cls := .type "set", dict := none, data := .set es ep t }) :
    (h.update a (Obj.putSet es' t')).get? a = some { cls := .type "set", dict := none, data := .set es' (ep + 1) t' } :=
  Heap.get?_update_self (Obj.putSet es' t') ho rfl

theorem sadd_tail {g : Bool → Sem Unit} (hg : ∀ (b : Bool) (s₁ : Shared) (Q' : Unit → Shared → Prop), Q' () s₁ → wpAny (model prog w) A (g b) Q' E s₁)
    {a : Addr} {es : Array (Int × Value)} {ep : Nat} {t : SetTable} (ho : s.heap.get? a = some { cls := .type "set", dict := none, data := .set es ep t })
    {es1 : Array (Int × Value)} {t2 : SetTable} {ks : List Str} (hel : ElemsOf (PySem.strKind prog w) es1.toList) (hv : StrsAre (es1.toList.map (·.2)) ks) (hf : t2.fits es1.size = true) (hb : es1.size < scanBound)
    (hled : t2.led = !(w.params.followText "set-order")) (hpl : t2.plain = false) (hnd : ks.Nodup) {wasDummy : Bool} {R : Option Bool → Shared → Prop}
    (h : ∀ h' ks', Heap.SameBut a s.heap h' → SetS prog w h' a ks' → ks'.Perm ks → R (some true) { s with heap := h' }) :
    wpAny (model prog w) A (do
        storeSet a es1 t2
        if (!wasDummy && t2.tooFull) = true then do
            g (relayAll t2 es1 (SetTable.grown es1.size)).2.2
            storeSet a (relayAll t2 es1 (SetTable.grown es1.size)).1 (relayAll t2 es1 (SetTable.grown es1.size)).2.1
            pure (some true)
          else pure (some true)) R E s := by
  refine wpAny_bind (wpAny_storeSet_of ho rfl ?_ (fits_of_scanBound hb))
  have ho1 := put_get (es' := es1) (t' := t2) ho
  have hsb1 := Heap.SameBut.update s.heap a (Obj.putSet es1 t2)
  split
  · have hp := relayAll_perm t2 es1 (SetTable.grown es1.size)
    have hfr := relayAll_fits t2 es1 (SetTable.grown es1.size)
    have hkp := relayAll_keeps t2 es1 (SetTable.grown es1.size) hpl
    generalize relayAll t2 es1 (SetTable.grown es1.size) = Rl at hp hfr hkp ⊢
    obtain ⟨es2, t3, gave2⟩ := Rl
    dsimp only at hp hfr hkp ⊢
    have hsz : es2.size = es1.size := by rw [← Array.length_toList, hp.length_eq, Array.length_toList]
    have hb2 : es2.size < scanBound := by rw [hsz]; exact hb
    obtain ⟨ks2, hv2, hp2⟩ := strs_perm hv (hp.map (·.2))
    refine wpAny_bind (hg _ _ _ ?_)
    refine wpAny_bind (wpAny_storeSet_of ho1 rfl ?_ (fits_of_scanBound hb2))
    exact wpAny_pure (h _ ks2 (hsb1.trans (Heap.SameBut.update _ a _)) ⟨es2, _, t3, put_get ho1, hel.perm hp, hv2, hfr, hb2, hkp.1.trans hled, fun _ => hkp.2, hp2.nodup_iff.mpr hnd⟩ hp2)
  · exact wpAny_pure (h _ ks hsb1 ⟨es1, _, t2, ho1, hel, hv, hf, hb, hled, fun _ => hpl, hnd⟩ (List.Perm.refl _))

theorem sadd {a : Addr} {ks : List Str} {y : Str} {ty : Tok} {Q : Bool → Shared → Prop} (hS : SetS prog w s.heap a ks) (hz : ks.length + 1 < scanBound)
    (h : ∀ (r : Bool) (h' : Heap) (ks' : List Str), Heap.SameBut a s.heap h' → SetS prog w h' a ks' → (∀ x, x ∈ ks' ↔ x ∈ ks ∨ x = y) → ks'.length ≤ ks.length + 1 → Q r { s with heap := h', toks := s.toks + 1 }) :
    wpAny (model prog w) A (setAdd a (.str y ty)) Q E s := by
  obtain ⟨es, ep, t, ho, hel, hv, hf, hb, hled, hpl, hnd⟩ := hS
  have hlen : es.size = ks.length := by
    have := hv.length
    rw [List.length_map, Array.length_toList] at this
    exact this
  have hmem : y ∈ ks ↔ ∃ e ∈ es.toList, (PySem.strKind prog w).is y e.2 = true := by
    rw [strs_mem hv]
    constructor
    · rintro ⟨v, hv, e⟩
      obtain ⟨q, hq, rfl⟩ := List.mem_map.mp hv
      exact ⟨q, hq, ((PySem.strKind prog w).strs y y ty q.2 (strKind_is _ _ _ _)).trans e⟩
    · rintro ⟨q, hq, e⟩
      exact ⟨q.2, List.mem_map.mpr ⟨q, hq, rfl⟩, ((PySem.strKind prog w).strs y y ty q.2 (strKind_is _ _ _ _)).symm.trans e⟩
  unfold setAdd
  refine wpAny_holding (wpAny_bind ((PySem.strKind prog w).pyHash (strKind_is _ _ _ _) ?_))
  unfold setAddHashed setAddHashedIn
  refine wpAny_holding (wpAny_bind (wpAny_setState_of ho rfl hf ?_))
  dsimp only
  rw [byScan_of (x := .str y ty) rfl hb hel]
  simp only [↓reduceIte]
  unfold setAddByScan
  refine wpAny_bind ?_
  refine wpAny_bind (wpAny_rule ?_)
  refine wpAny_bind (wpAny_setScan_of (strKind_is _ _ _ _) ho rfl hf hel ?_)
  cases hr : List.findIdx? (fun e => (PySem.strKind prog w).is y e.2) es.toList with
  | some j =>
    dsimp only
    obtain ⟨hj, hpj, _⟩ := List.findIdx?_eq_some_iff_getElem.mp hr
    have hy : y ∈ ks := hmem.mpr ⟨es.toList[j], List.getElem_mem hj, hpj⟩
    refine wpAny_pure (wpAny_pure ?_)
    exact h _ s.heap ks (Heap.SameBut.refl a s.heap) ⟨es, ep, t, ho, hel, hv, hf, hb, hled, hpl, hnd⟩ (fun x => ⟨.inl, fun q => q.elim id fun e => e ▸ hy⟩) (Nat.le_succ _)
  | none =>
    dsimp only
    have hy : y ∉ ks := fun q => by
      obtain ⟨e, he, hp⟩ := hmem.mp q
      have := List.findIdx?_eq_none_iff.mp hr e he
      rw [hp] at this; cases this
    have hgw : ∀ (b : Bool) {s₁ : Shared} {Q' : Unit → Shared → Prop}, Q' () s₁ → wpAny (model prog w) A (match b with | true => rule "set.scan.the-table-gave-way" | false => pure ()) Q' E s₁ :=
      fun b s₁ Q' hq => by cases b <;> first | exact wpAny_pure hq | exact wpAny_rule hq
    have hperm := layNew_perm t es ((PySem.strKind prog w).hash y) (.str y ty)
    have hfits := layNew_fits t es ((PySem.strKind prog w).hash y) (.str y ty)
    have hl := layNew_led t es ((PySem.strKind prog w).hash y) (.str y ty)
    generalize layNew t es ((PySem.strKind prog w).hash y) (.str y ty) = Ly at hperm hfits hl ⊢
    obtain ⟨es1, t1, wasDummy, gave⟩ := Ly
    dsimp only at hperm hfits hl ⊢
    rw [Array.toList_push] at hperm
    have hel1 : ElemsOf (PySem.strKind prog w) es1.toList := (hel.push (strKind_is _ _ y ty) rfl).perm hperm
    obtain ⟨ks1, hv1, hp1⟩ := strs_perm (vs := es1.toList.map (·.2)) (us := (es.toList ++ [((PySem.strKind prog w).hash y, Value.str y ty)]).map (·.2)) (ss := ks ++ [y])
      (by rw [List.map_append]; exact (by
        have app : ∀ {vs us : List Value} {ss ts : List Str}, StrsAre vs ss → StrsAre us ts → StrsAre (vs ++ us) (ss ++ ts) := by
          intro vs us ss ts h h'
          induction h with
          | nil => exact h'
          | cons y t _ ih => exact .cons y t ih
        exact app hv (.cons y ty .nil))) (hperm.map _)
    have hb1 : es1.size < scanBound := by
      rw [← Array.length_toList, hperm.length_eq, List.length_append, Array.length_toList, hlen]; simpa using hz
    have hnd1 : ks1.Nodup := hp1.nodup_iff.mpr (List.nodup_append.mpr ⟨hnd, by simp, fun a ha b hb => by rw [List.mem_singleton.mp hb]; exact fun q => hy (q ▸ ha)⟩)
    refine wpAny_bind (hgw _ ?_)
    have hend : ∀ h' ks', Heap.SameBut a s.heap h' → SetS prog w h' a ks' → ks'.Perm ks1 → Q true { s with heap := h', toks := s.toks + 1 } := fun h' ks' hsb hS' hp =>
      h true h' ks' hsb hS' (fun x => by rw [hp.mem_iff, hp1.mem_iff, List.mem_append, List.mem_singleton]) (by rw [hp.length_eq, hp1.length_eq]; simp)
    split
    · refine wpAny_bind ?_
      rw [hashByValue_scannable 8 (x := .str y ty) rfl]
      refine wpAny_pure ?_
      refine sadd_tail (s := { s with toks := s.toks + 1 }) ?_ ho (t2 := { t1 with plain := false }) hel1 hv1 (SetTable.fits_plain_off hfits) hb1 (hl.trans hled) rfl hnd1 ?_
      · intro b s₁ Q' hq; cases b <;> first | exact wpAny_pure hq | exact wpAny_rule hq
      · intro h' ks' hsb hS' hp; dsimp only; exact wpAny_pure (hend h' ks' hsb hS' hp)
    · rename_i hpl1
      refine wpAny_bind (wpAny_pure ?_)
      simp only [↓reduceIte]
      refine sadd_tail (s := { s with toks := s.toks + 1 }) ?_ ho hel1 hv1 hfits hb1 (hl.trans hled) (by simpa using hpl1) hnd1 ?_
      · intro b s₁ Q' hq; cases b <;> first | exact wpAny_pure hq | exact wpAny_rule hq
      · intro h' ks' hsb hS' hp; dsimp only; exact wpAny_pure (hend h' ks' hsb hS' hp)
end
end
section
open PySem PySem.W PyProof.Rows PySem.Calls

theorem SetS.at {prog : Program} {w : World} {h h' : Heap} {a : Addr} {ks : List Str} (x : SetS prog w h a ks) (e : ∀ o, h.get? a = some o → h'.get? a = some o) : SetS prog w h' a ks := by
  obtain ⟨es, ep, t, d⟩ := x
  exact ⟨es, ep, t, e _ d.get, d.elems, d.vals, d.fits, d.small, d.led, d.plain, d.nodup⟩
theorem SetS.fresh {prog : Program} {w : World} {h : Heap} {a : Addr} (ho : h.get? a = some { cls := .type "set", dict := none, data := .set #[] 0 (.fresh 0 0 (!(w.params.followText "set-order"))) }) : SetS prog w h a [] :=
  ⟨#[], 0, _, ho, (fun e he => by simp at he), .nil, rfl, by unfold scanBound; decide, rfl, fun h => absurd rfl h, .nil⟩

/-- The strs that a row gave until turn `i`. -/
def Got (val : Nat → Str) (i : Nat) (ks : List Str) : Prop := (∀ x, x ∈ ks ↔ ∃ j, j < i ∧ val j = x) ∧ ks.length ≤ i
theorem Got.next {val : Nat → Str} {i : Nat} {ks ks' : List Str} (g : Got val i ks) (h : ∀ x, x ∈ ks' ↔ x ∈ ks ∨ x = val i) (hl : ks'.length ≤ ks.length + 1) : Got val (i + 1) ks' := by
  refine ⟨fun x => ?_, Nat.le_trans hl (Nat.succ_le_succ g.2)⟩
  rw [h, g.1]
  constructor
  · rintro (⟨j, hj, e⟩ | e)
    · exact ⟨j, Nat.lt_succ_of_lt hj, e⟩
    · exact ⟨i, Nat.lt_succ_self _, e.symm⟩
  · rintro ⟨j, hj, e⟩
    rcases Nat.lt_or_ge j i with h | h
    · exact .inl ⟨j, h, e⟩
    · have : j = i := by omega
      exact .inr (by rw [← e, this])

section
variable {prog : Program} {w : World} {A : Around} {E : Value → Shared → Prop} {s : Shared}

theorem supd_loop {R : Result → Shared → Prop} {I : Addr} {fp wr : List Addr} {G : Array GenState → Array GenState → Prop} {n : Nat} {P : Nat → Value → Prop} {St : Nat → Shared → Prop} (W : WalksS prog w A.in1 I fp wr G n P St) (S : Addr) (hSf : S ∉ fp)
    (val : Nat → Str) (hval : ∀ i v, P i v → ∃ t, v = .str (val i) t) (hb : n + 1 < scanBound) :
    ∀ (k i : Nat) (s : Shared), n - i = k → i ≤ n → St i s → (∃ ks, SetS prog w s.heap S ks ∧ Got val i ks) →
      (∀ s' ks, Moved (S :: wr) G s s' → SetS prog w s'.heap S ks → Got val n ks → R (.ok (.ret .none)) s') →
      codeAny (model prog w) A (.builtin "set.update.loop" ⟨[.ref S, .ref I], []⟩) R s := by
  have hSw : S ∉ wr := fun h => hSf (W.sub _ h)
  have hsub : ∀ b ∈ wr, b ∈ S :: wr := fun b hb => List.mem_cons_of_mem _ hb
  intro k
  induction k with
  | zero =>
    rintro i s hk hi hst ⟨ks, hS, hG⟩ hR
    obtain rfl : i = n := by omega
    refine codeAny_builtin PyProof.Rows.F.entry_set_update_loop ?_
    rw [Around.under_plainId PyProof.Rows.F.plain_set_update_loop _]
    show wpAny _ A.in1 (pyNext (.ref I) >>= _) _ _ s
    refine wpAny_bind (W.done s _ _ hst fun s' hm => ?_)
    exact wpAny_pure (hR s' ks (hm.mono hsub) (hS.at fun o e => hm.heap S _ hSw e) hG)
  | succ k ih =>
    rintro i s hk hi hst ⟨ks, hS, hG⟩ hR
    have hlt : i < n := by omega
    refine codeAny_builtin PyProof.Rows.F.entry_set_update_loop ?_
    rw [Around.under_plainId PyProof.Rows.F.plain_set_update_loop _]
    show wpAny _ A.in1 (pyNext (.ref I) >>= _) _ _ s
    refine wpAny_bind (W.item i s _ _ hlt hst fun v s' hP hst' hm => ?_)
    obtain ⟨t, rfl⟩ := hval i v hP
    show wpAny _ A.in1 (holding [Value.str (val i) t] (setAdd S (.str (val i) t)) >>= _) _ _ s'
    refine wpAny_bind (wpAny_holding ?_)
    refine sadd (hS.at fun o e => hm.heap S _ hSw e) (by have := hG.2; omega) fun r h' ks' hsb hS' hm' hl' => ?_
    refine wpAny_pure ⟨plainId_quiet PyProof.Rows.F.plain_set_update_loop _, ih (i + 1) _ (by omega) hlt (W.frame _ s' _ _ hst' (Nat.le_succ _) fun b hb o e => ?_) ⟨ks', hS', hG.next hm' hl'⟩ fun s'' ks'' hm'' hS'' hG'' => ?_⟩
    · rw [hsb.2 b (fun h : b = S => hSf (by rw [← h]; exact hb))]; exact e
    · refine hR s'' ks'' (Moved.trans W.gtrans ((hm.mono hsub).then_heap (Nat.le_succ _) fun b o hb e => ?_) hm'') hS'' hG''
      rw [hsb.2 b (fun h : b = S => hb (by rw [h]; exact List.mem_cons_self))]; exact e

theorem code_snew (a : Value) {Q₁ : Value → Shared → Prop}
    (h : Q₁ (.ref s.heap.objs.size) { s with heap := s.heap.push { cls := .type "set", dict := none, data := .set #[] 0 (.fresh 0 0 (!(w.params.followText "set-order"))) } }) :
    codeAny (model prog w) A (.call (.builtin "set.__new__") ⟨[.type "set", a], []⟩) (wants Q₁ E) s := by
  refine codeAny_of_tree ?_
  show wpAny _ A.in1 (do checkBuiltinCall "set.__new__" ⟨[.type "set", a], []⟩; again (.builtin "set.__new__" ⟨[.type "set", a], []⟩)) _ _ s
  refine wpAny_bind (wpAny_of_eq (PySem.F.newCall_set_1 a) (wpAny_pure ⟨plainId_quiet PySem.F.plain_set_new _, codeAny_builtin PySem.F.entry_set_new ?_⟩))
  rw [Around.under_plainId PySem.F.plain_set_new _]
  unfold Builtin.«set.__new__» Builtin.Frozenset.newClass
  have hsub := sub_set_self
  obtain ⟨hp, g, d, tk, os⟩ := s
  dsimp only
  wp_walk
  refine wpAny_askSetting (wpAny_pure ?_)
  dsimp only
  simp only [newObj]
  refine wpAny_bind (wpAny_alloc (wpAny_pure ?_))
  exact wpAny_pure h

theorem wants_any {Q Q' : Value → Shared → Prop} {r : Result} {s : Shared} (h : wants Q E r s) (i : ∀ v s, Q v s → Q' v s) : wants Q' E r s := by
  cases r with
  | error e => exact h
  | ok fl => cases fl <;> first | exact i _ _ h | exact h

end
end
section
open PySem PySem.W PyProof.Rows PySem.Calls

section
variable {prog : Program} {w : World} {A : Around} {E : Value → Shared → Prop} {s : Shared}
theorem strs_getD {vs : List Value} {ss : List Str} (p : StrsAre vs ss) : ∀ (i : Nat) (v : Value), vs[i]? = some v → ∃ t, v = .str (ss.getD i ⟨#[]⟩) t := by
  induction p with
  | nil => exact fun i v h => nomatch h
  | cons y t r ih =>
    intro i v h
    cases i with
    | zero => cases h; exact ⟨t, rfl⟩
    | succ i => exact ih i v h
theorem got_all {ss ks : List Str} (g : Got (fun i => ss.getD i ⟨#[]⟩) ss.length ks) : ∀ x, x ∈ ks ↔ x ∈ ss := by
  intro x
  rw [g.1, List.mem_iff_getElem]
  constructor
  · rintro ⟨j, hj, e⟩
    exact ⟨j, hj, by rw [← e]; simp [hj]⟩
  · rintro ⟨j, hj, e⟩
    exact ⟨j, hj, by rw [← e]; simp [hj]⟩

theorem shEq {s s' : Shared} (g : s'.gens = s.gens) (d : s'.drawn = s.drawn) (o : s'.os = s.os) : s' = { s with heap := s'.heap, toks := s'.toks } := by
  cases s'
  cases g
  cases d
  cases o
  rfl
theorem set_strs {l : Addr} {vs : List Value} {ss : List Str} {Q : Value → Shared → Prop}
    (hh : A.handled = none) (hl : s.heap.IsList l vs.toArray) (hv : StrsAre vs ss) (hz : ss.length ≤ 64)
    (h : ∀ (D : Addr) (ks : List Str) (h' : Heap) (tk' : Nat), SetS prog w h' D ks → (∀ x, x ∈ ks ↔ x ∈ ss) → ks.length ≤ ss.length → s.heap.get? D = none → (∀ a o, s.heap.get? a = some o → h'.get? a = some o) → Q (.ref D) { s with heap := h', toks := tk' }) :
    wpAny (model prog w) A (call (.type "set") [.ref l]) Q E s := by
  have hvl : vs.toArray.size = ss.length := by rw [List.size_toArray]; exact hv.length
  have hnone : s.heap.get? s.heap.objs.size = none := Heap.get?_none_of_le (Nat.le_refl _)
  obtain ⟨c, tl, hmro⟩ := PySem.F.called_set.mro
  have hmade := PySem.F.called_set.made
  have hsub := PySem.F.called_set.sub
  refine wpAny_call (codeAny_of_tree ?_)
  show wpAny _ _ (callAny (.type "set") _) _ _ _
  refine wpAny_pure ⟨Code.quiet_builtin _ (by decide +kernel), codeAny_builtin PySem.F.entry_type_call ?_⟩
  rw [Around.under_plain (weight_type_call_type "set" [.ref l] []) rfl]
  have h1 := PySem.F.called_set.notType
  have h2 := PySem.F.called_set.canCreate
  have hct := PySem.F.typeCall_set_1 (.ref l)
  repeat (any_goals (first | assumption | wp_step))
  refine codeAny_mono (code_snew (.ref l) (E := E) (Q₁ := fun obj s₁ => obj = .ref s.heap.objs.size ∧ s₁ = { s with heap := s.heap.push { cls := .type "set", dict := none, data := .set #[] 0 (.fresh 0 0 (!(w.params.followText "set-order"))) } }) ⟨rfl, rfl⟩) fun r s₁ hr => ?_
  cases r with
  | error e => exact hr
  | ok fl =>
    cases fl with
    | ret obj =>
      obtain ⟨rfl, rfl⟩ := hr
      have hS : (s.heap.push { cls := .type "set", dict := none, data := .set #[] 0 (.fresh 0 0 (!(w.params.followText "set-order"))) }).get? s.heap.objs.size = some { cls := .type "set", dict := none, data := .set #[] 0 (.fresh 0 0 (!(w.params.followText "set-order"))) } := Heap.get?_push_size _ rfl
      have hT : Shared.TypeIs { s with heap := s.heap.push { cls := .type "set", dict := none, data := .set #[] 0 (.fresh 0 0 (!(w.params.followText "set-order"))) } } (.ref s.heap.objs.size) "set" := ⟨_, hS, rfl⟩
      have hli := PySem.F.called_set.init.lookup
      have hbi := PySem.F.called_set.init.bind (.ref s.heap.objs.size)
      repeat (any_goals (first | assumption | wp_step))
      refine codeAny_mono (codeAny_call_builtin (R := wants (fun r s₂ => r = .none ∧ ∃ ks h' tk, s₂ = { s with heap := h', toks := tk } ∧ SetS prog w h' s.heap.objs.size ks ∧ (∀ x, x ∈ ks ↔ x ∈ ss) ∧ ks.length ≤ ss.length ∧
          (∀ a o, s.heap.get? a = some o → h'.get? a = some o)) E) PySem.F.called_set.init.plain PySem.F.entry_set_init (check_set_init_1 hT ?_)) fun r₂ s₂ hr₂ => ?_
      · obtain ⟨⟨ocls, odict, odata, oslots⟩, hol, hcl, nl, hdl⟩ := id hl
        simp only at hcl hdl
        subst hcl; subst hdl
        have hol' : (s.heap.push { cls := .type "set", dict := none, data := .set #[] 0 (.fresh 0 0 (!(w.params.followText "set-order"))) }).get? l = some { cls := .type "list", dict := odict, data := .seq vs.toArray nl, slots := oslots } := Heap.get?_push_of_some _ hol
        have hsls := PySem.F.sub_list_set
        have hslf := PySem.F.sub_list_frozenset
        have hne : (Value.type "list" == Value.type "dict") = false := by decide
        have hl1 : (s.heap.push { cls := .type "set", dict := none, data := .set #[] 0 (.fresh 0 0 (!(w.params.followText "set-order"))) }).IsList l vs.toArray := ⟨_, hol', rfl, nl, rfl⟩
        unfold Builtin.«set.__init__» noKeywords Builtin.Frozenset.updateFrom
        generalize hPI : pyIter = PI
        wp_walk
        subst hPI
        refine wpAny_pyIter_list hl1 ?_
        refine wpAny_bind (wpAny_runValue ?_)
        have hlS : l < s.heap.objs.size := Heap.lt_size hol
        have hh3 : A.in1.in1.in1.handled = none := by simp [hh]
        have hneI : l ≠ (s.heap.push { cls := .type "set", dict := none, data := .set #[] 0 (.fresh 0 0 (!(w.params.followText "set-order"))) }).objs.size := by
          rw [Heap.size_push]; exact Nat.ne_of_lt (Nat.lt_succ_of_lt hlS)
        have hSf : s.heap.objs.size ∉ [(s.heap.push { cls := .type "set", dict := none, data := .set #[] 0 (.fresh 0 0 (!(w.params.followText "set-order"))) }).objs.size, l] := by
          rw [Heap.size_push]; simp only [List.mem_cons, List.not_mem_nil, or_false, not_or]
          exact ⟨Nat.ne_of_lt (Nat.lt_succ_self _), Nat.ne_of_gt hlS⟩
        refine supd_loop ((Walks.list hh3 _ l hneI vs.toArray).toS) s.heap.objs.size hSf (fun i => ss.getD i ⟨#[]⟩)
          (fun i v e => strs_getD hv i v (by simpa using e)) (by rw [hvl]; unfold scanBound; omega) (vs.toArray.size - 0) 0 _ (by omega) (Nat.zero_le _)
          ⟨⟨_, Heap.get?_push_size _ rfl, rfl, rfl⟩, (hl1.push _)⟩ ⟨[], SetS.fresh (Heap.get?_push_of_some _ hS), ⟨fun x => by simp, Nat.le_refl _⟩⟩ ?_
        intro s' ks hm hS' hG
        rw [hvl] at hG
        refine wpAny_pure ?_
        refine wpAny_pure ⟨rfl, ks, s'.heap, s'.toks, shEq hm.gens hm.drawn hm.os, hS', got_all hG, hG.2, fun b o e => ?_⟩
        have hb := Heap.lt_size e
        have hb1 : b ≠ s.heap.objs.size := Nat.ne_of_lt hb
        have hb2 : b ≠ (s.heap.push { cls := .type "set", dict := none, data := .set #[] 0 (.fresh 0 0 (!(w.params.followText "set-order"))) }).objs.size := by
          rw [Heap.size_push]; exact Nat.ne_of_lt (Nat.lt_succ_of_lt hb)
        exact hm.heap b o (by simp only [List.mem_cons, List.not_mem_nil, or_false, not_or]; exact ⟨hb1, hb2⟩) (Heap.get?_push_of_some _ (Heap.get?_push_of_some _ e))
      · cases r₂ with
        | error e => exact hr₂
        | ok fl₂ =>
          cases fl₂ with
          | ret r =>
            obtain ⟨rfl, ks, h', tk, rfl, hS', hm', hl', hk'⟩ := hr₂
            repeat (any_goals (first | assumption | wp_step))
            exact h _ ks h' tk hS' hm' hl' hnone hk'
          | _ => exact hr₂.elim
    | _ => exact hr.elim
end
end
section
open PySem PySem.W PyProof.Rows PySem.Calls PySem.F

theorem slot_si_next : Slot "set_iterator" "__next__" "set_iterator.__next__" :=
  .of (owner := "set_iterator") (n := "__next__") (by rw [typeLookup_type, builtinLookup_eq_fast]; kernel_rfl) (by decide +kernel) (by decide +kernel) (by decide +kernel)
    (by first | exact .inl (by decide +kernel) | exact .inr (by decide +kernel)) (by rw [isSubtype_type]; kernel_rfl)
theorem entry_si_next : entryFor table "set_iterator.__next__" = some Builtin.«set_iterator.__next__» := entryFor_of_tree (by kernel_rfl)
theorem entry_set_it : entryFor table "set.__iter__" = some Builtin.«frozenset.__iter__» := entryFor_alias (id' := "frozenset.__iter__") (by kernel_rfl) rfl (by decide +kernel) (by kernel_rfl)
theorem slot_si_iter : Slot "set_iterator" "__iter__" "set_iterator.__iter__" :=
  .of (owner := "set_iterator") (n := "__iter__") (by rw [typeLookup_type, builtinLookup_eq_fast]; kernel_rfl) (by decide +kernel) (by decide +kernel) (by decide +kernel)
    (by first | exact .inl (by decide +kernel) | exact .inr (by decide +kernel)) (by rw [isSubtype_type]; kernel_rfl)
theorem entry_si_iter : entryFor table "set_iterator.__iter__" = some Builtin.«dict_keyiterator.__iter__» := entryFor_alias (id' := "dict_keyiterator.__iter__") (by kernel_rfl) rfl (by decide +kernel) (by kernel_rfl)
theorem owner_si : Manifest.owners.lookup (String.ofList ['r', 'o', 't', 'a', 'r', 'e', 't', 'i', '_', 't', 'e', 's'].reverse) = some Manifest.sig_set_iterator := by kernel_rfl
theorem args_si_next (a : Value) : argsOk "set_iterator.__next__" ⟨[a], []⟩ := by
  unfold argsOk; rw [signature?_of (id := "set_iterator.__next__") (n := ['_', '_', 't', 'x', 'e', 'n', '_', '_']) (o := ['r', 'o', 't', 'a', 'r', 'e', 't', 'i', '_', 't', 'e', 's']) (by kernel_rfl) owner_si]; kernel_rfl
theorem args_si_iter (a : Value) : argsOk "set_iterator.__iter__" ⟨[a], []⟩ := by
  unfold argsOk; rw [signature?_of (id := "set_iterator.__iter__") (n := ['_', '_', 'r', 'e', 't', 'i', '_', '_']) (o := ['r', 'o', 't', 'a', 'r', 'e', 't', 'i', '_', 't', 'e', 's']) (by kernel_rfl) owner_si]; kernel_rfl

abbrev setObj (es : Array (Int × Value)) (ep : Nat) (t : SetTable) : Obj := { cls := .type "set", dict := none, data := .set es ep t }
abbrev siObj (f : Value) (i : Nat) (a : Addr) (n ep : Nat) : Obj := { cls := .type "set_iterator", data := .fields #[f, .int (i : Int) 0, .ref a, .int (n : Int) 0, .int (ep : Int) 0] }

section
variable {prog : Program} {w : World} {A : Around} {E : Value → Shared → Prop} {s : Shared}

/-- A walk by slots: what `setNext` gives at each turn. -/
def NextIs (prog : Program) (w : World) (a : Addr) (es : Array (Int × Value)) (ep : Nat) (t : SetTable) (slot i : Nat) (r : Option (Value × Nat)) : Prop :=
  ∀ (A : Around) (E : Value → Shared → Prop) (s : Shared) (Q : Option (Value × Nat) → Shared → Prop), s.heap.get? a = some (setObj es ep t) → Q r s → wpAny (model prog w) A (setNext a slot i ep) Q E s

theorem si_item {I a : Addr} {es : Array (Int × Value)} {ep : Nat} {t : SetTable} {slot slot' i : Nat} {x : Value} {Q : Option Value → Shared → Prop}
    (hI : s.heap.get? I = some (siObj (.int (slot : Int) 0) i a es.size ep)) (ha : s.heap.get? a = some (setObj es ep t)) (hf : t.fits es.size = true) (hne : a ≠ I) (hx : NextIs prog w a es ep t slot i (some (x, slot')))
    (hQ : ∀ h', h'.get? I = some (siObj (.int (slot' : Int) 0) (i + 1) a es.size ep) → Heap.SameBut I s.heap h' → Q (some x) { s with heap := h' }) :
    wpAny (model prog w) A (pyNext (.ref I)) Q E s := by
  have hT : s.TypeIs (.ref I) "set_iterator" := ⟨_, hI, rfl⟩
  unfold pyNext
  refine wpAny_bind (wpAny_attempt (wpAny_callSpecial?_slot (name := Str.ofString "__next__") hT slot_si_next
    (wpAny_call_entry slot_si_next hT entry_si_next ?_ (args_si_next _))))
  show wpAny _ _ (fieldsOf (.ref I) >>= _) _ _ s
  refine wpAny_bind (wpAny_fieldsOf hI rfl ?_)
  try dsimp only
  refine wpAny_bind (wpAny_setEntries_of ha rfl hf ?_)
  rw [if_neg (by simp)]
  try dsimp only
  refine wpAny_bind (hx _ _ _ _ ha ?_)
  try dsimp only
  refine wpAny_bind (wpAny_setField hI rfl (by simp) ?_)
  have h1 := Heap.get?_update_self (Obj.mapFields (·.setIfInBounds 0 (rawInt (slot' : Int)))) hI rfl
  refine wpAny_bind (wpAny_setField h1 rfl (by simp [Obj.mapFields]) ?_)
  have h2 := Heap.get?_update_self (Obj.mapFields (·.setIfInBounds 1 (rawInt ((i : Int) + 1)))) h1 rfl
  refine wpAny_pure ⟨x, rfl, wpAny_pure (hQ _ ?_ ((Heap.SameBut.update ..).trans (Heap.SameBut.update ..)))⟩
  exact h2

theorem si_end {I a : Addr} {es : Array (Int × Value)} {ep : Nat} {t : SetTable} {slot i : Nat} {Q : Option Value → Shared → Prop} (hh : A.handled = none)
    (hI : s.heap.get? I = some (siObj (.int (slot : Int) 0) i a es.size ep)) (ha : s.heap.get? a = some (setObj es ep t)) (hf : t.fits es.size = true) (hx : NextIs prog w a es ep t slot i none)
    (hQ : ∀ h', Heap.ExtBut I s.heap h' → Q none { s with heap := h' }) :
    wpAny (model prog w) A (pyNext (.ref I)) Q E s := by
  have hT : s.TypeIs (.ref I) "set_iterator" := ⟨_, hI, rfl⟩
  unfold pyNext
  refine wpAny_bind (wpAny_attempt (wpAny_callSpecial?_slot (name := Str.ofString "__next__") hT slot_si_next
    (wpAny_call_entry slot_si_next hT entry_si_next ?_ (args_si_next _))))
  show wpAny _ _ (fieldsOf (.ref I) >>= _) _ _ s
  refine wpAny_bind (wpAny_fieldsOf hI rfl ?_)
  try dsimp only
  refine wpAny_bind (wpAny_setEntries_of ha rfl hf ?_)
  rw [if_neg (by simp)]
  try dsimp only
  refine wpAny_bind (hx _ _ _ _ ha ?_)
  try dsimp only
  refine wpAny_bind (wpAny_setField hI rfl (by simp) ?_)
  refine wpAny_bind ?_
  simp only [newExc, newTuple]
  refine wpAny_bind (wpAny_newObj_type ?_ (by size_fits))
  refine wpAny_bind (m := firstArgMember _ _) (wpAny_of_eq (a := Value.none) (by first | rfl | (simp only [firstArgMember]; rfl)) ?_)
  refine wpAny_newObj_type ?_ (by size_fits)
  simp only [raiseNew]
  refine wpAny_bind (wpAny_handled ?_)
  rw [show A.in1.handled = none from hh]
  refine wpAny_bind (wpAny_pure (wpAny_throw ?_))
  refine wpAny_bind (wpAny_isInstance (T := "StopIteration") (b := true) ⟨_, Heap.get?_push_size _ rfl, rfl⟩ isSubtype_stop ?_)
  exact wpAny_pure (hQ _ (((Heap.SameBut.update ..).extBut.push _).push _))

/-- A walk by places that were drawn. -/
theorem sd_item {I a P : Addr} {es : Array (Int × Value)} {ep : Nat} {t : SetTable} {ps : List Nat} {i p : Nat} {x : Int × Value} {Q : Option Value → Shared → Prop}
    (hI : s.heap.get? I = some (siObj (.ref P) i a es.size ep)) (ha : s.heap.get? a = some (setObj es ep t)) (hP : s.heap.get? P = some { cls := .type "tuple", data := .seq (ps.map fun (n : Nat) => Value.int (n : Int) 0).toArray }) (hf : t.fits es.size = true)
    (hp : ps[i]? = some p) (hx : es[p]? = some x)
    (hQ : ∀ h', h'.get? I = some (siObj (.ref P) (i + 1) a es.size ep) → Heap.SameBut I s.heap h' → Q (some x.2) { s with heap := h' }) :
    wpAny (model prog w) A (pyNext (.ref I)) Q E s := by
  have hT : s.TypeIs (.ref I) "set_iterator" := ⟨_, hI, rfl⟩
  unfold pyNext
  refine wpAny_bind (wpAny_attempt (wpAny_callSpecial?_slot (name := Str.ofString "__next__") hT slot_si_next
    (wpAny_call_entry slot_si_next hT entry_si_next ?_ (args_si_next _))))
  show wpAny _ _ (fieldsOf (.ref I) >>= _) _ _ s
  refine wpAny_bind (wpAny_fieldsOf hI rfl ?_)
  try dsimp only
  refine wpAny_bind (wpAny_setEntries_of ha rfl hf ?_)
  rw [if_neg (by simp)]
  try dsimp only
  refine wpAny_bind (wpAny_seqItems hP rfl ?_)
  have hpi : (ps.map fun (n : Nat) => Value.int (n : Int) 0).toArray[(i : Int).toNat]? = some (.int (p : Int) 0) := by simp [hp]
  try dsimp only
  rw [hpi]
  try dsimp only
  unfold setNextDrawn
  refine wpAny_bind ?_
  refine wpAny_bind (wpAny_setState_of ha rfl hf ?_)
  try dsimp only
  rw [if_neg (by simp)]
  rw [Int.toNat_natCast, hx]
  refine wpAny_pure ?_
  refine wpAny_bind (wpAny_setField hI rfl (by simp) ?_)
  have h2 := Heap.get?_update_self (Obj.mapFields (·.setIfInBounds 1 (rawInt ((i : Int) + 1)))) hI rfl
  exact wpAny_pure ⟨x.2, rfl, wpAny_pure (hQ _ h2 (Heap.SameBut.update ..))⟩

theorem sd_end {I a P : Addr} {es : Array (Int × Value)} {ep : Nat} {t : SetTable} {ps : List Nat} {i : Nat} {Q : Option Value → Shared → Prop} (hh : A.handled = none)
    (hI : s.heap.get? I = some (siObj (.ref P) i a es.size ep)) (ha : s.heap.get? a = some (setObj es ep t)) (hP : s.heap.get? P = some { cls := .type "tuple", data := .seq (ps.map fun (n : Nat) => Value.int (n : Int) 0).toArray }) (hf : t.fits es.size = true)
    (hp : ps[i]? = none)
    (hQ : ∀ h', Heap.ExtBut I s.heap h' → Q none { s with heap := h' }) :
    wpAny (model prog w) A (pyNext (.ref I)) Q E s := by
  have hT : s.TypeIs (.ref I) "set_iterator" := ⟨_, hI, rfl⟩
  unfold pyNext
  refine wpAny_bind (wpAny_attempt (wpAny_callSpecial?_slot (name := Str.ofString "__next__") hT slot_si_next
    (wpAny_call_entry slot_si_next hT entry_si_next ?_ (args_si_next _))))
  show wpAny _ _ (fieldsOf (.ref I) >>= _) _ _ s
  refine wpAny_bind (wpAny_fieldsOf hI rfl ?_)
  try dsimp only
  refine wpAny_bind (wpAny_setEntries_of ha rfl hf ?_)
  rw [if_neg (by simp)]
  try dsimp only
  refine wpAny_bind (wpAny_seqItems hP rfl ?_)
  have hpi : (ps.map fun (n : Nat) => Value.int (n : Int) 0).toArray[(i : Int).toNat]? = none := by simp [hp]
  try dsimp only
  rw [hpi]
  try dsimp only
  refine wpAny_bind (wpAny_setField hI rfl (by simp) ?_)
  have h1 := Heap.get?_update_self (Obj.mapFields (·.setIfInBounds 0 (rawInt 0))) hI rfl
  refine wpAny_bind (wpAny_setField h1 rfl (by simp [Obj.mapFields]) ?_)
  refine wpAny_bind ?_
  simp only [newExc, newTuple]
  refine wpAny_bind (wpAny_newObj_type ?_ (by size_fits))
  refine wpAny_bind (m := firstArgMember _ _) (wpAny_of_eq (a := Value.none) (by first | rfl | (simp only [firstArgMember]; rfl)) ?_)
  refine wpAny_newObj_type ?_ (by size_fits)
  simp only [raiseNew]
  refine wpAny_bind (wpAny_handled ?_)
  rw [show A.in1.handled = none from hh]
  refine wpAny_bind (wpAny_pure (wpAny_throw ?_))
  refine wpAny_bind (wpAny_isInstance (T := "StopIteration") (b := true) ⟨_, Heap.get?_push_size _ rfl, rfl⟩ isSubtype_stop ?_)
  exact wpAny_pure (hQ _ ((((Heap.SameBut.update ..).trans (Heap.SameBut.update ..)).extBut.push _).push _))

theorem si_self {I : Addr} {f : Value} {i : Nat} {a : Addr} {n ep : Nat} {Q : Value → Shared → Prop} (hI : s.heap.get? I = some (siObj f i a n ep)) (h : Q (.ref I) s) : wpAny (model prog w) A (pyIter (.ref I)) Q E s := by
  have hT : s.TypeIs (.ref I) "set_iterator" := ⟨_, hI, rfl⟩
  refine wpAny_pyIter_slot hT slot_si_iter (wpAny_call_entry slot_si_iter hT entry_si_iter ?_ (args_si_iter _))
  show wpAny _ _ (ret (.ref I)) _ _ s
  exact wpAny_pure ⟨_, rfl, "set_iterator", _, hT, slot_si_next.lookup, h⟩
end
end
section
open PySem PySem.W PyProof.Rows PySem.Calls PySem.F
open PySem.Sem (wp)

theorem wpAny_draw {M : Model} {A : Around} {E : Value → Shared → Prop} {s : Shared} {src : Source} {n : Nat} {Q : Nat → Shared → Prop} (hn : n ≠ 0) (h : ∀ i d', i < n → Q i { s with drawn := d' }) : wpAny M A (choose src n) Q E s := fun Γ p _ => by
  show wp M Γ (.choose src n .pure) _ _ p s
  rw [wp]
  refine ⟨hn, ?_⟩
  rw [wp]
  exact h _ _ (Nat.mod_lt _ (Nat.pos_of_ne_zero hn))

theorem eraseIdx_perm {α : Type} : ∀ (l : List α) (i : Nat) (x : α), l[i]? = some x → (x :: l.eraseIdx i).Perm l
  | [], i, x, h => by simp at h
  | a :: r, 0, x, h => by simp at h; subst h; exact List.Perm.refl _
  | a :: r, i + 1, x, h => by
    rw [List.eraseIdx_cons_succ]
    exact (List.Perm.swap a x _).trans ((eraseIdx_perm r i x (by simpa using h)).cons a)

theorem wpAny_drawOrder {α : Type} {M : Model} {A : Around} {E : Value → Shared → Prop} : ∀ (n : Nat) (xs : List α) (s : Shared) (Q : List α → Shared → Prop), xs.length = n → (∀ ys d', ys.Perm xs → Q ys { s with drawn := d' }) → wpAny M A (drawOrder n xs) Q E s
  | 0, xs, s, Q, hn, h => by
    have : xs = [] := List.eq_nil_of_length_eq_zero hn
    subst this
    unfold drawOrder
    exact wpAny_pure (h [] s.drawn (List.Perm.refl _))
  | n + 1, [], s, Q, hn, h => by cases hn
  | n + 1, x :: r, s, Q, hn, h => by
    unfold drawOrder
    refine wpAny_bind (wpAny_draw (by simp) fun i d' hi => ?_)
    have hx := List.getElem?_eq_getElem hi
    rw [hx]
    dsimp only
    have hlen : ((x :: r).eraseIdx i).length = n := by rw [List.length_eraseIdx]; simp only [hi, if_true]; omega
    refine wpAny_bind (wpAny_drawOrder n _ _ _ hlen fun ys d'' hp => ?_)
    exact wpAny_pure (h _ d'' ((hp.cons _).trans (eraseIdx_perm _ _ _ hx)))

theorem pickOrder_perm {α : Type} (next : Nat → Nat) (xs : Array α) : (pickOrder next xs).toList.Perm xs.toList := by
  have key : ∀ (fuel k : Nat) (left : List α) (out : Array α), left.length = fuel → (pickOrder.go next fuel k left out).toList.Perm (out.toList ++ left) := by
    intro fuel
    induction fuel with
    | zero =>
      intro k left out hl
      have : left = [] := List.eq_nil_of_length_eq_zero hl
      subst this
      simp [pickOrder.go]
    | succ fuel ih =>
      intro k left out hl
      have hpos : 0 < left.length := by omega
      have hi : next k % left.length < left.length := Nat.mod_lt _ hpos
      have hx := List.getElem?_eq_getElem hi
      unfold pickOrder.go
      rw [hx]
      dsimp only
      refine (ih _ _ _ (by rw [List.length_eraseIdx]; simp only [hi, if_true]; omega)).trans ?_
      rw [Array.toList_push, List.append_assoc]
      exact List.Perm.append_left _ (by simpa using eraseIdx_perm _ _ _ hx)
  have := key xs.size 0 xs.toList #[] (by simp)
  simpa [pickOrder] using this

section
variable {prog : Program} {w : World} {A : Around} {E : Value → Shared → Prop} {s : Shared}

theorem walks_slot (hh : A.handled = none) (I a : Addr) (hne : a ≠ I) {es : Array (Int × Value)} {ep : Nat} {t : SetTable} (hf : t.fits es.size = true) (us : List Value) (sl : Nat → Nat)
    (hx : ∀ i v, us[i]? = some v → NextIs prog w a es ep t (sl i) i (some (v, sl (i + 1)))) (he : NextIs prog w a es ep t (sl us.length) us.length none) :
    Walks prog w A I [I, a] [I] us.length (fun i v => us[i]? = some v) (fun i h => h.get? I = some (siObj (.int (sl i : Int) 0) i a es.size ep) ∧ h.get? a = some (setObj es ep t)) where
  sub := fun b hb => by simp at hb; simp [hb]
  frame := fun _ _ _ st hk => ⟨hk I (by simp) _ st.1, hk a (by simp) _ st.2⟩
  item := fun i s Q E hi st hQ => by
    have hv := List.getElem?_eq_getElem hi
    refine si_item st.1 st.2 hf hne (hx i _ hv) fun h' h1 hs => ?_
    exact hQ _ h' s.toks hv ⟨h1, hs.extBut a _ hne st.2⟩ fun b o hb e => hs.extBut b o (fun h => hb (by simp [h])) e
  done := fun s Q E st hQ => si_end hh st.1 st.2 hf he fun h' he' => hQ h' s.toks fun b o hb e => he' b o (fun h => hb (by simp [h])) e
  self := fun _ _ _ _ st hQ => si_self st.1 hQ

theorem walks_drawn (hh : A.handled = none) (I a P : Addr) (hne : a ≠ I) (hnP : P ≠ I) {es : Array (Int × Value)} {ep : Nat} {t : SetTable} (hf : t.fits es.size = true) (ps : List Nat) (hp : ∀ p ∈ ps, p < es.size) :
    Walks prog w A I [I, a, P] [I] (ps.map fun p => ((es[p]?).map (·.2)).getD .none).length (fun i v => (ps.map fun p => ((es[p]?).map (·.2)).getD .none)[i]? = some v)
      (fun i h => h.get? I = some (siObj (.ref P) i a es.size ep) ∧ h.get? a = some (setObj es ep t) ∧ h.get? P = some { cls := .type "tuple", data := .seq (ps.map fun (n : Nat) => Value.int (n : Int) 0).toArray }) where
  sub := fun b hb => by simp at hb; simp [hb]
  frame := fun _ _ _ st hk => ⟨hk I (by simp) _ st.1, hk a (by simp) _ st.2.1, hk P (by simp) _ st.2.2⟩
  item := fun i s Q E hi st hQ => by
    have hi : i < ps.length := by simpa using hi
    have hv := List.getElem?_eq_getElem hi
    have hlt := hp _ (List.getElem_mem hi)
    refine sd_item st.1 st.2.1 st.2.2 hf hv (Array.getElem?_eq_getElem hlt) fun h' h1 hs => ?_
    exact hQ _ h' s.toks (by simp [hv, hlt]) ⟨h1, hs.extBut a _ hne st.2.1, hs.extBut P _ hnP st.2.2⟩ fun b o hb e => hs.extBut b o (fun h => hb (by simp [h])) e
  done := fun s Q E st hQ => sd_end hh st.1 st.2.1 st.2.2 hf (by simp) fun h' he' => hQ h' s.toks fun b o hb e => he' b o (fun h => hb (by simp [h])) e
  self := fun _ _ _ _ st hQ => si_self st.1 hQ

theorem setsByText_is {Q : Bool → Shared → Prop} (h : Q (w.params.followText "set-order") s) : wpAny (model prog w) A setsByText Q E s := by
  unfold setsByText
  exact wpAny_bind (wpAny_askSetting (wpAny_pure h))

theorem next_text {a : Addr} {es : Array (Int × Value)} {ep : Nat} {t : SetTable} {slot i : Nat} (hf : t.fits es.size = true) (hb : w.params.followText "set-order" = true) :
    NextIs prog w a es ep t slot i (((pickOrder (w.params.setOrder a ep) es)[i]?).map fun e => (e.2, slot)) := by
  intro A E s Q ha hq
  unfold setNext
  refine wpAny_bind (wpAny_setState_of ha rfl hf ?_)
  refine wpAny_bind (setsByText_is ?_)
  rw [hb]
  simp only [if_true]
  rw [if_neg (by simp)]
  unfold setWalk
  refine wpAny_bind ?_
  refine wpAny_bind (wpAny_setState_of ha rfl hf ?_)
  refine wpAny_bind (setsByText_is ?_)
  rw [hb]
  simp only [if_true]
  refine wpAny_bind (wpAny_askSetting (wpAny_pure ?_))
  exact wpAny_pure hq

def nextSmall (es : Array (Int × Value)) (t : SetTable) (slot : Nat) : Option (Value × Nat) :=
  match es[SetTable.below t.place slot]?, t.place[SetTable.below t.place slot]? with
  | some (_, x), some j => some (x, j + 1)
  | _, _ => none
theorem next_small {a : Addr} {es : Array (Int × Value)} {ep : Nat} {t : SetTable} {slot i : Nat} (hf : t.fits es.size = true) (hb : w.params.followText "set-order" = false) (hz : ¬ es.size > 1) (hl : t.led = true) :
    NextIs prog w a es ep t slot i (nextSmall es t slot) := by
  intro A E s Q ha hq
  unfold setNext
  refine wpAny_bind (wpAny_setState_of ha rfl hf ?_)
  refine wpAny_bind (setsByText_is ?_)
  rw [hb]
  simp only [Bool.false_eq_true, if_false]
  change wpAny _ _ (if (!t.plain && decide (es.size > 1)) = true then _ else _) _ _ _
  rw [if_neg (by simp [hz])]
  refine wpAny_bind (m := if (!t.led && !es.isEmpty) = true then _ else pure ()) ?_
  rw [if_neg (by simp [hl])]
  exact wpAny_pure (wpAny_pure hq)

/-- The walk over a set of strs begins. -/
theorem set_iter {a : Addr} {ks : List Str} {Q : Value → Shared → Prop} (hS : SetS prog w s.heap a ks)
    (h : ∀ (I : Addr) (h' : Heap) (d' : Drawn) (fp : List Addr) (us : List Value) (ss : List Str) (St : Nat → Heap → Prop), (∀ A', A'.handled = none → Walks prog w A' I fp [I] us.length (fun i v => us[i]? = some v) St) → St 0 h' → StrsAre us ss → ss.Perm ks →
      s.heap.get? I = none → (∀ b ∈ fp, b = a ∨ s.heap.get? b = none) → (∀ b o, s.heap.get? b = some o → h'.get? b = some o) → Q (.ref I) { s with heap := h', drawn := d' }) :
    wpAny (model prog w) A (pyIter (.ref a)) Q E s := by
  obtain ⟨es, ep, t, d⟩ := hS
  have hT : s.TypeIs (.ref a) "set" := ⟨_, d.get, rfl⟩
  have hlt : a < s.heap.objs.size := Heap.lt_size d.get
  refine wpAny_pyIter_slot hT slot_set_iter (wpAny_call_entry slot_set_iter hT entry_set_it ?_ (args_set_iter_1 _))
  unfold Builtin.«frozenset.__iter__»
  show wpAny _ _ (Builtin.Frozenset.sizeOf a >>= _) _ _ s
  unfold Builtin.Frozenset.sizeOf
  refine wpAny_bind (wpAny_bind (wpAny_setEntries_of d.get rfl d.fits (wpAny_pure ?_)))
  unfold setDrawn
  refine wpAny_bind ?_
  refine wpAny_bind (wpAny_setState_of d.get rfl d.fits ?_)
  refine wpAny_bind (setsByText_is ?_)
  refine wpAny_pure ?_
  change wpAny _ _ (if (!(w.params.followText "set-order") && (!t.plain && decide (es.size > 1))) = true then _ else _) _ _ _
  have hnI : ∀ o : Obj, s.heap.get? s.heap.objs.size = none := fun _ => Heap.get?_none_of_le (Nat.le_refl _)
  have fin : ∀ (f : Value) (h1 : Heap) (d' : Drawn), (∀ b o, s.heap.get? b = some o → h1.get? b = some o) → s.heap.objs.size ≤ h1.objs.size →
      Q (.ref h1.objs.size) { s with heap := h1.push (siObj f 0 a es.size ep), drawn := d' } →
      wpAny (model prog w) A.in1 (do let e ← setEpoch a; let v ← newFields "set_iterator" [f, rawInt 0, Value.ref a, rawInt (es.size : Int), rawInt (e : Int)]; ret v)
        (fun fin s' => ∃ v, fin = Fin.done (Flow.ret v) ∧ ∃ T' r, s'.TypeIs v T' ∧ typeLookup (Value.type T') (Str.ofString "__next__") = pure (some r) ∧ Q v s') E { s with heap := h1, drawn := d' } := by
    intro f h1 d' hk hle hq
    refine wpAny_bind (wpAny_setEpoch_of (hk _ _ d.get) rfl d.fits ?_)
    refine wpAny_bind (wpAny_newObj_type ?_)
    exact wpAny_pure ⟨_, rfl, "set_iterator", _, ⟨_, Heap.get?_push_size _ rfl, rfl⟩, slot_si_next.lookup, hq⟩
  have hvl : (es.toList.map (·.2)).length = es.size := by simp
  by_cases hb : w.params.followText "set-order" = true
  · rw [if_neg (by simp [hb])]
    refine wpAny_bind (wpAny_pure ?_)
    refine fin (rawInt 0) s.heap s.drawn (fun _ _ e => e) (Nat.le_refl _) ?_
    have hp := (pickOrder_perm (w.params.setOrder a ep) es).map (·.2)
    obtain ⟨ss, hs1, hs2⟩ := strs_perm d.vals hp
    refine h s.heap.objs.size _ s.drawn _ _ ss _ (fun A' hA' => walks_slot hA' s.heap.objs.size a (Nat.ne_of_lt hlt) d.fits ((pickOrder (w.params.setOrder a ep) es).toList.map (·.2)) (fun _ => 0) (fun i v hv => ?_) ?_)
      ⟨Heap.get?_push_size _ rfl, Heap.get?_push_of_some _ d.get⟩ hs1 hs2 (hnI default) ?_ (fun _ _ e => Heap.get?_push_of_some _ e)
    · have hv' : (pickOrder (w.params.setOrder a ep) es)[i]?.map (·.2) = some v := by simpa using hv
      obtain ⟨e, he, rfl⟩ := Option.map_eq_some_iff.mp hv'
      have := next_text (prog := prog) (w := w) (a := a) (ep := ep) (slot := 0) (i := i) d.fits hb
      rw [he] at this
      exact this
    · have := next_text (prog := prog) (w := w) (a := a) (ep := ep) (slot := 0) (i := ((pickOrder (w.params.setOrder a ep) es).toList.map (·.2)).length) d.fits hb
      rw [Array.getElem?_eq_none (by simp)] at this
      exact this
    · intro b hb'
      rcases List.mem_cons.mp hb' with rfl | hb'
      · exact .inr (hnI default)
      · exact .inl (List.mem_singleton.mp hb')
  · have hbf : w.params.followText "set-order" = false := by simpa using hb
    have hled : t.led = true := by rw [d.led, hbf]; rfl
    by_cases hz : es.size > 1
    · rw [if_pos (by simp [hbf, hz, d.plain (by omega)])]
      refine wpAny_bind (wpAny_drawOrder es.size _ _ _ (by simp) fun ps d' hp => ?_)
      refine wpAny_bind (wpAny_newTuple ?_ (by rw [List.length_map, hp.length_eq, List.length_range]; exact fits_of_scanBound d.small))
      refine fin (.ref s.heap.objs.size) (s.heap.push { cls := .type "tuple", data := .seq (ps.map fun (i : Nat) => rawInt (i : Int)).toArray }) d' (fun _ _ e => Heap.get?_push_of_some _ e) (by rw [Heap.size_push]; exact Nat.le_succ _) ?_
      have hps : ∀ p ∈ ps, p < es.size := fun p hm => List.mem_range.mp (hp.mem_iff.mp hm)
      have hPI : s.heap.objs.size ≠ (s.heap.push { cls := .type "tuple", data := .seq (ps.map fun (i : Nat) => rawInt (i : Int)).toArray }).objs.size := by rw [Heap.size_push]; exact Nat.ne_of_lt (Nat.lt_succ_self _)
      have haI : a ≠ (s.heap.push { cls := .type "tuple", data := .seq (ps.map fun (i : Nat) => rawInt (i : Int)).toArray }).objs.size := by rw [Heap.size_push]; exact Nat.ne_of_lt (Nat.lt_succ_of_lt hlt)
      have hup : (ps.map fun p => ((es[p]?).map (·.2)).getD .none).Perm (es.toList.map (·.2)) := by
        refine (hp.map _).trans (List.Perm.of_eq ?_)
        refine List.ext_getElem (by simp) fun i h1 h2 => ?_
        have hi : i < es.size := by simpa using h1
        simp [hi]
      obtain ⟨ss, hs1, hs2⟩ := strs_perm d.vals hup
      refine h _ _ d' _ _ ss _ (fun A' hA' => walks_drawn (prog := prog) (w := w) hA' (s.heap.push { cls := .type "tuple", data := .seq (ps.map fun (i : Nat) => rawInt (i : Int)).toArray }).objs.size a s.heap.objs.size haI hPI (ep := ep) d.fits ps hps)
        ⟨Heap.get?_push_size _ rfl, Heap.get?_push_of_some _ (Heap.get?_push_of_some _ d.get), Heap.get?_push_of_some _ (Heap.get?_push_size _ rfl)⟩ hs1 hs2 ?_ ?_ (fun _ _ e => Heap.get?_push_of_some _ (Heap.get?_push_of_some _ e))
      · exact Heap.get?_none_of_le (by rw [Heap.size_push]; exact Nat.le_succ _)
      · intro b hb'
        simp only [List.mem_cons, List.not_mem_nil, or_false] at hb'
        rcases hb' with rfl | rfl | rfl
        · exact .inr (Heap.get?_none_of_le (by rw [Heap.size_push]; exact Nat.le_succ _))
        · exact .inl rfl
        · exact .inr (hnI default)
    · rw [if_neg (by simp [hz])]
      refine wpAny_bind (wpAny_pure ?_)
      refine fin (rawInt 0) s.heap s.drawn (fun _ _ e => e) (Nat.le_refl _) ?_
      have hps : t.place.size = es.size := by
        have := d.fits
        simp only [SetTable.fits, Bool.and_eq_true, beq_iff_eq] at this
        exact this.1
      have nx := fun (slot i : Nat) => next_small (prog := prog) (w := w) (a := a) (ep := ep) (slot := slot) (i := i) d.fits hbf hz hled
      refine h s.heap.objs.size _ s.drawn _ _ ks _ (fun A' hA' => walks_slot hA' s.heap.objs.size a (Nat.ne_of_lt hlt) d.fits (es.toList.map (·.2)) (fun i => if i = 0 then 0 else t.place.getD 0 0 + 1) (fun i v hv => ?_) ?_)
        ⟨Heap.get?_push_size _ rfl, Heap.get?_push_of_some _ d.get⟩ d.vals (List.Perm.refl _) (hnI default) ?_ (fun _ _ e => Heap.get?_push_of_some _ e)
      · have hi : i < es.size := by
          have := (List.getElem?_eq_some_iff.mp hv).1
          simpa using this
        have hi0 : i = 0 := by omega
        subst hi0
        have hpl : t.place = #[t.place.getD 0 0] := by
          apply Array.ext
          · simp; omega
          · intro j h1 h2
            have : j = 0 := by simp at h2; omega
            subst this
            simp [h1]
        have := nx 0 0
        have hb0 : SetTable.below t.place 0 = 0 := by rw [hpl]; simp [SetTable.below, SetTable.below.go]
        unfold nextSmall at this
        rw [hb0] at this
        have he : es[0]? = some es[0] := Array.getElem?_eq_getElem hi
        have hv' : es[0].2 = v := by
          have : (es.toList.map (·.2))[0]? = some es[0].2 := by simp [hi]
          rw [this] at hv; exact Option.some.inj hv
        have hp0 : t.place[0]? = some (t.place.getD 0 0) := by simp [show 0 < t.place.size by omega]
        rw [he, hp0] at this
        dsimp only at this
        rw [hv'] at this
        exact this
      · rw [hvl]
        have := nx (if es.size = 0 then 0 else t.place.getD 0 0 + 1) es.size
        have he : nextSmall es t (if es.size = 0 then 0 else t.place.getD 0 0 + 1) = none := by
          unfold nextSmall
          have hle : es.size ≤ SetTable.below t.place (if es.size = 0 then 0 else t.place.getD 0 0 + 1) := by
            by_cases h0 : es.size = 0
            · omega
            · have hpl : t.place = #[t.place.getD 0 0] := by
                apply Array.ext
                · simp; omega
                · intro j h1 h2
                  have : j = 0 := by simp at h2; omega
                  subst this
                  simp [h1]
              rw [if_neg h0, hpl]
              simp [SetTable.below, SetTable.below.go]
              omega
          rw [Array.getElem?_eq_none hle]
        rw [he] at this
        exact this
      · intro b hb'
        rcases List.mem_cons.mp hb' with rfl | hb'
        · exact .inr (hnI default)
        · exact .inl (List.mem_singleton.mp hb')
end
end
section
open PySem PySem.W PyProof.Rows PySem.Calls PySem.F

section
variable {prog : Program} {w : World} {A : Around} {E : Value → Shared → Prop} {s : Shared}

theorem hint_set {r : Addr} {Q : Bool → Shared → Prop} (hT : s.TypeIs (.ref r) "set") (h : Q false s) : wpAny (model prog w) A (Builtin.List.listLengthHint (.ref r)) Q E s := by
  unfold Builtin.List.listLengthHint
  refine wpAny_bind (wpAny_specialOf hT slot_set_len.lookup ?_)
  generalize hid : ("set.__len__" : String) = id0
  wp_delta
  rw [show splitId id0 = some ("set", "__len__") from by subst hid; decide +kernel]
  subst hid
  refine wpAny_bind (wpAny_isInstance (T := "set") (b := true) hT (by rw [isSubtype_type]; kernel_rfl) ?_)
  refine wpAny_ite_split (fun hab => absurd hab (by decide)) (fun _ => ?_)
  refine wpAny_ite_split (fun _ => ?_) (fun hab => absurd (by decide +kernel) hab)
  refine wpAny_bind (wpAny_typeOf hT ?_)
  exact wpAny_pure h

theorem strs_of_items {us : List Value} {acc : Array Value} (h : ItemsOf (fun i v => us[i]? = some v) acc us.length) : acc.toList = us := by
  have h1 : acc.size = us.length := h.1
  refine List.ext_getElem (by simpa using h1) fun i hi hi' => ?_
  have hi2 : i < acc.size := by simpa using hi
  have h2 : us[i]? = some acc[i] := h.2 i acc[i] (Array.getElem?_eq_getElem hi2)
  rw [List.getElem?_eq_getElem hi'] at h2
  simpa using (Option.some.inj h2).symm

theorem extend_set {R : Result → Shared → Prop} {a S : Addr} {ks : List Str} (hh : A.handled = none) (hS : SetS prog w s.heap a ks) (hz : ks.length ≤ 1000) (hSa : S ≠ a) (res : Value) (c₀ : Nat) (ho : s.heap.get? S = some { cls := .type "list", data := .seq #[] c₀ })
    (hR : ∀ (h' : Heap) (tk : Nat) (d' : Drawn) (acc : Array Value) (ss : List Str) (c' : Nat), (∀ b o, b ≠ S → s.heap.get? b = some o → h'.get? b = some o) → h'.get? S = some { cls := .type "list", dict := none, data := .seq acc c', slots := #[] } → StrsAre acc.toList ss → ss.Perm ks → R (.ok (.ret res)) { s with heap := h', toks := tk, drawn := d' }) :
    wpAny (model prog w) A.in1 (Builtin.List.listExtendWith (.ref S) (.ref a) res)
      (fun fin s' => match fin with | .done f => R (.ok f) s' | .again c' => c'.quiet = true ∧ codeAny (model prog w) A c' R s') (fun e s' => R (.error e) s') s := by
  have hT : s.TypeIs (.ref a) "set" := by obtain ⟨es, ep, t, d⟩ := hS; exact ⟨_, d.get, rfl⟩
  unfold Builtin.List.listExtendWith
  refine wpAny_bind (wpAny_typeOf hT ?_)
  have h1 : Builtin.List.listSameRef (.ref S) (.ref a) = false := by simp [Builtin.List.listSameRef, hSa]
  simp only [h1, show (Value.type "set" == Value.type "list") = false by decide, show (Value.type "set" == Value.type "tuple") = false by decide, Bool.or_false, Bool.false_eq_true, if_false]
  refine wpAny_bind (set_iter hS fun I h1 d1 fp us ss St W st hus hpm hI hfp hk => ?_)
  have hSf : S ∉ fp := fun hm => by
    rcases hfp S hm with e | e
    · exact hSa e
    · rw [ho] at e; cases e
  have hSI : S ≠ I := fun e => by rw [e, hI] at ho; cases ho
  have hul : us.length = ks.length := by rw [hus.length, hpm.length_eq]
  have key : ∀ (h : Heap) (c₁ tk : Nat), St 0 h → (∀ b o, b ≠ S → s.heap.get? b = some o → h.get? b = some o) →
      h.get? S = some { cls := .type "list", data := .seq #[] c₁ } → codeAny (model prog w) A (.builtin "list.extend.loop" ⟨[.ref S, .ref I, res], []⟩) R { s with heap := h, toks := tk, drawn := d1 } := by
    intro h c₁ tk hst hk hS₁
    refine codeAny_extend_loopS (W A.in1 hh).toS (by rw [hul, sizeLine_eq]; omega) S hSf res us.length 0 _ #[] c₁ rfl (Nat.zero_le _) hst hS₁ (ItemsOf.nil _) fun s' acc' c' hm hS' hacc => ?_
    rw [Moved.eq_with hm]
    refine hR s'.heap s'.toks d1 acc' ss c' (fun b o hb e => hm.heap b o (fun hmem => ?_) (hk b o hb e)) hS' ?_ hpm
    · rcases List.mem_cons.mp hmem with e' | hmem
      · exact hb e'
      · rw [List.mem_singleton.mp hmem, hI] at e; cases e
    · rw [strs_of_items hacc]; exact hus
  have hS₁ := hk _ _ ho
  have hT1 : Shared.TypeIs { s with heap := h1, drawn := d1 } (.ref a) "set" := by obtain ⟨o, e, c⟩ := hT; exact ⟨o, hk _ _ e, c⟩
  refine wpAny_bind (wpAny_holding (hint_set hT1 ?_))
  refine wpAny_ite_split (fun _ => ?_) (fun _ => wpAny_pure ⟨plainId_quiet PySem.F.plain_extend_loop _, key _ c₀ _ st (fun b o _ e => hk _ _ e) hS₁⟩)
  refine wpAny_bind (wpAny_rule ?_)
  refine wpAny_bind ?_
  show wpAny _ _ (updateSeq S (·.push .none) >>= fun _ => updateSeq S (·.pop)) _ _ _
  refine wpAny_bind (wpAny_updateSeq hS₁ rfl ?_)
  have hS₂ := Heap.get?_update_self (Obj.mapSeq (·.push Value.none)) hS₁ rfl
  refine wpAny_updateSeq (hz := by seq_fits) hS₂ rfl ?_
  have hS₃ := Heap.get?_update_self (Obj.mapSeq (·.pop)) hS₂ rfl
  refine wpAny_pure ⟨plainId_quiet PySem.F.plain_extend_loop _, key _ _ _ ?_ (fun b o hb e => ?_) hS₃⟩
  · refine (W A.in1 hh).frame 0 _ _ st fun b hb o e => ?_
    have hbS : b ≠ S := fun h => hSf (h ▸ hb)
    exact (Heap.get?_update_other _ _ (Ne.symm hbS)).trans ((Heap.get?_update_other _ _ (Ne.symm hbS)).trans e)
  · exact (Heap.get?_update_other _ _ (Ne.symm hb)).trans ((Heap.get?_update_other _ _ (Ne.symm hb)).trans (hk _ _ e))

theorem collect_set {R : List Value → Shared → Prop} {a : Addr} {ks : List Str} (hh : A.handled = none) (hS : SetS prog w s.heap a ks) (hz : ks.length ≤ 1000)
    (h : ∀ (h' : Heap) (tk : Nat) (d' : Drawn) (acc : List Value) (ss : List Str), (∀ b o, s.heap.get? b = some o → h'.get? b = some o) → StrsAre acc ss → ss.Perm ks → R acc { s with heap := h', toks := tk, drawn := d' }) :
    wpAny (model prog w) A (collect (.ref a)) R E s := by
  have hlt : a < s.heap.objs.size := by obtain ⟨es, ep, t, d⟩ := hS; exact Heap.lt_size d.get
  unfold collect
  refine wpAny_bind (wpAny_runValue (codeAny_builtin entry_proto_collect' ?_))
  rw [Around.under_plainId PySem.F.plain_proto_collect _]
  show wpAny _ A.in1 (newList [] >>= fun l => again (.builtin "list.__iadd__" ⟨[l, .ref a], []⟩)) _ _ s
  refine wpAny_bind (wpAny_newObj_type ?_)
  refine wpAny_pure ⟨plainId_quiet PySem.F.plain_list_iadd _, codeAny_builtin entry_list_iadd' ?_⟩
  rw [Around.under_plainId PySem.F.plain_list_iadd _]
  have hS₁ : (s.heap.push { cls := .type "list", data := .seq ([] : List Value).toArray }).get? s.heap.objs.size = some { cls := .type "list", data := .seq #[] } := Heap.get?_push_size _ rfl
  show wpAny _ A.in1 (Builtin.List.listExtendWith (.ref s.heap.objs.size) (.ref a) (.ref s.heap.objs.size)) _ _ _
  have key := extend_set (A := A) (s := { s with heap := s.heap.push { cls := .type "list", data := .seq ([] : List Value).toArray } })
    (R := fun (q : Result) (s' : Shared) => ∃ (h' : Heap) (tk : Nat) (d' : Drawn) (acc' : Array Value) (ss : List Str) (c' : Nat), q = .ok (.ret (.ref s.heap.objs.size)) ∧ s' = { s with heap := h', toks := tk, drawn := d' } ∧
      (∀ b o, s.heap.get? b = some o → h'.get? b = some o) ∧ h'.get? s.heap.objs.size = some { cls := .type "list", dict := none, data := .seq acc' c', slots := #[] } ∧ StrsAre acc'.toList ss ∧ ss.Perm ks)
    (S := s.heap.objs.size) hh (hS.at fun o e => Heap.get?_push_of_some _ e) hz (Nat.ne_of_gt hlt) (.ref s.heap.objs.size) 0 hS₁
    (fun h' tk d' acc' ss c' hk hS' hv hp => (exi6 h' tk d' acc' ss c' ⟨rfl, rfl, fun b o e => hk b o (Nat.ne_of_lt (Heap.lt_size e)) (Heap.get?_push_of_some _ e), hS', hv, hp⟩))
  refine wpAny_mono key (fun fin s' x => ?_) fun e s' x => ?_
  · cases fin with
    | done f =>
      refine ex6 x ?_
      intro h' tk d' acc' ss c' q
      refine an6 q ?_
      intro e e0 hk hS' hv hp
      cases e
      subst e0
      show wpAny _ A (load s.heap.objs.size >>= _) _ _ _
      refine wpAny_bind (wpAny_load hS' ?_)
      exact wpAny_pure (h h' tk d' acc'.toList ss hk hv hp)
    | again c₁ =>
      refine ⟨x.1, codeAny_mono x.2 fun q s₂ y => ?_⟩
      refine ex6 y ?_
      intro h' tk d' acc' ss c' q2
      refine an6 q2 ?_
      intro e e0 hk hS' hv hp
      subst e
      subst e0
      show wpAny _ A (load s.heap.objs.size >>= _) _ _ _
      refine wpAny_bind (wpAny_load hS' ?_)
      exact wpAny_pure (h h' tk d' acc'.toList ss hk hv hp)
  · obtain ⟨_, _, _, _, _, _, e', _⟩ := x
    cases e'

theorem sorted_set {a : Addr} {ks : List Str} {Q : Value → Shared → Prop} (hh : A.handled = none) (hS : SetS prog w s.heap a ks) (hz : ks.length ≤ 63)
    (h : ∀ (D : Addr) (h' : Heap) (tk : Nat) (d' : Drawn) (vs' : List Value) (ss' : List Str) (c : Nat), StrsAre vs' ss' → ss'.Perm ks → sortedS ss' = true → h'.get? D = some (W.listOf vs'.toArray c) → s.heap.get? D = none →
      (∀ b o, s.heap.get? b = some o → h'.get? b = some o) → Q (.ref D) { s with heap := h', toks := tk, drawn := d' }) :
    wpAny (model prog w) A (call (.builtin "sorted") [.ref a]) Q E s := by
  refine call_function_entry kind_sorted plain_sorted entry_sorted (args_sorted1 _) ?_
  unfold Builtin.«sorted»
  refine wpAny_bind (m := checkCount "sorted" 1 1 _) (wpAny_pure ?_)
  refine wpAny_bind (collect_set (A := A.in1) hh hS (by omega) fun h' tk d' acc ss hk hv hp => ?_)
  have hlen : acc.length ≤ 63 := by rw [hv.length, hp.length_eq]; exact hz
  refine wpAny_bind (wpAny_newList ?_ (by rw [sizeLine_eq]; omega))
  have ho : (h'.push { cls := .type "list", data := .seq acc.toArray }).get? h'.objs.size = some (seqObj "list" acc.toArray 0) := Heap.get?_push_size _ rfl
  refine wpAny_bind (wpAny_holding (wpAny_call_entry PyProof.Rows.slot_list_sort ⟨_, ho, rfl⟩ PyProof.Rows.entry_list_sort (list_sort_treeK strKind_oneLt ho hv.keysOf (fun v₁ v₂ rest e => keyKind_strs (by rw [← e]; exact hv)) (by omega) fun st' hp' hs' => ⟨.none, rfl, ?_⟩) (PyProof.Rows.args_list_sort _)))
  refine nameGoal ?_
  intro kG3 hG3
  obtain ⟨ss', h1, h2, h3⟩ := sorted_out_str hv hp' hs'
  refine hG3 ?_
  clear hG3 kG3
  obtain ⟨c, hc⟩ := sortedHeap_at (vs := acc) (out := (arrOf st').map (·.2)) ho
  refine wpAny_pure ⟨_, rfl, h h'.objs.size _ tk d' _ ss' c h1 (h2.trans hp) h3 (by rw [Array.toArray_toList]; exact hc) ?_ fun b o e => ?_⟩
  · cases q : s.heap.get? h'.objs.size with
    | none => rfl
    | some o => exact absurd (Heap.lt_size (hk _ _ q)) (Nat.lt_irrefl _)
  · have hb := Heap.lt_size (hk _ _ e)
    exact (sortedHeap_old (Nat.ne_of_lt hb) (by rw [size_push']; exact Nat.lt_succ_of_lt hb)).trans (Heap.get?_push_of_some _ (hk _ _ e))
end
end
section
open PySem PySem.W PyProof.Rows PySem.Calls

/-- A tuple of the ledger that a comprehension walks. -/
def TupSrc (ax : Addr) (its : Array Value) (news : List (Addr × Obj)) : Prop := (ax, ({ cls := .type "tuple", data := .seq its } : Obj)) ∈ news

section
variable {prog : Program} {w : World} {A : Around} {E : Value → Shared → Prop} {s : Shared} {env : Env} {h₀ : Heap} {L : Addr} {m : Str → Option Value}
theorem comp_tuple {elt iter : PySem.Expr} {x y : Str} {px py : Pos} {scope : Scope} {cl : List (Str × Addr)} {pos spos : Pos} {Q : Flow → Shared → Prop} (_F₀ : Fr h₀ L s.heap m) (hLe : env.locals = L)
    (hsw : swapsWith (.ListComp elt [⟨.Name x px, iter, [], 0⟩] scope pos) (some (.Name y py)) spos.line env = pure true)
    (hclos : closureFor scope env = pure cl) (hcell : ∀ z ∈ scope.names, z.2 ≠ .cell) (hkind : scope.kind = .function)
    (hnames : ∀ z ∈ scope.names, z.2 = .local → scope.names.lookup z.1 = some .local) (hx : scope.names.lookup x = some .local)
    (hy : env.kindOf y = some .local) (hp : (env.scope.kind == .class || (env.scope.kind == .module && env.locals != env.globals)) = false)
    (h : wpAny (model prog w) A (eval iter env) (fun xv s₁ => ∃ ax its news, xv = .ref ax ∧ A.handled = none ∧ Fr h₀ L s₁.heap m ∧ News h₀ L s₁.heap news ∧ TupSrc ax its news ∧ its.size ≤ sizeLine ∧
      ∀ s₂ : Shared, (∃ h, s₂ = { s₁ with heap := h }) → LCg.CompRest prog w A h₀ L m env elt x scope cl s₂ (TupSrc ax its) (fun i v => its[i]? = some v) (LCg.FinA h₀ L m s₂ y Q) its.size 0 [] news) E s)
    (hs : ∀ x, foldedSetIterable iter env x = pure x := by intro _; rfl) :
    wpAny (model prog w) A (exec (.Assign [.Name y py] (.ListComp elt [⟨.Name x px, iter, [], 0⟩] scope pos) spos) env) Q E s := by
  subst hLe
  rw [exec_Assign_Name_used _ _ _ _ hsw]
  refine wpAny_bind (wpAny_standAt (wpAny_bind ?_))
  show wpAny _ A (do let _ ← comprehension (.ListComp elt [⟨.Name x px, iter, [], 0⟩] scope pos) scope env _ (newList []) false (eval iter env) (some (assign (.Name y py) env))) _ _ s
  refine wpAny_bind (wpAny_mono (wpAny_comprehension_free (use := some (assign (.Name y py) env)) (Q := fun _ s' => Q .next s') rfl hs hclos hkind hnames
    (wpAny_mono h (fun xv s₁ h₁ => ?_) fun _ _ e => e)) (fun _ s' hq => wpAny_pure (wpAny_pure hq)) fun _ _ e => e)
  refine nameGoal ?_
  intro kG1 hG1
  obtain ⟨ax, its, news, rfl, hh, F, N, S, hsz, R⟩ := h₁
  refine hG1 ?_
  clear hG1 kG1
  have lst : ∀ {h' : Heap} {nw : List (Addr × Obj)}, News h₀ env.locals h' nw → TupSrc ax its nw → h'.IsTuple ax its := fun N' S' => ⟨_, (N' _ S').1, rfl, _, rfl⟩
  have hl := lst N S
  have hlt : ax < s₁.heap.objs.size := by obtain ⟨_, e, _⟩ := hl; exact Heap.lt_size e
  refine wpAny_pyIter_tuple hl ?_
  have up : ∀ b o, s₁.heap.get? b = some o → (s₁.heap.push { cls := .type "tuple_iterator", data := .fields #[.ref ax, .int 0 0] }).get? b = some o := fun b o e => Heap.get?_push_of_some _ e
  refine LCg.block_U (Walks.tuple hh s₁.heap.objs.size ax (Nat.ne_of_lt hlt) its) hsz (fun i h st => by obtain ⟨o, e, _⟩ := st.1; exact ⟨o, e⟩)
    (fun i h h' o nw st e e' k N' S' => ⟨by obtain ⟨o', q, r⟩ := st.1; rw [e] at q; cases q; exact ⟨o, e', r⟩, lst N' S'⟩) hcell hkind hx ⟨⟨_, Heap.get?_push_size _ rfl, rfl, rfl⟩, hl.push _⟩ (fun b hb => ?_)
    (F.keeps up) (N.grown up) (Nat.ne_of_lt F.ns.lt) (next_is_new F) (fun p hp => Nat.ne_of_lt (Heap.lt_size (N p hp).1)) S (R _ ⟨_, rfl⟩) ?_
  · show b < (s₁.heap.push _).objs.size
    rw [Heap.size_push]
    rcases List.mem_cons.mp hb with rfl | hb
    · exact Nat.lt_succ_self _
    · rw [List.mem_singleton.mp hb]; exact Nat.lt_succ_of_lt hlt
  · intro D C h' tk m' ys news' F' N' o1 hn hC₀ hD₀ hCL hDL hCD offC fin
    show wpAny _ A (assign (.Name y py) env (.ref D)) _ _ _
    refine wpAny_assign_Name (wpAny_storeName_local hy F'.ns (fun h₂ hn₂ hs₂ => ?_) hp)
    have hL₀ : h₀.get? env.locals = none := Heap.get?_none_of_le F'.above
    have F₂ : Fr h₀ env.locals h₂ (fun z => if z = y then some (.ref D) else m z) := ⟨hn₂, fun b o e => hs₂.extBut b o (fun q => by rw [q, hL₀] at e; cases e) (F'.keep b o e), F'.above⟩
    refine ⟨m', hn.sameBut hs₂ hCL, fun h'' hs'' => fin D h'' _ (F₂.change hs'' hCL hC₀) (fun p hp => ?_) o1⟩
    have z : h₂.get? p.1 = some p.2 := hs₂.extBut _ _ (N' p hp).2.1 (N' p hp).1
    refine ⟨hs''.extBut _ _ ?_ z, (N' p hp).2⟩
    rcases List.mem_cons.mp hp with rfl | hp
    · exact Ne.symm hCD
    · exact offC p hp
end
end
section
open PySem PySem.W PyProof.Rows PySem.Calls PySem.Spec PyProof.V PySem.SeqAt

/-- A LangSys whose three objects are of the ledger. -/
def LSIn (w : World) (led : List (Addr × Obj)) (x : Addr) (r : Int) (fs : List Int) : Prop :=
  ∃ (dx l : Addr) (k1 k2 t1 : Tok) (vs : List Value) (e : Nat), (x, instObj 38 dx) ∈ led ∧ (dx, lsDict w k1 k2 r t1 l) ∈ led ∧ (l, W.listOf vs.toArray e) ∈ led ∧ IntsAre vs fs
theorem lsinK {w : World} {led : List (Addr × Obj)} {x : Addr} {r : Int} {fs : List Int} {C : Prop} (p : LSIn w led x r fs)
    (c : ∀ (dx l : Addr) (k1 k2 t1 : Tok) (vs : List Value) (e : Nat), (x, instObj 38 dx) ∈ led → (dx, lsDict w k1 k2 r t1 l) ∈ led → (l, W.listOf vs.toArray e) ∈ led → IntsAre vs fs → C) : C := by
  obtain ⟨dx, l, k1, k2, t1, vs, e, a1, a2, a3, a4⟩ := p
  exact c dx l k1 k2 t1 vs e a1 a2 a3 a4
theorem LSIn.mono {w : World} {led led' : List (Addr × Obj)} {x : Addr} {r : Int} {fs : List Int} (p : LSIn w led x r fs) (h : ∀ q ∈ led, q ∈ led') : LSIn w led' x r fs := by
  refine lsinK p ?_
  intro dx l k1 k2 t1 vs e a1 a2 a3 a4
  exact (exi7 dx l k1 k2 t1 vs e ⟨h _ a1, h _ a2, h _ a3, a4⟩)
theorem LSIn.at {w : World} {led : List (Addr × Obj)} {x : Addr} {r : Int} {fs : List Int} {g h : Heap} {L : Addr} (p : LSIn w led x r fs) (N : News g L h led) : LSAt w g h x r fs := by
  refine lsinK p ?_
  intro dx l k1 k2 t1 vs e a1 a2 a3 a4
  exact (exi7 dx l k1 k2 t1 vs e ⟨(N _ a1).1, (N _ a2).1, (N _ a3).1, a4, (N _ a1).2.2, (N _ a2).2.2, (N _ a3).2.2⟩)
theorem LSAt.ledger {w : World} {b h : Heap} {x : Addr} {r : Int} {fs : List Int} (p : LSAt w b h x r fs) : ∃ led, LSIn w led x r fs ∧ ∀ q ∈ led, h.get? q.1 = some q.2 ∧ b.get? q.1 = none := by
  refine lsatK p ?_
  intro dx l k1 k2 t1 vs e a1 a2 a3 a4 c1 c2 c3
  refine ⟨[(x, instObj 38 dx), (dx, lsDict w k1 k2 r t1 l), (l, W.listOf vs.toArray e)], (exi7 dx l k1 k2 t1 vs e ⟨List.Mem.head _, List.Mem.tail _ (List.Mem.head _), List.Mem.tail _ (List.Mem.tail _ (List.Mem.head _)), a4⟩), ?_⟩
  exact allCons ⟨a1, c1⟩ (allCons ⟨a2, c2⟩ (allCons ⟨a3, c3⟩ allNil))

def LayIn (w : World) (led : List (Addr × Obj)) (x : Addr) (fts : List (Str × List Int)) (nl : Nat) : Prop :=
  ∃ (dx sc fl ll : Addr) (k1 k2 k3 : Tok) (xs : List Addr) (e e' : Nat), (x, instObj 118 dx) ∈ led ∧ (dx, lyDict w k1 k2 k3 sc fl ll) ∈ led ∧
    (fl, W.listOf (xs.map Value.ref).toArray e) ∈ led ∧ (ll, W.listOf (List.replicate nl Value.none).toArray e') ∈ led ∧ FtsIn w led xs fts
theorem LayIn.mono {w : World} {led led' : List (Addr × Obj)} {x : Addr} {fts : List (Str × List Int)} {nl : Nat} (p : LayIn w led x fts nl) (h : ∀ q ∈ led, q ∈ led') : LayIn w led' x fts nl := by
  refine ex10 p ?_
  intro dx sc fl ll k1 k2 k3 xs e e' q
  refine an5 q ?_
  intro a1 a2 a3 a4 a5
  exact (exi10 dx sc fl ll k1 k2 k3 xs e e' ⟨h _ a1, h _ a2, h _ a3, h _ a4, a5.mono h⟩)
theorem LayIn.at {w : World} {led : List (Addr × Obj)} {x : Addr} {fts : List (Str × List Int)} {nl : Nat} {g h : Heap} {L : Addr} (p : LayIn w led x fts nl) (N : News g L h led) : LayAt w g h x fts nl := by
  refine ex10 p ?_
  intro dx sc fl ll k1 k2 k3 xs e e' q
  refine an5 q ?_
  intro a1 a2 a3 a4 a5
  exact (exi11 dx sc fl ll k1 k2 k3 xs led e e' ⟨(N _ a1).1, (N _ a2).1, (N _ a3).1, (N _ a4).1, a5, fun q hq => ⟨(N q hq).1, (N q hq).2.2⟩, (N _ a1).2.2, (N _ a2).2.2, (N _ a3).2.2, (N _ a4).2.2⟩)
theorem LayAt.ledger {w : World} {b h : Heap} {x : Addr} {fts : List (Str × List Int)} {nl : Nat} (p : LayAt w b h x fts nl) : ∃ led, LayIn w led x fts nl ∧ ∀ q ∈ led, h.get? q.1 = some q.2 ∧ b.get? q.1 = none := by
  refine layatK p ?_
  intro dx sc fl ll k1 k2 k3 xs led e e' y1 y2 y3 y4 hft hled z1 z2 z3 z4
  refine ⟨(x, instObj 118 dx) :: (dx, lyDict w k1 k2 k3 sc fl ll) :: (fl, W.listOf (xs.map Value.ref).toArray e) :: (ll, W.listOf (List.replicate nl Value.none).toArray e') :: led, (exi10 dx sc fl ll k1 k2 k3 xs e e' ⟨List.Mem.head _, List.Mem.tail _ (List.Mem.head _), List.Mem.tail _ (List.Mem.tail _ (List.Mem.head _)), List.Mem.tail _ (List.Mem.tail _ (List.Mem.tail _ (List.Mem.head _))), hft.mono fun q hq => List.Mem.tail _ (List.Mem.tail _ (List.Mem.tail _ (List.Mem.tail _ hq)))⟩), ?_⟩
  exact allCons ⟨y1, z1⟩ (allCons ⟨y2, z2⟩ (allCons ⟨y3, z3⟩ (allCons ⟨y4, z4⟩ hled)))

/-- What `told` gave. -/
def ToldIn (led : List (Addr × Obj)) (t : Addr) (r : Int) (fs : List Int) : Prop := ∃ (u : Addr) (tr : Tok) (vs : List Value), (t, tupObj [.int r tr, .ref u]) ∈ led ∧ (u, tupObj vs) ∈ led ∧ IntsAre vs fs
theorem ToldIn.mono {led led' : List (Addr × Obj)} {t : Addr} {r : Int} {fs : List Int} (p : ToldIn led t r fs) (h : ∀ q ∈ led, q ∈ led') : ToldIn led' t r fs := by
  refine nameGoal ?_
  intro kG7 hG7
  obtain ⟨u, tr, vs, a1, a2, a3⟩ := p
  refine hG7 ?_
  clear hG7 kG7
  exact ⟨u, tr, vs, h _ a1, h _ a2, a3⟩

def toldD (r : Int) (fs : List Int) : PyData := .tuple [.int r, .tuple (fs.map .int)]
def prsD (kns : List (Int × Nat)) : PyData := .list (kns.map fun p => .tuple [.int p.1, .int p.2])
theorem ToldIn.reads {led : List (Addr × Obj)} {t : Addr} {r : Int} {fs : List Int} {g h : Heap} {L : Addr} (p : ToldIn led t r fs) (N : News g L h led) : Reads h (.ref t) (toldD r fs) [] := by
  refine nameGoal ?_
  intro kG8 hG8
  obtain ⟨u, tr, vs, a1, a2, a3⟩ := p
  refine hG8 ?_
  clear hG8 kG8
  have r1 : Reads h (.ref u) (.tuple (fs.map .int)) [] := Reads.tuple (N _ a2).1 rfl rfl (by simpa using readsAll_of_ints a3)
  exact Reads.tuple (N _ a1).1 rfl rfl (ReadsAll.cons (as := []) (bs := []) (Reads.int r tr) (ReadsAll.cons (as := []) (bs := []) r1 .nil))
theorem PrsIn.readsAll {led : List (Addr × Obj)} {xs : List Addr} {kns : List (Int × Nat)} {h : Heap} (p : PrsIn led xs kns) (N : ∀ q ∈ led, h.get? q.1 = some q.2) : ReadsAll h (xs.map Value.ref) (kns.map fun p => .tuple [.int p.1, .int p.2]) [] := by
  induction p with
  | nil => exact .nil
  | cons a _ ih =>
    exact ReadsAll.cons (as := []) (bs := []) (Reads.tuple (N _ a) rfl rfl (ReadsAll.cons (as := []) (bs := []) (Reads.int _ _) (ReadsAll.cons (as := []) (bs := []) (Reads.int _ _) .nil))) ih
theorem PrsAt.reads {b h : Heap} {D : Addr} {kns : List (Int × Nat)} (p : PrsAt b h D kns) : Reads h (.ref D) (prsD kns) [D] := by
  refine nameGoal ?_
  intro kG9 hG9
  obtain ⟨xs, led, e, a1, a2, a3, _⟩ := p
  refine hG9 ?_
  clear hG9 kG9
  exact Reads.list a1 rfl rfl (by simpa using a2.readsAll fun q hq => (a3 q hq).1)
theorem strs_readsAll {h : Heap} {vs : List Value} {ss : List Str} (p : StrsAre vs ss) : ReadsAll h vs (ss.map .str) [] := by
  induction p with
  | nil => exact .nil
  | cons y t r ih => exact ReadsAll.cons (as := []) (bs := []) (Reads.str y t) ih

theorem ints_flat (ns : List Int) : PyData.canLayAll0 (ns.map .int) = true ∧ PyData.depthAll (ns.map .int) ≤ 5 ∧ noMixAll (ns.map .int) (ns.map .int) = true :=
  flat_ok fun d hd => by
    refine nameGoal ?_
    intro kG10 hG10
    obtain ⟨n, _, rfl⟩ := List.mem_map.mp hd
    refine hG10 ?_
    clear hG10 kG10
    exact ⟨rfl, by simp [PyData.depth], by simp [noMix]⟩
theorem Nice.mk' {d : PyData} (h1 : PyData.canLay0 d = true) (h2 : d.depth ≤ 64) (h3 : noMix d d = true) : Nice d := ⟨by show (_ && _) = true; rw [h1, decide_eq_true h2]; rfl, h3⟩
theorem nice_told (r : Int) (fs : List Int) : Nice (toldD r fs) := by
  refine nameGoal ?_
  intro kG11 hG11
  obtain ⟨i1, i2, i3⟩ := ints_flat fs
  refine hG11 ?_
  clear hG11 kG11
  refine Nice.mk' (by simp [toldD, PyData.canLay0, PyData.canLayAll0, i1]) (by simp only [toldD, PyData.depth, PyData.depthAll]; omega) (by simp [toldD, noMix, noMixAll, i3])
theorem nice_prs (kns : List (Int × Nat)) : Nice (prsD kns) := by
  refine nameGoal ?_
  intro kG12 hG12
  obtain ⟨i1, i2, i3⟩ := flat_ok (xs := kns.map fun p => .tuple [.int p.1, .int p.2]) fun d hd => by
    obtain ⟨n, _, rfl⟩ := List.mem_map.mp hd
    exact ⟨rfl, by simp [PyData.depth, PyData.depthAll], by simp [noMix, noMixAll]⟩
  refine hG12 ?_
  clear hG12 kG12
  exact Nice.mk' (by simp [prsD, PyData.canLay0, i1]) (by simp only [prsD, PyData.depth]; omega) (by simp [prsD, noMix, i3])
theorem nice_strs {ss : List Str} (h : ∀ x ∈ ss, PyData.strOk x = true) : Nice (.list (ss.map .str)) := by
  refine nameGoal ?_
  intro kG13 hG13
  obtain ⟨i1, i2, i3⟩ := flat_ok (xs := ss.map .str) fun d hd => by
    obtain ⟨x, hx, rfl⟩ := List.mem_map.mp hd
    exact ⟨by simp [PyData.canLay0]; exact h x hx, by simp [PyData.depth], by simp [noMix]⟩
  refine hG13 ?_
  clear hG13 kG13
  exact Nice.mk' (by simp [PyData.canLay0, i1]) (by simp only [PyData.depth]; omega) (by simp [noMix, i3])
theorem nice_tuple3 {a b c : PyData} (ha : Nice a) (hb : Nice b) (hc : Nice c) (da : a.depth ≤ 20) (db : b.depth ≤ 20) (dc : c.depth ≤ 20) : Nice (.tuple [a, b, c]) := by
  have ca : PyData.canLay0 a = true := (Bool.and_eq_true _ _ ▸ ha.sh).1
  have cb : PyData.canLay0 b = true := (Bool.and_eq_true _ _ ▸ hb.sh).1
  have cc : PyData.canLay0 c = true := (Bool.and_eq_true _ _ ▸ hc.sh).1
  exact Nice.mk' (by simp [PyData.canLay0, PyData.canLayAll0, ca, cb, cc]) (by simp only [PyData.depth, PyData.depthAll]; omega) (by simp [noMix, noMixAll, ha.nm, hb.nm, hc.nm])
theorem told_depth (r : Int) (fs : List Int) : (toldD r fs).depth ≤ 20 := by
  obtain ⟨_, i2, _⟩ := ints_flat fs
  simp only [toldD, PyData.depth, PyData.depthAll]; omega
theorem nice_before (r1 r2 r3 : Int) (f1 f2 f3 : List Int) : Nice (.tuple [toldD r1 f1, toldD r2 f2, toldD r3 f3]) :=
  nice_tuple3 (nice_told _ _) (nice_told _ _) (nice_told _ _) (told_depth _ _) (told_depth _ _) (told_depth _ _)
theorem dpL (env : Env) (k : Nat) (h : k ≤ 8) : (callerA.deeper env).depth + k < recursionLimit := by
  show 1 + claimMargin + 1 + k < recursionLimit
  have : 1 + claimMargin + 1 + 8 < recursionLimit := by decide
  omega
theorem unL (env : Env) (k : Nat) (h : k ≤ 600) : (callerA.deeper env).units + k < cLine := by
  have e : (callerA.deeper env).units + 600 < cLine := by
    show _ < _
    simp only [callerA, Around.deeper]
    decide
  omega
theorem penAt {g h : Heap} {L pen P : Addr} {news : List (Addr × Obj)} {vp : List Value} {xp : List Int} {n c : Int} {tn tc : Tok} {ep ep2 : Nat} (N : News g L h news) (m1 : (pen, W.listOf #[.ref P, .int n tn, .int c tc] ep) ∈ news) (m2 : (P, W.listOf vp.toArray ep2) ∈ news)
    (hi : IntsAre vp xp) (hl : xp.length ≤ 64) (hne : pen ≠ P) : PenOk g h pen P := (penMk (vs := vp) (xs := xp) (n := n) (c := c) (tn := tn) (tc := tc) (ep := ep) (ep2 := ep2) (N.get m1) (N.get m2) hi hl (N.fresh m1) (N.fresh m2) hne)
theorem bag0 {g h h' : Heap} {L : Addr} {m : Str → Option Value} {front led : List (Addr × Obj)} (new : List (Addr × Obj)) (F : Fr g L h m) (N : News g L h (front ++ led)) (kp : Kp [] h h') (hnew : ∀ q ∈ new, h'.get? q.1 = some q.2 ∧ h.get? q.1 = none) :
    Fr g L h' m ∧ News g L h' (front ++ (new ++ led)) ∧ ∀ q ∈ new, ∀ p ∈ front, q.1 ≠ p.1 := by
  have hZ17 := led_kp new _ F N kp (by simp) (fun p hp => ⟨hp, by simp⟩) (fun q hq => ⟨(hnew q hq).1, .inl (hnew q hq).2⟩)
  have F' := hZ17.1
  have N' := hZ17.2
  clear hZ17
  refine ⟨F', news_sub N' fun p hp => ?_, fun q hq p hp e => ?_⟩
  · simp only [List.mem_append] at hp ⊢
    rcases hp with hp | hp | hp <;> simp [hp]
  · have e1 := (hnew q hq).2
    have e2 := (N p (List.mem_append_left _ hp)).1
    rw [e, e2] at e1; cases e1

def Off (pen P c1 c2 : Addr) (led : List (Addr × Obj)) : Prop := ∀ p ∈ led, (p.1 ≠ pen ∧ p.1 ≠ P) ∧ p.1 ≠ c1 ∧ p.1 ≠ c2
theorem Off.add {pen P c1 c2 : Addr} {o1 o2 o3 o4 : Obj} {new led : List (Addr × Obj)} (x : Off pen P c1 c2 led) (h : ∀ q ∈ new, ∀ p ∈ [(pen, o1), (P, o2), (c1, o3), (c2, o4)], q.1 ≠ p.1) : Off pen P c1 c2 (new ++ led) := by
  intro p hp
  rcases List.mem_append.mp hp with hp | hp
  · exact ⟨⟨h p hp (pen, o1) (List.Mem.head _), h p hp (P, o2) (List.Mem.tail _ (List.Mem.head _))⟩, h p hp (c1, o3) (List.Mem.tail _ (List.Mem.tail _ (List.Mem.head _))), h p hp (c2, o4) (List.Mem.tail _ (List.Mem.tail _ (List.Mem.tail _ (List.Mem.head _))))⟩
  · exact x p hp

theorem bag_pen {g h h' : Heap} {L pen P c1 c2 : Addr} {o1 o2 oa ob : Obj} {m : Str → Option Value} {led : List (Addr × Obj)} (new : List (Addr × Obj)) (F : Fr g L h m) (N : News g L h ((pen, oa) :: (P, ob) :: (c1, o1) :: (c2, o2) :: led))
    (hc : ((c1 ≠ pen) ∧ (c1 ≠ P)) ∧ (c2 ≠ pen) ∧ (c2 ≠ P)) (hoff : Off pen P c1 c2 led) (pk : PenOk g h' pen P) (kp : Kp [pen, P] h h') (hnew : ∀ q ∈ new, h'.get? q.1 = some q.2 ∧ h.get? q.1 = none) :
    ∃ (vp : List Value) (xp : List Int) (n c : Int) (tn tc : Tok) (ep ep2 : Nat), IntsAre vp xp ∧ xp.length ≤ 64 ∧ Fr g L h' m ∧
      News g L h' ((pen, W.listOf #[.ref P, .int n tn, .int c tc] ep) :: (P, W.listOf vp.toArray ep2) :: (c1, o1) :: (c2, o2) :: (new ++ led)) ∧ Off pen P c1 c2 (new ++ led) := by
  refine pen_ledK new ((c1, o1) :: (c2, o2) :: led) F N (List.Mem.head _) (List.Mem.tail _ (List.Mem.head _)) pk kp
    (allCons ⟨List.Mem.tail _ (List.Mem.tail _ (List.Mem.head _)), hc.1⟩ (allCons ⟨List.Mem.tail _ (List.Mem.tail _ (List.Mem.tail _ (List.Mem.head _))), hc.2⟩ (fun p hp => ⟨List.Mem.tail _ (List.Mem.tail _ (List.Mem.tail _ (List.Mem.tail _ hp))), (hoff p hp).1⟩))) hnew ?_
  intro vp xp n c tn tc ep ep2 hip hlp F' N'
  refine exi8 vp xp n c tn tc ep ep2 ⟨hip, hlp, F', news_sub N' ?_, hoff.add (o1 := oa) (o2 := ob) (o3 := o1) (o4 := o2) fun q hq p hp e => ?_⟩
  · (repeat' (first | refine subCons ?_ ?_ | refine subApp ?_ ?_ | exact subNil | exact List.Mem.head _ | refine List.mem_cons_of_mem _ ?_ | (intro pS hS; (repeat (first | exact hS | exact List.mem_append_left _ hS | exact List.mem_append_left _ (List.mem_append_left _ hS) | exact List.mem_append_left _ (List.mem_append_right _ hS) | refine List.mem_cons_of_mem _ ?_ | refine List.mem_append_right _ ?_)); done) | refine List.mem_append_right _ ?_))
  · have e1 := (hnew q hq).2
    have e2 := (N p ((subCons (List.Mem.head _) (subCons (List.Mem.tail _ (List.Mem.head _)) (subCons (List.Mem.tail _ (List.Mem.tail _ (List.Mem.head _))) (subCons (List.Mem.tail _ (List.Mem.tail _ (List.Mem.tail _ (List.Mem.head _)))) subNil)))) p hp)).1
    rw [e, e2] at e1; cases e1

section
variable {prog : Program} {w : World} {A : Around} {E : Value → Shared → Prop} {s : Shared} {g : Heap} {env : Env}
theorem if_false {test : PySem.Expr} {body rest : List Stmt} {pos : Pos} {m : Str → Option Value} {news : List (Addr × Obj)} {Q : Flow → Shared → Prop} (_F : Fr g env.locals s.heap m)
    (h : wpAny (model prog w) A (isTrue test env (eval test env)) (fun b s' => HoldP (b = false ∧ ∃ h' tk' d', s' = { s with heap := h', toks := tk', drawn := d' } ∧ Fr g env.locals h' m ∧ News g env.locals h' news)) E s)
    (k : ∀ h' tk' d', Fr g env.locals h' m → News g env.locals h' news → wpAny (model prog w) A (execs rest env) Q E { s with heap := h', toks := tk', drawn := d' }) :
    wpAny (model prog w) A (execs (.If test body [] pos :: rest) env) Q E s := by
  refine exec1 (wpAny_If (wpAny_mono h (fun b s' x => ?_) fun _ _ e => e))
  refine nameGoal ?_
  intro kG19 hG19
  obtain ⟨rfl, h', tk', d', rfl, F', N'⟩ := x.out
  refine hG19 ?_
  clear hG19 kG19
  rw [if_neg (by simp)]
  exact wpAny_execs_nil (HoldP.mk (k h' tk' d' F' N'))
theorem add_bag {h₀ : Heap} {L a b : Addr} {m : Str → Option Value} {news led1 led2 : List (Addr × Obj)} {vs ws : List Value} {ns ms : List Int} {e1 e2 : Nat} {Q : Value → Shared → Prop} (F : Fr h₀ L s.heap m) (N : News h₀ L s.heap news)
    (m1 : (a, W.listOf vs.toArray e1) ∈ led1) (h1 : ∀ q ∈ led1, q ∈ news) (m2 : (b, W.listOf ws.toArray e2) ∈ led2) (h2 : ∀ q ∈ led2, q ∈ news) (hi : IntsAre vs ns) (hj : IntsAre ws ms) (hz : ns.length + ms.length ≤ 1000)
    (h : ∀ D us h', Fr h₀ L h' m → News h₀ L h' ((D, W.listOf (List.toArray us) 0) :: news) → (∀ p ∈ news, p.1 < D) → IntsAre us (ns ++ ms) → Q (.ref D) { s with heap := h' }) :
    wpAny (model prog w) A (binaryOp .Add (.ref a) (.ref b)) Q E s :=
  kmk_add_ints F N ⟨_, N.get (h1 _ m1), rfl, _, rfl⟩ ⟨_, N.get (h2 _ m2), rfl, _, rfl⟩ hi hj h (by rw [sizeLine_eq]; omega)
end
theorem told_ledger {h h' : Heap} {t u : Addr} {tr : Tok} {vs : List Value} {r : Int} {fs : List Int} (e1 : h'.get? t = some (tupObj [.int r tr, .ref u])) (e2 : h'.get? u = some (tupObj vs)) (hi : IntsAre vs fs) (f1 : h.get? t = none) (f2 : h.get? u = none) :
    ∃ led, ToldIn led t r fs ∧ ∀ q ∈ led, h'.get? q.1 = some q.2 ∧ h.get? q.1 = none := by
  refine ⟨[(t, tupObj [.int r tr, .ref u]), (u, tupObj vs)], exi3 u tr vs ⟨List.Mem.head _, List.Mem.tail _ (List.Mem.head _), hi⟩, allCons ⟨e1, f1⟩ (allCons ⟨e2, f2⟩ allNil)⟩
theorem one_ledger (p : Addr × Obj) : ∃ led : List (Addr × Obj), p ∈ led ∧ ∀ q ∈ led, q = p := ⟨[p], by simp, by simp⟩
end
section
open PySem PySem.W PyProof.Rows PySem.Calls PySem.Spec PyProof.V PySem.SeqAt
noncomputable def lawFn (w : World) : FuncData := match (Hd.heap_39 w.params).lookup 221 with | some ⟨_, _, .func f, _⟩ => f | _ => default
noncomputable def lawStmts (w : World) : List Stmt := match (lawFn w).body with | .stmts l => l | _ => []
/-- The law's names. -/
def lawMap (both bt third other one pen : Addr) (m0 : Str → Option Value) : Str → Option Value := fun y =>
  if y = Str.ofString "both" then some (.ref both) else if y = Str.ofString "before" then some (.ref bt) else if y = Str.ofString "third" then some (.ref third) else
  if y = Str.ofString "other" then some (.ref other) else if y = Str.ofString "one" then some (.ref one) else if y = Str.ofString "pen" then some (.ref pen) else m0 y

def PrsL (led : List (Addr × Obj)) (D : Addr) (kns : List (Int × Nat)) : Prop := ∃ (xs : List Addr) (e : Nat), (D, W.listOf (xs.map Value.ref).toArray e) ∈ led ∧ PrsIn led xs kns
theorem PrsL.mono {led led' : List (Addr × Obj)} {D : Addr} {kns : List (Int × Nat)} (p : PrsL led D kns) (h : ∀ q ∈ led, q ∈ led') : PrsL led' D kns := by
  obtain ⟨xs, e, a, b⟩ := p
  exact ⟨xs, e, h _ a, b.mono h⟩
theorem PrsL.at {led : List (Addr × Obj)} {D : Addr} {kns : List (Int × Nat)} {g h : Heap} {L : Addr} (p : PrsL led D kns) (N : News g L h led) : PrsAt g h D kns := by
  obtain ⟨xs, e, a, b⟩ := p
  exact ⟨xs, led, e, N.get a, b, fun q hq => ⟨(N q hq).1, (N q hq).2.2⟩, N.fresh a⟩
theorem PrsAt.ledger {b h : Heap} {D : Addr} {kns : List (Int × Nat)} (p : PrsAt b h D kns) : ∃ led, PrsL led D kns ∧ ∀ q ∈ led, h.get? q.1 = some q.2 ∧ b.get? q.1 = none := by
  obtain ⟨xs, led, e, a1, a2, a3, a4⟩ := p
  refine ⟨(D, W.listOf (xs.map Value.ref).toArray e) :: led, ⟨xs, e, List.Mem.head _, a2.mono fun q hq => List.mem_cons_of_mem _ hq⟩, ?_⟩
  simp only [List.forall_mem_cons]
  exact ⟨⟨a1, a4⟩, a3⟩
/-- What `gather` gave. -/
def Gath (fts : List (Str × List Int)) (nl : Nat) (wt : Str → Nat) (ks : List Str) (led : List (Addr × Obj)) (D : Addr) (fs : List Int) : Prop :=
  ∃ (ss : List Str) (kns : List (Int × Nat)), ss.Perm ks ∧ sortedS ss = true ∧ Lists (gM fts nl fs wt ss) kns ∧ kns.length ≤ 7 ∧ PrsL led D kns
theorem Gath.mono {fts : List (Str × List Int)} {nl : Nat} {wt : Str → Nat} {ks : List Str} {led led' : List (Addr × Obj)} {D : Addr} {fs : List Int} (p : Gath fts nl wt ks led D fs) (h : ∀ q ∈ led, q ∈ led') : Gath fts nl wt ks led' D fs := by
  obtain ⟨ss, kns, a, b, c, d, e⟩ := p
  exact ⟨ss, kns, a, b, c, d, e.mono h⟩
end
section
open PySem PySem.W PyProof.Rows PySem.Calls PySem.Spec PyProof.V PySem.SeqAt
/-! The contracts once more, from ledger to ledger, with the rest as a premise: so the goal is written once. -/
section
variable {w : World} {mg mb : Str → Option Value} {A : Around} {s : Shared} {g : Heap} {L : Addr} {m : Str → Option Value} {Q E : Value → Shared → Prop} {news : List (Addr × Obj)}
theorem told_L1 {f : Addr × Obj} {led sub : List (Addr × Obj)} {one : Addr} {r : Int} {fs : List Int} (G : Gnd w mg mb g) (F : Fr g L s.heap m) (N : News g L s.heap (f :: led)) (hA : A.handled = none) (hdp : A.depth + 1 < recursionLimit) (hun : A.units + 420 < cLine)
    (p : LSIn w sub one r fs) (hs : ∀ q ∈ sub, q ∈ f :: led) (hl : fs.length ≤ 1000)
    (c : ∀ t new h' tk', ToldIn new t r fs → Fr g L h' m → News g L h' (f :: (new ++ led)) → Q (.ref t) { s with heap := h', toks := tk' }) :
    wpAny (model PySem.Challenge.rw_pb0163_01.row.prog w) A (call (.ref 35) [.ref one]) Q E s := by
  refine told_ok G F.keep hA hdp hun (p.at (news_sub N hs)) hl ?_
  intro t u tr vs h' tk' e1 e2 e3 e4 e5 kp
  obtain ⟨new, ht, hn⟩ := told_ledger e1 e2 e3 e4 e5
  obtain ⟨F', N', _⟩ := bag0 (front := [f]) new F N kp hn
  exact c t new h' tk' ht F' N'
theorem told_L4 {pen P c1 c2 : Addr} {oa ob o1 o2 : Obj} {led sub : List (Addr × Obj)} {one : Addr} {r : Int} {fs : List Int} (G : Gnd w mg mb g) (F : Fr g L s.heap m) (N : News g L s.heap ((pen, oa) :: (P, ob) :: (c1, o1) :: (c2, o2) :: led)) (off : Off pen P c1 c2 led)
    (hA : A.handled = none) (hdp : A.depth + 1 < recursionLimit) (hun : A.units + 420 < cLine)
    (p : LSIn w sub one r fs) (hs : ∀ q ∈ sub, q ∈ (pen, oa) :: (P, ob) :: (c1, o1) :: (c2, o2) :: led) (hl : fs.length ≤ 1000)
    (c : ∀ t new h' tk', ToldIn new t r fs → Fr g L h' m → News g L h' ((pen, oa) :: (P, ob) :: (c1, o1) :: (c2, o2) :: (new ++ led)) → Off pen P c1 c2 (new ++ led) → Q (.ref t) { s with heap := h', toks := tk' }) :
    wpAny (model PySem.Challenge.rw_pb0163_01.row.prog w) A (call (.ref 35) [.ref one]) Q E s := by
  refine told_ok G F.keep hA hdp hun (p.at (news_sub N hs)) hl ?_
  intro t u tr vs h' tk' e1 e2 e3 e4 e5 kp
  obtain ⟨new, ht, hn⟩ := told_ledger e1 e2 e3 e4 e5
  obtain ⟨F', N', x⟩ := bag0 (front := [_, _, _, _]) new F N kp hn
  exact c t new h' tk' ht F' N' (off.add x)
theorem merged_L1 {f : Addr × Obj} {led sub sub2 : List (Addr × Obj)} {one other : Addr} {r1 r2 : Int} {fs1 fs2 : List Int} (G : Gnd w mg mb g) (F : Fr g L s.heap m) (N : News g L s.heap (f :: led)) (hA : A.handled = none) (hdp : A.depth + 4 < recursionLimit) (hun : A.units + 440 < cLine)
    (p1 : LSIn w sub one r1 fs1) (hs1 : ∀ q ∈ sub, q ∈ f :: led) (p2 : LSIn w sub2 other r2 fs2) (hs2 : ∀ q ∈ sub2, q ∈ f :: led) (hl1 : fs1.length ≤ 16) (hl2 : fs2.length ≤ 16)
    (c : ∀ x new h' tk', LSIn w new x (if 0 ≤ r1 then r1 else r2) (once (fs1 ++ fs2)) → Fr g L h' m → News g L h' (f :: (new ++ led)) → Q (.ref x) { s with heap := h', toks := tk' }) :
    wpAny (model PySem.Challenge.rw_pb0163_01.row.prog w) A (call (.ref 170) [.ref one, .ref other]) Q E s := by
  refine merged_ok G F.keep hA hdp hun (p1.at (news_sub N hs1)) (p2.at (news_sub N hs2)) hl1 hl2 ?_
  intro x h' tk' hx kp
  obtain ⟨new, hn, hnew⟩ := hx.ledger
  obtain ⟨F', N', _⟩ := bag0 (front := [f]) new F N kp hnew
  exact c x new h' tk' hn F' N'
theorem merged_L4 {pen P c1 c2 : Addr} {oa ob o1 o2 : Obj} {led sub sub2 : List (Addr × Obj)} {one other : Addr} {r1 r2 : Int} {fs1 fs2 : List Int} (G : Gnd w mg mb g) (F : Fr g L s.heap m) (N : News g L s.heap ((pen, oa) :: (P, ob) :: (c1, o1) :: (c2, o2) :: led)) (off : Off pen P c1 c2 led)
    (hA : A.handled = none) (hdp : A.depth + 4 < recursionLimit) (hun : A.units + 440 < cLine)
    (p1 : LSIn w sub one r1 fs1) (hs1 : ∀ q ∈ sub, q ∈ (pen, oa) :: (P, ob) :: (c1, o1) :: (c2, o2) :: led) (p2 : LSIn w sub2 other r2 fs2) (hs2 : ∀ q ∈ sub2, q ∈ (pen, oa) :: (P, ob) :: (c1, o1) :: (c2, o2) :: led) (hl1 : fs1.length ≤ 16) (hl2 : fs2.length ≤ 16)
    (c : ∀ x new h' tk', LSIn w new x (if 0 ≤ r1 then r1 else r2) (once (fs1 ++ fs2)) → Fr g L h' m → News g L h' ((pen, oa) :: (P, ob) :: (c1, o1) :: (c2, o2) :: (new ++ led)) → Off pen P c1 c2 (new ++ led) → Q (.ref x) { s with heap := h', toks := tk' }) :
    wpAny (model PySem.Challenge.rw_pb0163_01.row.prog w) A (call (.ref 170) [.ref one, .ref other]) Q E s := by
  refine merged_ok G F.keep hA hdp hun (p1.at (news_sub N hs1)) (p2.at (news_sub N hs2)) hl1 hl2 ?_
  intro x h' tk' hx kp
  obtain ⟨new, hn, hnew⟩ := hx.ledger
  obtain ⟨F', N', y⟩ := bag0 (front := [_, _, _, _]) new F N kp hnew
  exact c x new h' tk' hn F' N' (off.add y)
theorem findex_L {sl sub : List (Addr × Obj)} {lay one : Addr} {fts : List (Str × List Int)} {nl : Nat} {r : Int} {fs : List Int} {tag : Str} {tt : Tok} (G : Gnd w mg mb g) (F : Fr g L s.heap m) (N : News g L s.heap news) (hA : A.handled = none) (hdp : A.depth + 2 < recursionLimit) (hun : A.units + 420 < cLine)
    (p1 : LayIn w sl lay fts nl) (hs1 : ∀ q ∈ sl, q ∈ news) (p2 : LSIn w sub one r fs) (hs2 : ∀ q ∈ sub, q ∈ news) (hl : fts.length ≤ 5) (hl2 : fs.length ≤ 32)
    (c : ∀ D ys e h' tk', IntsAre ys (featIdx fts fs tag) → Fr g L h' m → News g L h' ((D, W.listOf ys.toArray e) :: news) → Q (.ref D) { s with heap := h', toks := tk' }) :
    wpAny (model PySem.Challenge.rw_pb0163_01.row.prog w) A (call (.ref 143) [.ref lay, .ref one, .str tag tt]) Q E s := by
  refine findex_ok G F.keep hA hdp hun (p1.at (news_sub N hs1)) (p2.at (news_sub N hs2)) hl hl2 ?_
  intro D ys e h' tk' hi ho hn kp
  obtain ⟨F', N'⟩ := led_kp (D := []) [(D, W.listOf ys.toArray e)] _ F N kp (by simp) (fun p hp => ⟨hp, by simp⟩) (by intro p hp; rw [List.mem_singleton.mp hp]; exact ⟨ho, .inl hn⟩)
  exact c D ys e h' tk' hi F' N'
theorem offered_L {sl sub : List (Addr × Obj)} {lay one : Addr} {fts : List (Str × List Int)} {nl : Nat} {r : Int} {fs : List Int} (G : Gnd w mg mb g) (F : Fr g L s.heap m) (N : News g L s.heap news) (hA : A.handled = none) (hdp : A.depth + 2 < recursionLimit) (hun : A.units + 420 < cLine)
    (p1 : LayIn w sl lay fts nl) (hs1 : ∀ q ∈ sl, q ∈ news) (p2 : LSIn w sub one r fs) (hs2 : ∀ q ∈ sub, q ∈ news) (hl : fts.length ≤ 5) (hl2 : fs.length ≤ 32)
    (c : ∀ D vs ss e h' tk', StrsAre vs ss → sortedS ss = true → ss.Nodup → (∀ x, x ∈ ss ↔ TagOn fts fs x) → ss.length ≤ 32 → Fr g L h' m → News g L h' ((D, W.listOf vs.toArray e) :: news) → Q (.ref D) { s with heap := h', toks := tk' }) :
    wpAny (model PySem.Challenge.rw_pb0163_01.row.prog w) A (call (.ref 150) [.ref lay, .ref one]) Q E s := by
  refine offered_ok G F.keep hA hdp hun (p1.at (news_sub N hs1)) (p2.at (news_sub N hs2)) hl hl2 ?_
  intro D vs ss e h' tk' hs ho hn hm hz eD fD kp
  obtain ⟨F', N'⟩ := led_kp (D := []) [(D, W.listOf vs.toArray e)] _ F N kp (by simp) (fun p hp => ⟨hp, by simp⟩) (by intro p hp; rw [List.mem_singleton.mp hp]; exact ⟨eD, .inl fD⟩)
  exact c D vs ss e h' tk' hs ho hn hm hz F' N'
theorem once_L {rw : Addr} {vs : List Value} {e : Nat} {ns : List Int} (G : Gnd w mg mb g) (F : Fr g L s.heap m) (N : News g L s.heap news) (hA : A.handled = none) (hdp : A.depth + 2 < recursionLimit) (hun : A.units + 420 < cLine)
    (m1 : (rw, W.listOf vs.toArray e) ∈ news) (hi : IntsAre vs ns) (hl : ns.length ≤ 100)
    (c : ∀ D ys h' tk', IntsAre ys (once ns) → ys.length = (once ns).length → Fr g L h' m → News g L h' ((D, LCg.lst ys) :: news) → Q (.ref D) { s with heap := h', toks := tk' }) :
    wpAny (model PySem.Challenge.rw_pb0163_01.row.prog w) A (call (.ref 216) [.ref rw]) Q E s := by
  refine once_ok G F.keep hA hdp hun (N.get m1) hi hl ?_
  intro D ys h' tk' hys e f kp
  obtain ⟨F', N'⟩ := led_kp (D := []) [(D, LCg.lst ys)] _ F N kp (by simp) (fun p hp => ⟨hp, by simp⟩) (by intro p hp; rw [List.mem_singleton.mp hp]; exact ⟨e, .inl f⟩)
  exact c D ys h' tk' hys hys.length F' N'
theorem langsys_L4 {pen P c1 c2 : Addr} {o1 o2 : Obj} {led : List (Addr × Obj)} {vp : List Value} {xp : List Int} {n cc : Int} {tn tc : Tok} {ep ep2 : Nat} (G : Gnd w mg mb g) (F : Fr g L s.heap m)
    (N : News g L s.heap ((pen, W.listOf #[.ref P, .int n tn, .int cc tc] ep) :: (P, W.listOf vp.toArray ep2) :: (c1, o1) :: (c2, o2) :: led)) (off : Off pen P c1 c2 led) (hA : A.handled = none) (hdp : A.depth + 3 < recursionLimit) (hun : A.units + 440 < cLine)
    (hip : IntsAre vp xp) (hlp : xp.length ≤ 64) (hne : pen ≠ P) (hc : ((c1 ≠ pen) ∧ (c1 ≠ P)) ∧ (c2 ≠ pen) ∧ (c2 ≠ P))
    (c : ∀ x r fs new vp xp n cc tn tc ep ep2 h' tk', LSIn w new x r fs → fs.length ≤ 4 → IntsAre vp xp → xp.length ≤ 64 → Fr g L h' m →
      News g L h' ((pen, W.listOf #[.ref P, .int n tn, .int cc tc] ep) :: (P, W.listOf vp.toArray ep2) :: (c1, o1) :: (c2, o2) :: (new ++ led)) → Off pen P c1 c2 (new ++ led) → Q (.ref x) { s with heap := h', toks := tk' }) :
    wpAny (model PySem.Challenge.rw_pb0163_01.row.prog w) A (call (.ref 201) [.ref pen]) Q E s := by
  refine langsys_ok G F.keep hA hdp hun (penAt N (List.Mem.head _) (List.Mem.tail _ (List.Mem.head _)) hip hlp hne) ?_
  intro x r fs h' tk' hx _ _ hf _ pk kp
  obtain ⟨new, hin, hnew⟩ := hx.ledger
  obtain ⟨vp, xp, n, c', tn, tc, ep, ep2, hip, hlp, F', N', off'⟩ := bag_pen new F N hc off pk kp hnew
  exact c x r fs new vp xp n c' tn tc ep ep2 h' tk' hin hf hip hlp F' N' off'
theorem layout_L4 {pen P c1 c2 : Addr} {o1 o2 : Obj} {vp : List Value} {xp : List Int} {n cc : Int} {tn tc : Tok} {ep ep2 : Nat} (G : Gnd w mg mb g) (F : Fr g L s.heap m)
    (N : News g L s.heap ((pen, W.listOf #[.ref P, .int n tn, .int cc tc] ep) :: (P, W.listOf vp.toArray ep2) :: (c1, o1) :: (c2, o2) :: [])) (hA : A.handled = none) (hdp : A.depth + 5 < recursionLimit) (hun : A.units + 460 < cLine)
    (hip : IntsAre vp xp) (hlp : xp.length ≤ 64) (hne : pen ≠ P) (hc : ((c1 ≠ pen) ∧ (c1 ≠ P)) ∧ (c2 ≠ pen) ∧ (c2 ≠ P))
    (c : ∀ x fts nl new vp xp n cc tn tc ep ep2 h' tk', LayIn w new x fts nl → fts.length ≤ 5 → (∀ ft ∈ fts, FtOk ft) → nl ≤ 6 → IntsAre vp xp → xp.length ≤ 64 → Fr g L h' m →
      News g L h' ((pen, W.listOf #[.ref P, .int n tn, .int cc tc] ep) :: (P, W.listOf vp.toArray ep2) :: (c1, o1) :: (c2, o2) :: new) → Off pen P c1 c2 new → Q (.ref x) { s with heap := h', toks := tk' }) :
    wpAny (model PySem.Challenge.rw_pb0163_01.row.prog w) A (call (.ref 206) [.ref pen]) Q E s := by
  refine layout_ok G F.keep hA hdp hun (penAt N (List.Mem.head _) (List.Mem.tail _ (List.Mem.head _)) hip hlp hne) ?_
  intro x fts nl h' tk' hx hf hft hnl pk kp
  obtain ⟨new, hin, hnew⟩ := hx.ledger
  obtain ⟨vp, xp, n, c', tn, tc, ep, ep2, hip, hlp, F', N', off'⟩ := bag_pen (led := []) new F N hc (by intro p hp; cases hp) pk kp hnew
  rw [List.append_nil] at N' off'
  exact c x fts nl new vp xp n c' tn tc ep ep2 h' tk' hin hf hft hnl hip hlp F' N' off'
end
end
section
open PySem PySem.W PyProof.Rows PySem.Calls PySem.Spec PyProof.V PySem.SeqAt

theorem law_rest8 {w : World} {mg mb : Str → Option Value} {g : Heap} {s : Shared} {fa : Addr} {cd : Value} {Q : Flow → Shared → Prop} {E : Value → Shared → Prop} {m0 : Str → Option Value}
  {both bt third other one pen DP : Addr} {tv : Option Value} {r1 r2 r3 : Int} {fs1 fs2 fs3 : List Int} {lc : Obj} {led : List (Addr × Obj)}
  (Gg : Gnd w mg mb g) (F : Fr g g.objs.size s.heap (fun z => if z = Str.ofString "tag" then tv else if z = Str.ofString "parts" then some (.ref DP) else lawMap both bt third other one pen m0 z))
  (N : News g g.objs.size s.heap ((g.objs.size + 1, lc) :: led))
  (h1 : LSIn w led one r1 fs1) (h2 : LSIn w led other r2 fs2) (h3 : LSIn w led third r3 fs3) (hb : LSIn w led both (if 0 ≤ r1 then r1 else r2) (once (fs1 ++ fs2)))
  (hl1 : fs1.length ≤ 4) (hl2 : fs2.length ≤ 4) (hl3 : fs3.length ≤ 4)
  (hbt : ∃ t1 t2 t3, (bt, tupObj [.ref t1, .ref t2, .ref t3]) ∈ led ∧ ToldIn led t1 r1 fs1 ∧ ToldIn led t2 r2 fs2 ∧ ToldIn led t3 r3 fs3)
  (hQ : ∀ s', s'.gens = s.gens → s'.os = s.os → (∀ b o, g.get? b = some o → s'.heap.get? b = some o) → Q (.ret (.bool true)) s') :
  wpAny (model PySem.Challenge.rw_pb0163_01.row.prog w) (callerA.deeper (envOfC (Str.ofString "law") (lawFn w).scope g.objs.size fa cd)) (execs ((lawStmts w).drop 13) (envOfC (Str.ofString "law") (lawFn w).scope g.objs.size fa cd)) Q E s := by
  have X := Gg.X
  have T := Gg.T
  conv in (List.drop 13 (lawStmts w)) => whnf
  conv in ((lawFn w).scope) => whnf
  conv in ((lawFn w).scope) => whnf
  unfold lawMap at F
  have hlb : (once (fs1 ++ fs2)).length ≤ 8 := Nat.le_trans (once_length _) (by rw [List.length_append]; omega)
  refine lsinK h1 ?_
  intro done lone kone1 kone2 tone vone eone mone1 mone2 mone3 hione
  refine lsinK h2 ?_
  intro dother lother kother1 kother2 tother vother eother mother1 mother2 mother3 hiother
  refine lsinK h3 ?_
  intro dthird lthird kthird1 kthird2 tthird vthird ethird mthird1 mthird2 mthird3 hithird
  refine lsinK hb ?_
  intro dboth lboth kboth1 kboth2 tboth vboth eboth mboth1 mboth2 mboth3 hiboth
  refine exec1 ?_
  k_steps
  refine told_L1 Gg F N rfl (dpL _ _ (by decide)) (unL _ _ (by decide)) h1 (by intro q hq; (repeat (first | exact hq | exact List.mem_append_left _ hq | exact List.mem_append_left _ (List.mem_append_left _ hq) | exact List.mem_append_left _ (List.mem_append_right _ hq) | refine List.mem_cons_of_mem _ ?_ | refine List.mem_append_right _ ?_))) (by first | exact Nat.le_trans (by assumption) (by decide) | omega) ?_
  intro tX1 led1 hX1 tkX1 ht1 F1 N1
  clear F N
  k_steps
  refine told_L1 Gg F1 N1 rfl (dpL _ _ (by decide)) (unL _ _ (by decide)) h2 (by intro q hq; (repeat (first | exact hq | exact List.mem_append_left _ hq | exact List.mem_append_left _ (List.mem_append_left _ hq) | exact List.mem_append_left _ (List.mem_append_right _ hq) | refine List.mem_cons_of_mem _ ?_ | refine List.mem_append_right _ ?_))) (by first | exact Nat.le_trans (by assumption) (by decide) | omega) ?_
  intro tX2 led2 hX2 tkX2 ht2 F2 N2
  clear F1 N1
  k_steps
  refine told_L1 Gg F2 N2 rfl (dpL _ _ (by decide)) (unL _ _ (by decide)) h3 (by intro q hq; (repeat (first | exact hq | exact List.mem_append_left _ hq | exact List.mem_append_left _ (List.mem_append_left _ hq) | exact List.mem_append_left _ (List.mem_append_right _ hq) | refine List.mem_cons_of_mem _ ?_ | refine List.mem_append_right _ ?_))) (by first | exact Nat.le_trans (by assumption) (by decide) | omega) ?_
  intro tX3 led3 hX3 tkX3 ht3 F3 N3
  clear F2 N2
  k_steps
  rename Fr _ _ _ _ => F4
  rename News _ _ _ _ => N4
  refine ex3 hbt ?_
  intro t1 t2 t3 hbz
  have hb0 := hbz.1
  have q1 := hbz.2.1
  have q2 := hbz.2.2.1
  have q3 := hbz.2.2.2
  have NL := news_sub N4 (news' := led) (by intro q hq; (repeat (first | exact hq | exact List.mem_append_left _ hq | exact List.mem_append_left _ (List.mem_append_left _ hq) | exact List.mem_append_left _ (List.mem_append_right _ hq) | refine List.mem_cons_of_mem _ ?_ | refine List.mem_append_right _ ?_)))
  have N3 := news_sub N4 (news' := led3 ++ (led2 ++ (led1 ++ led))) (by intro q hq; exact List.mem_cons_of_mem _ (List.mem_cons_of_mem _ hq))
  have NA := news_sub N3 (news' := led1) (by intro q hq; (repeat (first | exact hq | exact List.mem_append_left _ hq | exact List.mem_append_left _ (List.mem_append_left _ hq) | exact List.mem_append_left _ (List.mem_append_right _ hq) | refine List.mem_cons_of_mem _ ?_ | refine List.mem_append_right _ ?_)))
  have NB := news_sub N3 (news' := led2) (by intro q hq; (repeat (first | exact hq | exact List.mem_append_left _ hq | exact List.mem_append_left _ (List.mem_append_left _ hq) | exact List.mem_append_left _ (List.mem_append_right _ hq) | refine List.mem_cons_of_mem _ ?_ | refine List.mem_append_right _ ?_)))
  have NC := news_sub N3 (news' := led3) (by intro q hq; (repeat (first | exact hq | exact List.mem_append_left _ hq | exact List.mem_append_left _ (List.mem_append_left _ hq) | exact List.mem_append_left _ (List.mem_append_right _ hq) | refine List.mem_cons_of_mem _ ?_ | refine List.mem_append_right _ ?_)))
  refine eq_nice (d := .tuple [toldD r1 fs1, toldD r2 fs2, toldD r3 fs3])
    (Reads.tuple (NL _ hb0).1 rfl rfl (ReadsAll.cons (as := []) (bs := []) (q1.reads NL) (ReadsAll.cons (as := []) (bs := []) (q2.reads NL) (ReadsAll.cons (as := []) (bs := []) (q3.reads NL) .nil))))
    (Reads.tuple (N4 _ (List.Mem.head _)).1 rfl rfl (ReadsAll.cons (as := []) (bs := []) (ht1.reads NA) (ReadsAll.cons (as := []) (bs := []) (ht2.reads NB) (ReadsAll.cons (as := []) (bs := []) (ht3.reads NC) .nil))))
    (nice_before _ _ _ _ _ _) (unL _ 64 (by decide)) ?_
  k_steps
  refine HoldP.mk ?_
  exact hQ _ rfl rfl F4.keep
end
section
open PySem PySem.W PyProof.Rows PySem.Calls PySem.Spec PyProof.V PySem.SeqAt

theorem law_rest7 {w : World} {mg mb : Str → Option Value} {g : Heap} {s : Shared} {fa : Addr} {cd : Value} {Q : Flow → Shared → Prop} {E : Value → Shared → Prop} {m0 : Str → Option Value}
  {both bt third other one pen DP : Addr} {tv : Option Value} {r1 r2 r3 : Int} {fs1 fs2 fs3 : List Int} {lc : Obj} {led : List (Addr × Obj)}
  (Gg : Gnd w mg mb g) (F : Fr g g.objs.size s.heap (fun z => if z = Str.ofString "tag" then tv else if z = Str.ofString "parts" then some (.ref DP) else lawMap both bt third other one pen m0 z))
  (N : News g g.objs.size s.heap ((g.objs.size + 1, lc) :: led))
  (h1 : LSIn w led one r1 fs1) (h2 : LSIn w led other r2 fs2) (h3 : LSIn w led third r3 fs3) (hb : LSIn w led both (if 0 ≤ r1 then r1 else r2) (once (fs1 ++ fs2)))
  (hl1 : fs1.length ≤ 4) (hl2 : fs2.length ≤ 4) (hl3 : fs3.length ≤ 4)
  (hbt : ∃ t1 t2 t3, (bt, tupObj [.ref t1, .ref t2, .ref t3]) ∈ led ∧ ToldIn led t1 r1 fs1 ∧ ToldIn led t2 r2 fs2 ∧ ToldIn led t3 r3 fs3)
  (hQ : ∀ s', s'.gens = s.gens → s'.os = s.os → (∀ b o, g.get? b = some o → s'.heap.get? b = some o) → Q (.ret (.bool true)) s') :
  wpAny (model PySem.Challenge.rw_pb0163_01.row.prog w) (callerA.deeper (envOfC (Str.ofString "law") (lawFn w).scope g.objs.size fa cd)) (execs ((lawStmts w).drop 12) (envOfC (Str.ofString "law") (lawFn w).scope g.objs.size fa cd)) Q E s := by
  have X := Gg.X
  have T := Gg.T
  conv in (List.drop 12 (lawStmts w)) => whnf
  conv in ((lawFn w).scope) => whnf
  conv in ((lawFn w).scope) => whnf
  unfold lawMap at F
  have hlb : (once (fs1 ++ fs2)).length ≤ 8 := Nat.le_trans (once_length _) (by rw [List.length_append]; omega)
  refine lsinK h1 ?_
  intro done lone kone1 kone2 tone vone eone mone1 mone2 mone3 hione
  refine lsinK h2 ?_
  intro dother lother kother1 kother2 tother vother eother mother1 mother2 mother3 hiother
  refine lsinK h3 ?_
  intro dthird lthird kthird1 kthird2 tthird vthird ethird mthird1 mthird2 mthird3 hithird
  refine lsinK hb ?_
  intro dboth lboth kboth1 kboth2 tboth vboth eboth mboth1 mboth2 mboth3 hiboth
  refine if_false (news := (g.objs.size + 1, lc) :: led) F ?_ ?_
  · k_steps
    refine merged_L1 Gg F N rfl (dpL _ _ (by decide)) (unL _ _ (by decide)) h1 (by intro q hq; (repeat (first | exact hq | exact List.mem_append_left _ hq | exact List.mem_append_left _ (List.mem_append_left _ hq) | exact List.mem_append_left _ (List.mem_append_right _ hq) | refine List.mem_cons_of_mem _ ?_ | refine List.mem_append_right _ ?_))) h1 (by intro q hq; (repeat (first | exact hq | exact List.mem_append_left _ hq | exact List.mem_append_left _ (List.mem_append_left _ hq) | exact List.mem_append_left _ (List.mem_append_right _ hq) | refine List.mem_cons_of_mem _ ?_ | refine List.mem_append_right _ ?_))) (by first | exact Nat.le_trans (by assumption) (by decide) | omega) (by first | exact Nat.le_trans (by assumption) (by decide) | omega) ?_
    intro x1 led1 hx1 tkx1 hin1 F1 N1
    clear F N
    refine lsinK hin1 ?_
    intro dm1 lm1 km11 km12 tm1 vm1 em1 mm11 mm12 mm13 him1
    have hlm : (once (fs1 ++ fs1)).length ≤ 8 := Nat.le_trans (once_length _) (by rw [List.length_append]; omega)
    k_steps
    refine told_L1 Gg F1 N1 rfl (dpL _ _ (by decide)) (unL _ _ (by decide)) hin1 (by intro q hq; (repeat (first | exact hq | exact List.mem_append_left _ hq | exact List.mem_append_left _ (List.mem_append_left _ hq) | exact List.mem_append_left _ (List.mem_append_right _ hq) | refine List.mem_cons_of_mem _ ?_ | refine List.mem_append_right _ ?_))) (by first | exact Nat.le_trans (by assumption) (by decide) | omega) ?_
    intro tX2 led2 hX2 tkX2 ht2 F2 N2
    clear F1 N1
    k_steps
    refine once_L Gg F2 N2 rfl (dpL _ _ (by decide)) (unL _ _ (by decide)) ((by (repeat (first | exact mone3 | exact List.mem_append_left _ mone3 | exact List.mem_append_left _ (List.mem_append_left _ mone3) | exact List.mem_append_left _ (List.mem_append_right _ mone3) | refine List.mem_cons_of_mem _ ?_ | refine List.mem_append_right _ ?_)))) hione (by first | exact Nat.le_trans (by assumption) (by decide) | omega) ?_
    intro D3 ys3 h3x tk3 hys3 hlen3 F3 N3
    clear F2 N2
    have hon3 := once_length fs1
    k_steps
    rename Fr _ _ _ _ => F4
    rename News _ _ _ _ => N4
    rw [ite_self, once_twice] at ht2
    refine ne_nice (ht2.reads (news_sub N4 (by intro q hq; (repeat (first | exact hq | exact List.mem_append_left _ hq | exact List.mem_append_left _ (List.mem_append_left _ hq) | exact List.mem_append_left _ (List.mem_append_right _ hq) | refine List.mem_cons_of_mem _ ?_ | refine List.mem_append_right _ ?_))))) (ToldIn.reads ⟨_, _, _, List.Mem.head _, List.Mem.tail _ (List.Mem.head _), hys3⟩ N4) (nice_told _ _) (unL _ 64 (by decide)) ?_
    k_steps
    exact HoldP.mk ⟨rfl, exi3 _ _ _ ⟨rfl, F4, news_sub N4 (by (repeat' (first | refine subCons ?_ ?_ | refine subApp ?_ ?_ | exact subNil | exact List.Mem.head _ | refine List.mem_cons_of_mem _ ?_ | (intro pS hS; (repeat (first | exact hS | exact List.mem_append_left _ hS | exact List.mem_append_left _ (List.mem_append_left _ hS) | exact List.mem_append_left _ (List.mem_append_right _ hS) | refine List.mem_cons_of_mem _ ?_ | refine List.mem_append_right _ ?_)); done) | refine List.mem_append_right _ ?_)))⟩⟩
  · intro h' tk' d' F' N'
    exact law_rest8 Gg F' N' h1 h2 h3 hb hl1 hl2 hl3 hbt hQ
end
section
open PySem PySem.W PyProof.Rows PySem.Calls PySem.Spec PyProof.V PySem.SeqAt

theorem law_rest6 {w : World} {mg mb : Str → Option Value} {g : Heap} {s : Shared} {fa : Addr} {cd : Value} {Q : Flow → Shared → Prop} {E : Value → Shared → Prop} {m0 : Str → Option Value}
  {both bt third other one pen DP : Addr} {tv : Option Value} {r1 r2 r3 : Int} {fs1 fs2 fs3 : List Int} {lc : Obj} {led : List (Addr × Obj)}
  (Gg : Gnd w mg mb g) (F : Fr g g.objs.size s.heap (fun z => if z = Str.ofString "tag" then tv else if z = Str.ofString "parts" then some (.ref DP) else lawMap both bt third other one pen m0 z))
  (N : News g g.objs.size s.heap ((g.objs.size + 1, lc) :: led))
  (h1 : LSIn w led one r1 fs1) (h2 : LSIn w led other r2 fs2) (h3 : LSIn w led third r3 fs3) (hb : LSIn w led both (if 0 ≤ r1 then r1 else r2) (once (fs1 ++ fs2)))
  (hl1 : fs1.length ≤ 4) (hl2 : fs2.length ≤ 4) (hl3 : fs3.length ≤ 4)
  (hbt : ∃ t1 t2 t3, (bt, tupObj [.ref t1, .ref t2, .ref t3]) ∈ led ∧ ToldIn led t1 r1 fs1 ∧ ToldIn led t2 r2 fs2 ∧ ToldIn led t3 r3 fs3)
  (hQ : ∀ s', s'.gens = s.gens → s'.os = s.os → (∀ b o, g.get? b = some o → s'.heap.get? b = some o) → Q (.ret (.bool true)) s') :
  wpAny (model PySem.Challenge.rw_pb0163_01.row.prog w) (callerA.deeper (envOfC (Str.ofString "law") (lawFn w).scope g.objs.size fa cd)) (execs ((lawStmts w).drop 11) (envOfC (Str.ofString "law") (lawFn w).scope g.objs.size fa cd)) Q E s := by
  have X := Gg.X
  have T := Gg.T
  conv in (List.drop 11 (lawStmts w)) => whnf
  conv in ((lawFn w).scope) => whnf
  conv in ((lawFn w).scope) => whnf
  unfold lawMap at F
  have hlb : (once (fs1 ++ fs2)).length ≤ 8 := Nat.le_trans (once_length _) (by rw [List.length_append]; omega)
  refine lsinK h1 ?_
  intro done lone kone1 kone2 tone vone eone mone1 mone2 mone3 hione
  refine lsinK h2 ?_
  intro dother lother kother1 kother2 tother vother eother mother1 mother2 mother3 hiother
  refine lsinK h3 ?_
  intro dthird lthird kthird1 kthird2 tthird vthird ethird mthird1 mthird2 mthird3 hithird
  refine lsinK hb ?_
  intro dboth lboth kboth1 kboth2 tboth vboth eboth mboth1 mboth2 mboth3 hiboth
  have hlc : (once (fs2 ++ fs3)).length ≤ 8 := Nat.le_trans (once_length _) (by rw [List.length_append]; omega)
  have hle : (once (once (fs1 ++ fs2) ++ fs3)).length ≤ 12 := Nat.le_trans (once_length _) (by rw [List.length_append]; omega)
  have hlf : (once (fs1 ++ once (fs2 ++ fs3))).length ≤ 12 := Nat.le_trans (once_length _) (by rw [List.length_append]; omega)
  refine if_false (news := (g.objs.size + 1, lc) :: led) F ?_ ?_
  · k_steps
    refine merged_L1 Gg F N rfl (dpL _ _ (by decide)) (unL _ _ (by decide)) hb (by intro q hq; (repeat (first | exact hq | exact List.mem_append_left _ hq | exact List.mem_append_left _ (List.mem_append_left _ hq) | exact List.mem_append_left _ (List.mem_append_right _ hq) | refine List.mem_cons_of_mem _ ?_ | refine List.mem_append_right _ ?_))) h3 (by intro q hq; (repeat (first | exact hq | exact List.mem_append_left _ hq | exact List.mem_append_left _ (List.mem_append_left _ hq) | exact List.mem_append_left _ (List.mem_append_right _ hq) | refine List.mem_cons_of_mem _ ?_ | refine List.mem_append_right _ ?_))) (by first | exact Nat.le_trans (by assumption) (by decide) | omega) (by first | exact Nat.le_trans (by assumption) (by decide) | omega) ?_
    intro x1 led1 hx1 tkx1 hin1 F1 N1
    clear F N
    refine lsinK hin1 ?_
    intro dm1 lm1 km11 km12 tm1 vm1 em1 mm11 mm12 mm13 him1
    k_steps
    refine told_L1 Gg F1 N1 rfl (dpL _ _ (by decide)) (unL _ _ (by decide)) hin1 (by intro q hq; (repeat (first | exact hq | exact List.mem_append_left _ hq | exact List.mem_append_left _ (List.mem_append_left _ hq) | exact List.mem_append_left _ (List.mem_append_right _ hq) | refine List.mem_cons_of_mem _ ?_ | refine List.mem_append_right _ ?_))) (by first | exact Nat.le_trans (by assumption) (by decide) | omega) ?_
    intro tX2 led2 hX2 tkX2 ht2 F2 N2
    clear F1 N1
    k_steps
    refine merged_L1 Gg F2 N2 rfl (dpL _ _ (by decide)) (unL _ _ (by decide)) h2 (by intro q hq; (repeat (first | exact hq | exact List.mem_append_left _ hq | exact List.mem_append_left _ (List.mem_append_left _ hq) | exact List.mem_append_left _ (List.mem_append_right _ hq) | refine List.mem_cons_of_mem _ ?_ | refine List.mem_append_right _ ?_))) h3 (by intro q hq; (repeat (first | exact hq | exact List.mem_append_left _ hq | exact List.mem_append_left _ (List.mem_append_left _ hq) | exact List.mem_append_left _ (List.mem_append_right _ hq) | refine List.mem_cons_of_mem _ ?_ | refine List.mem_append_right _ ?_))) (by first | exact Nat.le_trans (by assumption) (by decide) | omega) (by first | exact Nat.le_trans (by assumption) (by decide) | omega) ?_
    intro x3 led3 hx3 tkx3 hin3 F3 N3
    clear F2 N2
    refine lsinK hin3 ?_
    intro dm3 lm3 km31 km32 tm3 vm3 em3 mm31 mm32 mm33 him3
    k_steps
    refine merged_L1 Gg F3 N3 rfl (dpL _ _ (by decide)) (unL _ _ (by decide)) h1 (by intro q hq; (repeat (first | exact hq | exact List.mem_append_left _ hq | exact List.mem_append_left _ (List.mem_append_left _ hq) | exact List.mem_append_left _ (List.mem_append_right _ hq) | refine List.mem_cons_of_mem _ ?_ | refine List.mem_append_right _ ?_))) hin3 (by intro q hq; (repeat (first | exact hq | exact List.mem_append_left _ hq | exact List.mem_append_left _ (List.mem_append_left _ hq) | exact List.mem_append_left _ (List.mem_append_right _ hq) | refine List.mem_cons_of_mem _ ?_ | refine List.mem_append_right _ ?_))) (by first | exact Nat.le_trans (by assumption) (by decide) | omega) (by first | exact Nat.le_trans (by assumption) (by decide) | omega) ?_
    intro x4 led4 hx4 tkx4 hin4 F4 N4
    clear F3 N3
    refine lsinK hin4 ?_
    intro dm4 lm4 km41 km42 tm4 vm4 em4 mm41 mm42 mm43 him4
    k_steps
    refine told_L1 Gg F4 N4 rfl (dpL _ _ (by decide)) (unL _ _ (by decide)) hin4 (by intro q hq; (repeat (first | exact hq | exact List.mem_append_left _ hq | exact List.mem_append_left _ (List.mem_append_left _ hq) | exact List.mem_append_left _ (List.mem_append_right _ hq) | refine List.mem_cons_of_mem _ ?_ | refine List.mem_append_right _ ?_))) (by first | exact Nat.le_trans (by assumption) (by decide) | omega) ?_
    intro tX5 led5 hX5 tkX5 ht5 F5 N5
    clear F4 N4
    k_steps
    have e : (if 0 ≤ (if 0 ≤ r1 then r1 else r2) then (if 0 ≤ r1 then r1 else r2) else r3) = (if 0 ≤ r1 then r1 else if 0 ≤ r2 then r2 else r3) := by
      by_cases a : 0 ≤ r1
      · simp [a]
      · simp [a]
    rw [e, once_assoc] at ht2
    refine ne_nice (ht2.reads (news_sub N5 (by intro q hq; (repeat (first | exact hq | exact List.mem_append_left _ hq | exact List.mem_append_left _ (List.mem_append_left _ hq) | exact List.mem_append_left _ (List.mem_append_right _ hq) | refine List.mem_cons_of_mem _ ?_ | refine List.mem_append_right _ ?_))))) (ht5.reads (news_sub N5 (by intro q hq; (repeat (first | exact hq | exact List.mem_append_left _ hq | exact List.mem_append_left _ (List.mem_append_left _ hq) | exact List.mem_append_left _ (List.mem_append_right _ hq) | refine List.mem_cons_of_mem _ ?_ | refine List.mem_append_right _ ?_))))) (nice_told _ _) (unL _ 64 (by decide)) ?_
    k_steps
    exact HoldP.mk ⟨rfl, exi3 _ _ _ ⟨rfl, F5, news_sub N5 (by (repeat' (first | refine subCons ?_ ?_ | refine subApp ?_ ?_ | exact subNil | exact List.Mem.head _ | refine List.mem_cons_of_mem _ ?_ | (intro pS hS; (repeat (first | exact hS | exact List.mem_append_left _ hS | exact List.mem_append_left _ (List.mem_append_left _ hS) | exact List.mem_append_left _ (List.mem_append_right _ hS) | refine List.mem_cons_of_mem _ ?_ | refine List.mem_append_right _ ?_)); done) | refine List.mem_append_right _ ?_)))⟩⟩
  · intro h' tk' d' F' N'
    exact law_rest7 Gg F' N' h1 h2 h3 hb hl1 hl2 hl3 hbt hQ
end
section
open PySem PySem.W PyProof.Rows PySem.Calls PySem.Spec PyProof.V PySem.SeqAt


section
variable {prog : Program} {w : World} {A : Around} {E : Value → Shared → Prop} {s : Shared} {g : Heap} {env : Env}
theorem if_falseN {test : PySem.Expr} {body rest : List Stmt} {pos : Pos} {m : Str → Option Value} {news : List (Addr × Obj)} {Q : Flow → Shared → Prop} (_F : Fr g env.locals s.heap m)
    (h : wpAny (model prog w) A (isTrue test env (eval test env)) (fun b s' => HoldP (b = false ∧ ∃ h' tk', s' = { s with heap := h', toks := tk' } ∧ Fr g env.locals h' m ∧ News g env.locals h' news)) E s)
    (k : ∀ h' tk', Fr g env.locals h' m → News g env.locals h' news → wpAny (model prog w) A (execs rest env) Q E { s with heap := h', toks := tk' }) :
    wpAny (model prog w) A (execs (.If test body [] pos :: rest) env) Q E s := by
  refine exec1 (wpAny_If (wpAny_mono h (fun b s' x => ?_) fun _ _ e => e))
  obtain ⟨rfl, h', tk', rfl, F', N'⟩ := x.out
  rw [if_neg (by simp)]
  exact wpAny_execs_nil (HoldP.mk (k h' tk' F' N'))
end
theorem featIdx_len (fts : List (Str × List Int)) (fs : List Int) (tag : Str) : (featIdx fts fs tag).length ≤ fs.length := List.length_filter_le _ _
theorem law_rest5 {w : World} {mg mb : Str → Option Value} {g : Heap} {s : Shared} {fa : Addr} {cd : Value} {Q : Flow → Shared → Prop} {E : Value → Shared → Prop} {m0 : Str → Option Value}
  {both bt third other one pen lay DP : Addr} {r1 r2 r3 : Int} {fs1 fs2 fs3 : List Int} {fts : List (Str × List Int)} {nl : Nat} {lc : Obj} {led : List (Addr × Obj)}
  (Gg : Gnd w mg mb g) (F : Fr g g.objs.size s.heap (fun z => if z = Str.ofString "parts" then some (.ref DP) else lawMap both bt third other one pen m0 z))
  (N : News g g.objs.size s.heap ((g.objs.size + 1, lc) :: led)) (dlc : lc.data = .cell (some (.ref lay)))
  (hlay : LayIn w led lay fts nl) (hf5 : fts.length ≤ 5) (hft : ∀ ft ∈ fts, FtOk ft) (hnl : nl ≤ 6)
  (h1 : LSIn w led one r1 fs1) (h2 : LSIn w led other r2 fs2) (h3 : LSIn w led third r3 fs3) (hb : LSIn w led both (if 0 ≤ r1 then r1 else r2) (once (fs1 ++ fs2)))
  (hl1 : fs1.length ≤ 4) (hl2 : fs2.length ≤ 4) (hl3 : fs3.length ≤ 4)
  (hbt : ∃ t1 t2 t3, (bt, tupObj [.ref t1, .ref t2, .ref t3]) ∈ led ∧ ToldIn led t1 r1 fs1 ∧ ToldIn led t2 r2 fs2 ∧ ToldIn led t3 r3 fs3)
  (hQ : ∀ s', s'.gens = s.gens → s'.os = s.os → (∀ b o, g.get? b = some o → s'.heap.get? b = some o) → Q (.ret (.bool true)) s') :
  wpAny (model PySem.Challenge.rw_pb0163_01.row.prog w) (callerA.deeper (envOfC (Str.ofString "law") (lawFn w).scope g.objs.size fa cd)) (execs ((lawStmts w).drop 10) (envOfC (Str.ofString "law") (lawFn w).scope g.objs.size fa cd)) Q E s := by
  have X := Gg.X
  have T := Gg.T
  conv in (List.drop 10 (lawStmts w)) => whnf
  conv in ((lawFn w).scope) => whnf
  conv in ((lawFn w).scope) => whnf
  unfold lawMap at F
  have hlb : (once (fs1 ++ fs2)).length ≤ 8 := Nat.le_trans (once_length _) (by rw [List.length_append]; omega)
  refine exec1 ?_
  with_unfolding_all refine for_start g (by rfl) (by rfl) ?_
  k_steps
  refine HoldP.mk ?_
  rename Fr _ _ _ _ => F5
  rename News _ _ _ _ => N5
  rename_i T5 hC l2
  have LT5 : @Ne Nat g.objs.size T5 := by first | exact Nat.ne_of_gt l2.1 | exact Nat.ne_of_lt l2.1 | exact Nat.ne_of_lt (Nat.lt_of_succ_lt l2.1) | (have := l2.1; omega)
  refine loop_tuple (news := (g.objs.size + 1, lc) :: led) (fun m₀ i m nw => nw = (g.objs.size + 1, lc) :: led ∧ ∀ z, z ≠ Str.ofString "tag" → m z = m₀ z)
      rfl ⟨_, N5.get (a := T5) (List.Mem.head _), rfl, _, rfl⟩ LT5 ?_ F5 (news_sub N5 ?_) ⟨rfl, fun _ _ => rfl⟩ ?_ ?_
  · exact (allCons (Nat.ne_of_lt l2.1) (fun p hp => Nat.ne_of_lt (ktn_ltOf l2.2 p hp)))
  · exact fun p hp => List.mem_cons_of_mem _ hp
  · rintro i v m₁ nw₁ h6 tk6 own hv - hown ⟨rfl, hm⟩ F6 N6
    rw [map1 hm] at F6
    obtain ⟨tg, tt, rfl⟩ : ∃ tg tt, v = .str tg tt := by
      have := List.mem_of_getElem? (by rw [← Array.getElem?_toList] at hv; exact hv)
      simp only [List.mem_cons, List.not_mem_nil, or_false] at this
      rcases this with rfl | rfl | rfl | rfl <;> exact ⟨_, _, rfl⟩
    refine if_falseN (news := ((g.objs.size + 1, lc) :: led) ++ own) F6 ?_ ?_
    · k_steps
      refine findex_L Gg F6 N6 rfl (dpL _ _ (by decide)) (unL _ _ (by decide)) hlay (by intro q hq; (repeat (first | exact hq | exact List.mem_append_left _ hq | exact List.mem_append_left _ (List.mem_append_left _ hq) | exact List.mem_append_left _ (List.mem_append_right _ hq) | refine List.mem_cons_of_mem _ ?_ | refine List.mem_append_right _ ?_))) hb (by intro q hq; (repeat (first | exact hq | exact List.mem_append_left _ hq | exact List.mem_append_left _ (List.mem_append_left _ hq) | exact List.mem_append_left _ (List.mem_append_right _ hq) | refine List.mem_cons_of_mem _ ?_ | refine List.mem_append_right _ ?_))) hf5 (by first | exact Nat.le_trans (by assumption) (by decide) | omega) ?_
      intro D7 ys7 e7 hx7 tkx7 hi7 F7 N7
      clear F6 N6
      k_steps
      refine findex_L Gg F7 N7 rfl (dpL _ _ (by decide)) (unL _ _ (by decide)) hlay (by intro q hq; (repeat (first | exact hq | exact List.mem_append_left _ hq | exact List.mem_append_left _ (List.mem_append_left _ hq) | exact List.mem_append_left _ (List.mem_append_right _ hq) | refine List.mem_cons_of_mem _ ?_ | refine List.mem_append_right _ ?_))) h1 (by intro q hq; (repeat (first | exact hq | exact List.mem_append_left _ hq | exact List.mem_append_left _ (List.mem_append_left _ hq) | exact List.mem_append_left _ (List.mem_append_right _ hq) | refine List.mem_cons_of_mem _ ?_ | refine List.mem_append_right _ ?_))) hf5 (by first | exact Nat.le_trans (by assumption) (by decide) | omega) ?_
      intro D8 ys8 e8 hx8 tkx8 hi8 F8 N8
      clear F7 N7
      k_steps
      refine findex_L Gg F8 N8 rfl (dpL _ _ (by decide)) (unL _ _ (by decide)) hlay (by intro q hq; (repeat (first | exact hq | exact List.mem_append_left _ hq | exact List.mem_append_left _ (List.mem_append_left _ hq) | exact List.mem_append_left _ (List.mem_append_right _ hq) | refine List.mem_cons_of_mem _ ?_ | refine List.mem_append_right _ ?_))) h2 (by intro q hq; (repeat (first | exact hq | exact List.mem_append_left _ hq | exact List.mem_append_left _ (List.mem_append_left _ hq) | exact List.mem_append_left _ (List.mem_append_right _ hq) | refine List.mem_cons_of_mem _ ?_ | refine List.mem_append_right _ ?_))) hf5 (by first | exact Nat.le_trans (by assumption) (by decide) | omega) ?_
      intro D9 ys9 e9 hx9 tkx9 hi9 F9 N9
      clear F8 N8
      k_steps
      have z8 := featIdx_len fts fs1 tg
      have z9 := featIdx_len fts fs2 tg
      have zz : (featIdx fts fs1 tg ++ featIdx fts fs2 tg).length ≤ 8 := by rw [List.length_append]; omega
      refine add_bag F9 N9 (List.Mem.tail _ (List.Mem.head _)) (fun _ h => h) (List.Mem.head _) (fun _ h => h) hi8 hi9 (by first | exact Nat.le_trans (by assumption) (by decide) | omega) ?_
      intro DA usA hA FA NA lA hIA
      clear F9 N9
      k_steps
      refine once_L Gg FA NA rfl (dpL _ _ (by decide)) (unL _ _ (by decide)) (List.Mem.head _) hIA (by first | exact Nat.le_trans (by assumption) (by decide) | omega) ?_
      intro DB ysB hBx tkB hysB hlenB FB NB
      clear FA NA
      rw [featIdx_once] at hi7
      k_steps
      exact HoldP.mk ⟨by simp, _, _, rfl, FB, news_sub NB (fun p hp => List.mem_cons_of_mem _ (List.mem_cons_of_mem _ (List.mem_cons_of_mem _ (List.mem_cons_of_mem _ (List.mem_cons_of_mem _ hp)))))⟩
    · intro h' tk' F' N'
      refine wpAny_execs_nil ?_
      refine InvEndN.intro (nx := (g.objs.size + 1, lc) :: led) F' N' ⟨rfl, fun z hz => by simp [hz]⟩ rfl (fun p hp => List.mem_append_left _ hp) (fun p hp => List.mem_append_right _ hp)
  · rintro m₁ nw₁ h6 tk6 ⟨rfl, hm⟩ F6 N6
    refine HoldP.mk ?_
    have em := funext fun z => (show m₁ z = if z = Str.ofString "tag" then m₁ (Str.ofString "tag") else if z = Str.ofString "parts" then some (.ref DP) else lawMap both bt third other one pen m0 z from by
      by_cases hz : z = Str.ofString "tag"
      · rw [if_pos hz, hz]
      · rw [if_neg hz]; exact hm z hz)
    have F7 := F6
    rw [em] at F7
    exact law_rest6 (tv := m₁ (Str.ofString "tag")) (DP := DP) Gg F7 N6 h1 h2 h3 hb hl1 hl2 hl3 hbt hQ
end
section
open PySem PySem.W PyProof.Rows PySem.Calls PySem.Spec PyProof.V PySem.SeqAt


theorem nodup_len {α : Type} [DecidableEq α] : ∀ {l l' : List α}, l.Nodup → (∀ x ∈ l, x ∈ l') → l.length ≤ l'.length
  | [], _, _, _ => Nat.zero_le _
  | a :: r, l', hd, h => by
    obtain ⟨h1, h2⟩ := List.nodup_cons.mp hd
    have ha := h a (List.Mem.head _)
    have := nodup_len (l := r) (l' := l'.erase a) h2 fun x hx => (List.mem_erase_of_ne (fun q : x = a => h1 (by rw [← q]; exact hx))).mpr (h x (List.mem_cons_of_mem _ hx))
    rw [List.length_erase_of_mem ha] at this
    have hp := List.length_pos_of_mem ha
    simp only [List.length_cons]
    omega
theorem law_rest4 {w : World} {mg mb : Str → Option Value} {g : Heap} {s : Shared} {fa : Addr} {cd : Value} {Q : Flow → Shared → Prop} {E : Value → Shared → Prop} {m0 : Str → Option Value}
  {both bt third other one pen lay DP : Addr} {r1 r2 r3 : Int} {fs1 fs2 fs3 : List Int} {fts : List (Str × List Int)} {nl : Nat} {lc : Obj} {led : List (Addr × Obj)}
  (Gg : Gnd w mg mb g) (F : Fr g g.objs.size s.heap (fun z => if z = Str.ofString "parts" then some (.ref DP) else lawMap both bt third other one pen m0 z))
  (N : News g g.objs.size s.heap ((g.objs.size + 1, lc) :: led)) (dlc : lc.data = .cell (some (.ref lay)))
  (hlay : LayIn w led lay fts nl) (hf5 : fts.length ≤ 5) (hft : ∀ ft ∈ fts, FtOk ft) (hnl : nl ≤ 6)
  (h1 : LSIn w led one r1 fs1) (h2 : LSIn w led other r2 fs2) (h3 : LSIn w led third r3 fs3) (hb : LSIn w led both (if 0 ≤ r1 then r1 else r2) (once (fs1 ++ fs2)))
  (hl1 : fs1.length ≤ 4) (hl2 : fs2.length ≤ 4) (hl3 : fs3.length ≤ 4)
  (hbt : ∃ t1 t2 t3, (bt, tupObj [.ref t1, .ref t2, .ref t3]) ∈ led ∧ ToldIn led t1 r1 fs1 ∧ ToldIn led t2 r2 fs2 ∧ ToldIn led t3 r3 fs3)
  (hQ : ∀ s', s'.gens = s.gens → s'.os = s.os → (∀ b o, g.get? b = some o → s'.heap.get? b = some o) → Q (.ret (.bool true)) s') :
  wpAny (model PySem.Challenge.rw_pb0163_01.row.prog w) (callerA.deeper (envOfC (Str.ofString "law") (lawFn w).scope g.objs.size fa cd)) (execs ((lawStmts w).drop 9) (envOfC (Str.ofString "law") (lawFn w).scope g.objs.size fa cd)) Q E s := by
  have X := Gg.X
  have T := Gg.T
  conv in (List.drop 9 (lawStmts w)) => whnf
  conv in ((lawFn w).scope) => whnf
  conv in ((lawFn w).scope) => whnf
  unfold lawMap at F
  have hlb : (once (fs1 ++ fs2)).length ≤ 8 := Nat.le_trans (once_length _) (by rw [List.length_append]; omega)
  refine if_false (news := (g.objs.size + 1, lc) :: led) F ?_ ?_
  · k_steps
    refine offered_L Gg F N rfl (dpL _ _ (by decide)) (unL _ _ (by decide)) hlay (by intro q hq; (repeat (first | exact hq | exact List.mem_append_left _ hq | exact List.mem_append_left _ (List.mem_append_left _ hq) | exact List.mem_append_left _ (List.mem_append_right _ hq) | refine List.mem_cons_of_mem _ ?_ | refine List.mem_append_right _ ?_))) hb (by intro q hq; (repeat (first | exact hq | exact List.mem_append_left _ hq | exact List.mem_append_left _ (List.mem_append_left _ hq) | exact List.mem_append_left _ (List.mem_append_right _ hq) | refine List.mem_cons_of_mem _ ?_ | refine List.mem_append_right _ ?_))) hf5 (by first | exact Nat.le_trans (by assumption) (by decide) | omega) ?_
    intro D0 vs0 ss0 e0 h4 tk4 hs0 ho0 hn0 hm0 hz0 F4 N4
    clear F N
    k_steps
    refine offered_L Gg F4 N4 rfl (dpL _ _ (by decide)) (unL _ _ (by decide)) hlay (by intro q hq; (repeat (first | exact hq | exact List.mem_append_left _ hq | exact List.mem_append_left _ (List.mem_append_left _ hq) | exact List.mem_append_left _ (List.mem_append_right _ hq) | refine List.mem_cons_of_mem _ ?_ | refine List.mem_append_right _ ?_))) h1 (by intro q hq; (repeat (first | exact hq | exact List.mem_append_left _ hq | exact List.mem_append_left _ (List.mem_append_left _ hq) | exact List.mem_append_left _ (List.mem_append_right _ hq) | refine List.mem_cons_of_mem _ ?_ | refine List.mem_append_right _ ?_))) hf5 (by first | exact Nat.le_trans (by assumption) (by decide) | omega) ?_
    intro D1 vs1 ss1 e1 h5 tk5 hs1 ho1 hn1 hm1 hz1 F5 N5
    clear F4 N4
    k_steps
    refine offered_L Gg F5 N5 rfl (dpL _ _ (by decide)) (unL _ _ (by decide)) hlay (by intro q hq; (repeat (first | exact hq | exact List.mem_append_left _ hq | exact List.mem_append_left _ (List.mem_append_left _ hq) | exact List.mem_append_left _ (List.mem_append_right _ hq) | refine List.mem_cons_of_mem _ ?_ | refine List.mem_append_right _ ?_))) h2 (by intro q hq; (repeat (first | exact hq | exact List.mem_append_left _ hq | exact List.mem_append_left _ (List.mem_append_left _ hq) | exact List.mem_append_left _ (List.mem_append_right _ hq) | refine List.mem_cons_of_mem _ ?_ | refine List.mem_append_right _ ?_))) hf5 (by first | exact Nat.le_trans (by assumption) (by decide) | omega) ?_
    intro D2 vs2 ss2 e2 h6 tk6 hs2 ho2 hn2 hm2 hz2 F6 N6
    clear F5 N5
    k_steps
    have z1 := strs_len hs1
    have z2 := strs_len hs2
    refine add_lists (vs := vs1) (ws := vs2) F6 N6 (N6.isList (a := D1) (List.Mem.tail _ (List.Mem.head _))) (N6.isList (a := D2) (List.Mem.head _)) ?_ (by rw [sizeLine_eq]; omega)
    intro h7 F7 N7
    clear F6 N6
    k_steps
    refine set_strs rfl ⟨_, (N7 _ (List.Mem.head _)).1, rfl, _, rfl⟩ (strs_app hs1 hs2) (by rw [List.length_append]; omega) ?_
    intro DS ks h8 tk8 hSS hks hkl fDS keep8
    refine kp0K F7 N7 (fun a o e _ => keep8 a o e) ?_
    intro F8 N8
    clear F7 N7
    have hSS' := hSS
    have hkn : ks.Nodup := by obtain ⟨_, _, _, d⟩ := hSS; exact d.nodup
    have hk5 : ks.length ≤ fts.length := by
      rw [← List.length_map (f := (·.1)) (as := fts)]
      refine nodup_len hkn fun x hx => ?_
      have ht : ∀ fs, TagOn fts fs x → x ∈ fts.map (·.1) := fun fs ⟨n, _, e⟩ => by
        unfold tagOf at e
        split at e
        · obtain ⟨ft, h1, h2⟩ := Option.map_eq_some_iff.mp e
          exact List.mem_map.mpr ⟨ft, List.mem_of_getElem? h1, h2⟩
        · cases e
      rw [hks, List.mem_append, hm1, hm2] at hx
      exact hx.elim (ht _) (ht _)
    k_steps
    refine sorted_set rfl hSS' (by first | exact Nat.le_trans (by assumption) (by decide) | omega) ?_
    intro DR h9 tk9 d9 vs9 ss9 c9 hs9 hp9 ho9 eDR fDR keep9
    refine kp1K DR (W.listOf vs9.toArray c9) F8 N8 (fun a o e _ => keep9 a o e) eDR fDR ?_
    intro F9 N9
    clear F8 N8
    obtain rfl : ss9 = ss0 := sorted_uniq' ho9 ho0 (hp9.nodup_iff.mpr hkn) hn0 fun x => by
      rw [hp9.mem_iff, hks, List.mem_append, hm1, hm2, hm0, tagOn_once]
    have hok : ∀ x ∈ ss9, PyData.strOk x = true := fun x hx => by
      obtain ⟨n, _, e⟩ := (hm0 x).mp hx
      unfold tagOf at e
      split at e
      · obtain ⟨ft, h1, h2⟩ := Option.map_eq_some_iff.mp e
        rw [← h2]; exact (hft ft (List.mem_of_getElem? h1)).1.2
      · cases e
    refine ne_nice (Reads.list (N9.get (a := D0) (by k_mem)) rfl rfl (by simpa using strs_readsAll hs0)) (Reads.list (N9.get (a := DR) (List.Mem.head _)) rfl rfl (by simpa using strs_readsAll hs9)) (nice_strs hok) (unL _ 64 (by decide)) ?_
    k_steps
    exact HoldP.mk ⟨rfl, exi3 _ _ _ ⟨rfl, F9, news_sub N9 (by (repeat' (first | refine subCons ?_ ?_ | refine subApp ?_ ?_ | exact subNil | exact List.Mem.head _ | refine List.mem_cons_of_mem _ ?_ | (intro pS hS; (repeat (first | exact hS | exact List.mem_append_left _ hS | exact List.mem_append_left _ (List.mem_append_left _ hS) | exact List.mem_append_left _ (List.mem_append_right _ hS) | refine List.mem_cons_of_mem _ ?_ | refine List.mem_append_right _ ?_)); done) | refine List.mem_append_right _ ?_)))⟩⟩
  · intro h' tk' d' F' N'
    exact law_rest5 Gg F' N' dlc hlay hf5 hft hnl h1 h2 h3 hb hl1 hl2 hl3 hbt hQ
end
section
open PySem PySem.W PyProof.Rows PySem.Calls PySem.Spec PyProof.V PySem.SeqAt


theorem law_rest3 {w : World} {mg mb : Str → Option Value} {g : Heap} {s : Shared} {fa : Addr} {cd : Value} {Q : Flow → Shared → Prop} {E : Value → Shared → Prop} {m0 : Str → Option Value}
  {both bt third other one pen lay wd DP D1 D2 : Addr} {r1 r2 r3 : Int} {fs1 fs2 fs3 : List Int} {fts : List (Str × List Int)} {nl : Nat} {wc lc wo : Obj} {led : List (Addr × Obj)} {kw : List (Str × Value)} {wt : Str → Nat}
  (Gg : Gnd w mg mb g) (F : Fr g g.objs.size s.heap (fun z => if z = Str.ofString "parts" then some (.ref DP) else lawMap both bt third other one pen m0 z))
  (N : News g g.objs.size s.heap ((DP, LCg.lst [.ref D1, .ref D2]) :: (wd, wo) :: (g.objs.size + 1 + 1, wc) :: (g.objs.size + 1, lc) :: led))
  (dwc : wc.data = .cell (some (.ref wd))) (dlc : lc.data = .cell (some (.ref lay)))
  (low : (wd == sysModules) = false) (hwo : wo.IsDictOf (PySem.strKind PySem.Challenge.rw_pb0163_01.row.prog w) kw) (hkw : kw.length ≤ 16) (hwt : ∀ t ∈ kw.map (·.1), ∃ tok, valueAt kw t = some (.int (wt t : Int) tok))
  (hg1 : Gath fts nl wt (kw.map (·.1)) led D1 fs1) (hg2 : Gath fts nl wt (kw.map (·.1)) led D2 fs2)
  (hlay : LayIn w led lay fts nl) (hf5 : fts.length ≤ 5) (hft : ∀ ft ∈ fts, FtOk ft) (hnl : nl ≤ 6)
  (h1 : LSIn w led one r1 fs1) (h2 : LSIn w led other r2 fs2) (h3 : LSIn w led third r3 fs3) (hb : LSIn w led both (if 0 ≤ r1 then r1 else r2) (once (fs1 ++ fs2)))
  (hl1 : fs1.length ≤ 4) (hl2 : fs2.length ≤ 4) (hl3 : fs3.length ≤ 4)
  (hbt : ∃ t1 t2 t3, (bt, tupObj [.ref t1, .ref t2, .ref t3]) ∈ led ∧ ToldIn led t1 r1 fs1 ∧ ToldIn led t2 r2 fs2 ∧ ToldIn led t3 r3 fs3)
  (hQ : ∀ s', s'.gens = s.gens → s'.os = s.os → (∀ b o, g.get? b = some o → s'.heap.get? b = some o) → Q (.ret (.bool true)) s') :
  wpAny (model PySem.Challenge.rw_pb0163_01.row.prog w) (callerA.deeper (envOfC (Str.ofString "law") (lawFn w).scope g.objs.size fa cd)) (execs ((lawStmts w).drop 8) (envOfC (Str.ofString "law") (lawFn w).scope g.objs.size fa cd)) Q E s := by
  have X := Gg.X
  have T := Gg.T
  conv in (List.drop 8 (lawStmts w)) => whnf
  conv in ((lawFn w).scope) => whnf
  conv in ((lawFn w).scope) => whnf
  unfold lawMap at F
  have hlb : (once (fs1 ++ fs2)).length ≤ 8 := Nat.le_trans (once_length _) (by rw [List.length_append]; omega)
  refine if_false (news := (DP, LCg.lst [.ref D1, .ref D2]) :: (wd, wo) :: (g.objs.size + 1 + 1, wc) :: (g.objs.size + 1, lc) :: led) F ?_ ?_
  · k_steps
    refine gather_ok (kw := kw) (wt := wt) Gg F.keep rfl (dpL _ _ (by decide)) (unL _ _ (by decide)) (hlay.at (news_sub N (by intro q hq; (repeat (first | exact hq | exact List.mem_append_left _ hq | exact List.mem_append_left _ (List.mem_append_left _ hq) | exact List.mem_append_left _ (List.mem_append_right _ hq) | refine List.mem_cons_of_mem _ ?_ | refine List.mem_append_right _ ?_))))) (hb.at (news_sub N (by intro q hq; (repeat (first | exact hq | exact List.mem_append_left _ hq | exact List.mem_append_left _ (List.mem_append_left _ hq) | exact List.mem_append_left _ (List.mem_append_right _ hq) | refine List.mem_cons_of_mem _ ?_ | refine List.mem_append_right _ ?_))))) hf5 (by first | exact Nat.le_trans (by assumption) (by decide) | omega) hnl hft
      (kda_dict N (d := wd) (o := wo) (by k_mem) hwo) low hkw hwt ?_
    intro D' ss kns h4 tk4 hsp hso hli hkl hpr kp
    refine ex1 hpr.ledger ?_
    intro ledp hlz
    have hlp := hlz.1
    refine kpLK ledp F N kp hlz.2 ?_
    intro F4 N4
    clear hlz
    have N5 := news_sub N4 (news' := (DP, LCg.lst [.ref D1, .ref D2]) :: (wd, wo) :: (g.objs.size + 1 + 1, wc) :: (g.objs.size + 1, lc) :: (ledp ++ led)) (by (repeat' (first | refine subCons ?_ ?_ | refine subApp ?_ ?_ | exact subNil | exact List.Mem.head _ | refine List.mem_cons_of_mem _ ?_ | (intro pS hS; (repeat (first | exact hS | exact List.mem_append_left _ hS | exact List.mem_append_left _ (List.mem_append_left _ hS) | exact List.mem_append_left _ (List.mem_append_right _ hS) | refine List.mem_cons_of_mem _ ?_ | refine List.mem_append_right _ ?_)); done) | refine List.mem_append_right _ ?_)))
    clear F N N4 hpr
    k_steps
    refine ex2 hg1 ?_
    intro ss1 kns1 pz1
    have p1a := pz1.1
    have p1b := pz1.2.1
    have p1c := pz1.2.2.1
    have p1d := pz1.2.2.2.1
    have p1e := pz1.2.2.2.2
    clear pz1
    refine ex2 hg2 ?_
    intro ss2 kns2 pz2
    have p2a := pz2.1
    have p2b := pz2.2.1
    have p2c := pz2.2.2.1
    have p2d := pz2.2.2.2.1
    have p2e := pz2.2.2.2.2
    clear pz2
    obtain rfl : ss1 = ss := sorted_uniq p1b hso (p1a.trans hsp.symm)
    obtain rfl : ss2 = ss1 := sorted_uniq p2b hso (p2a.trans hsp.symm)
    refine joined_ok Gg F4.keep rfl (dpL _ _ (by decide)) (unL _ _ (by decide)) (p1e.at (news_sub N5 (by intro q hq; (repeat (first | exact hq | exact List.mem_append_left _ hq | exact List.mem_append_left _ (List.mem_append_left _ hq) | exact List.mem_append_left _ (List.mem_append_right _ hq) | refine List.mem_cons_of_mem _ ?_ | refine List.mem_append_right _ ?_))))) (p2e.at (news_sub N5 (by intro q hq; (repeat (first | exact hq | exact List.mem_append_left _ hq | exact List.mem_append_left _ (List.mem_append_left _ hq) | exact List.mem_append_left _ (List.mem_append_right _ hq) | refine List.mem_cons_of_mem _ ?_ | refine List.mem_append_right _ ?_))))) p1d p2d p1c p2c (gM_supp hft _) (gM_supp hft _) ?_
    intro D4 kns4 h5 tk5 hli4 hkl4 hpr4 kp4
    obtain rfl : kns = kns4 := Lists.uniq hli (by rw [gM_join]; exact hli4)
    refine kp0K F4 N5 kp4 ?_
    intro F6 N6
    clear F4 N5
    k_steps
    refine ne_nice (hlp.at (news_sub N6 (by intro q hq; (repeat (first | exact hq | exact List.mem_append_left _ hq | exact List.mem_append_left _ (List.mem_append_left _ hq) | exact List.mem_append_left _ (List.mem_append_right _ hq) | refine List.mem_cons_of_mem _ ?_ | refine List.mem_append_right _ ?_))))).reads hpr4.reads (nice_prs kns) (unL _ 64 (by decide)) ?_
    k_steps
    exact HoldP.mk ⟨rfl, exi3 _ _ _ ⟨rfl, F6, news_sub N6 (by (repeat' (first | refine subCons ?_ ?_ | refine subApp ?_ ?_ | exact subNil | exact List.Mem.head _ | refine List.mem_cons_of_mem _ ?_ | (intro pS hS; (repeat (first | exact hS | exact List.mem_append_left _ hS | exact List.mem_append_left _ (List.mem_append_left _ hS) | exact List.mem_append_left _ (List.mem_append_right _ hS) | refine List.mem_cons_of_mem _ ?_ | refine List.mem_append_right _ ?_)); done) | refine List.mem_append_right _ ?_)))⟩⟩
  · intro h' tk' d' F' N'
    exact law_rest4 Gg F' (news_sub N' (by (repeat' (first | refine subCons ?_ ?_ | refine subApp ?_ ?_ | exact subNil | exact List.Mem.head _ | refine List.mem_cons_of_mem _ ?_ | (intro pS hS; (repeat (first | exact hS | exact List.mem_append_left _ hS | exact List.mem_append_left _ (List.mem_append_left _ hS) | exact List.mem_append_left _ (List.mem_append_right _ hS) | refine List.mem_cons_of_mem _ ?_ | refine List.mem_append_right _ ?_)); done) | refine List.mem_append_right _ ?_)))) dlc hlay hf5 hft hnl h1 h2 h3 hb hl1 hl2 hl3 hbt hQ
end
section
open PySem PySem.W PyProof.Rows PySem.Calls PySem.Spec PyProof.V PySem.SeqAt


theorem two_items {w : World} {led : List (Addr × Obj)} {one other : Addr} {r1 r2 : Int} {fs1 fs2 : List Int} {v : Value} {i : Nat} (h1 : LSIn w led one r1 fs1) (h2 : LSIn w led other r2 fs2) (hl1 : fs1.length ≤ 4) (hl2 : fs2.length ≤ 4)
    (hv : (#[Value.ref one, Value.ref other] : Array Value)[i]? = some v) : ∃ x fs r, v = .ref x ∧ LSIn w led x r fs ∧ fs.length ≤ 4 ∧ fs = (if i = 0 then fs1 else fs2) := by
  match i, hv with
  | 0, hv => cases hv; exact ⟨one, fs1, r1, rfl, h1, hl1, rfl⟩
  | 1, hv => cases hv; exact ⟨other, fs2, r2, rfl, h2, hl2, rfl⟩
  | _ + 2, hv => cases hv
theorem law_rest2 {w : World} {mg mb : Str → Option Value} {g : Heap} {s : Shared} {fa : Addr} {cd : Value} {Q : Flow → Shared → Prop} {E : Value → Shared → Prop} {m0 : Str → Option Value}
  {both bt third other one pen lay wd : Addr} {r1 r2 r3 : Int} {fs1 fs2 fs3 : List Int} {fts : List (Str × List Int)} {nl : Nat} {wc lc wo : Obj} {led : List (Addr × Obj)} {kw : List (Str × Value)} {wt : Str → Nat}
  (Gg : Gnd w mg mb g) (F : Fr g g.objs.size s.heap (lawMap both bt third other one pen m0))
  (N : News g g.objs.size s.heap ((wd, wo) :: (g.objs.size + 1 + 1, wc) :: (g.objs.size + 1, lc) :: led))
  (dwc : wc.data = .cell (some (.ref wd))) (dlc : lc.data = .cell (some (.ref lay)))
  (low : (wd == sysModules) = false) (hwo : wo.IsDictOf (PySem.strKind PySem.Challenge.rw_pb0163_01.row.prog w) kw) (hkw : kw.length ≤ 16) (hwt : ∀ t ∈ kw.map (·.1), ∃ tok, valueAt kw t = some (.int (wt t : Int) tok))
  (hlay : LayIn w led lay fts nl) (hf5 : fts.length ≤ 5) (hft : ∀ ft ∈ fts, FtOk ft) (hnl : nl ≤ 6)
  (h1 : LSIn w led one r1 fs1) (h2 : LSIn w led other r2 fs2) (h3 : LSIn w led third r3 fs3) (hb : LSIn w led both (if 0 ≤ r1 then r1 else r2) (once (fs1 ++ fs2)))
  (hl1 : fs1.length ≤ 4) (hl2 : fs2.length ≤ 4) (hl3 : fs3.length ≤ 4)
  (hbt : ∃ t1 t2 t3, (bt, tupObj [.ref t1, .ref t2, .ref t3]) ∈ led ∧ ToldIn led t1 r1 fs1 ∧ ToldIn led t2 r2 fs2 ∧ ToldIn led t3 r3 fs3)
  (hQ : ∀ s', s'.gens = s.gens → s'.os = s.os → (∀ b o, g.get? b = some o → s'.heap.get? b = some o) → Q (.ret (.bool true)) s') :
  wpAny (model PySem.Challenge.rw_pb0163_01.row.prog w) (callerA.deeper (envOfC (Str.ofString "law") (lawFn w).scope g.objs.size fa cd)) (execs ((lawStmts w).drop 7) (envOfC (Str.ofString "law") (lawFn w).scope g.objs.size fa cd)) Q E s := by
  have X := Gg.X
  have T := Gg.T
  conv in (List.drop 7 (lawStmts w)) => whnf
  conv in ((lawFn w).scope) => whnf
  conv in ((lawFn w).scope) => whnf
  unfold lawMap at F
  refine exec1 ?_
  with_unfolding_all refine comp_tuple F (by rfl) (by rfl) (by rfl) (by decide) (by rfl) (by decide) (by rfl) (by rfl) (by rfl) ?_
  refine hold ?_
  k_steps
  rename Fr _ _ _ _ => F1
  rename News _ _ _ _ => N1
  rename_i T1 hT1 lT1
  refine HoldP.mk ?_
  refine (exi3 T1 _ _ ⟨rfl, rfl, F1, N1, List.Mem.head _, by rw [sizeLine_eq]; exact Nat.le_of_ble_eq_true rfl, ?_⟩)
  rintro s₂ ⟨gg, rfl⟩
  refine rest_inv (fun i ys nw => ∃ (Ds : List Addr) (new : List (Addr × Obj)), nw = (T1, { cls := .type "tuple", data := .seq #[Value.ref one, Value.ref other] }) :: (wd, wo) :: (g.objs.size + 1 + 1, wc) :: (g.objs.size + 1, lc) :: (new ++ led) ∧
    ys = Ds.map Value.ref ∧ Ds.length = i ∧ ∀ j D, Ds[j]? = some D → Gath fts nl wt (kw.map (·.1)) new D (if j = 0 then fs1 else fs2)) ⟨[], [], rfl, rfl, rfl, by simp⟩ ?_ ?_
  · intro i v I oI C oC D m₂ ys nw h tk3 E' hlt hv hZ1i
    refine ex2 (hZ1i) ?_
    intro Ds new hZ1
    refine an4 hZ1 ?_
    clear hZ1 hZ1i
    intro hZ1e0 hZ1e1 hDl hDs
    subst hZ1e0
    subst hZ1e1
    intro hC hx F3 N3 off ne
    try k_fold
    clear F1 N1
    refine ex3 (two_items h1 h2 hl1 hl2 hv) ?_
    intro x fs r q
    refine an4 q ?_
    clear q
    intro e0 hxin hxl hxfs
    subst e0
    k_steps
    rename Fr _ _ _ _ => F3
    rename News _ _ _ _ => N3
    refine gather_ok (kw := kw) (wt := wt) Gg F3.keep rfl (dpL _ _ (by decide)) (unL _ _ (by decide)) (hlay.at (news_sub N3 (by intro q hq; (repeat (first | exact hq | exact List.mem_append_left _ hq | exact List.mem_append_left _ (List.mem_append_left _ hq) | exact List.mem_append_left _ (List.mem_append_right _ hq) | refine List.mem_cons_of_mem _ ?_ | refine List.mem_append_right _ ?_))))) (hxin.at (news_sub N3 (by intro q hq; (repeat (first | exact hq | exact List.mem_append_left _ hq | exact List.mem_append_left _ (List.mem_append_left _ hq) | exact List.mem_append_left _ (List.mem_append_right _ hq) | refine List.mem_cons_of_mem _ ?_ | refine List.mem_append_right _ ?_))))) hf5 (by first | exact Nat.le_trans (by assumption) (by decide) | omega) hnl hft
      (kda_dict N3 (d := wd) (o := wo) (by k_mem) hwo) low hkw hwt ?_
    intro D' ss kns h4 tk4 hsp hso hli hkl hpr kp
    refine ex1 (hpr.ledger) ?_
    intro ledp hZ3
    have hlp := hZ3.1
    have hledp := hZ3.2
    clear hZ3
    refine kpLK ledp F3 N3 kp hledp ?_
    intro F4 N4
    have offm := off.mem
    have old : ∀ (a : Addr) (o : Obj), h.get? a = some o → ∀ p ∈ ledp, p.1 ≠ a := fun a o e p hp q => by
      have e1 := (hledp p hp).2
      rw [q] at e1
      exact absurd (e1.symm.trans e) (by simp)
    have oI' := old I oI (N3.get (List.Mem.head _))
    have oC' := old C oC (N3.get (List.Mem.tail _ (List.Mem.head _)))
    have oD' := old D _ (N3.get (List.Mem.tail _ (List.Mem.tail _ (List.Mem.head _))))
    refine LCg.CompEnd.intro F4 N4 ((T1, { cls := .type "tuple", data := .seq #[Value.ref one, Value.ref other] }) :: (wd, wo) :: (g.objs.size + 1 + 1, wc) :: (g.objs.size + 1, lc) :: ((ledp ++ new) ++ led)) ?_ (LCg.Off3.of ?_) (List.Mem.head _)
      ⟨Ds ++ [D'], ledp ++ new, rfl, by simp, by simp [hDl], ?_⟩
    · first | ((repeat' (first | refine subCons ?_ ?_ | refine subApp ?_ ?_ | exact subNil | exact List.Mem.head _ | refine List.mem_cons_of_mem _ ?_ | (intro pS hS; (repeat (first | exact hS | exact List.mem_append_left _ hS | exact List.mem_append_left _ (List.mem_append_left _ hS) | exact List.mem_append_left _ (List.mem_append_right _ hS) | refine List.mem_cons_of_mem _ ?_ | refine List.mem_append_right _ ?_)); done) | refine List.mem_append_right _ ?_)); done) | (intro p hp; simp only [List.mem_cons, List.mem_append] at hp ⊢; grind)
    · exact allCons (offm _ (List.Mem.head _)) (allCons (offm _ (List.Mem.tail _ (List.Mem.head _))) (allCons (offm _ (List.Mem.tail _ (List.Mem.tail _ (List.Mem.head _)))) (allCons (offm _ (List.Mem.tail _ (List.Mem.tail _ (List.Mem.tail _ (List.Mem.head _))))) (allApp (allApp (fun p hp => ⟨oI' p hp, oC' p hp, oD' p hp⟩) (fun p hp => offm p (List.Mem.tail _ (List.Mem.tail _ (List.Mem.tail _ (List.Mem.tail _ (List.mem_append_left _ hp))))))) (fun p hp => offm p (List.Mem.tail _ (List.Mem.tail _ (List.Mem.tail _ (List.Mem.tail _ (List.mem_append_right _ hp))))))))))
    · intro j Dj hj
      rcases Nat.lt_or_ge j Ds.length with hlt2 | hge
      · rw [List.getElem?_append_left hlt2] at hj
        exact (hDs j Dj hj).mono fun q hq => List.mem_append_right _ hq
      · rw [List.getElem?_append_right hge] at hj
        have hj0 : j - Ds.length = 0 := by
          have := (List.getElem?_eq_some_iff.mp hj).1
          simp at this
          omega
        rw [hj0] at hj
        obtain rfl : D' = Dj := by simpa using hj
        have hji : j = i := by omega
        rw [hji, ← hxfs]
        exact ⟨ss, kns, hsp, hso, hli, hkl, hlp.mono fun q hq => List.mem_append_left _ hq⟩
  · intro ys nw hZ5i
    refine ex2 (hZ5i) ?_
    intro Ds new hZ5
    refine an4 hZ5 ?_
    clear hZ5 hZ5i
    intro hZ5e0 hZ5e1 hDl hDs
    subst hZ5e0
    subst hZ5e1
    try k_fold
    intro D h tk2 F3 N3 off
    refine HoldP.mk ?_
    refine nameGoal ?_
    intro kG6 hG6
    obtain ⟨D1, D2, rfl⟩ : ∃ D1 D2, Ds = [D1, D2] := by
      cases Ds with
      | nil => cases hDl
      | cons a r =>
        cases r with
        | nil => cases hDl
        | cons b r2 =>
          cases r2 with
          | nil => exact ⟨a, b, rfl⟩
          | cons _ _ => cases hDl
    refine hG6 ?_
    clear hG6 kG6
    have hg1 := hDs 0 D1 rfl
    have hg2 := hDs 1 D2 rfl
    rw [if_pos rfl] at hg1
    rw [if_neg (by decide)] at hg2
    dsimp only
    have hbt' : ∃ t1 t2 t3, (bt, tupObj [.ref t1, .ref t2, .ref t3]) ∈ new ++ led ∧ ToldIn (new ++ led) t1 r1 fs1 ∧ ToldIn (new ++ led) t2 r2 fs2 ∧ ToldIn (new ++ led) t3 r3 fs3 := by
      refine nameGoal ?_
      intro kG7 hG7
      obtain ⟨t1, t2, t3, q1, q2, q3, q4⟩ := hbt
      refine hG7 ?_
      clear hG7 kG7
      exact ⟨t1, t2, t3, by simp [q1], q2.mono (by intro q hq; (repeat (first | exact hq | exact List.mem_append_left _ hq | exact List.mem_append_left _ (List.mem_append_left _ hq) | exact List.mem_append_left _ (List.mem_append_right _ hq) | refine List.mem_cons_of_mem _ ?_ | refine List.mem_append_right _ ?_))), q3.mono (by intro q hq; (repeat (first | exact hq | exact List.mem_append_left _ hq | exact List.mem_append_left _ (List.mem_append_left _ hq) | exact List.mem_append_left _ (List.mem_append_right _ hq) | refine List.mem_cons_of_mem _ ?_ | refine List.mem_append_right _ ?_))), q4.mono (by intro q hq; (repeat (first | exact hq | exact List.mem_append_left _ hq | exact List.mem_append_left _ (List.mem_append_left _ hq) | exact List.mem_append_left _ (List.mem_append_right _ hq) | refine List.mem_cons_of_mem _ ?_ | refine List.mem_append_right _ ?_)))⟩
    exact law_rest3 (led := new ++ led) Gg F3 (news_sub N3 (by first | ((repeat' (first | refine subCons ?_ ?_ | refine subApp ?_ ?_ | exact subNil | exact List.Mem.head _ | refine List.mem_cons_of_mem _ ?_ | (intro pS hS; (repeat (first | exact hS | exact List.mem_append_left _ hS | exact List.mem_append_left _ (List.mem_append_left _ hS) | exact List.mem_append_left _ (List.mem_append_right _ hS) | refine List.mem_cons_of_mem _ ?_ | refine List.mem_append_right _ ?_)); done) | refine List.mem_append_right _ ?_)); done) | (intro p hp; simp only [List.mem_cons, List.mem_append] at hp ⊢; grind))) dwc dlc low hwo hkw hwt
      (hg1.mono (by intro q hq; (repeat (first | exact hq | exact List.mem_append_left _ hq | exact List.mem_append_left _ (List.mem_append_left _ hq) | exact List.mem_append_left _ (List.mem_append_right _ hq) | refine List.mem_cons_of_mem _ ?_ | refine List.mem_append_right _ ?_)))) (hg2.mono (by intro q hq; (repeat (first | exact hq | exact List.mem_append_left _ hq | exact List.mem_append_left _ (List.mem_append_left _ hq) | exact List.mem_append_left _ (List.mem_append_right _ hq) | refine List.mem_cons_of_mem _ ?_ | refine List.mem_append_right _ ?_)))) (hlay.mono (by intro q hq; (repeat (first | exact hq | exact List.mem_append_left _ hq | exact List.mem_append_left _ (List.mem_append_left _ hq) | exact List.mem_append_left _ (List.mem_append_right _ hq) | refine List.mem_cons_of_mem _ ?_ | refine List.mem_append_right _ ?_)))) hf5 hft hnl
      (h1.mono (by intro q hq; (repeat (first | exact hq | exact List.mem_append_left _ hq | exact List.mem_append_left _ (List.mem_append_left _ hq) | exact List.mem_append_left _ (List.mem_append_right _ hq) | refine List.mem_cons_of_mem _ ?_ | refine List.mem_append_right _ ?_)))) (h2.mono (by intro q hq; (repeat (first | exact hq | exact List.mem_append_left _ hq | exact List.mem_append_left _ (List.mem_append_left _ hq) | exact List.mem_append_left _ (List.mem_append_right _ hq) | refine List.mem_cons_of_mem _ ?_ | refine List.mem_append_right _ ?_)))) (h3.mono (by intro q hq; (repeat (first | exact hq | exact List.mem_append_left _ hq | exact List.mem_append_left _ (List.mem_append_left _ hq) | exact List.mem_append_left _ (List.mem_append_right _ hq) | refine List.mem_cons_of_mem _ ?_ | refine List.mem_append_right _ ?_)))) (hb.mono (by intro q hq; (repeat (first | exact hq | exact List.mem_append_left _ hq | exact List.mem_append_left _ (List.mem_append_left _ hq) | exact List.mem_append_left _ (List.mem_append_right _ hq) | refine List.mem_cons_of_mem _ ?_ | refine List.mem_append_right _ ?_)))) hl1 hl2 hl3 hbt' hQ
end
section
local macro_rules | `(tactic| k_all) => `(tactic| assumption)
section
open PySem PySem.W PyProof.Rows PySem.Calls PySem.Spec PyProof.V PySem.SeqAt

theorem law_rest {stmts : List Stmt} {scope : Scope} {w : World} {mg mb : Str → Option Value} {g : Heap} {s : Shared} {fa : Addr} {cd : Value} {Q : Flow → Shared → Prop} {E : Value → Shared → Prop} {m0 : Str → Option Value}
  {both bt third other one pen P lay : Addr} {r1 r2 r3 : Int} {fs1 fs2 fs3 : List Int} {fts : List (Str × List Int)} {nl : Nat} {wc lc : Obj} {led : List (Addr × Obj)} {vp : List Value} {xp : List Int} {n c : Int} {tn tc : Tok} {ep ep2 : Nat}
  (Gg : Gnd w mg mb g) (F : Fr g g.objs.size s.heap (lawMap both bt third other one pen m0))
  (N : News g g.objs.size s.heap ((pen, W.listOf #[.ref P, .int n tn, .int c tc] ep) :: (P, W.listOf vp.toArray ep2) :: (g.objs.size + 1 + 1, wc) :: (g.objs.size + 1, lc) :: led))
  (hip : IntsAre vp xp) (hlp : xp.length ≤ 64) (hne : pen ≠ P) (off : Off pen P (g.objs.size + 1 + 1) (g.objs.size + 1) led)
  (hcc : (((g.objs.size + 1 + 1 : Addr) ≠ pen) ∧ ((g.objs.size + 1 + 1 : Addr) ≠ P)) ∧ ((g.objs.size + 1 : Addr) ≠ pen) ∧ ((g.objs.size + 1 : Addr) ≠ P))
  (dwc : wc.data = .cell none) (dlc : lc.data = .cell (some (.ref lay)))
  (hlay : LayIn w led lay fts nl) (hf5 : fts.length ≤ 5) (hft : ∀ ft ∈ fts, FtOk ft) (hnl : nl ≤ 6)
  (h1 : LSIn w led one r1 fs1) (h2 : LSIn w led other r2 fs2) (h3 : LSIn w led third r3 fs3) (hb : LSIn w led both (if 0 ≤ r1 then r1 else r2) (once (fs1 ++ fs2)))
  (hl1 : fs1.length ≤ 4) (hl2 : fs2.length ≤ 4) (hl3 : fs3.length ≤ 4)
  (hbt : ∃ t1 t2 t3, (bt, tupObj [.ref t1, .ref t2, .ref t3]) ∈ led ∧ ToldIn led t1 r1 fs1 ∧ ToldIn led t2 r2 fs2 ∧ ToldIn led t3 r3 fs3)
  (hQ : ∀ s', s'.gens = s.gens → s'.os = s.os → (∀ b o, g.get? b = some o → s'.heap.get? b = some o) → Q (.ret (.bool true)) s')  (hst : stmts = (lawStmts w).drop 6) (hsc : scope = (lawFn w).scope) :
  wpAny (model PySem.Challenge.rw_pb0163_01.row.prog w) (callerA.deeper (envOfC (Str.ofString "law") scope g.objs.size fa cd)) (execs stmts (envOfC (Str.ofString "law") scope g.objs.size fa cd)) Q E s := by
  subst hst
  subst hsc
  have X := Gg.X
  have T := Gg.T
  conv in (List.drop 6 (lawStmts w)) => whnf
  conv in ((lawFn w).scope) => whnf
  conv in ((lawFn w).scope) => whnf
  unfold lawMap at F
  refine exec1 ?_
  walk1
  refine' kdn_str ?q ?F ?N ?b ?a ?l ?e ?n ?_
  case q => rfl
  case F => k_asm
  case N => k_asm
  case b => exact TopRead.nolimit (by k_asm)
  case a => rfl
  case l => rfl
  case e => exact List.cons_ne_nil _ _
  case n => exact Nat.le_of_ble_eq_true rfl
  intro wd hw1 wo FD ND l1 low hdw
  (try k_lt l1)
  k_steps
  rename Fr _ _ _ _ => F1
  rename News _ _ _ _ => N1
  rename_i li1 hw2 ll1
  rename (pen < wd ∧ _) => lw
  have hwp : @Ne Nat wd pen ∧ @Ne Nat wd P := ⟨Nat.ne_of_gt lw.1, Nat.ne_of_gt lw.2.1⟩
  have hwd : ∀ p ∈ led, p.1 ≠ wd := fun p hp => Nat.ne_of_lt (ktn_ltOf lw.2.2.2.2 p hp)
  have hrest : ∀ p ∈ (wd, wo) :: (g.objs.size + 1 + 1, wc) :: (g.objs.size + 1, lc) :: led, p.1 ≠ pen ∧ p.1 ≠ P := by
    exact (allCons (hwp) (allCons (hcc.1) (allCons (hcc.2) (fun p hp => (off p hp).1))))
  refine pick_ok Gg F1.keep rfl (dpL _ _ (by decide)) (unL _ _ (by decide)) (penAt N1 (pen := pen) (P := P) (by k_mem) (by k_mem) hip hlp hne) (N1.get (List.Mem.head _)) (N1.fresh (List.Mem.head _)) (by first | exact Nat.le_trans (by assumption) (by decide) | omega) (by first | exact Nat.le_trans (by assumption) (by decide) | omega) (by simp) (by simp) ?_
  intro v2 h2x tk2 hv2 pk2 kp2
  refine pen_ledK [] ((wd, wo) :: (g.objs.size + 1 + 1, wc) :: (g.objs.size + 1, lc) :: led) F1 N1 (pen := pen) (P := P) (by k_mem) (by k_mem) pk2 kp2
    (fun p hp => ⟨by (revert hp; revert p; (repeat' (first | refine subCons ?_ ?_ | refine subApp ?_ ?_ | exact subNil | exact List.Mem.head _ | refine List.mem_cons_of_mem _ ?_ | (intro pS hS; (repeat (first | exact hS | exact List.mem_append_left _ hS | exact List.mem_append_left _ (List.mem_append_left _ hS) | exact List.mem_append_left _ (List.mem_append_right _ hS) | refine List.mem_cons_of_mem _ ?_ | refine List.mem_append_right _ ?_)); done) | refine List.mem_append_right _ ?_))), hrest p hp⟩) (by simp) ?_
  intro vp2 xp2 n2 c2 tn2 tc2 ep2a ep2b hip2 hlp2 F2 N2
  simp only [List.nil_append] at N2
  refine nameGoal ?_
  intro kG2 hG2
  obtain ⟨ml, tl, rfl⟩ : ∃ (ml : Nat) (tl : Tok), v2 = .int (ml : Int) tl := by
    simp only [List.mem_cons, List.not_mem_nil, or_false] at hv2
    rcases hv2 with rfl | rfl | rfl | rfl
    · exact ⟨2, _, rfl⟩
    · exact ⟨0, _, rfl⟩
    · exact ⟨12, _, rfl⟩
    · exact ⟨1, _, rfl⟩
  refine hG2 ?_
  clear hG2 kG2
  clear F1 N1 pk2 kp2 hip hlp ll1 hv2
  k_steps
  refine draw_ok Gg F2.keep rfl (dpL _ _ (by decide)) (unL _ _ (by decide)) (by decide) (by decide) (penAt N2 (pen := pen) (P := P) (by k_mem) (by k_mem) hip2 hlp2 hne) ?_
  intro dk tk3 h3x tk3' dk0 dk1 pk3 kp3
  refine pen_ledK [] ((wd, wo) :: (g.objs.size + 1 + 1, wc) :: (g.objs.size + 1, lc) :: led) F2 N2 (pen := pen) (P := P) (by k_mem) (by k_mem) pk3 kp3
    (fun p hp => ⟨by (revert hp; revert p; (repeat' (first | refine subCons ?_ ?_ | refine subApp ?_ ?_ | exact subNil | exact List.Mem.head _ | refine List.mem_cons_of_mem _ ?_ | (intro pS hS; (repeat (first | exact hS | exact List.mem_append_left _ hS | exact List.mem_append_left _ (List.mem_append_left _ hS) | exact List.mem_append_left _ (List.mem_append_right _ hS) | refine List.mem_cons_of_mem _ ?_ | refine List.mem_append_right _ ?_)); done) | refine List.mem_append_right _ ?_))), hrest p hp⟩) (by simp) ?_
  intro vp3 xp3 n3 c3 tn3 tc3 ep3a ep3b hip3 hlp3 F3 N3
  simp only [List.nil_append] at N3
  obtain ⟨mk, rfl⟩ : ∃ mk : Nat, dk = (mk : Int) := ⟨dk.toNat, by omega⟩
  clear F2 N2 pk3 kp3 hip2 hlp2 dk0 dk1
  k_steps
  rename Fr _ _ _ _ => F4
  rename News _ _ _ _ => N4
  rename_i li4 hw4 ll4
  refine pick_ok Gg F4.keep rfl (dpL _ _ (by decide)) (unL _ _ (by decide)) (penAt N4 (pen := pen) (P := P) (by k_mem) (by k_mem) hip3 hlp3 hne) (N4.get (List.Mem.head _)) (N4.fresh (List.Mem.head _)) (by first | exact Nat.le_trans (by assumption) (by decide) | omega) (by first | exact Nat.le_trans (by assumption) (by decide) | omega) (by simp) (by simp) ?_
  intro v5 h5x tk5 hv5 pk5 kp5
  refine pen_ledK [] ((wd, wo) :: (g.objs.size + 1 + 1, wc) :: (g.objs.size + 1, lc) :: led) F4 N4 (pen := pen) (P := P) (by k_mem) (by k_mem) pk5 kp5
    (fun p hp => ⟨by (revert hp; revert p; (repeat' (first | refine subCons ?_ ?_ | refine subApp ?_ ?_ | exact subNil | exact List.Mem.head _ | refine List.mem_cons_of_mem _ ?_ | (intro pS hS; (repeat (first | exact hS | exact List.mem_append_left _ hS | exact List.mem_append_left _ (List.mem_append_left _ hS) | exact List.mem_append_left _ (List.mem_append_right _ hS) | refine List.mem_cons_of_mem _ ?_ | refine List.mem_append_right _ ?_)); done) | refine List.mem_append_right _ ?_))), hrest p hp⟩) (by simp) ?_
  intro vp5 xp5 n5 c5 tn5 tc5 ep5a ep5b hip5 hlp5 F5 N5
  simp only [List.nil_append] at N5
  refine nameGoal ?_
  intro kG5 hG5
  obtain ⟨mc, tc', rfl⟩ : ∃ (mc : Nat) (t : Tok), v5 = .int (mc : Int) t := by
    simp only [List.mem_cons, List.not_mem_nil, or_false] at hv5
    rcases hv5 with rfl | rfl | rfl
    · exact ⟨1, _, rfl⟩
    · exact ⟨64, _, rfl⟩
    · exact ⟨0, _, rfl⟩
  refine hG5 ?_
  clear hG5 kG5
  clear F4 N4 pk5 kp5 ll4 hv5
  have oc1 : ∀ p ∈ led, p.1 ≠ g.objs.size + 1 + 1 := fun p hp => (off p hp).2.1
  have hcn3 : @Ne Nat (g.objs.size + 1 + 1) pen := hcc.1.1
  have hcn4 : @Ne Nat (g.objs.size + 1 + 1) P := hcc.1.2
  k_steps
  rename Fr _ _ _ _ => F6
  rename News _ _ _ _ => N6
  rename_i h6 wo' hdw' hfp' h7 wc' dwc'
  refine HoldP.mk ?_
  have n1 : Str.ofString "kern" ≠ Str.ofString "liga" := by decide
  have n2 : Str.ofString "ccmp" ≠ Str.ofString "liga" := by decide
  have n3 : Str.ofString "ccmp" ≠ Str.ofString "kern" := by decide
  exact law_rest2 (kw := [(Str.ofString "liga", .int (ml : Int) tl), (Str.ofString "kern", .int (mk : Int) tk3), (Str.ofString "ccmp", .int (mc : Int) tc')])
    (wt := fun t => if t = Str.ofString "liga" then ml else if t = Str.ofString "kern" then mk else mc) Gg F6
    (news_sub N6 (news' := (wd, wo') :: (g.objs.size + 1 + 1, wc') :: (g.objs.size + 1, lc) :: led) (by first | ((repeat' (first | refine subCons ?_ ?_ | refine subApp ?_ ?_ | exact subNil | exact List.Mem.head _ | refine List.mem_cons_of_mem _ ?_ | (intro pS hS; (repeat (first | exact hS | exact List.mem_append_left _ hS | exact List.mem_append_left _ (List.mem_append_left _ hS) | exact List.mem_append_left _ (List.mem_append_right _ hS) | refine List.mem_cons_of_mem _ ?_ | refine List.mem_append_right _ ?_)); done) | refine List.mem_append_right _ ?_)); done) | (intro p hp; simp only [List.mem_cons] at hp ⊢; grind))) dwc' dlc low hdw' (Nat.le_of_ble_eq_true rfl)
    (by
      intro t ht
      simp only [List.map_cons, List.map_nil, List.mem_cons, List.not_mem_nil, or_false] at ht
      rcases ht with rfl | rfl | rfl
      · exact ⟨tl, by simp [valueAt]⟩
      · exact ⟨tk3, by simp [valueAt, n1, n1.symm]⟩
      · exact ⟨tc', by simp [valueAt, n2, n2.symm, n3, n3.symm]⟩)
    hlay hf5 hft hnl h1 h2 h3 hb hl1 hl2 hl3 hbt hQ
end
section
open PySem PySem.W PyProof.Rows PySem.Calls PySem.Spec PyProof.V PySem.SeqAt

theorem end_ok {ns : List Int} {s0 s1 s' : Shared} (hgens : s1.gens = #[]) (e1 : s'.gens = s1.gens) (e2 : s'.os = s1.os) (e3 : ∀ b o, s1.heap.get? b = some o → s'.heap.get? b = some o) :
  GoodW PySem.Challenge.rw_pb0163_01.row.claim (classAt s0.heap) (ExcName.means s0.heap) [ofPy (PyData.list (List.map PyData.int ns))] s1 (.ok (.ret (.bool true))) s' :=
  ⟨.inl ⟨.bool true, .bool true, [], rfl, raisesW_false (by wrow_none_raised), .bool true, by wrow_post, unshared_nil⟩, e3, e2, e1.trans hgens⟩
theorem fr_swap {g h : Heap} {L both bt third other one pen : Addr} {m0 : Str → Option Value}
  (F : Fr g L h (fun y => if y = Str.ofString "both" then some (.ref both) else if y = Str.ofString "before" then some (.ref bt) else if y = Str.ofString "one" then some (.ref one) else
    if y = Str.ofString "other" then some (.ref other) else if y = Str.ofString "third" then some (.ref third) else if y = Str.ofString "pen" then some (.ref pen) else m0 y)) : Fr g L h (lawMap both bt third other one pen m0) := by
  have e : lawMap both bt third other one pen m0 = (fun y => if y = Str.ofString "both" then some (.ref both) else if y = Str.ofString "before" then some (.ref bt) else if y = Str.ofString "one" then some (.ref one) else
    if y = Str.ofString "other" then some (.ref other) else if y = Str.ofString "third" then some (.ref third) else if y = Str.ofString "pen" then some (.ref pen) else m0 y) := by
    funext y
    have n1 : Str.ofString "one" ≠ Str.ofString "other" := by decide
    have n2 : Str.ofString "one" ≠ Str.ofString "third" := by decide
    have n3 : Str.ofString "other" ≠ Str.ofString "third" := by decide
    unfold lawMap
    by_cases a : y = Str.ofString "one"
    · simp [a, n1, n2]
    · by_cases b : y = Str.ofString "other"
      · simp [b, n1.symm, n3]
      · by_cases c : y = Str.ofString "third"
        · simp [c, n2.symm, n3.symm]
        · simp [a, b, c]
  rw [e]; exact F

theorem tt : PySem.Challenge.rw_pb0163_01.Holds := Hd (by 
  k_go0
  rename_i w s0 s1 mg mb Gr Yh fa ofa pm doc hofa hgens KX XM V GL T B TE TW a1 a2 MB a3 a4 hcd ns hs hlay0 hL1 hr1 hl2 l5 l6 sl vs l2 hL ra w1 r0 hI hr hcond hcond2 K0 hD h1 tk1 F wc lc dwc dlc N0 Y0
  have Gg : Gnd w mg mb s1.heap := ⟨KX, topRead_of T⟩
  have X := KX
  have TT := Gg.T
  clear Gr Yh hofa XM V GL B TE TW MB hcd hs hlay0 hL1 hr1 hl2 ra w1 r0 hr hcond2 K0 hD
  have dlc : lc.data = .cell none := dlc
  have dwc : wc.data = .cell none := dwc
  clear Y0
  try k_unmd
  k_fold
  refine exec1 ?_
  k_steps
  refine lawpen_ok Gg F.keep rfl (dpL _ _ (by decide)) (unL _ _ (by decide)) hL hI (by first | exact Nat.le_trans (by assumption) (by decide) | omega) ?_
  intro pen P h2 tk2 pk kp
  refine penEl pk ?_
  intro vp xp n c tn tc ep ep2 q1 q2 hip hlp q3 q4 hne
  have hc : ∀ p : Addr × Obj, h1.get? p.1 = some p.2 → p.1 ≠ pen ∧ p.1 ≠ P := fun p hp =>
    ⟨fun e => (by rw [e, q3] at hp; cases hp), fun e => (by rw [e, q4] at hp; cases hp)⟩
  have hc1 := hc _ (N0 _ (List.Mem.head _)).1
  have hc2 := hc _ (N0 _ (List.Mem.tail _ (List.Mem.head _))).1
  clear hc
  refine kpLK [(pen, W.listOf #[.ref P, .int n tn, .int c tc] ep), (P, W.listOf vp.toArray ep2)] F N0 kp (allCons ⟨q1, q3⟩ (allCons ⟨q2, q4⟩ allNil)) ?_
  intro F2 N2
  simp only [List.cons_append, List.nil_append] at N2
  clear q1 q2 q3 q4 kp F N0
  k_steps
  refine HoldP.mk ?_
  rename Fr _ _ _ _ => F3
  rename News _ _ _ _ => N3
  refine genMap1 F3 ?_
  clear F3
  intro mB F3
  refine exec1 ?_
  k_steps
  have hcc : (((s1.heap.objs.size + 1 + 1 : Addr) ≠ pen) ∧ ((s1.heap.objs.size + 1 + 1 : Addr) ≠ P)) ∧ ((s1.heap.objs.size + 1 : Addr) ≠ pen) ∧ ((s1.heap.objs.size + 1 : Addr) ≠ P) := ⟨hc1, hc2⟩
  refine layout_L4 Gg F3 N3 rfl (dpL _ _ (by decide)) (unL _ _ (by decide)) hip hlp hne hcc ?_
  clear F3 N3 hip hlp
  intro lay fts nl led4 vp xp n c tn tc ep ep2 h4 tk4 hin4 hfl5 hftok hnl6 hip hlp F4 N4 off4
  have oc1 : ∀ p ∈ led4, p.1 ≠ s1.heap.objs.size + 1 + 1 := fun p hp => (off4 p hp).2.1
  have oc2 : ∀ p ∈ led4, p.1 ≠ s1.heap.objs.size + 1 := fun p hp => (off4 p hp).2.2
  have hcn1 : @Ne Nat (s1.heap.objs.size + 1) pen := hcc.2.1
  have hcn2 : @Ne Nat (s1.heap.objs.size + 1) P := hcc.2.2
  have hcn3 : @Ne Nat (s1.heap.objs.size + 1 + 1) pen := hcc.1.1
  have hcn4 : @Ne Nat (s1.heap.objs.size + 1 + 1) P := hcc.1.2
  k_steps
  refine HoldP.mk ?_
  refine exec1 ?_
  k_steps
  rename Fr _ _ _ _ => F5
  rename News _ _ _ _ => N5
  rename (_ = Data.cell (some (Value.ref lay))) => dlc
  rename_i h5x lcX
  refine langsys_L4 Gg F5 N5 off4 rfl (dpL _ _ (by decide)) (unL _ _ (by decide)) hip hlp hne hcc ?_
  clear F5 N5 off4 hip hlp
  intro one r1 fs1 led6 vp xp n c tn tc ep ep2 h6 tk6 hin6 hfl6 hip hlp F6 N6 off6
  refine lsinK hin6 ?_
  intro done lone kone1 kone2 tone vone eone mone1 mone2 mone3 hione
  k_steps
  rename Fr _ _ _ _ => F6
  rename News _ _ _ _ => N6
  refine langsys_L4 Gg F6 N6 off6 rfl (dpL _ _ (by decide)) (unL _ _ (by decide)) hip hlp hne hcc ?_
  clear F6 N6 off6 hip hlp
  intro other r2 fs2 led7 vp xp n c tn tc ep ep2 h7 tk7 hin7 hfl7 hip hlp F7 N7 off7
  refine lsinK hin7 ?_
  intro dother lother kother1 kother2 tother vother eother mother1 mother2 mother3 hiother
  k_steps
  rename Fr _ _ _ _ => F7
  rename News _ _ _ _ => N7
  refine langsys_L4 Gg F7 N7 off7 rfl (dpL _ _ (by decide)) (unL _ _ (by decide)) hip hlp hne hcc ?_
  clear F7 N7 off7 hip hlp
  intro third r3 fs3 led8 vp xp n c tn tc ep ep2 h8 tk8 hin8 hfl8 hip hlp F8 N8 off8
  refine lsinK hin8 ?_
  intro dthird lthird kthird1 kthird2 tthird vthird ethird mthird1 mthird2 mthird3 hithird
  k_steps
  refine HoldP.mk ?_
  rename Fr _ _ _ _ => F8
  rename News _ _ _ _ => N8'
  have N8 := news_sub N8' (news' := (pen, W.listOf #[.ref P, .int n tn, .int c tc] ep) :: (P, W.listOf vp.toArray ep2) :: (s1.heap.objs.size + 1 + 1, wc) :: (s1.heap.objs.size + 1, lcX) :: (led8 ++ (led7 ++ (led6 ++ led4)))) (by (repeat' (first | refine subCons ?_ ?_ | refine subApp ?_ ?_ | exact subNil | exact List.Mem.head _ | refine List.mem_cons_of_mem _ ?_ | (intro pS hS; (repeat (first | exact hS | exact List.mem_append_left _ hS | exact List.mem_append_left _ (List.mem_append_left _ hS) | exact List.mem_append_left _ (List.mem_append_right _ hS) | refine List.mem_cons_of_mem _ ?_ | refine List.mem_append_right _ ?_)); done) | refine List.mem_append_right _ ?_)))
  clear N8'
  refine exec1 ?_
  k_steps
  refine told_L4 Gg F8 N8 off8 rfl (dpL _ _ (by decide)) (unL _ _ (by decide)) hin6 (by intro q hq; (repeat (first | exact hq | exact List.mem_append_left _ hq | exact List.mem_append_left _ (List.mem_append_left _ hq) | exact List.mem_append_left _ (List.mem_append_right _ hq) | refine List.mem_cons_of_mem _ ?_ | refine List.mem_append_right _ ?_))) (by first | exact Nat.le_trans (by assumption) (by decide) | omega) ?_
  intro toneX led9 h9 tk9 htone F9 N9 off9
  clear F8 N8 off8
  k_steps
  rename Fr _ _ _ _ => F9
  rename News _ _ _ _ => N9
  refine told_L4 Gg F9 N9 off9 rfl (dpL _ _ (by decide)) (unL _ _ (by decide)) hin7 (by intro q hq; (repeat (first | exact hq | exact List.mem_append_left _ hq | exact List.mem_append_left _ (List.mem_append_left _ hq) | exact List.mem_append_left _ (List.mem_append_right _ hq) | refine List.mem_cons_of_mem _ ?_ | refine List.mem_append_right _ ?_))) (by first | exact Nat.le_trans (by assumption) (by decide) | omega) ?_
  intro totherX led10 h10 tk10 htother F10 N10 off10
  clear F9 N9 off9
  k_steps
  rename Fr _ _ _ _ => F10
  rename News _ _ _ _ => N10
  refine told_L4 Gg F10 N10 off10 rfl (dpL _ _ (by decide)) (unL _ _ (by decide)) hin8 (by intro q hq; (repeat (first | exact hq | exact List.mem_append_left _ hq | exact List.mem_append_left _ (List.mem_append_left _ hq) | exact List.mem_append_left _ (List.mem_append_right _ hq) | refine List.mem_cons_of_mem _ ?_ | refine List.mem_append_right _ ?_))) (by first | exact Nat.le_trans (by assumption) (by decide) | omega) ?_
  intro tthirdX led11 h11 tk11 htthird F11 N11 off11
  clear F10 N10 off10
  k_steps
  refine HoldP.mk ?_
  rename Fr _ _ _ _ => F12
  rename News _ _ _ _ => N12'
  rename_i bt hX12 lbt hY12
  obtain ⟨ledb, hbm, hbq⟩ := one_ledger (bt, tupObj [.ref toneX, .ref totherX, .ref tthirdX])
  have N12 := news_sub N12' (news' := (pen, W.listOf #[.ref P, .int n tn, .int c tc] ep) :: (P, W.listOf vp.toArray ep2) :: (s1.heap.objs.size + 1 + 1, wc) :: (s1.heap.objs.size + 1, lcX) :: (ledb ++ (led11 ++ (led10 ++ (led9 ++ (led8 ++ (led7 ++ (led6 ++ led4)))))))) (by
    refine subCons ?_ (subCons ?_ (subCons ?_ (subCons ?_ (subApp ?_ ?_))))
    any_goals (repeat' (first | refine subCons ?_ ?_ | refine subApp ?_ ?_ | exact subNil | exact List.Mem.head _ | refine List.mem_cons_of_mem _ ?_ | (intro pS hS; (repeat (first | exact hS | exact List.mem_append_left _ hS | exact List.mem_append_left _ (List.mem_append_left _ hS) | exact List.mem_append_left _ (List.mem_append_right _ hS) | refine List.mem_cons_of_mem _ ?_ | refine List.mem_append_right _ ?_)); done) | refine List.mem_append_right _ ?_))
    exact fun p hp => by rw [hbq p hp]; exact List.Mem.head _)
  have off12 : Off pen P (s1.heap.objs.size + 1 + 1) (s1.heap.objs.size + 1) (ledb ++ (led11 ++ (led10 ++ (led9 ++ (led8 ++ (led7 ++ (led6 ++ led4))))))) := by
    intro p hp
    rcases List.mem_append.mp hp with hp | hp
    · rw [hbq p hp]
      exact ⟨⟨Nat.ne_of_gt lbt.1, Nat.ne_of_gt lbt.2.1⟩, Nat.ne_of_gt lbt.2.2.1, Nat.ne_of_gt lbt.2.2.2.1⟩
    · exact off11 p hp
  clear N12' lbt hbq off11
  refine exec1 ?_
  k_steps
  refine merged_L4 Gg F12 N12 off12 rfl (dpL _ _ (by decide)) (unL _ _ (by decide)) hin6 (by intro q hq; (repeat (first | exact hq | exact List.mem_append_left _ hq | exact List.mem_append_left _ (List.mem_append_left _ hq) | exact List.mem_append_left _ (List.mem_append_right _ hq) | refine List.mem_cons_of_mem _ ?_ | refine List.mem_append_right _ ?_))) hin7 (by intro q hq; (repeat (first | exact hq | exact List.mem_append_left _ hq | exact List.mem_append_left _ (List.mem_append_left _ hq) | exact List.mem_append_left _ (List.mem_append_right _ hq) | refine List.mem_cons_of_mem _ ?_ | refine List.mem_append_right _ ?_))) (by first | exact Nat.le_trans (by assumption) (by decide) | omega) (by first | exact Nat.le_trans (by assumption) (by decide) | omega) ?_
  intro both led13 h13 tk13 hin13 F13 N13 off13
  clear F12 N12 off12
  refine lsinK hin13 ?_
  intro dboth lboth kboth1 kboth2 tboth vboth eboth mboth1 mboth2 mboth3 hiboth
  have hlb : (once (fs1 ++ fs2)).length ≤ 8 := Nat.le_trans (once_length _) (by rw [List.length_append]; omega)
  k_steps
  refine HoldP.mk ?_
  rename Fr _ _ _ _ => F13
  rename News _ _ _ _ => N13
  refine if_false (news := (pen, W.listOf #[.ref P, .int n tn, .int c tc] ep) :: (P, W.listOf vp.toArray ep2) :: (s1.heap.objs.size + 1 + 1, wc) :: (s1.heap.objs.size + 1, lcX) :: (led13 ++ (ledb ++ (led11 ++ (led10 ++ (led9 ++ (led8 ++ (led7 ++ (led6 ++ led4))))))))) F13 ?_ ?_
  · k_steps
    refine told_L4 Gg F13 N13 off13 rfl (dpL _ _ (by decide)) (unL _ _ (by decide)) hin13 (by intro q hq; (repeat (first | exact hq | exact List.mem_append_left _ hq | exact List.mem_append_left _ (List.mem_append_left _ hq) | exact List.mem_append_left _ (List.mem_append_right _ hq) | refine List.mem_cons_of_mem _ ?_ | refine List.mem_append_right _ ?_))) (by first | exact Nat.le_trans (by assumption) (by decide) | omega) ?_
    intro tX led14 h14 tk14 ht14 F14 N14 _
    clear F13 N13
    generalize hie : PySem.Expr.Compare _ [PySem.CmpOp.GtE] _ _ = ie
    k_steps
    refine ifJoin (fun R => ∀ tk tk', R (.int (if 0 ≤ r1 then r1 else r2) tk) { s1 with heap := h14, toks := tk' }) (fun R hR => ?_) (fun tkr tkr' => ?_)
    · rw [← hie]
      k_steps
      · have z := hR tone
        rw [if_pos (by assumption)] at z
        exact z _
      · have z := hR tother
        rw [if_neg (by assumption)] at z
        exact z _
    clear hie
    k_steps
    rename Fr _ _ _ _ => F15
    rename News _ _ _ _ => N15
    refine add_bag F15 N15 mone3 (by intro q hq; (repeat (first | exact hq | exact List.mem_append_left _ hq | exact List.mem_append_left _ (List.mem_append_left _ hq) | exact List.mem_append_left _ (List.mem_append_right _ hq) | refine List.mem_cons_of_mem _ ?_ | refine List.mem_append_right _ ?_))) mother3 (by intro q hq; (repeat (first | exact hq | exact List.mem_append_left _ hq | exact List.mem_append_left _ (List.mem_append_left _ hq) | exact List.mem_append_left _ (List.mem_append_right _ hq) | refine List.mem_cons_of_mem _ ?_ | refine List.mem_append_right _ ?_))) hione hiother (by first | exact Nat.le_trans (by assumption) (by decide) | omega) ?_
    clear F15 N15
    intro D15 us15 h15 F15 N15 l15 hI15
    k_steps
    refine once_L Gg F15 N15 rfl (dpL _ _ (by decide)) (unL _ _ (by decide)) (List.Mem.head _) hI15 (by rw [List.length_append]; omega) ?_
    intro D16 ys16 h16 tk16 hys16 hlen16 F16 N16
    clear F15 N15
    k_steps
    rename Fr _ _ _ _ => F17
    rename News _ _ _ _ => N17
    refine ne_nice (ht14.reads (news_sub N17 (by intro q hq; (repeat (first | exact hq | exact List.mem_append_left _ hq | exact List.mem_append_left _ (List.mem_append_left _ hq) | exact List.mem_append_left _ (List.mem_append_right _ hq) | refine List.mem_cons_of_mem _ ?_ | refine List.mem_append_right _ ?_))))) (ToldIn.reads ⟨_, _, _, List.Mem.head _, List.Mem.tail _ (List.Mem.head _), hys16⟩ N17) (nice_told _ _) (unL _ 64 (by decide)) ?_
    k_steps
    exact HoldP.mk ⟨rfl, exi3 _ _ _ ⟨rfl, F17, news_sub N17 (by (repeat' (first | refine subCons ?_ ?_ | refine subApp ?_ ?_ | exact subNil | exact List.Mem.head _ | refine List.mem_cons_of_mem _ ?_ | (intro pS hS; (repeat (first | exact hS | exact List.mem_append_left _ hS | exact List.mem_append_left _ (List.mem_append_left _ hS) | exact List.mem_append_left _ (List.mem_append_right _ hS) | refine List.mem_cons_of_mem _ ?_ | refine List.mem_append_right _ ?_)); done) | refine List.mem_append_right _ ?_)))⟩⟩
  · intro h' tk' d' F' N'
    have hbt : ∃ t1 t2 t3, (bt, tupObj [.ref t1, .ref t2, .ref t3]) ∈ led13 ++ (ledb ++ (led11 ++ (led10 ++ (led9 ++ (led8 ++ (led7 ++ (led6 ++ led4))))))) ∧ ToldIn (led13 ++ (ledb ++ (led11 ++ (led10 ++ (led9 ++ (led8 ++ (led7 ++ (led6 ++ led4)))))))) t1 r1 fs1 ∧
        ToldIn (led13 ++ (ledb ++ (led11 ++ (led10 ++ (led9 ++ (led8 ++ (led7 ++ (led6 ++ led4)))))))) t2 r2 fs2 ∧ ToldIn (led13 ++ (ledb ++ (led11 ++ (led10 ++ (led9 ++ (led8 ++ (led7 ++ (led6 ++ led4)))))))) t3 r3 fs3 :=
      ⟨toneX, totherX, tthirdX, by (repeat (first | exact hbm | exact List.mem_append_left _ hbm | exact List.mem_append_left _ (List.mem_append_left _ hbm) | exact List.mem_append_left _ (List.mem_append_right _ hbm) | refine List.mem_cons_of_mem _ ?_ | refine List.mem_append_right _ ?_)), htone.mono (by intro q hq; (repeat (first | exact hq | exact List.mem_append_left _ hq | exact List.mem_append_left _ (List.mem_append_left _ hq) | exact List.mem_append_left _ (List.mem_append_right _ hq) | refine List.mem_cons_of_mem _ ?_ | refine List.mem_append_right _ ?_))), htother.mono (by intro q hq; (repeat (first | exact hq | exact List.mem_append_left _ hq | exact List.mem_append_left _ (List.mem_append_left _ hq) | exact List.mem_append_left _ (List.mem_append_right _ hq) | refine List.mem_cons_of_mem _ ?_ | refine List.mem_append_right _ ?_))), htthird.mono (by intro q hq; (repeat (first | exact hq | exact List.mem_append_left _ hq | exact List.mem_append_left _ (List.mem_append_left _ hq) | exact List.mem_append_left _ (List.mem_append_right _ hq) | refine List.mem_cons_of_mem _ ?_ | refine List.mem_append_right _ ?_)))⟩
    exact law_rest Gg (fr_swap F') N' hip hlp hne off13 hcc dwc dlc (hin4.mono (by intro q hq; (repeat (first | exact hq | exact List.mem_append_left _ hq | exact List.mem_append_left _ (List.mem_append_left _ hq) | exact List.mem_append_left _ (List.mem_append_right _ hq) | refine List.mem_cons_of_mem _ ?_ | refine List.mem_append_right _ ?_)))) hfl5 hftok hnl6
      (hin6.mono (by intro q hq; (repeat (first | exact hq | exact List.mem_append_left _ hq | exact List.mem_append_left _ (List.mem_append_left _ hq) | exact List.mem_append_left _ (List.mem_append_right _ hq) | refine List.mem_cons_of_mem _ ?_ | refine List.mem_append_right _ ?_)))) (hin7.mono (by intro q hq; (repeat (first | exact hq | exact List.mem_append_left _ hq | exact List.mem_append_left _ (List.mem_append_left _ hq) | exact List.mem_append_left _ (List.mem_append_right _ hq) | refine List.mem_cons_of_mem _ ?_ | refine List.mem_append_right _ ?_)))) (hin8.mono (by intro q hq; (repeat (first | exact hq | exact List.mem_append_left _ hq | exact List.mem_append_left _ (List.mem_append_left _ hq) | exact List.mem_append_left _ (List.mem_append_right _ hq) | refine List.mem_cons_of_mem _ ?_ | refine List.mem_append_right _ ?_)))) (hin13.mono (by intro q hq; (repeat (first | exact hq | exact List.mem_append_left _ hq | exact List.mem_append_left _ (List.mem_append_left _ hq) | exact List.mem_append_left _ (List.mem_append_right _ hq) | refine List.mem_cons_of_mem _ ?_ | refine List.mem_append_right _ ?_)))) hfl6 hfl7 hfl8 hbt (fun s' e1 e2 e3 => end_ok hgens e1 e2 e3) (by kernel_rfl) (by kernel_rfl)
  )
end
end
end
end
end Mine
theorem PySem.Challenge.cw_pb0163_01_holds : PySem.Challenge.rw_pb0163_01.Holds :=
  Mine.tt
