import PyProof.Rows.All
import Wide.All
import OpenK.AllK
import Wide.FinOn
import Lean
import PySem.Challenge.RW_ov0072_01
set_option Elab.async false
set_option maxRecDepth 100000
set_option maxHeartbeats 8000000
set_option linter.all false
set_option compiler.extract_closed false
open PySem PySem.W PyProof.Rows
namespace Mine
def Tag (_ : Hook) : Prop := True
theorem cap {P : Prop} {v h : Hook} (_ : Tag v) (_ : v = h) (hf : False) : P := hf.elim
section
local macro_rules | `(tactic| o_head $h) => `(tactic| exact cap (by assumption) (h := $h) rfl (by assumption))
noncomputable def hk : Hook := by
  refine' (fun (v : Hook) (_ : False → Tag v → OpenRow.Holds PySem.Challenge.rw_ov0072_01.row) => v) _ ?p
  case p => intro hf ht; w_on; k_head
end
end Mine
namespace Mine
open PySem PySem.W PySem.Spec PySem.Calls PyProof.Rows
abbrev PG : Program := PySem.Challenge.pw_ov0072_01
/-- the goal behind a name: what is taken apart meanwhile writes the name, not the goal -/
theorem hide {G : Prop} (k : (G → False) → False) : G := Classical.byContradiction k
theorem depth_le {a d d' r : Nat} (h : a + d < r) (e : Nat.ble d' d = true) : a + d' < r := Nat.lt_of_le_of_lt (Nat.add_le_add_left (Nat.le_of_ble_eq_true e) a) h
theorem units_le {a d d' r : Nat} (h : a + 20 * d + 15 < r) (e : Nat.ble d' d = true) : a + 20 * d' < r := by have := Nat.le_of_ble_eq_true e; lia
theorem room2 {a u d d' r c : Nat} (h : a + d < r) (k : u + 20 * d + 15 < c) (e : Nat.ble d' d = true) : a + d' < r ∧ u + 20 * d' < c := ⟨depth_le h e, units_le k e⟩
theorem ex2 {α0 : Sort _} {α1 : Sort _} {p : α0 → α1 → Prop} {G : Prop} (h : ∃ v0 v1, p v0 v1) (k : ∀ v0 v1, p v0 v1 → G) : G := by obtain ⟨v0, v1, h⟩ := h; exact k v0 v1 h
theorem ex3 {α0 : Sort _} {α1 : Sort _} {α2 : Sort _} {p : α0 → α1 → α2 → Prop} {G : Prop} (h : ∃ v0 v1 v2, p v0 v1 v2) (k : ∀ v0 v1 v2, p v0 v1 v2 → G) : G := by obtain ⟨v0, v1, v2, h⟩ := h; exact k v0 v1 v2 h
theorem ex4 {α0 : Sort _} {α1 : Sort _} {α2 : Sort _} {α3 : Sort _} {p : α0 → α1 → α2 → α3 → Prop} {G : Prop} (h : ∃ v0 v1 v2 v3, p v0 v1 v2 v3) (k : ∀ v0 v1 v2 v3, p v0 v1 v2 v3 → G) : G := by obtain ⟨v0, v1, v2, v3, h⟩ := h; exact k v0 v1 v2 v3 h
theorem ex5 {α0 : Sort _} {α1 : Sort _} {α2 : Sort _} {α3 : Sort _} {α4 : Sort _} {p : α0 → α1 → α2 → α3 → α4 → Prop} {G : Prop} (h : ∃ v0 v1 v2 v3 v4, p v0 v1 v2 v3 v4) (k : ∀ v0 v1 v2 v3 v4, p v0 v1 v2 v3 v4 → G) : G := by obtain ⟨v0, v1, v2, v3, v4, h⟩ := h; exact k v0 v1 v2 v3 v4 h
theorem ex6 {α0 : Sort _} {α1 : Sort _} {α2 : Sort _} {α3 : Sort _} {α4 : Sort _} {α5 : Sort _} {p : α0 → α1 → α2 → α3 → α4 → α5 → Prop} {G : Prop} (h : ∃ v0 v1 v2 v3 v4 v5, p v0 v1 v2 v3 v4 v5) (k : ∀ v0 v1 v2 v3 v4 v5, p v0 v1 v2 v3 v4 v5 → G) : G := by obtain ⟨v0, v1, v2, v3, v4, v5, h⟩ := h; exact k v0 v1 v2 v3 v4 v5 h
theorem ex7 {α0 : Sort _} {α1 : Sort _} {α2 : Sort _} {α3 : Sort _} {α4 : Sort _} {α5 : Sort _} {α6 : Sort _} {p : α0 → α1 → α2 → α3 → α4 → α5 → α6 → Prop} {G : Prop} (h : ∃ v0 v1 v2 v3 v4 v5 v6, p v0 v1 v2 v3 v4 v5 v6) (k : ∀ v0 v1 v2 v3 v4 v5 v6, p v0 v1 v2 v3 v4 v5 v6 → G) : G := by obtain ⟨v0, v1, v2, v3, v4, v5, v6, h⟩ := h; exact k v0 v1 v2 v3 v4 v5 v6 h
theorem ex8 {α0 : Sort _} {α1 : Sort _} {α2 : Sort _} {α3 : Sort _} {α4 : Sort _} {α5 : Sort _} {α6 : Sort _} {α7 : Sort _} {p : α0 → α1 → α2 → α3 → α4 → α5 → α6 → α7 → Prop} {G : Prop} (h : ∃ v0 v1 v2 v3 v4 v5 v6 v7, p v0 v1 v2 v3 v4 v5 v6 v7) (k : ∀ v0 v1 v2 v3 v4 v5 v6 v7, p v0 v1 v2 v3 v4 v5 v6 v7 → G) : G := by obtain ⟨v0, v1, v2, v3, v4, v5, v6, v7, h⟩ := h; exact k v0 v1 v2 v3 v4 v5 v6 v7 h
theorem ex9 {α0 : Sort _} {α1 : Sort _} {α2 : Sort _} {α3 : Sort _} {α4 : Sort _} {α5 : Sort _} {α6 : Sort _} {α7 : Sort _} {α8 : Sort _} {p : α0 → α1 → α2 → α3 → α4 → α5 → α6 → α7 → α8 → Prop} {G : Prop} (h : ∃ v0 v1 v2 v3 v4 v5 v6 v7 v8, p v0 v1 v2 v3 v4 v5 v6 v7 v8) (k : ∀ v0 v1 v2 v3 v4 v5 v6 v7 v8, p v0 v1 v2 v3 v4 v5 v6 v7 v8 → G) : G := by obtain ⟨v0, v1, v2, v3, v4, v5, v6, v7, v8, h⟩ := h; exact k v0 v1 v2 v3 v4 v5 v6 v7 v8 h
theorem and2 {a0 a1 G : Prop} (h : a0 ∧ a1) (k : a0 → a1 → G) : G := by obtain ⟨xa0, xa1⟩ := h; exact k xa0 xa1
theorem and3 {a0 a1 a2 G : Prop} (h : a0 ∧ a1 ∧ a2) (k : a0 → a1 → a2 → G) : G := by obtain ⟨xa0, xa1, xa2⟩ := h; exact k xa0 xa1 xa2
theorem and4 {a0 a1 a2 a3 G : Prop} (h : a0 ∧ a1 ∧ a2 ∧ a3) (k : a0 → a1 → a2 → a3 → G) : G := by obtain ⟨xa0, xa1, xa2, xa3⟩ := h; exact k xa0 xa1 xa2 xa3
theorem and5 {a0 a1 a2 a3 a4 G : Prop} (h : a0 ∧ a1 ∧ a2 ∧ a3 ∧ a4) (k : a0 → a1 → a2 → a3 → a4 → G) : G := by obtain ⟨xa0, xa1, xa2, xa3, xa4⟩ := h; exact k xa0 xa1 xa2 xa3 xa4
theorem and6 {a0 a1 a2 a3 a4 a5 G : Prop} (h : a0 ∧ a1 ∧ a2 ∧ a3 ∧ a4 ∧ a5) (k : a0 → a1 → a2 → a3 → a4 → a5 → G) : G := by obtain ⟨xa0, xa1, xa2, xa3, xa4, xa5⟩ := h; exact k xa0 xa1 xa2 xa3 xa4 xa5
theorem and7 {a0 a1 a2 a3 a4 a5 a6 G : Prop} (h : a0 ∧ a1 ∧ a2 ∧ a3 ∧ a4 ∧ a5 ∧ a6) (k : a0 → a1 → a2 → a3 → a4 → a5 → a6 → G) : G := by obtain ⟨xa0, xa1, xa2, xa3, xa4, xa5, xa6⟩ := h; exact k xa0 xa1 xa2 xa3 xa4 xa5 xa6
theorem and8 {a0 a1 a2 a3 a4 a5 a6 a7 G : Prop} (h : a0 ∧ a1 ∧ a2 ∧ a3 ∧ a4 ∧ a5 ∧ a6 ∧ a7) (k : a0 → a1 → a2 → a3 → a4 → a5 → a6 → a7 → G) : G := by obtain ⟨xa0, xa1, xa2, xa3, xa4, xa5, xa6, xa7⟩ := h; exact k xa0 xa1 xa2 xa3 xa4 xa5 xa6 xa7
theorem and9 {a0 a1 a2 a3 a4 a5 a6 a7 a8 G : Prop} (h : a0 ∧ a1 ∧ a2 ∧ a3 ∧ a4 ∧ a5 ∧ a6 ∧ a7 ∧ a8) (k : a0 → a1 → a2 → a3 → a4 → a5 → a6 → a7 → a8 → G) : G := by obtain ⟨xa0, xa1, xa2, xa3, xa4, xa5, xa6, xa7, xa8⟩ := h; exact k xa0 xa1 xa2 xa3 xa4 xa5 xa6 xa7 xa8
theorem and10 {a0 a1 a2 a3 a4 a5 a6 a7 a8 a9 G : Prop} (h : a0 ∧ a1 ∧ a2 ∧ a3 ∧ a4 ∧ a5 ∧ a6 ∧ a7 ∧ a8 ∧ a9) (k : a0 → a1 → a2 → a3 → a4 → a5 → a6 → a7 → a8 → a9 → G) : G := by obtain ⟨xa0, xa1, xa2, xa3, xa4, xa5, xa6, xa7, xa8, xa9⟩ := h; exact k xa0 xa1 xa2 xa3 xa4 xa5 xa6 xa7 xa8 xa9
theorem and11 {a0 a1 a2 a3 a4 a5 a6 a7 a8 a9 a10 G : Prop} (h : a0 ∧ a1 ∧ a2 ∧ a3 ∧ a4 ∧ a5 ∧ a6 ∧ a7 ∧ a8 ∧ a9 ∧ a10) (k : a0 → a1 → a2 → a3 → a4 → a5 → a6 → a7 → a8 → a9 → a10 → G) : G := by obtain ⟨xa0, xa1, xa2, xa3, xa4, xa5, xa6, xa7, xa8, xa9, xa10⟩ := h; exact k xa0 xa1 xa2 xa3 xa4 xa5 xa6 xa7 xa8 xa9 xa10
theorem and12 {a0 a1 a2 a3 a4 a5 a6 a7 a8 a9 a10 a11 G : Prop} (h : a0 ∧ a1 ∧ a2 ∧ a3 ∧ a4 ∧ a5 ∧ a6 ∧ a7 ∧ a8 ∧ a9 ∧ a10 ∧ a11) (k : a0 → a1 → a2 → a3 → a4 → a5 → a6 → a7 → a8 → a9 → a10 → a11 → G) : G := by obtain ⟨xa0, xa1, xa2, xa3, xa4, xa5, xa6, xa7, xa8, xa9, xa10, xa11⟩ := h; exact k xa0 xa1 xa2 xa3 xa4 xa5 xa6 xa7 xa8 xa9 xa10 xa11
theorem and13 {a0 a1 a2 a3 a4 a5 a6 a7 a8 a9 a10 a11 a12 G : Prop} (h : a0 ∧ a1 ∧ a2 ∧ a3 ∧ a4 ∧ a5 ∧ a6 ∧ a7 ∧ a8 ∧ a9 ∧ a10 ∧ a11 ∧ a12) (k : a0 → a1 → a2 → a3 → a4 → a5 → a6 → a7 → a8 → a9 → a10 → a11 → a12 → G) : G := by obtain ⟨xa0, xa1, xa2, xa3, xa4, xa5, xa6, xa7, xa8, xa9, xa10, xa11, xa12⟩ := h; exact k xa0 xa1 xa2 xa3 xa4 xa5 xa6 xa7 xa8 xa9 xa10 xa11 xa12
theorem and14 {a0 a1 a2 a3 a4 a5 a6 a7 a8 a9 a10 a11 a12 a13 G : Prop} (h : a0 ∧ a1 ∧ a2 ∧ a3 ∧ a4 ∧ a5 ∧ a6 ∧ a7 ∧ a8 ∧ a9 ∧ a10 ∧ a11 ∧ a12 ∧ a13) (k : a0 → a1 → a2 → a3 → a4 → a5 → a6 → a7 → a8 → a9 → a10 → a11 → a12 → a13 → G) : G := by obtain ⟨xa0, xa1, xa2, xa3, xa4, xa5, xa6, xa7, xa8, xa9, xa10, xa11, xa12, xa13⟩ := h; exact k xa0 xa1 xa2 xa3 xa4 xa5 xa6 xa7 xa8 xa9 xa10 xa11 xa12 xa13
theorem and15 {a0 a1 a2 a3 a4 a5 a6 a7 a8 a9 a10 a11 a12 a13 a14 G : Prop} (h : a0 ∧ a1 ∧ a2 ∧ a3 ∧ a4 ∧ a5 ∧ a6 ∧ a7 ∧ a8 ∧ a9 ∧ a10 ∧ a11 ∧ a12 ∧ a13 ∧ a14) (k : a0 → a1 → a2 → a3 → a4 → a5 → a6 → a7 → a8 → a9 → a10 → a11 → a12 → a13 → a14 → G) : G := by obtain ⟨xa0, xa1, xa2, xa3, xa4, xa5, xa6, xa7, xa8, xa9, xa10, xa11, xa12, xa13, xa14⟩ := h; exact k xa0 xa1 xa2 xa3 xa4 xa5 xa6 xa7 xa8 xa9 xa10 xa11 xa12 xa13 xa14
theorem and16 {a0 a1 a2 a3 a4 a5 a6 a7 a8 a9 a10 a11 a12 a13 a14 a15 G : Prop} (h : a0 ∧ a1 ∧ a2 ∧ a3 ∧ a4 ∧ a5 ∧ a6 ∧ a7 ∧ a8 ∧ a9 ∧ a10 ∧ a11 ∧ a12 ∧ a13 ∧ a14 ∧ a15) (k : a0 → a1 → a2 → a3 → a4 → a5 → a6 → a7 → a8 → a9 → a10 → a11 → a12 → a13 → a14 → a15 → G) : G := by obtain ⟨xa0, xa1, xa2, xa3, xa4, xa5, xa6, xa7, xa8, xa9, xa10, xa11, xa12, xa13, xa14, xa15⟩ := h; exact k xa0 xa1 xa2 xa3 xa4 xa5 xa6 xa7 xa8 xa9 xa10 xa11 xa12 xa13 xa14 xa15
theorem and17 {a0 a1 a2 a3 a4 a5 a6 a7 a8 a9 a10 a11 a12 a13 a14 a15 a16 G : Prop} (h : a0 ∧ a1 ∧ a2 ∧ a3 ∧ a4 ∧ a5 ∧ a6 ∧ a7 ∧ a8 ∧ a9 ∧ a10 ∧ a11 ∧ a12 ∧ a13 ∧ a14 ∧ a15 ∧ a16) (k : a0 → a1 → a2 → a3 → a4 → a5 → a6 → a7 → a8 → a9 → a10 → a11 → a12 → a13 → a14 → a15 → a16 → G) : G := by obtain ⟨xa0, xa1, xa2, xa3, xa4, xa5, xa6, xa7, xa8, xa9, xa10, xa11, xa12, xa13, xa14, xa15, xa16⟩ := h; exact k xa0 xa1 xa2 xa3 xa4 xa5 xa6 xa7 xa8 xa9 xa10 xa11 xa12 xa13 xa14 xa15 xa16
theorem and18 {a0 a1 a2 a3 a4 a5 a6 a7 a8 a9 a10 a11 a12 a13 a14 a15 a16 a17 G : Prop} (h : a0 ∧ a1 ∧ a2 ∧ a3 ∧ a4 ∧ a5 ∧ a6 ∧ a7 ∧ a8 ∧ a9 ∧ a10 ∧ a11 ∧ a12 ∧ a13 ∧ a14 ∧ a15 ∧ a16 ∧ a17) (k : a0 → a1 → a2 → a3 → a4 → a5 → a6 → a7 → a8 → a9 → a10 → a11 → a12 → a13 → a14 → a15 → a16 → a17 → G) : G := by obtain ⟨xa0, xa1, xa2, xa3, xa4, xa5, xa6, xa7, xa8, xa9, xa10, xa11, xa12, xa13, xa14, xa15, xa16, xa17⟩ := h; exact k xa0 xa1 xa2 xa3 xa4 xa5 xa6 xa7 xa8 xa9 xa10 xa11 xa12 xa13 xa14 xa15 xa16 xa17
def LtK (D : Nat) (G : Prop) : List (Addr × Obj) → Prop
  | [] => G
  | (a, _) :: l => @LT.lt Nat _ a D → LtK D G l
theorem ltK {D : Nat} {G : Prop} : ∀ {l : List (Addr × Obj)}, (∀ p ∈ l, @LT.lt Nat _ p.1 D) → LtK D G l → G
  | [], _, k => k
  | _ :: _, h, k => ltK (fun p hp => h p (.tail _ hp)) (k (h _ (.head _)))
def NeK (D : Nat) (G : Prop) : List (Addr × Obj) → Prop
  | [] => G
  | (a, _) :: l => @Ne Nat a D → NeK D G l
theorem neK {D : Nat} {G : Prop} : ∀ {l : List (Addr × Obj)}, (∀ p ∈ l, @Ne Nat p.1 D) → NeK D G l → G
  | [], _, k => k
  | _ :: _, h, k => neK (fun p hp => h p (.tail _ hp)) (k (h _ (.head _)))
/-- what a call keeps: every object but those of X -/
def Kept (X : List Addr) (h h' : Heap) : Prop := ∀ b o, b ∉ X → h.get? b = some o → h'.get? b = some o
theorem Kept.nil {h h' : Heap} (k : ∀ b o, h.get? b = some o → h'.get? b = some o) : Kept [] h h' := fun b o _ e => k b o e
theorem Kept.all {h h' : Heap} (k : Kept [] h h') : ∀ b o, h.get? b = some o → h'.get? b = some o := fun b o e => k b o (by simp) e
theorem fr_kept {h₀ h h' : Heap} {L : Addr} {m : Str → Option Value} {X : List Addr} (F : Fr h₀ L h m) (k : Kept X h h') (hX : ∀ x ∈ X, h₀.get? x = none ∧ x ≠ L) : Fr h₀ L h' m := by
  obtain ⟨oL, es, ep, hL, r⟩ := F.ns
  refine ⟨⟨oL, es, ep, k _ _ (fun hx => (hX _ hx).2 rfl) hL, r⟩, fun b o e => k _ _ (fun hx => ?_) (F.keep b o e), F.above⟩
  rw [(hX _ hx).1] at e; cases e
theorem news_kept {h₀ h h' : Heap} {L : Addr} {news : List (Addr × Obj)} {X : List Addr} (N : News h₀ L h news) (k : Kept X h h') (hX : ∀ p ∈ news, p.1 ∉ X) : News h₀ L h' news :=
  fun p hp => ⟨k _ _ (hX p hp) (N p hp).1, (N p hp).2⟩
/-- the claim of a def: at address f, called with vs from the heap h, it changes X alone and hands back v with Res v h' -/
abbrev Says (w : World) (p : Program) (loose : List Str) (mean : ExcName → Option Value) (mg mb : Str → Option Value) (d : Nat) (f : Addr) (X : List Addr) (vs : List Value) (h : Heap) (Res : Value → Heap → Prop) : Prop :=
  ∀ (dp un : Nat) (gd : Option (List Code)) (cn : Str) (cs : Scope) (L a : Addr) (ccd : Value) (cl : List (Str × Addr)) (outer : List Env) (A₀ : Around) (base h₀ : Heap) (m : Str → Option Value) (s : Shared) (Q E : Value → Shared → Prop),
    s.heap = h → Below A₀ base outer h₀ → Fr h₀ L s.heap m → (Mine.hk.heap_1 w.params).In h₀ → Top p loose mean mg mb h₀ → cs.kind = .function → dp + d < recursionLimit → un + 20 * d < cLine →
    (∀ x ∈ X, h₀.get? x = none ∧ x ≠ L) →
    (∀ v h' tk', Kept X s.heap h' → Res v h' → Q v { s with heap := h', toks := tk' }) →
    wpAny (model PG w) (ktrTop dp un gd cn cs L a ccd cl outer) (call (.ref f) vs) Q E s
/-- a body's end: what stood at g stands, and what comes back is told -/
def Ret (s : Shared) (g : Heap) (L : Addr) (Res : Value → Heap → Prop) (fl : Flow) (s' : Shared) : Prop :=
  ∃ h' tk' m', s' = { s with heap := h', toks := tk' } ∧ Fr g L h' m' ∧ Res (match fl with | .ret v => v | _ => .none) h'
theorem Ret.intro {s : Shared} {g h' : Heap} {L : Addr} {tk' : Nat} {m' : Str → Option Value} {Res : Value → Heap → Prop} {v : Value} (F : Fr g L h' m') (r : Res v h') : Ret s g L Res (.ret v) { s with heap := h', toks := tk' } := ⟨h', tk', m', rfl, F, r⟩
section
variable {w : World} {p : Program} {loose : List Str} {mean : ExcName → Option Value} {mg mb : Str → Option Value}
theorem says_use {d : Nat} {f : Addr} {vs : List Value} {Res : Value → Heap → Prop} {dp un : Nat} {gd : Option (List Code)} {cn : Str} {cs : Scope} {L a : Addr} {ccd : Value} {cl : List (Str × Addr)} {outer : List Env} {A₀ : Around} {base h₀ : Heap} {m : Str → Option Value} {s : Shared} {Q E : Value → Shared → Prop} {news : List (Addr × Obj)}
    (S : Says w p loose mean mg mb d f [] vs s.heap Res) (B : Below A₀ base outer h₀) (F : Fr h₀ L s.heap m) (X : (Mine.hk.heap_1 w.params).In h₀) (N : News h₀ L s.heap news) (T : Top p loose mean mg mb h₀) (hk : cs.kind = .function)
    (hr : dp + d < recursionLimit ∧ un + 20 * d < cLine)
    (ret : ∀ v h' tk', Fr h₀ L h' m → News h₀ L h' news → (∀ b o, s.heap.get? b = some o → h'.get? b = some o) → Res v h' → Q v { s with heap := h', toks := tk' }) :
    wpAny (model PG w) (ktrTop dp un gd cn cs L a ccd cl outer) (call (.ref f) vs) Q E s :=
  S dp un gd cn cs L a ccd cl outer A₀ base h₀ m s Q E rfl B F X T hk hr.1 hr.2 (fun _ hx => nomatch hx) fun v h' tk' k r => ret v h' tk' (fr_kept F k (fun _ hx => nomatch hx)) (news_kept N k (fun _ _ hx => nomatch hx)) k.all r
theorem says_useT {d : Nat} {f : Addr} {vs : List Value} {vt : Tok → Value} {dp un : Nat} {gd : Option (List Code)} {cn : Str} {cs : Scope} {L a : Addr} {ccd : Value} {cl : List (Str × Addr)} {outer : List Env} {A₀ : Around} {base h₀ : Heap} {m : Str → Option Value} {s : Shared} {Q E : Value → Shared → Prop} {news : List (Addr × Obj)}
    (S : Says w p loose mean mg mb d f [] vs s.heap (fun v _ => ∃ t, v = vt t)) (B : Below A₀ base outer h₀) (F : Fr h₀ L s.heap m) (X : (Mine.hk.heap_1 w.params).In h₀) (N : News h₀ L s.heap news) (T : Top p loose mean mg mb h₀) (hk : cs.kind = .function)
    (hr : dp + d < recursionLimit ∧ un + 20 * d < cLine)
    (ret : ∀ t h' tk', Fr h₀ L h' m → News h₀ L h' news → (∀ b o, s.heap.get? b = some o → h'.get? b = some o) → Q (vt t) { s with heap := h', toks := tk' }) :
    wpAny (model PG w) (ktrTop dp un gd cn cs L a ccd cl outer) (call (.ref f) vs) Q E s :=
  says_use S B F X N T hk hr fun v h' tk' F' N' k r => by obtain ⟨t, e⟩ := r; subst e; exact ret t h' tk' F' N' k
theorem enter0 (binds : List (Str × Value)) {d : Nat} {f : Addr} {vs : List Value} {h : Heap} {Res : Value → Heap → Prop} {name qual : Str} {params : Arguments} {body : List Stmt} {scope : Scope} {dV kV doc pm cdv ct oc : Value} {an od : Option Addr} {osl : Array (Option Value)}
    (ho : (Mine.hk.heap_1 w.params).lookup f = some ⟨oc, od, .func (fnOf name qual params body scope dV kV doc pm an cdv ct), osl⟩) (hcd : codeIn (Mine.hk.heap_1 w.params) cdv qual = true)
    (hbind : ∀ s : Shared, (Mine.hk.heap_1 w.params).In s.heap → BindsTo s (fnOf name qual params body scope dV kV doc pm an cdv ct) ⟨vs, []⟩ binds) (hloc : ∀ y ∈ binds, scope.names.lookup y.1 = some .local)
    (hco : scope.isCoroutine = false) (hgen : scope.isGenerator = false) (hkf : scope.kind = .function) (hcell : ∀ x ∈ scope.names, x.2 ≠ .cell)
    (hb : ∀ (dp un : Nat) (gd : Option (List Code)) (outer : List Env) (A : Around) (base g h₁ : Heap) (L : Addr) (s : Shared), (∀ b o, h.get? b = some o → g.get? b = some o) →
      Fr g L h₁ (fun y => binds.reverse.lookup y) → News g L h₁ [] → Below A base outer g → (Mine.hk.heap_1 w.params).In g → Top p loose mean mg mb g → dp + d < recursionLimit → un + 20 * d + 15 < cLine →
      wpAny (model PG w) (ktrTop dp un gd qual scope L f cdv [] outer) (execs body (envOf qual scope L f cdv)) (Ret s g L Res) (fun _ _ => False) { s with heap := h₁ }) :
    Says w p loose mean mg mb (d + 1) f [] vs h Res := by
  intro dp un gd cn cs L a ccd cl outer A₀ base h₀ m s Q E hs B F X T hkc hd hu _ hret
  subst hs
  refine wpAny_call ?_
  refine code_defG (news := []) B F X (fun _ hp => nomatch hp) T rfl rfl hkc ho hcd (Nat.lt_of_le_of_lt (Nat.le_add_right dp (d + 1)) hd) (hbind s (X.keeps F.keep)) hloc ?_ hco hgen hkf hcell
  intro g L' h₁ FG F' N' B' X' T' G'
  have hg : ∀ b o, s.heap.get? b = some o → g.get? b = some o := fun b o e => G' b o e (by simp)
  refine wpAny_mono (hb (dp + 1) (un + 3) gd (envX cn cs L a ccd cl :: outer) _ base g h₁ L' { s with toks := s.toks + binds.length } hg F' N' B' X' T' (by lia) (by lia)) (fun fl s' hr => ?_) (fun _ _ hf => hf.elim)
  obtain ⟨h', tk', m', rfl, F₂, hres⟩ := hr
  refine ⟨L', m', [], F₂, fun _ hp => (nomatch hp), fun _ _ => ?_⟩
  exact hret _ h' tk' (Kept.nil fun b o e => F₂.keep b o (hg b o e)) hres
/-- the same for a def whose locals are captured -/
theorem enterC (binds : List (Str × Value)) {d : Nat} {f : Addr} {vs : List Value} {h : Heap} {Res : Value → Heap → Prop} {name qual : Str} {params : Arguments} {body : List Stmt} {scope : Scope} {dV kV doc pm cdv ct oc : Value} {an od : Option Addr} {osl : Array (Option Value)}
    (ho : (Mine.hk.heap_1 w.params).lookup f = some ⟨oc, od, .func (fnOf name qual params body scope dV kV doc pm an cdv ct), osl⟩) (hcd : codeIn (Mine.hk.heap_1 w.params) cdv qual = true)
    (hbind : ∀ s : Shared, (Mine.hk.heap_1 w.params).In s.heap → BindsTo s (fnOf name qual params body scope dV kV doc pm an cdv ct) ⟨vs, []⟩ binds)
    (hkind : (binds.all fun y => scope.names.lookup y.1 == some .local || scope.names.lookup y.1 == some .cell) = true) (hnd : ((cellsFrom 0 scope.names []).map (·.1)).Nodup)
    (hco : scope.isCoroutine = false) (hgen : scope.isGenerator = false) (hkf : scope.kind = .function)
    (hb : ∀ (dp un : Nat) (gd : Option (List Code)) (outer : List Env) (A : Around) (base g h₁ : Heap) (L : Addr) (s : Shared) (cells : List (Addr × Obj)), (∀ b o, h.get? b = some o → g.get? b = some o) →
      Fr g L h₁ (bindL (envOfC qual scope L f cdv).kindOf binds fun _ => none) → News g L h₁ cells → CellsAre (bindC (envOfC qual scope L f cdv).kindOf binds fun _ => none) (cellsFrom (L + 1) scope.names []) cells → Below A base outer g → (Mine.hk.heap_1 w.params).In g → Top p loose mean mg mb g → dp + d < recursionLimit → un + 20 * d + 15 < cLine →
      wpAny (model PG w) (ktrTop dp un gd qual scope L f cdv (cellsFrom (L + 1) scope.names []) outer) (execs body (envOfC qual scope L f cdv)) (Ret s g L Res) (fun _ _ => False) { s with heap := h₁ }) :
    Says w p loose mean mg mb (d + 1) f [] vs h Res := by
  intro dp un gd cn cs L a ccd cl outer A₀ base h₀ m s Q E hs B F X T hkc hd hu _ hret
  subst hs
  refine wpAny_call ?_
  have X₁ := X.keeps F.keep
  have B₁ := pushX (env := envX cn cs L a ccd cl) B F rfl hkc
  refine codeAny_call_function (Nat.lt_of_le_of_lt (Nat.le_add_right dp (d + 1)) hd) (X₁ _ _ ho) rfl hco hgen rfl (codeRec_of X₁ hcd) (hbind s X₁ _ _ _ _ ?_)
  refine wpAny_newFunctionEnv_cells hkf (kindsX hkind _) fun env' he s' x => ?_
  subst he
  refine ⟨(T.nolimit.keeps F.keep).keeps x.toInCall.keep, codeAny_func ?_⟩
  obtain ⟨h₁, tk, rfl, _⟩ := x.done
  have hk₁ := x.toInCall.keep
  obtain ⟨cells, NC, Y⟩ := Cl.news (h₀ := s.heap) (Nat.le_refl _) fun n c hm => ⟨x.cell n c (lookup_of_mem_nodup (cellsFrom_names scope.names 0 (s.heap.objs.size + 1) [] [] rfl ▸ hnd) hm), x.above n c hm⟩
  have B₂ : Below (ktrTop dp un gd cn cs L a ccd cl outer) base (envX cn cs L a ccd cl :: outer) s.heap := ⟨rfl, B₁.stays, B₁.frames⟩
  refine wpAny_mono (hb (dp + 1) (un + 3) gd (envX cn cs L a ccd cl :: outer) _ base s.heap h₁ s.heap.objs.size { s with toks := tk } cells (fun _ _ e => e) ⟨x.toInCall.ns, hk₁, Nat.le_refl _⟩ NC Y B₂ X₁ (T.keeps F.keep) (by lia) (by lia)) (fun fl s' hr => ?_) (fun _ _ hf => hf.elim)
  obtain ⟨h', tk', m', rfl, F₂, hres⟩ := hr
  exact hret _ h' tk' (Kept.nil fun b o e => F₂.keep b o e) hres
end
end Mine
namespace Mine
open PySem PySem.W PySem.Spec PySem.Calls PyProof.Rows
section
variable {prog : Program} {w : World} {A : Around} {E : Value → Shared → Prop} {s : Shared} {env : Env} {h₀ : Heap} {Q : Flow → Shared → Prop}
/-- a while by a measure over states -/
theorem while_rule {test : Expr} {body : List Stmt} {pos : Pos} (J : Nat → Shared → Prop) (hE : PassesOwn (model prog w) A env E)
    (turn : ∀ n s, J n s → wpAny (model prog w) A (isTrue test env (eval test env)) (fun b s₂ => WhlIf b
      (wpAny (model prog w) A (execs body env) (fun f s₃ => match f with | .ret v => Q (.ret v) s₃ | .brk => Q .next s₃ | _ => ∃ n', n' < n ∧ J n' s₃) E s₂) (Q .next s₂)) E s)
    (n : Nat) (h : J n s) : wpAny (model prog w) A (exec (.While test body [] pos) env) Q E s := by
  have all : ∀ k n s, n < k → J n s → WhlRest prog w A E env test body [] Q k s := by
    intro k
    induction k with
    | zero => intro n s h; lia
    | succ k ih =>
      intro n s hn hJ
      refine whl_turn hE (wpAny_mono (turn n s hJ) (fun b s₂ hb => ?_) fun _ _ e => e)
      cases b with
      | false =>
        have hb' : Q .next s₂ := by unfold WhlIf at hb; rw [if_neg Bool.false_ne_true] at hb; exact hb
        exact WhlIf.no rfl (wpAny_execs_nil hb')
      | true =>
        have hb' := hb
        unfold WhlIf at hb'
        rw [if_pos rfl] at hb'
        refine WhlIf.yes rfl (wpAny_mono hb' (fun f s₃ h₃ => ?_) fun _ _ e => e)
        cases f with
        | ret v => exact h₃
        | brk => exact h₃
        | next => obtain ⟨n', h1, h2⟩ := h₃; exact ih n' s₃ (by lia) h2
        | cont => obtain ⟨n', h1, h2⟩ := h₃; exact ih n' s₃ (by lia) h2
  exact whl_start (n + 1) (all (n + 1) n s (Nat.lt_succ_self _) h)
/-- a while whose test is false at once -/
def Stops (Q : Flow → Shared → Prop) (b : Bool) (s : Shared) : Prop := b = false ∧ Q .next s
theorem while_false {test : Expr} {body : List Stmt} {pos : Pos} (hE : PassesOwn (model prog w) A env E)
    (h : wpAny (model prog w) A (isTrue test env (eval test env)) (Stops Q) E s) : wpAny (model prog w) A (exec (.While test body [] pos) env) Q E s := by
  refine while_rule (fun _ s' => s' = s) hE ?_ 0 rfl
  rintro n s' rfl
  refine wpAny_mono h (fun b s₂ hb => ?_) fun _ _ e => e
  obtain ⟨rfl, hq⟩ := hb
  exact WhlIf.no rfl hq
def TurnPost (h₀ : Heap) (L : Addr) (I : Addr) (o : Obj) (J : (Str → Option Value) → List (Addr × Obj) → Prop) (s₁ : Shared) (Q : Flow → Shared → Prop) (f : Flow) (s₂ : Shared) : Prop :=
  match f with
  | .ret v => Q (.ret v) s₂
  | .brk => Q .next s₂
  | _ => ∃ h' tk m' nx, s₂ = { s₁ with heap := h', toks := tk } ∧ Fr h₀ L h' m' ∧ News h₀ L h' ((I, o) :: nx) ∧ (∀ p ∈ nx, p.1 ≠ I) ∧ J m' nx
theorem TurnPost.intro {L I : Addr} {o : Obj} {J : (Str → Option Value) → List (Addr × Obj) → Prop} {s₁ : Shared} {h' : Heap} {tk : Nat} {m' : Str → Option Value} {nx : List (Addr × Obj)}
    (F : Fr h₀ L h' m') (N : News h₀ L h' ((I, o) :: nx)) (hn : ∀ p ∈ nx, p.1 ≠ I) (hj : J m' nx) : TurnPost h₀ L I o J s₁ Q .next { s₁ with heap := h', toks := tk } := ⟨h', tk, m', nx, rfl, F, N, hn, hj⟩
theorem loop_of {x : Str} {body : List Stmt} {I : Addr} {fp : List Addr} {n : Nat} {P : Nat → Value → Prop} {St : Nat → Heap → Prop} {m₀ : Str → Option Value} {news : List (Addr × Obj)} {s₂ : Shared}
    (J : Nat → (Str → Option Value) → List (Addr × Obj) → Prop)
    (W : Walks prog w A I fp [I] n P St) (hLf : env.locals ∉ fp) (hfp : ∀ b ∈ fp, b = I ∨ (h₀.get? b).isSome = true) (hI : h₀.get? I = none) (hlive : ∀ i h, St i h → ∃ o, h.get? I = some o) (hnI : ∀ p ∈ news, p.1 ≠ I) (hst : St 0 s₂.heap)
    (F : Fr h₀ env.locals s₂.heap m₀) (N : News h₀ env.locals s₂.heap news) (hj : J 0 m₀ news)
    (turn : ∀ i v o m₁ news₁ h tk, i < n → P i v → J i m₁ news₁ → (∀ p ∈ news₁, p.1 ≠ I) → Fr h₀ env.locals h (fun y => if y = x then some v else m₁ y) → News h₀ env.locals h ((I, o) :: news₁) →
      wpAny (model prog w) A (execs body env) (TurnPost h₀ env.locals I o (J (i + 1)) { s₂ with heap := h, toks := tk } Q) E { s₂ with heap := h, toks := tk })
    (done : ∀ m₁ news₁ h tk, J n m₁ news₁ → Fr h₀ env.locals h m₁ → News h₀ env.locals h news₁ → Q .next { s₂ with heap := h, toks := tk }) :
    LoopAtV prog w A h₀ env x body Q E (.ref I) s₂ := by
  refine ⟨I, fp, [I], n, P, St, m₀, news, J, rfl, W, hLf, ?_, ?_, hst, F, N, hj, ?_, ?_⟩
  · intro b hb; rw [List.mem_singleton.mp hb]; exact hI
  · intro p hp hm; exact hnI p hp (List.mem_singleton.mp hm)
  · rintro i v m₁ news₁ s₁ own ⟨h, tk, rfl⟩ hi hP hJ hoff hown hget hall hst₁ F₁ N₁
    obtain ⟨o, ho⟩ := hlive _ _ hst₁
    have hIo : (I, o) ∈ own := hall I (W.sub _ (by simp)) hI o ho
    have hon : ∀ p ∈ own, p = (I, o) := fun p hp => by
      have h1 : p.1 = I := by
        rcases hfp _ (hown p hp) with h | h
        · exact h
        · rw [(N₁ p (List.mem_append_left _ hp)).2.2] at h; cases h
      have h2 := hget p hp
      rw [h1, ho] at h2
      exact Prod.ext h1 (Option.some.inj h2).symm
    have N₂ : News h₀ env.locals h ((I, o) :: news₁) := fun p hp => by
      rcases List.mem_cons.mp hp with rfl | hp
      · exact N₁ _ (List.mem_append_left _ hIo)
      · exact N₁ p (List.mem_append_right _ hp)
    refine wpAny_mono (turn i v o m₁ news₁ h tk hi hP hJ (fun p hp e => hoff p hp (by rw [e]; simp)) F₁ N₂) (fun f s₃ hf => ?_) fun _ _ e => e
    have fin : (∃ h' tk' m' nx, s₃ = { s₂ with heap := h', toks := tk' } ∧ Fr h₀ env.locals h' m' ∧ News h₀ env.locals h' ((I, o) :: nx) ∧ (∀ p ∈ nx, p.1 ≠ I) ∧ J (i + 1) m' nx) → LoopStepU h₀ env.locals [I] own (J (i + 1)) { s₂ with heap := h, toks := tk } .next s₃ := by
      rintro ⟨h', tk', m', nx, rfl, F', N', hne, hJ'⟩
      refine ⟨rfl, h', tk', m', nx, rfl, F', fun p hp => ?_, fun p hp hm => hne p hp (List.mem_singleton.mp hm), hJ'⟩
      rcases List.mem_append.mp hp with hp | hp
      · rw [hon p hp]; exact N' _ (List.mem_cons_self ..)
      · exact N' p (List.mem_cons_of_mem _ hp)
    cases f with
    | ret v => exact .ret hf
    | brk => exact .brk hf
    | next => exact .next (fin hf)
    | cont => exact .cont (fin hf)
  · intro h' tk m' news' F' N' _ hJ
    exact done m' news' h' tk hJ F' N'
theorem small_of {a b : Int} (h1 : -1000000 < a) (h2 : a < 1000000) (h3 : -1000000 < b) (h4 : b < 1000000) : Builtin.Range.small a b 1 = true := by
  have hs : Builtin.Range.rangeSize a b 1 = if a < b then (b - a - 1) / 1 + 1 else 0 := by
    simp [Builtin.Range.rangeSize]
  have f : ∀ x : Int, -10000000 < x → x < 10000000 → Builtin.Range.rangeFitsLong x = true := by
    intro x h1 h2
    unfold Builtin.Range.rangeFitsLong
    simp
    lia
  unfold Builtin.Range.small
  have hz : 0 ≤ Builtin.Range.rangeSize a b 1 ∧ Builtin.Range.rangeSize a b 1 < 10000000 := by
    rw [hs]; split <;> lia
  rw [f a (by lia) (by lia), f b (by lia) (by lia), f 1 (by lia) (by lia), f _ (by lia) hz.2, f (b + (1 - 1)) (by lia) (by lia)]
  simp
theorem size_of {a b : Int} (h : a ≤ b) : Builtin.Range.rangeSize a b 1 = ((b - a).toNat : Int) := by
  simp only [Builtin.Range.rangeSize]
  by_cases hab : a < b
  · simp [hab]; lia
  · simp [hab]; lia
/-- a for over range(a, b) -/
theorem iter_range {r : Addr} {a b : Int} {t u v : Tok} {x : Str} {body : List Stmt} {m₀ : Str → Option Value} {news₀ news : List (Addr × Obj)}
    (J : Nat → (Str → Option Value) → List (Addr × Obj) → Prop) (hh : A.handled = none)
    (F : Fr h₀ env.locals s.heap m₀) (N₀ : News h₀ env.locals s.heap news₀) (hr : IsRange s.heap r a b 1 t u v) 
    (hab : a ≤ b) (h1 : -1000000 < a) (h4 : b < 1000000) (hj : J 0 m₀ news ∧ ∀ p ∈ news, p ∈ news₀)
    (turn : ∀ I i t o m₁ news₁ h tk, i < (b - a).toNat → J i m₁ news₁ → (∀ p ∈ news₁, p.1 ≠ I) → Fr h₀ env.locals h (fun y => if y = x then some (.int (a + (i : Nat)) t) else m₁ y) → News h₀ env.locals h ((I, o) :: news₁) →
      wpAny (model prog w) A (execs body env) (TurnPost h₀ env.locals I o (J (i + 1)) { s with heap := h, toks := tk } Q) E { s with heap := h, toks := tk })
    (done : ∀ m₁ news₁ h tk, J (b - a).toNat m₁ news₁ → Fr h₀ env.locals h m₁ → News h₀ env.locals h news₁ → Q .next { s with heap := h, toks := tk }) :
    wpAny (model prog w) A (pyIter (.ref r)) (fun it s₂ => LoopAtV prog w A h₀ env x body Q E it s₂) E s := by
  have hrr := hr
  have N : News h₀ env.locals s.heap news := fun p hp => N₀ p (hj.2 p hp)
  refine wpAny_pyIter_range hrr (small_of h1 (by lia) (by lia) h4) ?_
  have hn := size_of hab
  have W := Walks.range (prog := prog) (w := w) hh s.heap.objs.size a 1 (b - a).toNat
  refine loop_of (m₀ := m₀) (news := news) J W ?_ ?_ ?_ ?_ ?_ ?_ (F.push _) (fun p hp => ⟨Heap.get?_push_of_some _ (N p hp).1, (N p hp).2⟩) hj.1 ?_ ?_
  · intro hm; exact absurd F.ns.lt (by rw [List.mem_singleton.mp hm]; exact Nat.lt_irrefl _)
  · intro b hb; exact .inl (List.mem_singleton.mp hb)
  · exact next_is_new F
  · intro i h hst; exact ⟨_, hst⟩
  · intro p hp e; exact absurd (Heap.lt_size (N p hp).1) (by rw [e]; exact Nat.lt_irrefl _)
  · show IsRangeIter _ _ _ _ _
    rw [hn]; simpa using Heap.get?_push_size _ rfl
  · rintro i v o m₁ news₁ h tk hi ⟨t', rfl⟩ hJ hne F₁ N₁
    rw [show a + (i : Int) * 1 = a + (i : Int) by lia] at F₁
    exact turn _ i t' o m₁ news₁ h tk hi hJ hne F₁ N₁
  · intro m₁ news₁ h tk hJ F₁ N₁
    exact done m₁ news₁ h tk hJ F₁ N₁
/-- a for over a list that stands below the frame -/
theorem iter_list {l : Addr} {vs : List Value} {x : Str} {body : List Stmt} {m₀ : Str → Option Value} {news₀ news : List (Addr × Obj)}
    (J : Nat → (Str → Option Value) → List (Addr × Obj) → Prop) (hh : A.handled = none) (hl : h₀.IsList l vs.toArray)
    (F : Fr h₀ env.locals s.heap m₀) (N₀ : News h₀ env.locals s.heap news₀) (hj : J 0 m₀ news ∧ ∀ p ∈ news, p ∈ news₀)
    (turn : ∀ I i v o m₁ news₁ h tk, vs[i]? = some v → J i m₁ news₁ → (∀ p ∈ news₁, p.1 ≠ I) → Fr h₀ env.locals h (fun y => if y = x then some v else m₁ y) → News h₀ env.locals h ((I, o) :: news₁) →
      wpAny (model prog w) A (execs body env) (TurnPost h₀ env.locals I o (J (i + 1)) { s with heap := h, toks := tk } Q) E { s with heap := h, toks := tk })
    (done : ∀ m₁ news₁ h tk, J vs.length m₁ news₁ → Fr h₀ env.locals h m₁ → News h₀ env.locals h news₁ → Q .next { s with heap := h, toks := tk }) :
    wpAny (model prog w) A (pyIter (.ref l)) (fun it s₂ => LoopAtV prog w A h₀ env x body Q E it s₂) E s := by
  have N : News h₀ env.locals s.heap news := fun p hp => N₀ p (hj.2 p hp)
  have hls : s.heap.IsList l vs.toArray := hl.at fun o e => F.keep l o e
  obtain ⟨ol, hol, _⟩ := id hl
  have hlt : l < h₀.objs.size := Heap.lt_size hol
  have hne : l ≠ s.heap.objs.size := Nat.ne_of_lt (Nat.lt_trans (Nat.lt_of_lt_of_le hlt F.above) F.ns.lt)
  refine wpAny_pyIter_list hls ?_
  have W := Walks.list (prog := prog) (w := w) hh s.heap.objs.size l hne vs.toArray
  refine loop_of (m₀ := m₀) (news := news) J W ?_ ?_ ?_ ?_ ?_ ⟨⟨_, Heap.get?_push_size _ rfl, rfl, rfl⟩, hls.at fun o e => Heap.get?_push_of_some _ e⟩ (F.push _) (fun p hp => ⟨Heap.get?_push_of_some _ (N p hp).1, (N p hp).2⟩) hj.1 ?_ ?_
  · intro hm
    rcases List.mem_cons.mp hm with e | hm
    · exact absurd F.ns.lt (e ▸ Nat.lt_irrefl _)
    · exact absurd (Nat.lt_of_lt_of_le hlt F.above) ((List.mem_singleton.mp hm) ▸ Nat.lt_irrefl _)
  · intro b hb
    rcases List.mem_cons.mp hb with e | hb
    · exact .inl e
    · rw [List.mem_singleton.mp hb, hol]; exact .inr rfl
  · exact next_is_new F
  · rintro i h ⟨⟨o, ho, _⟩, _⟩; exact ⟨o, ho⟩
  · intro p hp e; exact absurd (Heap.lt_size (N p hp).1) (by rw [e]; exact Nat.lt_irrefl _)
  · intro i v o m₁ news₁ h tk hi hP hJ hne F₁ N₁
    exact turn _ i v o m₁ news₁ h tk (by simpa using hP) hJ hne F₁ N₁
  · intro m₁ news₁ h tk hJ F₁ N₁
    exact done m₁ news₁ h tk (by simpa using hJ) F₁ N₁
/-- a for over range(n) -/
theorem iter_range0 {r : Addr} {b : Int} {t u v : Tok} {x : Str} {body : List Stmt} {m₀ : Str → Option Value} {news₀ news : List (Addr × Obj)}
    (J : Nat → (Str → Option Value) → List (Addr × Obj) → Prop) (hh : A.handled = none)
    (F : Fr h₀ env.locals s.heap m₀) (N₀ : News h₀ env.locals s.heap news₀) (hr : IsRange s.heap r 0 b 1 t u v)
    (hab : 0 ≤ b) (h4 : b < 1000000) (hj : J 0 m₀ news ∧ ∀ p ∈ news, p ∈ news₀)
    (turn : ∀ I i t o m₁ news₁ h tk, i < b.toNat → J i m₁ news₁ → (∀ p ∈ news₁, p.1 ≠ I) → Fr h₀ env.locals h (fun y => if y = x then some (.int (i : Nat) t) else m₁ y) → News h₀ env.locals h ((I, o) :: news₁) →
      wpAny (model prog w) A (execs body env) (TurnPost h₀ env.locals I o (J (i + 1)) { s with heap := h, toks := tk } Q) E { s with heap := h, toks := tk })
    (done : ∀ m₁ news₁ h tk, J b.toNat m₁ news₁ → Fr h₀ env.locals h m₁ → News h₀ env.locals h news₁ → Q .next { s with heap := h, toks := tk }) :
    wpAny (model prog w) A (pyIter (.ref r)) (fun it s₂ => LoopAtV prog w A h₀ env x body Q E it s₂) E s := by
  refine iter_range (news := news) J hh F N₀ hr hab (by lia) h4 hj ?_ (by rw [Int.sub_zero]; exact done)
  intro I i t o m₁ news₁ h tk hi
  rw [Int.sub_zero] at hi
  rw [Int.zero_add]
  exact turn I i t o m₁ news₁ h tk hi
theorem item_own {value slice : PySem.Expr} {l : Addr} {vs : List Value} {k : Int} {u : Tok} {v : Value} {Q : Value → Shared → Prop}
    (hl : s.heap.IsList l vs.toArray) (h0 : 0 ≤ k) (hhi : k < 2 ^ 63) (hx : vs[k.toNat]? = some v) (h : Q v s)
    (hs : subscripted slice false (.ref l) (.int k u) = operate [.ref l, .int k u] (getItem (.ref l) (.int k u))) :
    wpAny (model prog w) A (subscriptTail value slice (.ref l) (.int k u)) Q E s :=
  tail_any hl.typeIs slot_list_getitem.lookup (wpAny_getItem_list hl h0 hhi (by simpa using hx) h) hs
/-- the end of a turn of a while -/
def WhlPost (h₀ : Heap) (L : Addr) (J : Nat → (Str → Option Value) → List (Addr × Obj) → Prop) (n : Nat) (s : Shared) (Q : Flow → Shared → Prop) (f : Flow) (s₃ : Shared) : Prop :=
  match f with
  | .ret v => Q (.ret v) s₃
  | .brk => Q .next s₃
  | _ => ∃ n', n' < n ∧ ∃ h' tk m' nx, s₃ = { s with heap := h', toks := tk } ∧ Fr h₀ L h' m' ∧ News h₀ L h' nx ∧ J n' m' nx
theorem WhlPost.intro {L : Addr} {J : Nat → (Str → Option Value) → List (Addr × Obj) → Prop} {n n' : Nat} {s₁ : Shared} {h' : Heap} {tk : Nat} {m' : Str → Option Value} {nx : List (Addr × Obj)}
    (F : Fr h₀ L h' m') (N : News h₀ L h' nx) (hn : n' < n) (hj : J n' m' nx) : WhlPost h₀ L J n s₁ Q .next { s₁ with heap := h', toks := tk } := ⟨n', hn, h', tk, m', nx, rfl, F, N, hj⟩
/-- the test of a while: either way told -/
def WhlTest (_ : Prop) (Y N : Shared → Prop) (b : Bool) (s : Shared) : Prop := (b = true → Y s) ∧ (b = false → N s)
theorem while_J {test : Expr} {body : List Stmt} {pos : Pos} {L : Addr} {m₀ : Str → Option Value} {news₀ news : List (Addr × Obj)} (J : Nat → (Str → Option Value) → List (Addr × Obj) → Prop) (n : Nat) (hE : PassesOwn (model prog w) A env E)
    (F : Fr h₀ L s.heap m₀) (N₀ : News h₀ L s.heap news₀) (hj : J n m₀ news ∧ ∀ p ∈ news, p ∈ news₀)
    (turn : ∀ n m₁ news₁ h tk, J n m₁ news₁ → Fr h₀ L h m₁ → News h₀ L h news₁ →
      wpAny (model prog w) A (isTrue test env (eval test env)) (WhlTest True (fun s₂ => wpAny (model prog w) A (execs body env) (WhlPost h₀ L J n { s with heap := h, toks := tk } Q) E s₂) (Q .next)) E { s with heap := h, toks := tk }) :
    wpAny (model prog w) A (exec (.While test body [] pos) env) Q E s := by
  refine while_rule (fun n s' => ∃ h' tk m' nx, s' = { s with heap := h', toks := tk } ∧ Fr h₀ L h' m' ∧ News h₀ L h' nx ∧ J n m' nx) hE ?_ n ⟨_, _, _, news, rfl, F, fun p hp => N₀ p (hj.2 p hp), hj.1⟩
  rintro n s' ⟨h', tk, m', nx, rfl, F', N', hJ⟩
  refine wpAny_mono (turn n m' nx h' tk hJ F' N') (fun b s₂ hb => ?_) fun _ _ e => e
  cases b with
  | false => exact WhlIf.no rfl (hb.2 rfl)
  | true =>
    refine WhlIf.yes rfl (wpAny_mono (hb.1 rfl) (fun f s₃ h₃ => ?_) fun _ _ e => e)
    cases f with
    | ret v => exact h₃
    | brk => exact h₃
    | next => obtain ⟨n', hn, h'', tk', m'', nx', rfl, F'', N'', hJ'⟩ := h₃; exact ⟨n', hn, h'', tk', m'', nx', rfl, F'', N'', hJ'⟩
    | cont => obtain ⟨n', hn, h'', tk', m'', nx', rfl, F'', N'', hJ'⟩ := h₃; exact ⟨n', hn, h'', tk', m'', nx', rfl, F'', N'', hJ'⟩
end
end Mine
namespace Mine
open PySem PySem.W PySem.Spec PySem.Calls PyProof.Rows
def Pl (n : Nat) (G : Nat → Value → Prop) (ys : List Value) : Prop := ys.length = n ∧ ∀ (j : Nat) (y : Value), ys[j]? = some y → G j y
theorem paired_at {F : Value → Value → Prop} : ∀ {vs ys : List Value}, Paired F vs ys → ∀ (j : Nat) (y : Value), ys[j]? = some y → ∃ v, vs[j]? = some v ∧ F v y
  | _, _, .nil, j, y, h => by simp at h
  | _, _, .cons (a := a) (b := b) h t, 0, y, e => by
    simp at e; subst e; exact ⟨a, by simp, h⟩
  | _, _, .cons h t, j + 1, y, e => by
    simp at e
    obtain ⟨v, h1, h2⟩ := paired_at t j y e
    exact ⟨v, by simpa using h1, h2⟩
section
variable {prog : Program} {w : World} {A : Around} {E : Value → Shared → Prop} {s : Shared} {env : Env} {h₀ : Heap} {L : Addr} {m : Str → Option Value}
/-- what an element of a comprehension hands back, from a heap that has grown since s₁ -/
abbrev EltSays (prog : Program) (w : World) (A : Around) (env : Env) (scope : Scope) (cl : List (Str × Addr)) (x : Str) (elt : Expr) (h₁ : Heap) (iv : Value) (R : Value → Prop) : Prop :=
  ∀ C s₂ m₂, h₁.objs.size ≤ C → s₂.heap.Ns C m₂ → m₂ x = some iv → (∀ b o, h₁.get? b = some o → s₂.heap.get? b = some o) →
    wpAny (model prog w) A (eval elt (compEnvC scope cl C env)) (fun y s₃ => R y ∧ Keeps s₂ s₃) (fun _ _ => False) s₂
theorem lc_tests {env' : Env} {E' : Value → Shared → Prop} {s₃ : Shared} : wpAny (model prog w) A (forIn ([] : List Expr) true fun c r => if r = true then do let ok ← isTrue c env' (eval c env'); pure (ForInStep.yield ok) else pure (ForInStep.yield r)) (fun ok s₄ => ok = true ∧ Keeps s₃ s₄) E' s₃ :=
  wpAny_tests_nil ⟨rfl, s₃.heap, s₃.toks, rfl, fun _ _ e => e⟩
/-- the source of a comprehension whose element changes nothing -/
def LcSrc (prog : Program) (w : World) (A : Around) (E : Value → Shared → Prop) (env : Env) (h₀ : Heap) (L : Addr) (m : Str → Option Value) (x : Str) (elt : Expr) (scope : Scope) (cl : List (Str × Addr)) (F : Value → Value → Prop) (Q : Value → Shared → Prop) (xv : Value) (s₁ : Shared) : Prop :=
  ∃ news : List (Addr × Obj), Fr h₀ L s₁.heap m ∧ News h₀ L s₁.heap news ∧ ∃ (n : Nat) (P : Nat → Value → Prop), n ≤ sizeLine ∧
      (∀ Q' : Value → Shared → Prop, (∀ I o fp St, (∀ b ∈ fp, b < s₁.heap.objs.size + 1) → I = s₁.heap.objs.size → Walks prog w A I fp [I] n P St → St 0 (s₁.heap.push o) → Q' (.ref I) { s₁ with heap := s₁.heap.push o }) → wpAny (model prog w) A (pyIter xv) Q' E s₁) ∧
      (∀ i v, P i v → EltSays prog w A env scope cl x elt s₁.heap v (F v)) ∧
      (∀ D k (ys : List Value) h' tk, Fr h₀ L h' m → News h₀ L h' ((D, listOf ys.toArray k) :: news) → (∀ b o, s₁.heap.get? b = some o → h'.get? b = some o) → s₁.heap.get? D = none →
        Pl n (fun j y => ∃ v, P j v ∧ F v y) ys → Q (.ref D) { s₁ with heap := h', toks := tk })
theorem LcSrc.str {x : Str} {elt : Expr} {scope : Scope} {cl : List (Str × Addr)} {F : Value → Value → Prop} {Q : Value → Shared → Prop} {news : List (Addr × Obj)} {st : Str} {t : Tok} (hh : A.handled = none) (hl : st.length ≤ sizeLine)
    (Fm : Fr h₀ L s.heap m) (N : News h₀ L s.heap news) (helt : ∀ i v, SignAt st i v → EltSays prog w A env scope cl x elt s.heap v (F v))
    (hQ : ∀ D k (ys : List Value) h' tk, Fr h₀ L h' m → News h₀ L h' ((D, listOf ys.toArray k) :: news) → (∀ b o, s.heap.get? b = some o → h'.get? b = some o) → s.heap.get? D = none →
        Pl st.cps.size (fun j y => ∃ v, SignAt st j v ∧ F v y) ys → Q (.ref D) { s with heap := h', toks := tk }) : LcSrc prog w A E env h₀ L m x elt scope cl F Q (.str st t) s :=
  ⟨news, Fm, N, st.cps.size, SignAt st, hl, fun Q' hQ' => wpAny_pyIter_str fun o St hW hst => hQ' _ o _ St (fun b hb => by rw [List.mem_singleton.mp hb]; exact Nat.lt_succ_self _) rfl (hW _ hh) hst, helt, hQ⟩
theorem lc_core {elt iter : Expr} {x : Str} {px : Pos} {scope : Scope} {cl : List (Str × Addr)} {pos : Pos} {Q : Value → Shared → Prop} (_ : Fr h₀ L s.heap m) (F : Value → Value → Prop)
    (hclos : closureFor scope env = pure cl) (hcell : ∀ y ∈ scope.names, y.2 ≠ .cell) (hkind : scope.kind = .function)
    (hnames : ∀ y ∈ scope.names, y.2 = .local → scope.names.lookup y.1 = some .local) (hx : scope.names.lookup x = some .local)
    (h : wpAny (model prog w) A (eval iter env) (LcSrc prog w A E env h₀ L m x elt scope cl F Q) E s)
    (hs : ∀ x, foldedSetIterable iter env x = pure x) :
    wpAny (model prog w) A (eval (.ListComp elt [⟨.Name x px, iter, [], 0⟩] scope pos) env) Q E s := by
  refine wpAny_ListComp_free (fun _ => true) F hclos hcell hkind hnames hx (wpAny_mono h (fun xv s₁ h₁ => ?_) fun _ _ e => e) hs
  obtain ⟨news, Fm, N, n, P, hn, hit, helt, hQ⟩ := h₁
  refine hit _ ?_
  intro I o fp St hfp hI W hst
  subst hI
  have up : ∀ (H : Heap), (∀ b ob, b ∉ [s₁.heap.objs.size] → (s₁.heap.push o).get? b = some ob → H.get? b = some ob) → ∀ b ob, s₁.heap.get? b = some ob → H.get? b = some ob :=
    fun H hk b ob e => hk b ob (fun hm => by rw [List.mem_singleton] at hm; rw [hm] at e; exact Nat.lt_irrefl _ (Heap.lt_size e)) (Heap.get?_push_of_some _ e)
  refine ⟨s₁.heap.objs.size, fp, [s₁.heap.objs.size], n, P, St, rfl, W, hn, hst, fun b hb => by show b < (s₁.heap.push o).objs.size; rw [Heap.size_push]; exact hfp b hb, ⟨?_, ?_⟩, ?_⟩
  · intro C i v s₃ m₃ E' _ _ _ _ _ _
    exact lc_tests
  · intro C i v s₃ m₃ E' hC hP _ hns hm hk _
    refine wpAny_mono (helt i v hP C s₃ m₃ ?_ hns hm (up _ hk)) (fun _ _ e => e) fun _ _ f => f.elim
    have hC' : (s₁.heap.push o).objs.size ≤ C := hC
    rw [Heap.size_push] at hC'
    lia
  · intro D h' tk ys vs hD hlD hplD hlen hP hF hk
    obtain ⟨k, hget⟩ := hplD
    have keep := up h' hk
    have hDn : s₁.heap.get? D = none := by
      cases e : s₁.heap.get? D with
      | none => rfl
      | some o' =>
        have := Heap.get?_push_of_some o e
        have hD' : (s₁.heap.push o).get? D = none := hD
        rw [this] at hD'; cases hD'
    have hvs : vs.filter (fun _ => true) = vs := by simp
    rw [hvs] at hF
    refine hQ D k ys.toList h' tk (Fm.keeps keep) ?_ keep hDn ?_
    · intro p hp
      rcases List.mem_cons.mp hp with rfl | hp
      · refine ⟨by simpa using hget, ?_, ?_⟩
        · rintro rfl
          obtain ⟨oL, _, _, hL, _⟩ := Fm.ns
          rw [hDn] at hL; cases hL
        · cases e : h₀.get? D with
          | none => rfl
          | some o' => rw [Fm.keep _ _ e] at hDn; cases hDn
      · exact ⟨keep _ _ (N p hp).1, (N p hp).2⟩
    · refine ⟨by rw [← hF.length]; exact hlen, fun j y hy => ?_⟩
      obtain ⟨v, h1, h2⟩ := paired_at hF j y hy
      exact ⟨v, hP j v h1, h2⟩
/-- the turns of a comprehension over a ledger, by an invariant -/
theorem compRest_J {elt : Expr} {x : Str} {scope : Scope} {cl : List (Str × Addr)} {S : List (Addr × Obj) → Prop} {P : Nat → Value → Prop} {Fin : List Value → List (Addr × Obj) → Prop} {n : Nat} (J : Nat → List Value → List (Addr × Obj) → Prop)
    (turn : ∀ i ys news v I oI C oC D m₂ h tk (E' : Value → Shared → Prop), i < n → J i ys news → P i v → LCg.NsObj oC m₂ → m₂ x = some v → Fr h₀ L h m → News h₀ L h ((I, oI) :: (C, oC) :: (D, LCg.lst ys) :: news) → LCg.Off3 I C D news → ((@Ne Nat I C) ∧ (@Ne Nat I D) ∧ (@Ne Nat C D)) →
      wpAny (model prog w) A (eval elt (compEnvC scope cl C env)) (LCg.CompEnd h₀ L m { s with heap := h, toks := tk } I oI C oC D (LCg.lst ys) S (fun y news' => J (i + 1) (ys ++ [y]) news')) E' { s with heap := h, toks := tk })
    (done : ∀ ys news, J n ys news → Fin ys news) : ∀ k i ys news, i + k = n → J i ys news → LCg.CompRest prog w A h₀ L m env elt x scope cl s S P Fin k i ys news := by
  intro k
  induction k with
  | zero =>
    intro i ys news hi hJ
    obtain rfl : i = n := by lia
    exact LCg.CompRest.zero (done _ _ hJ)
  | succ k ih =>
    intro i ys news hi hJ
    refine LCg.CompRest.succ fun v I oI C oC D m₂ h tk E' hP hC hx F N off ne => ?_
    refine wpAny_mono (turn i ys news v I oI C oC D m₂ h tk E' (by lia) hJ hP hC hx F N off ne) (fun y s₂ hy => ?_) fun _ _ e => e
    obtain ⟨h', tk', news', e, F', N', off', hS, hr⟩ := hy
    exact ⟨h', tk', news', e, F', N', off', hS, ih (i + 1) _ _ (by lia) hr⟩
/-- an element that changes nothing -/
def EltPost (h₀ : Heap) (L : Addr) (m : Str → Option Value) (s₁ : Shared) (led : List (Addr × Obj)) (G : Value → Prop) (y : Value) (s₂ : Shared) : Prop :=
  ∃ h' tk', s₂ = { s₁ with heap := h', toks := tk' } ∧ Fr h₀ L h' m ∧ News h₀ L h' led ∧ G y
theorem EltPost.intro {led : List (Addr × Obj)} {s₁ : Shared} {G : Value → Prop} {y : Value} {h' : Heap} {tk' : Nat} (F : Fr h₀ L h' m) (N : News h₀ L h' led) (g : G y) : EltPost h₀ L m s₁ led G y { s₁ with heap := h', toks := tk' } := ⟨h', tk', rfl, F, N, g⟩
theorem compRest_pure {elt : Expr} {x : Str} {scope : Scope} {cl : List (Str × Addr)} {S : List (Addr × Obj) → Prop} {P : Nat → Value → Prop} {Fin : List Value → List (Addr × Obj) → Prop} {n : Nat} {news : List (Addr × Obj)} (G : Nat → Value → Prop) (hS : S news)
    (turn : ∀ i ys v I oI C oC D m₂ h tk (E' : Value → Shared → Prop), i < n → P i v → LCg.NsObj oC m₂ → m₂ x = some v → Fr h₀ L h m → News h₀ L h ((I, oI) :: (C, oC) :: (D, LCg.lst ys) :: news) →
      wpAny (model prog w) A (eval elt (compEnvC scope cl C env)) (EltPost h₀ L m { s with heap := h, toks := tk } ((I, oI) :: (C, oC) :: (D, LCg.lst ys) :: news) (G i)) E' { s with heap := h, toks := tk })
    (done : ∀ ys, Pl n G ys → Fin ys news) : LCg.CompRest prog w A h₀ L m env elt x scope cl s S P Fin n 0 [] news := by
  refine compRest_J (fun i ys nw => nw = news ∧ Pl i G ys) ?_ (fun ys nw h => by obtain ⟨rfl, h⟩ := h; exact done ys h) n 0 [] news (by lia) ⟨rfl, rfl, by simp⟩
  rintro i ys nw v I oI C oC D m₂ h tk E' hi ⟨rfl, hlen, hG⟩ hP hC hx F N off ne
  refine wpAny_mono (turn i ys v I oI C oC D m₂ h tk E' hi hP hC hx F N) (fun y s₂ hy => ?_) fun _ _ e => e
  obtain ⟨h', tk', rfl, F', N', g⟩ := hy
  refine ⟨h', tk', nw, rfl, F', N', off, hS, rfl, by simp [hlen], fun j z hz => ?_⟩
  rcases Nat.lt_trichotomy j ys.length with h | h | h
  · exact hG j z (by rwa [List.getElem?_append_left h] at hz)
  · subst h; simp at hz; subst hz; rw [hlen]; exact g
  · rw [List.getElem?_eq_none (by rw [List.length_append, List.length_singleton]; lia)] at hz; cases hz
end
end Mine
namespace Mine
open PySem PySem.W PySem.Spec PySem.Calls PyProof.Rows
abbrev mx (a b : Int) : Int := if b > a then b else a
def wide (ts : List Str) : Int := ts.foldl (fun a t => mx a (t.length : Int)) 0
theorem wide_snoc (ts : List Str) (t : Str) : wide (ts ++ [t]) = mx (wide ts) (t.length : Int) := by simp [wide]
theorem strsAre_length {vs : List Value} {ts : List Str} (h : StrsAre vs ts) : vs.length = ts.length := by
  induction h with
  | nil => rfl
  | cons _ _ _ ih => simp [ih]
theorem strsAre_get {vs : List Value} {ts : List Str} (h : StrsAre vs ts) : ∀ {i : Nat} {v : Value}, vs[i]? = some v → ∃ t tk, ts[i]? = some t ∧ v = .str t tk := by
  induction h with
  | nil => intro i v e; simp at e
  | cons y t _ ih =>
    intro i v e
    cases i with
    | zero => simp at e; exact ⟨y, t, by simp, e.symm⟩
    | succ i => simp at e; obtain ⟨t', tk, h1, h2⟩ := ih e; exact ⟨t', tk, by simpa using h1, h2⟩
theorem strsAre_at {vs : List Value} {ts : List Str} (h : StrsAre vs ts) {i : Nat} {t : Str} (e : ts[i]? = some t) : ∃ tk, vs[i]? = some (.str t tk) := by
  have hi : i < vs.length := by rw [strsAre_length h]; exact (List.getElem?_eq_some_iff.mp e).1
  obtain ⟨t', tk, h1, h2⟩ := strsAre_get h (List.getElem?_eq_getElem hi)
  rw [e] at h1; cases h1
  exact ⟨tk, by rw [List.getElem?_eq_getElem hi, h2]⟩
theorem strsAre_snoc {vs : List Value} {ts : List Str} (h : StrsAre vs ts) (t : Str) (tk : Tok) : StrsAre (vs ++ [.str t tk]) (ts ++ [t]) := by
  induction h with
  | nil => exact .cons t tk .nil
  | cons y t' _ ih => exact .cons y t' ih
theorem strsAre_append {vs vs' : List Value} {ts ts' : List Str} (h : StrsAre vs ts) (h' : StrsAre vs' ts') : StrsAre (vs ++ vs') (ts ++ ts') := by
  induction h with
  | nil => exact h'
  | cons y t' _ ih => exact .cons y t' ih
theorem strsAre_of_pl {ys : List Value} {ts : List Str} (h : Pl ts.length (fun i y => ∀ t, ts[i]? = some t → ∃ tk, y = .str t tk) ys) : StrsAre ys ts := by
  induction ys generalizing ts with
  | nil => obtain ⟨h1, _⟩ := h; cases ts with | nil => exact .nil | cons _ _ => simp at h1
  | cons y ys ih =>
    obtain ⟨h1, h2⟩ := h
    cases ts with
    | nil => simp at h1
    | cons t ts =>
      obtain ⟨tk, rfl⟩ := h2 0 y (by simp) t (by simp)
      exact .cons t tk (ih ⟨by simpa using h1, fun j z hz t' ht' => h2 (j + 1) z (by simpa using hz) t' (by simpa using ht')⟩)
theorem strsAre_of_pl' {ys : List Value} {n : Nat} {f : Nat → Str} (h : Pl n (fun i y => ∃ tk, y = .str (f i) tk) ys) : StrsAre ys ((List.range n).map f) := by
  apply strsAre_of_pl
  refine ⟨by simpa using h.1, fun j y hy t ht => ?_⟩
  have hj : j < n := by rw [← h.1]; exact (List.getElem?_eq_some_iff.mp hy).1
  rw [List.getElem?_map, List.getElem?_range hj] at ht
  cases ht
  exact h.2 j y hy
theorem lk_skip {m : Str → Option Value} {x y : Str} {v r : Option Value} (hn : x ≠ y) (h : m x = r) : (fun z => if z = y then v else m z) x = r := by
  show (if x = y then v else m x) = r
  rw [if_neg hn]; exact h
theorem wide_take {ts : List Str} {i : Nat} {t : Str} (h : ts[i]? = some t) : wide (ts.take (i + 1)) = mx (wide (ts.take i)) (t.length : Int) := by
  rw [List.take_add_one, h]; exact wide_snoc _ _
theorem wide_nonneg (ts : List Str) : 0 ≤ wide ts := by
  have : ∀ (ts : List Str) (a : Int), 0 ≤ a → 0 ≤ ts.foldl (fun a t => mx a (t.length : Int)) a := by
    intro ts
    induction ts with
    | nil => intro a h; exact h
    | cons t r ih => intro a h; exact ih _ (by show 0 ≤ mx a (t.length : Int); unfold mx; split <;> lia)
  exact this ts 0 (by lia)
theorem wide_le {ts : List Str} {n : Int} (h : ∀ t ∈ ts, (t.length : Int) ≤ n) (hn : 0 ≤ n) : wide ts ≤ n := by
  have : ∀ (ts : List Str) (a : Int), (∀ t ∈ ts, (t.length : Int) ≤ n) → a ≤ n → ts.foldl (fun a t => mx a (t.length : Int)) a ≤ n := by
    intro ts
    induction ts with
    | nil => intro a _ h; exact h
    | cons t r ih =>
      intro a h1 h
      have h2 := h1 t (by simp)
      exact ih _ (fun t1 ht1 => h1 t1 (by simp [ht1])) (by show mx a (t.length : Int) ≤ n; unfold mx; split <;> lia)
  exact this ts 0 h hn
theorem inst_of {h₀ h : Heap} {x C dx : Addr} {od : Obj} {sl : Array (Option Value)} (k : ∀ b o, h₀.get? b = some o → h.get? b = some o) (h1 : h₀.get? x = some ⟨.ref C, some dx, .plain, sl⟩) (h2 : h₀.get? dx = some od) :
    InstAt h x ⟨.ref C, some dx, .plain, sl⟩ C (some od) := ⟨k _ _ h1, rfl, rfl, k _ _ h2⟩
abbrev ent (w : World) (n : Str) (t : Tok) (v : Value) : DictEntry := ⟨PyData.keyHash w.params n, .str n t, v⟩
def optV : Option Addr → Value
  | none => .none
  | some a => .ref a
/-- a Layout as it stands in the heap -/
def LayAt (w : World) (h : Heap) (x : Addr) (R : Int) (cols : Addr) (rn cn : Option Addr) (b : Bool) : Prop :=
  ∃ dx sl n t0 t1 t2 t3 t4 t5 t6 tr, h.get? x = some ⟨.ref 310, some dx, .plain, sl⟩ ∧
    h.get? dx = some (dictOf [ent w (Str.ofString "rows") t0 (.int R tr), ent w (Str.ofString "columns") t1 (.ref cols), ent w (Str.ofString "row_names") t2 (optV rn), ent w (Str.ofString "column_names") t3 (optV cn),
      ent w (Str.ofString "row_title") t4 .none, ent w (Str.ofString "column_title") t5 .none, ent w (Str.ofString "to_left") t6 (.bool b)] n)
end Mine
namespace Mine
open PySem PySem.W PySem.Spec PySem.Calls PyProof.Rows
def cat (ts : List Str) : Str := ts.foldr (· ++ ·) Str.empty
theorem cat_nil : cat [] = Str.empty := rfl
theorem cat_cons (t : Str) (r : List Str) : cat (t :: r) = t ++ cat r := rfl
theorem cat_append : ∀ (a b : List Str), cat (a ++ b) = cat a ++ cat b
  | [], b => (Str.empty_append _).symm
  | x :: r, b => by rw [List.cons_append, cat_cons, cat_cons, cat_append r b, Str.append_assoc]
theorem cat_snoc (a : List Str) (t : Str) : cat (a ++ [t]) = cat a ++ t := by rw [cat_append, cat_cons, cat_nil, Str.append_empty]
theorem join_cat : ∀ ts : List Str, Str.join (Str.ofString "") ts = cat ts
  | [] => rfl
  | t :: r => by
    have := join_cat r
    rw [show Str.ofString "" = (⟨#[]⟩ : Str) from by decide +kernel] at *
    rw [join_nil_cons, this]; rfl
theorem tjoin_cat (ts : List Str) : Txt.join (Str.ofString "") ts = cat ts := by
  rw [← join_cat]
  exact eq_of_beq (join_closes rfl)
theorem len_cat : ∀ ts : List Str, (cat ts).length = (ts.map (·.length)).sum
  | [] => rfl
  | t :: r => by rw [cat_cons, Str.length_append, len_cat r, List.map_cons, List.sum_cons]
theorem len_cat_le {B : Nat} : ∀ (ts : List Str), (∀ t ∈ ts, t.length ≤ B) → (cat ts).length ≤ ts.length * B
  | [], _ => by simp [cat, Str.empty, Str.length]
  | t :: r, h => by
    have := len_cat_le r fun u hu => h u (by simp [hu])
    have := h t (by simp)
    rw [cat_cons, Str.length_append, List.length_cons, Nat.succ_mul]; lia
theorem cat_signs (x : Str) : cat (signs x) = x := by
  have : ∀ l : List Nat, cat (l.map fun n => (⟨#[n]⟩ : Str)) = ⟨l.toArray⟩ := by
    intro l
    induction l with
    | nil => rfl
    | cons a r ih => rw [List.map_cons, cat_cons, ih]; exact Str.ext' (by simp [Str.cps_append])
  unfold signs
  rw [this]
def spc (n : Nat) : Str := ⟨(List.replicate n 32).toArray⟩
theorem len_spc (n : Nat) : (spc n).length = n := by simp [spc, Str.length]
def fill (s : Str) (n : Int) (left : Bool) : Str := if left then s ++ spc (n.toNat - s.length) else spc (n.toNat - s.length) ++ s
theorem len_fill (s : Str) (n : Int) (b : Bool) : ((fill s n b).length : Int) = if n ≤ s.length then (s.length : Int) else n := by
  unfold fill
  split <;> (rw [Str.length_append, len_spc]; split <;> lia)
theorem len_fill' (s : Str) (n : Int) (b : Bool) : (fill s n b).length = s.length + (n.toNat - s.length) := by
  unfold fill
  split
  · rw [Str.length_append, len_spc]
  · rw [Str.length_append, len_spc]; lia
theorem len_empty : Str.empty.length = 0 := rfl
theorem len_l1 : (Str.ofString "[").length = 1 := by decide +kernel
theorem len_l2 : (Str.ofString ",]").length = 2 := by decide +kernel
theorem len_l3 : (Str.ofString "[,").length = 2 := by decide +kernel
theorem len_l4 : (Str.ofString "]").length = 1 := by decide +kernel
theorem len_l5 : (Str.ofString " ").length = 1 := by decide +kernel
theorem len_l6 : (Str.ofString "\"").length = 1 := by decide +kernel
theorem len_l7 : (Str.ofString "-").length = 1 := by decide +kernel
theorem len_l8 : (Str.ofString "").length = 0 := by decide +kernel
theorem len_fill_le {s : Str} {n : Int} {b : Bool} {B : Nat} (h1 : s.length ≤ B) (h2 : n ≤ B) : (fill s n b).length ≤ B := by
  have := len_fill s n b
  split at this <;> lia
theorem ljust_fill' (s : Str) (n : Int) : Txt.ljust s n = fill s n true := by
  unfold Txt.ljust fill
  rw [if_pos rfl]
  split
  · rw [show n.toNat - s.length = 0 by lia]; exact (Str.append_empty s).symm
  · exact Str.ext' (by rw [Str.cps_append]; simp [PySem.Builtin.Str.padded, spc])
theorem rjust_fill' (s : Str) (n : Int) : Txt.rjust s n = fill s n false := by
  unfold Txt.rjust fill
  rw [if_neg Bool.false_ne_true]
  split
  · rw [show n.toNat - s.length = 0 by lia]; exact (Str.empty_append s).symm
  · exact Str.ext' (by rw [Str.cps_append]; simp [PySem.Builtin.Str.padded, spc])
def rep (s : Str) (n : Nat) : Str := cat (List.replicate n s)
theorem foldl_cps (l : List (Array Nat)) : ∀ a : Array Nat, (l.foldl (· ++ ·) a).toList = a.toList ++ (l.map (·.toList)).flatten := by
  induction l with
  | nil => intro a; simp
  | cons x r ih => intro a; rw [List.foldl_cons, ih]; simp
theorem cat_cps : ∀ ts : List Str, (cat ts).cps.toList = (ts.map (·.cps.toList)).flatten
  | [] => rfl
  | t :: r => by rw [cat_cons, Str.cps_append, Array.toList_append, cat_cps r]; rfl
theorem mul_rep (s : Str) (n : Int) : Txt.mul s n = rep s n.toNat := by
  unfold Txt.mul rep
  split
  · rw [show n.toNat = 0 by lia]; rfl
  · split
    · rename_i h
      rcases Bool.or_eq_true_iff.mp h with h | h
      · have : n = 1 := by simpa using h
        subst this
        show s = cat [s]
        rw [cat_cons, cat_nil, Str.append_empty]
      · have h' : s.cps.size = 0 := by simpa [Str.length] using h
        have h0 : s = Str.empty := Str.ext' (by rw [Array.eq_empty_of_size_eq_zero h']; rfl)
        have : ∀ k, cat (List.replicate k Str.empty) = Str.empty := by
          intro k
          induction k with
          | zero => rfl
          | succ k ih => rw [List.replicate_succ, cat_cons, ih]; rfl
        rw [h0, this]
    · refine Str.ext' (Array.toList_inj.mp ?_)
      rw [cat_cps, foldl_cps]
      simp
theorem rep_spc (n : Nat) : rep (Str.ofString " ") n = spc n := by
  refine Str.ext' (Array.toList_inj.mp ?_)
  rw [show Str.ofString " " = (⟨#[32]⟩ : Str) from by decide +kernel]
  unfold rep spc
  rw [cat_cps]
  simp [List.map_replicate, List.flatten_replicate_singleton]
theorem len_rep (s : Str) (n : Nat) : (rep s n).length = n * s.length := by
  unfold rep
  rw [len_cat]; simp
section
variable {prog : Program} {w : World} {A : Around} {E : Value → Shared → Prop} {s : Shared} {h₀ : Heap} {L : Addr} {x : Str} {t u : Tok} {Q : Value → Shared → Prop}
theorem join_own {D : Addr} {k : Nat} {ys : List Value} {ts : List Str} {news : List (Addr × Obj)} (N : News h₀ L s.heap news) (hm : (D, listOf ys.toArray k) ∈ news) (hi : StrsAre ys ts) (hok : (cat ts).length ≤ 1000000)
    (h : ∀ t' k, Q (.str (cat ts) t') { s with toks := k }) : wpAny (model prog w) A (call (.builtin "str.join") ([.str (Str.ofString "") t] ++ [.ref D])) Q E s := by
  show wpAny (model prog w) A (call (.builtin "str.join") [.str (Str.ofString "") t, .ref D]) Q E s
  refine join_list ⟨_, (N _ hm).1, rfl, _, rfl⟩ (by simpa using hi) (by rw [← len_cat, show (Str.ofString "").length = 0 from by decide +kernel]; lia) fun t' k' => ?_
  rw [tjoin_cat]; exact h t' k'
theorem ljust_own {n : Int} (h1 : -1000000 < n) (h2 : n < 1000000) (h : ∀ t' k, Q (.str (fill x n true) t') { s with toks := k }) : wpAny (model prog w) A (call (.builtin "str.ljust") ([.str x t] ++ [.int n u])) Q E s := by
  show wpAny (model prog w) A (call (.builtin "str.ljust") [.str x t, .int n u]) Q E s
  rw [← ljust_fill'] at h
  exact SC.ljust (padOk_of (by lia) (by lia)) h
theorem rjust_own {n : Int} (h1 : -1000000 < n) (h2 : n < 1000000) (h : ∀ t' k, Q (.str (fill x n false) t') { s with toks := k }) : wpAny (model prog w) A (call (.builtin "str.rjust") ([.str x t] ++ [.int n u])) Q E s := by
  show wpAny (model prog w) A (call (.builtin "str.rjust") [.str x t, .int n u]) Q E s
  rw [← rjust_fill'] at h
  exact SC.rjust (padOk_of (by lia) (by lia)) h
theorem mul_spc {n : Int} (h1 : -1000000 < n) (h2 : n < 1000000) (h : ∀ t' k, Q (.str (spc n.toNat) t') { s with toks := k }) : wpAny (model prog w) A (binaryOp .Mult (.str (Str.ofString " ") t) (.int n u)) Q E s := by
  refine SB.mul (mulOk_of 1 1000000 (by decide +kernel) (by lia) (by lia) (by lia) (by lia)) ?_
  rw [mul_rep, rep_spc]; exact h
theorem mul_own {n : Int} (h0 : x.length ≤ 100) (h1 : -10000 < n) (h2 : n < 10000) (h : ∀ t' k, Q (.str (rep x n.toNat) t') { s with toks := k }) : wpAny (model prog w) A (binaryOp .Mult (.str x t) (.int n u)) Q E s := by
  refine SB.mul (mulOk_of 100 10000 h0 (by lia) (by lia) (by lia) (by lia)) ?_
  rw [mul_rep]; exact h
theorem add_own {y : Str} (h0 : x.length + y.length ≤ 10000000) (h : ∀ t' k, Q (.str (x ++ y) t') { s with toks := k }) : wpAny (model prog w) A (binaryOp .Add (.str x t) (.str y u)) Q E s :=
  PyProof.Rows.add_str h (by rw [sizeLine_eq]; lia)
end
end Mine
namespace Mine
open PySem PySem.W PySem.Spec PySem.Calls PyProof.Rows
def plainC (c : Nat) : Prop := 48 ≤ c ∧ c < 123 ∧ c ≠ 92
def pStr (s : Str) : Prop := ∀ c ∈ s.cps.toList, plainC c
inductive It
  | na
  | int (i : Int)
  | txt (s : Str)
inductive Kd
  | int
  | chr
  | lgl
def It.val : It → Tok → Value
  | .na, _ => .none
  | .int i, t => .int i t
  | .txt s, t => .str s t
def Kd.str : Kd → Str
  | .int => Str.ofString "integer"
  | .chr => Str.ofString "character"
  | .lgl => Str.ofString "logical"
def okIt : Kd → It → Prop
  | _, .na => True
  | .int, .int i => -10000000 < i ∧ i < 10000000
  | .lgl, .int i => i = 0 ∨ i = 1
  | .chr, .txt s => pStr s ∧ s.length ≤ 8
  | _, _ => False
def shown : Kd → It → Str
  | _, .na => Str.ofString "NA"
  | .lgl, .int i => if i = 1 then Str.ofString "TRUE" else Str.ofString "FALSE"
  | _, .int i => Str.ofString (toString i)
  | _, .txt s => Str.ofString "\"" ++ s ++ Str.ofString "\""
theorem len_int (n : Int) (h1 : -10000000 < n) (h2 : n < 10000000) : (Str.ofString (toString n)).length ≤ 10 := by
  rw [PySem.ofString_length]
  have := int_text_length_le10 (a := n) (k := 9) (by lia) (by lia)
  lia
theorem len_shown {k : Kd} {it : It} (h : okIt k it) : (shown k it).length ≤ 10 := by
  cases it with
  | na => cases k <;> decide +kernel
  | int i =>
    cases k with
    | int => exact len_int i h.1 h.2
    | lgl => show (if i = 1 then Str.ofString "TRUE" else Str.ofString "FALSE").length ≤ 10; split <;> decide +kernel
    | chr => exact h.elim
  | txt s =>
    cases k with
    | int => exact h.elim
    | lgl => exact h.elim
    | chr =>
      show (Str.ofString "\"" ++ s ++ Str.ofString "\"").length ≤ 10
      rw [Str.length_append, Str.length_append, show (Str.ofString "\"").length = 1 from by decide +kernel]
      have := h.2
      lia
def ItsAre (vs : List Value) (its : List It) : Prop := vs.length = its.length ∧ ∀ (i : Nat) (v : Value), vs[i]? = some v → ∃ it t, its[i]? = some it ∧ v = it.val t
def StrsL (h : Heap) (a : Addr) (ts : List Str) : Prop := ∃ vs, h.IsList a vs.toArray ∧ StrsAre vs ts
theorem StrsL.at {h h' : Heap} {a : Addr} {ts : List Str} (x : StrsL h a ts) (k : ∀ b o, h.get? b = some o → h'.get? b = some o) : StrsL h' a ts :=
  let ⟨vs, hl, hv⟩ := x; ⟨vs, hl.at fun o e => k a o e, hv⟩
theorem strsL_news {h₀ h : Heap} {L D : Addr} {news : List (Addr × Obj)} {ys : List Value} {k : Nat} {ts : List Str} (N : News h₀ L h news) (hm : (D, listOf ys.toArray k) ∈ news) (hv : StrsAre ys ts) : StrsL h D ts :=
  ⟨ys, ⟨_, (N _ hm).1, rfl, _, rfl⟩, hv⟩
/-- a Vector as it stands in the heap -/
def VecAt (w : World) (h : Heap) (x : Addr) (kind : Str) (l : Addr) (av : Value) : Prop :=
  ∃ dx sl n t0 t1 t2 t3 t4 tk b1 b2, h.get? x = some ⟨.ref 188, some dx, .plain, sl⟩ ∧
    h.get? dx = some (dictOf [ent w (Str.ofString "kind") t0 (.str kind tk), ent w (Str.ofString "items") t1 (.ref l), ent w (Str.ofString "attrs") t2 av, ent w (Str.ofString "shared") t3 (.bool b1), ent w (Str.ofString "loose") t4 (.bool b2)] n)
theorem vecAt_news {w : World} {h₀ h : Heap} {L x dx l : Addr} {news : List (Addr × Obj)} {kind : Str} {av : Value} {n : Nat} {t0 t1 t2 t3 t4 tk : Tok} {b1 b2 : Bool} (N : News h₀ L h news) (h1 : (x, instObj 188 dx) ∈ news)
    (h2 : (dx, dictOf [ent w (Str.ofString "kind") t0 (.str kind tk), ent w (Str.ofString "items") t1 (.ref l), ent w (Str.ofString "attrs") t2 av, ent w (Str.ofString "shared") t3 (.bool b1), ent w (Str.ofString "loose") t4 (.bool b2)] n) ∈ news) : VecAt w h x kind l av :=
  ⟨dx, _, n, t0, t1, t2, t3, t4, tk, b1, b2, (N _ h1).1, (N _ h2).1⟩
/-- new objects of a call -/
def NewLed (h h' : Heap) (led : List (Addr × Obj)) : Prop := ∀ p ∈ led, h.get? p.1 = none ∧ h'.get? p.1 = some p.2
def NewStrs (h h' : Heap) (v : Value) (ts : List Str) : Prop := ∃ D vs k, v = .ref D ∧ NewLed h h' [(D, listOf (List.toArray vs) k)] ∧ StrsAre vs ts
theorem none_below {h g : Heap} {a : Addr} (hg : ∀ b o, h.get? b = some o → g.get? b = some o) (e : g.get? a = none) : h.get? a = none := by
  cases q : h.get? a with
  | none => rfl
  | some o => rw [hg _ _ q] at e; cases e
theorem newLed_news {h g h' : Heap} {L : Addr} {news led : List (Addr × Obj)} (hg : ∀ b o, h.get? b = some o → g.get? b = some o) (N : News g L h' news) (hs : ∀ p ∈ led, p ∈ news) : NewLed h h' led :=
  fun p hp => ⟨none_below hg (N p (hs p hp)).2.2, (N p (hs p hp)).1⟩
theorem newStrs_news {h g h' : Heap} {L D : Addr} {news : List (Addr × Obj)} {ys : List Value} {k : Nat} {ts : List Str} (hg : ∀ b o, h.get? b = some o → g.get? b = some o) (N : News g L h' news) (hm : (D, listOf (List.toArray ys) k) ∈ news) (hv : StrsAre ys ts) : NewStrs h h' (.ref D) ts :=
  ⟨D, ys, k, rfl, newLed_news hg N (fun p hp => by rw [List.mem_singleton.mp hp]; exact hm), hv⟩
section
variable {w : World} {p : Program} {loose : List Str} {mean : ExcName → Option Value} {mg mb : Str → Option Value}
theorem says_useN {d : Nat} {f : Addr} {vs : List Value} {Res : Value → Heap → Prop} {dp un : Nat} {gd : Option (List Code)} {cn : Str} {cs : Scope} {L a : Addr} {ccd : Value} {cl : List (Str × Addr)} {outer : List Env} {A₀ : Around} {base h₀ : Heap} {m : Str → Option Value} {s : Shared} {Q E : Value → Shared → Prop} {news : List (Addr × Obj)}
    (S : Says w p loose mean mg mb d f [] vs s.heap Res) (B : Below A₀ base outer h₀) (F : Fr h₀ L s.heap m) (X : (Mine.hk.heap_1 w.params).In h₀) (N : News h₀ L s.heap news) (T : Top p loose mean mg mb h₀) (hk : cs.kind = .function)
    (hr : dp + d < recursionLimit ∧ un + 20 * d < cLine)
    (ret : ∀ v h' tk', Fr h₀ L h' m → News h₀ L h' news → (∀ b o, s.heap.get? b = some o → h'.get? b = some o) → (∀ led, NewLed s.heap h' led → News h₀ L h' (led ++ news) ∧ ∀ p ∈ led, ∀ q ∈ news, @Ne Nat q.1 p.1) → Res v h' → Q v { s with heap := h', toks := tk' }) :
    wpAny (model PG w) (ktrTop dp un gd cn cs L a ccd cl outer) (call (.ref f) vs) Q E s :=
  says_use S B F X N T hk hr fun v h' tk' F' N' k r => ret v h' tk' F' N' k (fun led nl => ⟨fun q hq => by
    rcases List.mem_append.mp hq with hq | hq
    · obtain ⟨e1, e2⟩ := nl q hq
      refine ⟨e2, ?_, none_below F.keep e1⟩
      intro e
      obtain ⟨oL, _, _, hL, _⟩ := F.ns
      rw [e, hL] at e1; cases e1
    · exact N' q hq, fun q hq z hz e => by
      have := (nl q hq).1
      rw [show q.1 = z.1 from e.symm, (N z hz).1] at this; cases this⟩) r
end
end Mine
namespace Mine
open PySem PySem.W PySem.Spec PySem.Calls PyProof.Rows
structure LayD where
  rows : Nat
  cols : List (List Str)
  rn : Option (List Str)
  cn : Option (List Str)
  left : Bool
def OptL (h : Heap) : Option Addr → Option (List Str) → Prop
  | none, none => True
  | some a, some l => StrsL h a l
  | _, _ => False
theorem OptL.at {h h' : Heap} {a : Option Addr} {l : Option (List Str)} (x : OptL h a l) (k : ∀ b o, h.get? b = some o → h'.get? b = some o) : OptL h' a l := by
  cases a <;> cases l <;> first | trivial | exact x.elim | exact StrsL.at x k
def ColsAt (h : Heap) (ca : Addr) (cols : List (List Str)) : Prop :=
  ∃ as : List Addr, h.IsList ca (as.map Value.ref).toArray ∧ as.length = cols.length ∧ ∀ (i : Nat) (a : Addr) (c : List Str), as[i]? = some a → cols[i]? = some c → StrsL h a c
theorem ColsAt.at {h h' : Heap} {ca : Addr} {cols : List (List Str)} (x : ColsAt h ca cols) (k : ∀ b o, h.get? b = some o → h'.get? b = some o) : ColsAt h' ca cols :=
  let ⟨as, hl, he, hc⟩ := x; ⟨as, hl.at fun o e => k ca o e, he, fun i a c h1 h2 => (hc i a c h1 h2).at k⟩
theorem LayAt.at {w : World} {h h' : Heap} {x ca : Addr} {R : Int} {rn cn : Option Addr} {b : Bool} (y : LayAt w h x R ca rn cn b) (k : ∀ b o, h.get? b = some o → h'.get? b = some o) : LayAt w h' x R ca rn cn b := by
  obtain ⟨dx, sl, n, t0, t1, t2, t3, t4, t5, t6, tr, hx, hdx⟩ := y
  exact ⟨dx, sl, n, t0, t1, t2, t3, t4, t5, t6, tr, k _ _ hx, k _ _ hdx⟩
def LayIs (w : World) (h : Heap) (x : Addr) (D : LayD) : Prop := ∃ ca rna cna, LayAt w h x D.rows ca rna cna D.left ∧ ColsAt h ca D.cols ∧ OptL h rna D.rn ∧ OptL h cna D.cn
theorem LayIs.at {w : World} {h h' : Heap} {x : Addr} {D : LayD} (y : LayIs w h x D) (k : ∀ b o, h.get? b = some o → h'.get? b = some o) : LayIs w h' x D :=
  let ⟨ca, rna, cna, h1, h2, h3, h4⟩ := y; ⟨ca, rna, cna, h1.at k, h2.at k, h3.at k, h4.at k⟩
/-- the sizes that a layout keeps to -/
structure LayD.ok (D : LayD) : Prop where
  r1 : 1 ≤ D.rows
  r4 : D.rows ≤ 4
  c1 : 1 ≤ D.cols.length
  c7 : D.cols.length ≤ 7
  cl : ∀ c ∈ D.cols, c.length = D.rows
  ct : ∀ c ∈ D.cols, ∀ t ∈ c, t.length ≤ 20
  rl : ∀ l, D.rn = some l → l.length = D.rows
  rt : ∀ l, D.rn = some l → ∀ t ∈ l, t.length ≤ 20
  nl : ∀ l, D.cn = some l → l.length = D.cols.length
  nt : ∀ l, D.cn = some l → ∀ t ∈ l, t.length ≤ 20
def room (rn : Option (List Str)) : Int := match rn with
  | some l => wide l
  | none => 4
def mark (rn : Option (List Str)) (i : Nat) : Str := match rn with
  | some l => fill (l.getD i Str.empty) (wide l) true
  | none => fill (Str.ofString "[" ++ Str.ofString (toString ((i : Int) + 1)) ++ Str.ofString ",]") 4 false
def head (cn : Option (List Str)) (i : Nat) : Str := match cn with
  | some l => l.getD i Str.empty
  | none => Str.ofString "[," ++ Str.ofString (toString ((i : Int) + 1)) ++ Str.ofString "]"
def pad (t : Str) (n : Int) (left : Bool) : Str := Str.ofString " " ++ fill t n left
theorem wide_le20 {l : List Str} (h : ∀ t ∈ l, t.length ≤ 20) : wide l ≤ 20 := wide_le (fun t ht => by have := h t ht; lia) (by lia)
theorem room_le {D : LayD} (ok : D.ok) : 0 ≤ room D.rn ∧ room D.rn ≤ 20 := by
  unfold room
  split
  · rename_i l e; exact ⟨wide_nonneg _, wide_le20 (ok.rt l e)⟩
  · lia
theorem getD_mem_or {l : List Str} {i : Nat} : l.getD i Str.empty ∈ l ∨ l.getD i Str.empty = Str.empty := by
  rw [List.getD_eq_getElem?_getD]
  cases h : l[i]? with
  | none => exact .inr rfl
  | some t => exact .inl (List.mem_of_getElem? h)
theorem len_getD {l : List Str} {i : Nat} (h : ∀ t ∈ l, t.length ≤ 20) : (l.getD i Str.empty).length ≤ 20 := by
  rcases getD_mem_or (l := l) (i := i) with h' | h'
  · exact h _ h'
  · rw [h']; exact Nat.zero_le _
theorem len_head {D : LayD} (ok : D.ok) {i : Nat} (hi : i < 100) : (head D.cn i).length ≤ 20 := by
  unfold head
  split
  · rename_i l e; exact len_getD (ok.nt l e)
  · have := len_int ((i : Int) + 1) (by lia) (by lia)
    rw [Str.length_append, Str.length_append, show (Str.ofString "[,").length = 2 from by decide +kernel, show (Str.ofString "]").length = 1 from by decide +kernel]
    lia
theorem len_mark {D : LayD} (ok : D.ok) {i : Nat} (hi : i < 100) : (mark D.rn i).length ≤ 20 := by
  unfold mark
  split
  · rename_i l e; exact len_fill_le (len_getD (ok.rt l e)) (wide_le20 (ok.rt l e))
  · have := len_int ((i : Int) + 1) (by lia) (by lia)
    refine len_fill_le ?_ (by lia)
    rw [Str.length_append, Str.length_append, show (Str.ofString "[").length = 1 from by decide +kernel, show (Str.ofString ",]").length = 2 from by decide +kernel]
    lia
theorem len_pad {t : Str} {n : Int} {b : Bool} (h1 : t.length ≤ 20) (h2 : n ≤ 20) : (pad t n b).length ≤ 21 := by
  have := len_fill_le (b := b) h1 h2
  unfold pad
  rw [Str.length_append, show (Str.ofString " ").length = 1 from by decide +kernel]
  lia
theorem len_digit {n : Int} (h1 : 1 ≤ n) (h2 : n ≤ 9) : (Str.ofString (toString n)).length = 1 := by
  have : n = 1 ∨ n = 2 ∨ n = 3 ∨ n = 4 ∨ n = 5 ∨ n = 6 ∨ n = 7 ∨ n = 8 ∨ n = 9 := by lia
  rcases this with h | h | h | h | h | h | h | h | h <;> subst h <;> decide +kernel
def headLine (D : LayD) (ws : List Int) (b n : Nat) : Str := cat (spc (room D.rn).toNat :: (List.range n).map fun j => pad (head D.cn (b + j)) (ws.getD (b + j) 0) D.left)
def cell (D : LayD) (j r : Nat) : Str := (D.cols.getD j []).getD r Str.empty
def bodyLine (D : LayD) (ws : List Int) (b n r : Nat) : Str := cat (mark D.rn r :: (List.range n).map fun j => pad (cell D (b + j) r) (ws.getD (b + j) 0) D.left)
def block (D : LayD) (ws : List Int) (b n : Nat) : List Str := headLine D ws b n :: (List.range D.rows).map (bodyLine D ws b n)
def IntsL (h : Heap) (a : Addr) (ns : List Int) : Prop := ∃ vs, h.IsList a vs.toArray ∧ IntsAre vs ns
theorem IntsL.at {h h' : Heap} {a : Addr} {ns : List Int} (x : IntsL h a ns) (k : ∀ b o, h.get? b = some o → h'.get? b = some o) : IntsL h' a ns :=
  let ⟨vs, hl, hv⟩ := x; ⟨vs, hl.at fun o e => k a o e, hv⟩
theorem range_succ_map {α : Type} (f : Nat → α) (n : Nat) : (List.range (n + 1)).map f = (List.range n).map f ++ [f n] := by
  rw [List.range_succ, List.map_append]; rfl
theorem line_len {f : Str} {g : Nat → Str} {n : Nat} (h1 : f.length ≤ 100) (h2 : ∀ j, j < n → (g j).length ≤ 100) (hn : n ≤ 100) : (cat (f :: (List.range n).map g)).length ≤ 100000 := by
  have := len_cat_le (B := 100) (f :: (List.range n).map g) (by
    intro t ht
    rcases List.mem_cons.mp ht with rfl | ht
    · exact h1
    · obtain ⟨j, hj, rfl⟩ := List.mem_map.mp ht
      exact h2 j (List.mem_range.mp hj))
  rw [List.length_cons, List.length_map, List.length_range] at this
  have h3 : (n + 1) * 100 ≤ 101 * 100 := Nat.mul_le_mul_right _ (by lia)
  lia
theorem fill_empty (n : Int) : fill (Str.ofString "") (n + 0) true = spc n.toNat := by
  unfold fill
  rw [if_pos rfl, Int.add_zero, len_l8, show Str.ofString "" = Str.empty from by decide +kernel, Str.empty_append, Nat.sub_zero]
theorem getD_bnd {ws : List Int} (h : ∀ n ∈ ws, 0 ≤ n ∧ n ≤ 20) (i : Nat) : 0 ≤ ws.getD i 0 ∧ ws.getD i 0 ≤ 20 := by
  rw [List.getD_eq_getElem?_getD]
  cases e : ws[i]? with
  | none => exact ⟨by simp, by simp⟩
  | some v => exact h v (List.mem_of_getElem? e)
theorem cell_at {D : LayD} (ok : D.ok) {j r : Nat} (hj : j < D.cols.length) (hr : r < D.rows) : ∃ c, D.cols[j]? = some c ∧ c[r]? = some (cell D j r) := by
  refine ⟨D.cols[j], List.getElem?_eq_getElem hj, ?_⟩
  have h1 := ok.cl _ (List.getElem_mem hj)
  have e : D.cols.getD j [] = D.cols[j] := by rw [List.getD_eq_getElem?_getD, List.getElem?_eq_getElem hj]; rfl
  unfold cell
  rw [e, List.getD_eq_getElem?_getD, List.getElem?_eq_getElem (by lia)]
  rfl
theorem len_cell {D : LayD} (ok : D.ok) {j r : Nat} (hj : j < D.cols.length) (hr : r < D.rows) : (cell D j r).length ≤ 20 := by
  obtain ⟨c, h1, h2⟩ := cell_at ok hj hr
  exact ok.ct c (List.mem_of_getElem? h1) _ (List.mem_of_getElem? h2)
theorem col_at {h : Heap} {D : LayD} (ok : D.ok) {as : List Addr} (he : as.length = D.cols.length) (hc : ∀ (i : Nat) (a : Addr) (c : List Str), as[i]? = some a → D.cols[i]? = some c → StrsL h a c) {j r : Nat} (hj : j < D.cols.length) (hr : r < D.rows) :
    ∃ a cvs tk, (as.map Value.ref)[j]? = some (.ref a) ∧ h.IsList a (List.toArray cvs) ∧ cvs[r]? = some (.str (cell D j r) tk) := by
  obtain ⟨c, h1, h2⟩ := cell_at ok hj hr
  have ha : as[j]? = some as[j] := List.getElem?_eq_getElem (by lia)
  obtain ⟨cvs, hl, hv⟩ := hc j _ c ha h1
  obtain ⟨tk, ht⟩ := strsAre_at hv h2
  exact ⟨_, cvs, tk, by rw [List.getElem?_map, ha]; rfl, hl, ht⟩
section
variable {prog : Program} {w : World} {A : Around} {E : Value → Shared → Prop} {s : Shared} {h₀ : Heap} {L : Addr} {m : Str → Option Value} {news news' : List (Addr × Obj)} {D : Addr}
theorem append_own {vs : List Value} {n : Nat} {x : Value} {Q : Value → Shared → Prop} (F : Fr h₀ L s.heap m) (N : News h₀ L s.heap news) (U : Upd D (listOf (List.toArray vs) n) (listOf (List.toArray (vs ++ [x])) (n + 1)) news news') (hsz : vs.length ≤ 1000)
    (h : ∀ h', Fr h₀ L h' m → News h₀ L h' news' → Q .none { s with heap := h' }) : wpAny (model prog w) A (call (.builtin "list.append") ([.ref D] ++ [x])) Q E s := by
  refine append_K (its := List.toArray vs) (n := n) F N (by rw [List.push_toArray]; exact U) h ?_
  rw [sizeLine_eq, List.size_toArray]; lia
end
theorem news_sub {h₀ h : Heap} {L : Addr} {news news' : List (Addr × Obj)} (N : News h₀ L h news) (hs : ∀ p ∈ news', p ∈ news) : News h₀ L h news' := fun p hp => N p (hs p hp)
theorem ne_of_mem1 {I a : Addr} {o : Obj} (h : @Ne Nat a I) : ∀ p ∈ [(a, o)], p.1 ≠ I := fun p hp => by rw [List.mem_singleton.mp hp]; exact h
section
variable {prog : Program} {w : World} {A : Around} {E : Value → Shared → Prop} {s : Shared} {h₀ : Heap} {L : Addr} {m : Str → Option Value} {news news' : List (Addr × Obj)} {D b : Addr}
theorem extend_own {vs ws : List Value} {n n2 : Nat} {Q : Value → Shared → Prop} (F : Fr h₀ L s.heap m) (N : News h₀ L s.heap news) (hb : s.heap.get? b = some (listOf (List.toArray ws) n2)) (hne : ws ≠ []) (h1 : vs.length ≤ 1000) (h2 : ws.length ≤ 1000)
    (U : Upd D (listOf (List.toArray vs) n) (listOf (List.toArray (vs ++ ws)) (n + 1)) news news')
    (h : ∀ h', Fr h₀ L h' m → News h₀ L h' news' → Q .none { s with heap := h' }) : wpAny (model prog w) A (call (.builtin "list.extend") ([.ref D] ++ [.ref b])) Q E s := by
  obtain ⟨pre, post, rfl, rfl, a, c⟩ := U.split
  have z := N (D, listOf (List.toArray vs) n) (List.mem_append.mpr (.inr (.head _)))
  show wpAny (model prog w) A (call (.builtin "list.extend") [.ref D, .ref b]) Q E s
  have hwl : ws.length ≠ 0 := fun e => hne (List.length_eq_zero_iff.mp e)
  refine call_meets PySem.F.slot_list_extend ⟨_, z.1, rfl⟩ PySem.F.entry_list_extend (PySem.F.args_list_extend_2 _ _) (PySem.AutoSeq1.list_extend_list_list_0 D (List.toArray vs) n b (List.toArray ws) n2 ?_ ?_ ?_) ⟨z.1, hb, h _ (F.change (Heap.SameBut.update ..) z.2.1 z.2.2) (kl_turn _ N a c ?_ ?_)⟩
  · simp [PySem.Builtin.List.listTooLong]
    intro _
    rw [sizeLine_eq]; lia
  · rw [sizeLine_eq]; simp; lia
  · rw [sizeLine_eq]; simp; lia
  · apply Array.toList_inj.mp
    simp
  · simp; exact hne
end
def StrsO (h : Heap) (a : Addr) (ts : List Str) : Prop := ∃ vs k, h.get? a = some (listOf (List.toArray vs) k) ∧ StrsAre vs ts
theorem StrsO.list {h : Heap} {a : Addr} {ts : List Str} (x : StrsO h a ts) : StrsL h a ts := let ⟨vs, k, e, hv⟩ := x; ⟨vs, ⟨_, e, rfl, _, rfl⟩, hv⟩
theorem strsO_news {h₀ h : Heap} {L D : Addr} {news : List (Addr × Obj)} {ys : List Value} {k : Nat} {ts : List Str} (N : News h₀ L h news) (hm : (D, listOf ys.toArray k) ∈ news) (hv : StrsAre ys ts) : StrsO h D ts :=
  ⟨ys, k, (N _ hm).1, hv⟩
/-- blocks of columns, from place b on -/
inductive Lines (blk : Nat → Nat → List Str) (C : Nat → Nat → Prop) (count : Nat) : Nat → List Str → Prop
  | done {b : Nat} : count ≤ b → Lines blk C count b []
  | step {b n : Nat} {r : List Str} : b < count → 1 ≤ n → (∀ k, 1 ≤ k → k < n → C b k) → ¬ C b n → Lines blk C count (b + n) r → Lines blk C count b (blk b n ++ r)
theorem Lines.same {blk : Nat → Nat → List Str} {C : Nat → Nat → Prop} {count b : Nat} {l l' : List Str} (x : Lines blk C count b l) (y : Lines blk C count b l') : l = l' := by
  induction x generalizing l' with
  | done h => cases y with
    | done _ => rfl
    | step h' _ _ _ _ => lia
  | @step b n r h1 h2 h3 h4 _ ih =>
    cases y with
    | done h' => lia
    | @step _ n' r' _ g2 g3 g4 g5 =>
      have : n = n' := by
        rcases Nat.lt_trichotomy n n' with h | h | h
        · exact absurd (g3 n h2 h) h4
        · exact h
        · exact absurd (h3 n' g2 h) g4
      subst this
      rw [ih g5]
def tot (rm : Int) (ws : List Int) (b n : Nat) : Int := rm + ((List.range n).map fun j => 1 + ws.getD (b + j) 0).sum
theorem tot_succ (rm : Int) (ws : List Int) (b n : Nat) : tot rm ws b (n + 1) = tot rm ws b n + 1 + ws.getD (b + n) 0 := by
  unfold tot
  rw [range_succ_map, List.sum_append]
  simp
  lia
def more (rm : Int) (ws : List Int) (width : Int) (b n : Nat) : Prop := b + n < ws.length ∧ tot rm ws b (n + 1) < width
theorem tot_le {rm : Int} {ws : List Int} (h : ∀ n ∈ ws, 0 ≤ n ∧ n ≤ 20) (b : Nat) : ∀ n : Nat, rm ≤ tot rm ws b n ∧ tot rm ws b n ≤ rm + 21 * n
  | 0 => by simp [tot]
  | n + 1 => by
    have := tot_le (rm := rm) h b n
    have := getD_bnd h (b + n)
    rw [tot_succ]; lia
def widthAt (D : LayD) (j : Nat) : Int := mx (wide (D.cols.getD j [])) ((head D.cn j).length : Int)
def widths (D : LayD) : List Int := (List.range D.cols.length).map (widthAt D)
theorem widths_bnd {D : LayD} (ok : D.ok) : ∀ n ∈ widths D, 0 ≤ n ∧ n ≤ 20 := by
  intro n hn
  obtain ⟨j, hj, rfl⟩ := List.mem_map.mp hn
  have hj := List.mem_range.mp hj
  have h1 := len_head ok (i := j) (by have := ok.c7; lia)
  have h2 : wide (D.cols.getD j []) ≤ 20 := wide_le20 fun t ht => by
    rw [List.getD_eq_getElem?_getD, List.getElem?_eq_getElem hj] at ht
    exact ok.ct _ (List.getElem_mem hj) t ht
  have h3 := wide_nonneg (D.cols.getD j [])
  unfold widthAt mx
  split <;> lia
theorem widths_len (D : LayD) : (widths D).length = D.cols.length := by simp [widths]
theorem intsAre_snoc {vs : List Value} {ns : List Int} (h : IntsAre vs ns) (n : Int) (t : Tok) : IntsAre (vs ++ [.int n t]) (ns ++ [n]) := by
  induction h with
  | nil => exact .cons n t .nil
  | cons y t' _ ih => exact .cons y t' ih
theorem intsAre_at {vs : List Value} {ns : List Int} (h : IntsAre vs ns) : ∀ {i : Nat}, i < ns.length → ∃ tk, vs[i]? = some (.int (ns.getD i 0) tk) := by
  induction h with
  | nil => intro i hi; simp at hi
  | cons y t _ ih =>
    intro i hi
    cases i with
    | zero => exact ⟨t, by simp⟩
    | succ i => obtain ⟨tk, e⟩ := ih (i := i) (by simpa using hi); exact ⟨tk, by simpa using e⟩
theorem intsL_news {h₀ h : Heap} {L D : Addr} {news : List (Addr × Obj)} {ys : List Value} {k : Nat} {ns : List Int} (N : News h₀ L h news) (hm : (D, listOf (List.toArray ys) k) ∈ news) (hv : IntsAre ys ns) : IntsL h D ns :=
  ⟨ys, ⟨_, (N _ hm).1, rfl, _, rfl⟩, hv⟩
theorem colS_at {h : Heap} {D : LayD} {as : List Addr} (he : as.length = D.cols.length) (hc : ∀ (i : Nat) (a : Addr) (c : List Str), as[i]? = some a → D.cols[i]? = some c → StrsL h a c) {j : Nat} (hj : j < D.cols.length) :
    ∃ a cvs, (as.map Value.ref)[j]? = some (.ref a) ∧ h.IsList a (List.toArray cvs) ∧ StrsAre cvs (D.cols.getD j []) := by
  have ha : as[j]? = some as[j] := List.getElem?_eq_getElem (by lia)
  have hd : D.cols[j]? = some (D.cols.getD j []) := by rw [List.getD_eq_getElem?_getD, List.getElem?_eq_getElem hj]; rfl
  obtain ⟨cvs, hl, hv⟩ := hc j _ _ ha hd
  exact ⟨_, cvs, by rw [List.getElem?_map, ha]; rfl, hl, hv⟩
theorem col_len {D : LayD} (ok : D.ok) {j : Nat} (hj : j < D.cols.length) : ∀ t ∈ D.cols.getD j [], t.length ≤ 1000 := by
  intro t ht
  rw [List.getD_eq_getElem?_getD, List.getElem?_eq_getElem hj] at ht
  have := ok.ct _ (List.getElem_mem hj) t ht
  lia
end Mine
namespace Mine
open PySem PySem.W PySem.Spec PySem.Calls PyProof.Rows
section
variable {prog : Program} {w : World} {A : Around} {E : Value → Shared → Prop} {s : Shared}
theorem len_own {l : Addr} {vs : List Value} {n : Nat} {Q : Value → Shared → Prop} (hl : s.heap.IsList l (List.toArray vs)) (hn : vs.length = n) (hs : n ≤ 100000)
    (h : ∀ t k, Q (.int (n : Nat) t) { s with toks := k }) : wpAny (model prog w) A (call (.builtin "len") [.ref l]) Q E s := by
  subst hn
  refine call_len_list hl (by simp; lia) ?_
  rw [List.size_toArray]
  exact h _ _
end
theorem block_len (D : LayD) (ws : List Int) (b n : Nat) : (block D ws b n).length = D.rows + 1 := by simp [block]
theorem small_stride {b : Int} {R : Nat} (hR : 1 ≤ R) (hR4 : R ≤ 4) (h1 : 0 ≤ b) (h2 : b < 1000) : Builtin.Range.small 0 b (R : Int) = true := by
  have hs : 0 ≤ Builtin.Range.rangeSize 0 b (R : Int) ∧ Builtin.Range.rangeSize 0 b (R : Int) < 10000 := by
    have : R = 1 ∨ R = 2 ∨ R = 3 ∨ R = 4 := by lia
    rcases this with h | h | h | h <;> subst h <;> simp [Builtin.Range.rangeSize] <;> split <;> lia
  have f : ∀ x : Int, -10000000 < x → x < 10000000 → Builtin.Range.rangeFitsLong x = true := by
    intro x h1 h2
    unfold Builtin.Range.rangeFitsLong
    simp
    lia
  unfold Builtin.Range.small
  rw [f 0 (by lia) (by lia), f b (by lia) (by lia), f R (by lia) (by lia), f _ (by lia) (by lia), f (b + ((R : Int) - 1)) (by lia) (by lia)]
  simp; lia
theorem size_stride {R W : Nat} (hR : 1 ≤ R) (hR4 : R ≤ 4) (hW : 1 ≤ W) : Builtin.Range.rangeSize 0 ((R * W : Nat) : Int) (R : Int) = (W : Int) := by
  have : R = 1 ∨ R = 2 ∨ R = 3 ∨ R = 4 := by lia
  rcases this with h | h | h | h <;> subst h <;> simp [Builtin.Range.rangeSize] <;> lia
section
variable {prog : Program} {w : World} {A : Around} {E : Value → Shared → Prop} {s : Shared} {env : Env} {h₀ : Heap} {Q : Flow → Shared → Prop}
/-- a for over range(0, R * W, R) -/
theorem iter_stride {r : Addr} {R W : Nat} {t u v : Tok} {x : Str} {body : List Stmt} {m₀ : Str → Option Value} {news₀ news : List (Addr × Obj)}
    (J : Nat → (Str → Option Value) → List (Addr × Obj) → Prop) (hh : A.handled = none)
    (F : Fr h₀ env.locals s.heap m₀) (N₀ : News h₀ env.locals s.heap news₀) (hr : IsRange s.heap r 0 ((R * W : Nat) : Int) (R : Int) t u v)
    (hR : 1 ≤ R) (hR4 : R ≤ 4) (hW : 1 ≤ W) (hW7 : W ≤ 7) (hj : J 0 m₀ news ∧ ∀ p ∈ news, p ∈ news₀)
    (turn : ∀ I i t o m₁ news₁ h tk, i < W → J i m₁ news₁ → (∀ p ∈ news₁, p.1 ≠ I) → Fr h₀ env.locals h (fun y => if y = x then some (.int ((i * R : Nat) : Int) t) else m₁ y) → News h₀ env.locals h ((I, o) :: news₁) →
      wpAny (model prog w) A (execs body env) (TurnPost h₀ env.locals I o (J (i + 1)) { s with heap := h, toks := tk } Q) E { s with heap := h, toks := tk })
    (done : ∀ m₁ news₁ h tk, J W m₁ news₁ → Fr h₀ env.locals h m₁ → News h₀ env.locals h news₁ → Q .next { s with heap := h, toks := tk }) :
    wpAny (model prog w) A (pyIter (.ref r)) (fun it s₂ => LoopAtV prog w A h₀ env x body Q E it s₂) E s := by
  have N : News h₀ env.locals s.heap news := fun p hp => N₀ p (hj.2 p hp)
  have hb : R * W ≤ 4 * 7 := Nat.mul_le_mul hR4 hW7
  refine wpAny_pyIter_range hr (small_stride hR hR4 (by lia) (by lia)) ?_
  have hn := size_stride hR hR4 hW
  have W' := Walks.range (prog := prog) (w := w) hh s.heap.objs.size 0 (R : Int) W
  refine loop_of (m₀ := m₀) (news := news) J W' ?_ ?_ ?_ ?_ ?_ ?_ (F.push _) (fun p hp => ⟨Heap.get?_push_of_some _ (N p hp).1, (N p hp).2⟩) hj.1 ?_ ?_
  · intro hm; exact absurd F.ns.lt (by rw [List.mem_singleton.mp hm]; exact Nat.lt_irrefl _)
  · intro b hb; exact .inl (List.mem_singleton.mp hb)
  · exact next_is_new F
  · intro i h hst; exact ⟨_, hst⟩
  · intro p hp e; exact absurd (Heap.lt_size (N p hp).1) (by rw [e]; exact Nat.lt_irrefl _)
  · show IsRangeIter _ _ _ _ _
    rw [hn]; simpa using Heap.get?_push_size _ rfl
  · rintro i v o m₁ news₁ h tk hi ⟨t', rfl⟩ hJ hne F₁ N₁
    rw [show (0 : Int) + (i : Int) * (R : Int) = ((i * R : Nat) : Int) by rw [Int.zero_add]; exact (Int.natCast_mul i R).symm] at F₁
    exact turn _ i t' o m₁ news₁ h tk hi hJ hne F₁ N₁
  · intro m₁ news₁ h tk hJ F₁ N₁
    exact done m₁ news₁ h tk hJ F₁ N₁
end
def ColsIn (ce : List (Addr × Obj)) (as : List Addr) (cols : List (List Str)) : Prop :=
  as.length = cols.length ∧ ∀ (j : Nat) (a : Addr) (c : List Str), as[j]? = some a → cols[j]? = some c → ∃ vs k, (a, listOf (List.toArray vs) k) ∈ ce ∧ StrsAre vs c
theorem ColsIn.cols {h₀ h : Heap} {L C : Addr} {news ce : List (Addr × Obj)} {as : List Addr} {k : Nat} {cols : List (List Str)} (x : ColsIn ce as cols) (N : News h₀ L h news) (hs : ∀ p ∈ ce, p ∈ news) (hC : (C, listOf (List.toArray (as.map Value.ref)) k) ∈ news) : ColsAt h C cols :=
  ⟨as, ⟨_, (N _ hC).1, rfl, _, rfl⟩, x.1, fun j a c h1 h2 => let ⟨vs, k, hm, hv⟩ := x.2 j a c h1 h2; ⟨vs, ⟨_, (N _ (hs _ hm)).1, rfl, _, rfl⟩, hv⟩⟩
theorem ColsIn.nil : ColsIn [] [] [] := ⟨rfl, fun j a c h => by simp at h⟩
theorem ColsIn.snoc {ce : List (Addr × Obj)} {as : List Addr} {cols : List (List Str)} {a : Addr} {vs : List Value} {k : Nat} {c : List Str} (x : ColsIn ce as cols) (hv : StrsAre vs c) : ColsIn ((a, listOf (List.toArray vs) k) :: ce) (as ++ [a]) (cols ++ [c]) := by
  refine ⟨by simp [x.1], fun j a' c' h1 h2 => ?_⟩
  rcases Nat.lt_trichotomy j as.length with h | h | h
  · rw [List.getElem?_append_left h] at h1
    rw [List.getElem?_append_left (by rw [← x.1]; exact h)] at h2
    obtain ⟨vs', k', hm, hv'⟩ := x.2 j a' c' h1 h2
    exact ⟨vs', k', .tail _ hm, hv'⟩
  · subst h
    rw [List.getElem?_append_right (Nat.le_refl _)] at h1
    rw [x.1, List.getElem?_append_right (Nat.le_refl _)] at h2
    simp at h1 h2
    subst h1 h2
    exact ⟨vs, k, .head _, hv⟩
  · rw [List.getElem?_eq_none (by simp; lia)] at h1; cases h1
theorem pick_run (vs : List Value) {a b : Nat} (h : a + b ≤ vs.length) : slicePick vs.toArray (some (a : Int)) (some ((a : Int) + (b : Int))) none = List.toArray ((vs.drop a).take b) := by
  rw [kms_pick_eq]
  unfold kms_pick kms_lo kms_hi
  rw [show (List.toArray vs).toList = vs from rfl]; dsimp only
  rw [if_neg (by lia), if_neg (by lia)]
  have e1 : min ((a : Int).toNat) vs.length = a := by lia
  have e2 : min (((a : Int) + (b : Int)).toNat) vs.length = a + b := by lia
  simp only [e1, e2, Nat.add_sub_cancel_left]
theorem slice_list {h₀ h : Heap} {L a : Addr} {news : List (Addr × Obj)} {arr : Array Value} {n : Nat} {vs : List Value} (N : News h₀ L h news) (hm : (a, ({ cls := .type "list", data := .seq arr n } : Obj)) ∈ news) (e : arr = List.toArray vs) : h.IsList a (List.toArray vs) := by
  subst e; exact ⟨_, (N _ hm).1, rfl, _, rfl⟩
theorem itsAre_run {vs : List Value} {its : List It} (x : ItsAre vs its) (a b : Nat) : ItsAre ((vs.drop a).take b) ((its.drop a).take b) := by
  refine ⟨by simp [x.1], fun i v e => ?_⟩
  rw [List.getElem?_take] at e
  split at e
  · rename_i hb
    rw [List.getElem?_drop] at e
    obtain ⟨it, t, h1, h2⟩ := x.2 _ _ e
    exact ⟨it, t, by rw [List.getElem?_take, if_pos hb, List.getElem?_drop]; exact h1, h2⟩
  · cases e
def AllNe (d : Nat) : List (Addr × Obj) → Prop
  | [] => True
  | p :: r => @Ne Nat p.1 d ∧ AllNe d r
theorem allNe_of {d : Nat} : ∀ {l : List (Addr × Obj)}, (∀ p ∈ l, @Ne Nat p.1 d) → AllNe d l
  | [], _ => trivial
  | _ :: _, h => ⟨h _ (.head _), allNe_of fun q hq => h q (.tail _ hq)⟩
theorem AllNe.mem {d : Nat} : ∀ {l : List (Addr × Obj)}, AllNe d l → ∀ p ∈ l, @Ne Nat p.1 d
  | [], _, _, h => nomatch h
  | _ :: _, x, p, h => by
    rcases List.mem_cons.mp h with rfl | h
    · exact x.1
    · exact x.2.mem p h
theorem news_lt {h₀ h : Heap} {L a : Addr} {o : Obj} {news : List (Addr × Obj)} (N : News h₀ L h news) (hm : (a, o) ∈ news) : @LT.lt Nat _ a h.objs.size := Heap.lt_size (N _ hm).1
def Kd.left : Kd → Bool
  | .chr => true
  | _ => false
theorem not_num (kd : Kd) : (![Str.ofString "logical", Str.ofString "integer", Str.ofString "double"].any fun x => x == kd.str) = kd.left := by cases kd <;> decide +kernel
/-- a Layout that a call has made -/
def MadeLay (w : World) (h h' : Heap) (v : Value) (R : Int) (cols : List (List Str)) (left : Bool) : Prop :=
  ∃ x dx C as k ce t0 t1 t2 t3 t4 t5 t6 tr, v = .ref x ∧
    NewLed h h' ((x, instObj 310 dx) :: (dx, dictOf [ent w (Str.ofString "rows") t0 (.int R tr), ent w (Str.ofString "columns") t1 (.ref C), ent w (Str.ofString "row_names") t2 .none, ent w (Str.ofString "column_names") t3 .none,
      ent w (Str.ofString "row_title") t4 .none, ent w (Str.ofString "column_title") t5 .none, ent w (Str.ofString "to_left") t6 (.bool left)] 7) :: (C, listOf (List.toArray (as.map Value.ref)) k) :: ce) ∧
    ColsIn ce as cols ∧ @Ne Nat x dx ∧ @Ne Nat C dx ∧ ∀ p ∈ ce, @Ne Nat p.1 dx
theorem allLt_ne {d : Nat} : ∀ {l : List (Addr × Obj)}, AllLt d l → ∀ p ∈ l, @Ne Nat p.1 d
  | [], _, _, h => nomatch h
  | _ :: _, x, p, h => by
    rcases List.mem_cons.mp h with rfl | h
    · exact Nat.ne_of_lt x.1
    · exact allLt_ne x.2 p h
theorem cells_six {cm : Str → Option Value} {n1 n2 n3 n4 n5 n6 : Str} {c1 c2 c3 c4 c5 c6 : Addr} {cells : List (Addr × Obj)} (x : CellsAre cm [(n1, c1), (n2, c2), (n3, c3), (n4, c4), (n5, c5), (n6, c6)] cells) :
    ∃ o1 o2 o3 o4 o5 o6, cells = [(c1, o1), (c2, o2), (c3, o3), (c4, o4), (c5, o5), (c6, o6)] ∧ o1.data = .cell (cm n1) ∧ o2.data = .cell (cm n2) ∧ o3.data = .cell (cm n3) ∧ o4.data = .cell (cm n4) ∧ o5.data = .cell (cm n5) ∧ o6.data = .cell (cm n6) := by
  cases x with
  | cons a1 x => cases x with
    | cons a2 x => cases x with
      | cons a3 x => cases x with
        | cons a4 x => cases x with
          | cons a5 x => cases x with
            | cons a6 x => cases x with
              | nil => exact ⟨_, _, _, _, _, _, rfl, a1, a2, a3, a4, a5, a6⟩
def DictAt (w : World) (h : Heap) (a : Addr) (l : List (Value × Value)) : Prop := ∃ o, h.get? a = some o ∧ o.IsDictOf (strKind PG w) (strPairs l) ∧ (a == sysModules) = false
theorem DictAt.at {w : World} {h h' : Heap} {a : Addr} {l : List (Value × Value)} (x : DictAt w h a l) (k : ∀ b o, h.get? b = some o → h'.get? b = some o) : DictAt w h' a l := let ⟨o, e, r⟩ := x; ⟨o, k _ _ e, r⟩
theorem VecAt.at {w : World} {h h' : Heap} {x l : Addr} {kind : Str} {av : Value} (y : VecAt w h x kind l av) (k : ∀ b o, h.get? b = some o → h'.get? b = some o) : VecAt w h' x kind l av := by
  obtain ⟨dx, sl, n, t0, t1, t2, t3, t4, tk, b1, b2, hx, hdx⟩ := y
  exact ⟨dx, sl, n, t0, t1, t2, t3, t4, tk, b1, b2, k _ _ hx, k _ _ hdx⟩
section
variable {w : World} {A : Around} {E : Value → Shared → Prop} {s : Shared}
theorem dict_method_own {d : Addr} {kvs : List (Value × Value)} {pl : Sem Bool} {Q : Value × List Value → Shared → Prop} (T : DictAt w s.heap d kvs) (h : Q (.builtin "dict.get", [.ref d]) s) :
    wpAny (model PG w) A (getMethod (.ref d) (Str.ofString "get") pl) Q E s := by
  obtain ⟨o, ho, hd, lo⟩ := T
  have hD : s.heap.DictOf (strKind PG w) d (strPairs kvs) := Heap.dictOf_iff.mpr ⟨o, ho, hd⟩
  exact getMethod_builtin hD.typeIs PySem.F.plainAttrs_dict PySem.F.slot_dict_get PySem.F.type_dict_get hD.mapOf.noDict h
theorem dict_get_own {d : Addr} {kvs : List (Value × Value)} {x : Str} {t : Tok} {v : Value} {Q : Value → Shared → Prop} (T : DictAt w s.heap d kvs) (hv : (valueAt (strPairs kvs) x).getD .none = v) (h : Q v { s with toks := s.toks + 1 }) :
    wpAny (model PG w) A (call (.builtin "dict.get") ([.ref d] ++ [.str x t])) Q E s := by
  obtain ⟨o, ho, hd, lo⟩ := T
  have hD : s.heap.DictOf (strKind PG w) d (strPairs kvs) := Heap.dictOf_iff.mpr ⟨o, ho, hd⟩
  subst hv
  exact call_meetsIn PySem.F.slot_dict_get hD.typeIs PySem.F.entry_dict_get (PySem.F.args_dict_get_2 _ _) (meets_dict_get (strKind PG w) d (strKind_is _ _ _ _) lo) ⟨_, hD.mapOf, h⟩
end
def NullAt (w : World) (h : Heap) (x : Addr) : Prop :=
  ∃ dx sl n t0 t1 tk, h.get? x = some ⟨.ref 159, some dx, .plain, sl⟩ ∧ h.get? dx = some (dictOf [ent w (Str.ofString "kind") t0 (.str (Str.ofString "NULL") tk), ent w (Str.ofString "attrs") t1 .none] n)
def PartAt (w : World) (h : Heap) (x : Addr) : Option (List Str) → Prop
  | none => NullAt w h x
  | some ts => ∃ cl, VecAt w h x (Str.ofString "character") cl .none ∧ StrsL h cl ts
theorem PartAt.at {w : World} {h h' : Heap} {x : Addr} {o : Option (List Str)} (y : PartAt w h x o) (k : ∀ b o, h.get? b = some o → h'.get? b = some o) : PartAt w h' x o := by
  cases o with
  | none => obtain ⟨dx, sl, n, t0, t1, tk, hx, hdx⟩ := y; exact ⟨dx, sl, n, t0, t1, tk, k _ _ hx, k _ _ hdx⟩
  | some ts => obtain ⟨cl, h1, h2⟩ := y; exact ⟨cl, h1.at k, h2.at k⟩
/-- the value and the new objects that a part has become -/
def PartNew (v : Value) (led : List (Addr × Obj)) : Option (List Str) → Prop
  | none => v = .none ∧ led = []
  | some ts => ∃ D vs k, v = .ref D ∧ led = [(D, listOf (List.toArray vs) k)] ∧ StrsAre vs ts
inductive PartsNew : List Value → List (Addr × Obj) → List (Option (List Str)) → Prop
  | nil : PartsNew [] [] []
  | snoc {ys : List Value} {news led : List (Addr × Obj)} {os : List (Option (List Str))} {y : Value} {o : Option (List Str)} : PartsNew ys news os → PartNew y led o → PartsNew (ys ++ [y]) (led ++ news) (os ++ [o])
theorem PartsNew.len {ys : List Value} {news : List (Addr × Obj)} {os : List (Option (List Str))} (x : PartsNew ys news os) : ys.length = os.length := by
  induction x with
  | nil => rfl
  | snoc _ _ ih => simp [ih]
end Mine
namespace Mine
open PySem PySem.W PySem.Spec PySem.Calls PyProof.Rows
def colOf (kd : Kd) (its : List It) (R j : Nat) : List Str := ((its.drop (j * R)).take R).map (shown kd)
/-- the layout of a matrix -/
abbrev layD (kd : Kd) (its : List It) (R W : Nat) (rn cn : Option (List Str)) : LayD := { rows := R, cols := (List.range W).map (colOf kd its R), rn := rn, cn := cn, left := kd.left }
structure NamesOk (R W : Nat) (rn cn : Option (List Str)) : Prop where
  rl : ∀ l, rn = some l → l.length = R
  rt : ∀ l, rn = some l → ∀ t ∈ l, pStr t ∧ t.length ≤ 20
  cl : ∀ l, cn = some l → l.length = W
  ct : ∀ l, cn = some l → ∀ t ∈ l, pStr t ∧ t.length ≤ 20
theorem layD_ok {kd : Kd} {its : List It} {R W : Nat} {rn cn : Option (List Str)} (ho : ∀ it ∈ its, okIt kd it) (hn : its.length = R * W) (hR : 1 ≤ R) (hR4 : R ≤ 4) (hW : 1 ≤ W) (hW7 : W ≤ 7) (nm : NamesOk R W rn cn) : (layD kd its R W rn cn).ok := by
  refine ⟨hR, hR4, by simpa [layD] using hW, by simpa [layD] using hW7, ?_, ?_, nm.rl, fun l e t ht => (nm.rt l e t ht).2, by simpa [layD] using nm.cl, fun l e t ht => (nm.ct l e t ht).2⟩
  · intro c hc
    obtain ⟨j, hj, rfl⟩ := List.mem_map.mp hc
    have hj := List.mem_range.mp hj
    show (colOf kd its R j).length = R
    have : j * R + R ≤ R * W := by rw [← Nat.succ_mul, Nat.mul_comm]; exact Nat.mul_le_mul_left _ hj
    simp [colOf]; lia
  · intro c hc t ht
    obtain ⟨j, _, rfl⟩ := List.mem_map.mp hc
    obtain ⟨it, hit, rfl⟩ := List.mem_map.mp ht
    have := len_shown (ho it (List.mem_of_mem_drop (List.mem_of_mem_take hit)))
    lia
theorem layIs_news {w : World} {h₀ h : Heap} {L x dx C : Addr} {news ce : List (Addr × Obj)} {as : List Addr} {k n : Nat} {D : LayD} {rna cna : Option Addr} {t0 t1 t2 t3 t4 t5 t6 tr : Tok} (N : News h₀ L h news) (h1 : (x, instObj 310 dx) ∈ news)
    (h2 : (dx, dictOf [ent w (Str.ofString "rows") t0 (.int D.rows tr), ent w (Str.ofString "columns") t1 (.ref C), ent w (Str.ofString "row_names") t2 (optV rna), ent w (Str.ofString "column_names") t3 (optV cna),
      ent w (Str.ofString "row_title") t4 .none, ent w (Str.ofString "column_title") t5 .none, ent w (Str.ofString "to_left") t6 (.bool D.left)] n) ∈ news)
    (h3 : (C, listOf (List.toArray (as.map Value.ref)) k) ∈ news) (hs : ∀ p ∈ ce, p ∈ news) (ci : ColsIn ce as D.cols) (hr : OptL h rna D.rn) (hc : OptL h cna D.cn) : LayIs w h x D :=
  ⟨C, rna, cna, ⟨dx, _, n, t0, t1, t2, t3, t4, t5, t6, tr, (N _ h1).1, (N _ h2).1⟩, ci.cols N hs h3, hr, hc⟩
theorem parts_two {ys : List Value} {news : List (Addr × Obj)} {o1 o2 : Option (List Str)} (x : PartsNew ys news [o1, o2]) : ∃ y1 l1 y2 l2, ys = [y1, y2] ∧ news = l2 ++ (l1 ++ []) ∧ PartNew y1 l1 o1 ∧ PartNew y2 l2 o2 := by
  generalize he : [o1, o2] = os at x
  cases x with
  | nil => cases he
  | @snoc ys' news' led os' y o x hp =>
    have h2 : [o1] ++ [o2] = os' ++ [o] := he
    obtain ⟨h3, h4⟩ := List.append_inj' h2 rfl
    cases h4
    generalize he' : [o1] = os1 at h3
    subst h3
    cases x with
    | nil => cases he'
    | @snoc ys'' news'' led' os'' y' o' x hp' =>
      have h2 : [] ++ [o1] = os'' ++ [o'] := he'
      obtain ⟨h3, h4⟩ := List.append_inj' h2 rfl
      cases h4
      subst h3
      have : ys'' = [] ∧ news'' = [] := by
        generalize hz : ([] : List (Option (List Str))) = oz at x
        cases x with
        | nil => exact ⟨rfl, rfl⟩
        | snoc _ _ => simp at hz
      obtain ⟨rfl, rfl⟩ := this
      exact ⟨y', led', y, led, rfl, rfl, hp', hp⟩
theorem parts_ss {ys : List Value} {news : List (Addr × Obj)} {r c : List Str} (x : PartsNew ys news [some r, some c]) : ∃ D vs k D' vs' k', ys = [.ref D, .ref D'] ∧ news = [(D', listOf (List.toArray vs') k'), (D, listOf (List.toArray vs) k)] ∧ StrsAre vs r ∧ StrsAre vs' c := by
  obtain ⟨y1, l1, y2, l2, rfl, rfl, ⟨D, vs, k, rfl, rfl, h1⟩, ⟨D', vs', k', rfl, rfl, h2⟩⟩ := parts_two x
  exact ⟨D, vs, k, D', vs', k', rfl, rfl, h1, h2⟩
theorem parts_sn {ys : List Value} {news : List (Addr × Obj)} {r : List Str} (x : PartsNew ys news [some r, none]) : ∃ D vs k, ys = [.ref D, .none] ∧ news = [(D, listOf (List.toArray vs) k)] ∧ StrsAre vs r := by
  obtain ⟨y1, l1, y2, l2, rfl, rfl, ⟨D, vs, k, rfl, rfl, h1⟩, ⟨rfl, rfl⟩⟩ := parts_two x
  exact ⟨D, vs, k, rfl, rfl, h1⟩
theorem parts_ns {ys : List Value} {news : List (Addr × Obj)} {c : List Str} (x : PartsNew ys news [none, some c]) : ∃ D vs k, ys = [.none, .ref D] ∧ news = [(D, listOf (List.toArray vs) k)] ∧ StrsAre vs c := by
  obtain ⟨y1, l1, y2, l2, rfl, rfl, ⟨rfl, rfl⟩, ⟨D, vs, k, rfl, rfl, h1⟩⟩ := parts_two x
  exact ⟨D, vs, k, rfl, rfl, h1⟩
theorem forall_append {ce news : List (Addr × Obj)} {d : Addr} (h1 : ∀ p ∈ ce, @Ne Nat p.1 d) (h2 : ∀ p ∈ news, @Ne Nat p.1 d) : ∀ p ∈ ce ++ news, p.1 ≠ d := fun p hp => (List.mem_append.mp hp).elim (h1 p) (h2 p)
end Mine
namespace Mine
open PySem PySem.W PySem.Spec PySem.Calls PyProof.Rows
def BarOk (l : Addr) (cap : Int) (o : Obj) : Prop := ∃ t c u1 u2 k, o = listOf (List.toArray [.int t u1, .int c u2, .ref l]) k ∧ 0 ≤ t ∧ t ≤ cap ∧ 0 ≤ c ∧ c < 10 ^ 48
section
variable {w : World} {p : Program} {loose : List Str} {mean : ExcName → Option Value} {mg mb : Str → Option Value}
/-- a def that changes one object of the caller's -/
theorem enter1 (binds : List (Str × Value)) (b : Addr) (ob : Obj) {d : Nat} {f : Addr} {vs : List Value} {h : Heap} {Res : Value → Heap → Prop} {name qual : Str} {params : Arguments} {body : List Stmt} {scope : Scope} {dV kV doc pm cdv ct oc : Value} {an od : Option Addr} {osl : Array (Option Value)}
    (hb0 : h.get? b = some ob)
    (ho : (Mine.hk.heap_1 w.params).lookup f = some ⟨oc, od, .func (fnOf name qual params body scope dV kV doc pm an cdv ct), osl⟩) (hcd : codeIn (Mine.hk.heap_1 w.params) cdv qual = true)
    (hbind : ∀ s : Shared, (Mine.hk.heap_1 w.params).In s.heap → BindsTo s (fnOf name qual params body scope dV kV doc pm an cdv ct) ⟨vs, []⟩ binds) (hloc : ∀ y ∈ binds, scope.names.lookup y.1 = some .local)
    (hco : scope.isCoroutine = false) (hgen : scope.isGenerator = false) (hkf : scope.kind = .function) (hcell : ∀ x ∈ scope.names, x.2 ≠ .cell)
    (hb : ∀ (dp un : Nat) (gd : Option (List Code)) (outer : List Env) (A : Around) (base g h₁ : Heap) (L : Addr) (s : Shared), (∀ b' o, b' ≠ b → h.get? b' = some o → g.get? b' = some o) →
      Fr g L h₁ (fun y => binds.reverse.lookup y) → News g L h₁ [(b, ob)] → Below A base outer g → (Mine.hk.heap_1 w.params).In g → Top p loose mean mg mb g → dp + d < recursionLimit → un + 20 * d + 15 < cLine →
      wpAny (model PG w) (ktrTop dp un gd qual scope L f cdv [] outer) (execs body (envOf qual scope L f cdv)) (Ret s g L Res) (fun _ _ => False) { s with heap := h₁ }) :
    Says w p loose mean mg mb (d + 1) f [b] vs h Res := by
  intro dp un gd cn cs L a ccd cl outer A₀ base h₀ m s Q E hs B F X T hkc hd hu hX hret
  subst hs
  refine wpAny_call ?_
  have NB : News h₀ L s.heap [(b, ob)] := fun q hq => by
    rw [List.mem_singleton.mp hq]
    exact ⟨hb0, (hX b (by simp)).2, (hX b (by simp)).1⟩
  refine code_defG (news := [(b, ob)]) B F X NB T rfl rfl hkc ho hcd (Nat.lt_of_le_of_lt (Nat.le_add_right dp (d + 1)) hd) (hbind s (X.keeps F.keep)) hloc ?_ hco hgen hkf hcell
  intro g L' h₁ FG F' N' B' X' T' G'
  have hg : ∀ b' o, b' ≠ b → s.heap.get? b' = some o → g.get? b' = some o := fun b' o ne e => G' b' o e (by simpa using ne)
  refine wpAny_mono (hb (dp + 1) (un + 3) gd (envX cn cs L a ccd cl :: outer) _ base g h₁ L' { s with toks := s.toks + binds.length } hg F' N' B' X' T' (by lia) (by lia)) (fun fl s' hr => ?_) (fun _ _ hf => hf.elim)
  obtain ⟨h', tk', m', rfl, F₂, hres⟩ := hr
  refine ⟨L', m', [], F₂, fun _ hp => (nomatch hp), fun _ _ => ?_⟩
  exact hret _ h' tk' (fun b' o hb' e => F₂.keep b' o (hg b' o (by simpa using hb') e)) hres
theorem says_use1 {b : Addr} {ob : Obj} {news : List (Addr × Obj)} {g9 : Obj → List (Addr × Obj)} {d : Nat} {f : Addr} {vs : List Value} {Res : Value → Obj → Prop} {dp un : Nat} {gd : Option (List Code)} {cn : Str} {cs : Scope} {L a : Addr} {ccd : Value} {cl : List (Str × Addr)} {outer : List Env} {A₀ : Around} {base h₀ : Heap} {m : Str → Option Value} {s : Shared} {Q E : Value → Shared → Prop}
    (S : Says w p loose mean mg mb d f [b] vs s.heap (fun v h' => ∃ o', h'.get? b = some o' ∧ Res v o')) (B : Below A₀ base outer h₀) (F : Fr h₀ L s.heap m) (X : (Mine.hk.heap_1 w.params).In h₀) (N : News h₀ L s.heap news) (U : UpdF b ob news g9) (T : Top p loose mean mg mb h₀) (hk : cs.kind = .function)
    (hr : dp + d < recursionLimit ∧ un + 20 * d < cLine)
    (ret : ∀ v h' tk' o', Fr h₀ L h' m → News h₀ L h' (g9 o') → Res v o' → Q v { s with heap := h', toks := tk' }) :
    wpAny (model PG w) (ktrTop dp un gd cn cs L a ccd cl outer) (call (.ref f) vs) Q E s := by
  obtain ⟨pre, post, hnews, hg9, h1, h2⟩ := U.split
  subst hnews
  have hbm : (b, ob) ∈ pre ++ (b, ob) :: post := List.mem_append_right _ (.head _)
  have zb := N _ hbm
  refine S dp un gd cn cs L a ccd cl outer A₀ base h₀ m s Q E rfl B F X T hk hr.1 hr.2 (fun x hx => ?_) fun v h' tk' k r => ?_
  · rw [List.mem_singleton.mp hx]; exact ⟨zb.2.2, zb.2.1⟩
  · obtain ⟨o', e, r⟩ := r
    refine ret v h' tk' o' (fr_kept F k (fun x hx => by rw [List.mem_singleton.mp hx]; exact ⟨zb.2.2, zb.2.1⟩)) ?_ r
    rw [hg9]
    intro q hq
    rcases List.mem_append.mp hq with hq | hq
    · exact ⟨k _ _ (by simpa using h1 q hq) (N q (List.mem_append_left _ hq)).1, (N q (List.mem_append_left _ hq)).2⟩
    · rcases List.mem_cons.mp hq with rfl | hq
      · exact ⟨e, zb.2⟩
      · exact ⟨k _ _ (by simpa using h2 q hq) (N q (List.mem_append_right _ (.tail _ hq))).1, (N q (List.mem_append_right _ (.tail _ hq))).2⟩
end
theorem scoop_end {g h' : Heap} {L b l : Addr} {t' x n cap : Int} {a1 a2 tk0 : Tok} {k : Nat} (N : News g L h' [(b, listOf (List.toArray [.int t' a1, .int (x.fdiv n) a2, .ref l]) k)]) (ht : 0 ≤ t') (ht2 : t' ≤ cap + 1) (hx : 0 ≤ x) (hx2 : x < 10 ^ 48) (hn : 1 ≤ n) :
    ∃ o', h'.get? b = some o' ∧ ∃ hop tk, Value.int (x.fmod n) tk0 = .int hop tk ∧ 0 ≤ hop ∧ hop < n ∧ BarOk l (cap + 1) o' := by
  refine ⟨_, (N _ (.head _)).1, _, _, rfl, Int.fmod_nonneg_of_pos _ (by lia), Int.fmod_lt_of_pos _ (by lia), t', x.fdiv n, a1, a2, k, rfl, ht, ht2, ?_, ?_⟩
  · exact Int.fdiv_nonneg hx (by lia)
  · have h1 : x.fdiv n ≤ x := by
      rw [Int.fdiv_eq_ediv_of_nonneg _ (by lia)]
      exact Int.ediv_le_self _ hx
    lia
theorem fmod_lt48 (y : Int) {M : Int} (h : 0 < M) (hM : M ≤ 10 ^ 48) : 0 ≤ y.fmod M ∧ y.fmod M < 10 ^ 48 := ⟨Int.fmod_nonneg_of_pos _ h, Int.lt_of_lt_of_le (Int.fmod_lt_of_pos _ h) hM⟩
theorem BarOk.le {l : Addr} {c c' : Int} {o : Obj} (x : BarOk l c o) (h : c ≤ c') : BarOk l c' o :=
  let ⟨t, q, u1, u2, k, e, h1, h2, h3, h4⟩ := x; ⟨t, q, u1, u2, k, e, h1, Int.le_trans h2 h, h3, h4⟩
theorem entry_end {g h' : Heap} {L b l : Addr} {o9 : Obj} {c9 cap : Int} {kd : Kd} {v : Value} (N : News g L h' [(b, o9)]) (hb : BarOk l c9 o9) (hc : c9 ≤ cap) (it : It) (tk : Tok) (hv : v = it.val tk) (ok : okIt kd it) :
    ∃ o', h'.get? b = some o' ∧ ∃ it tk, v = it.val tk ∧ okIt kd it ∧ BarOk l cap o' := ⟨o9, (N _ (.head _)).1, it, tk, hv, ok, hb.le hc⟩
theorem abc_ok {k : Int} (h0 : 0 ≤ k) (h9 : k < 9) : okIt .chr (.txt (Txt.slice (Str.ofString "abcdefgh") none (some k))) := by
  have : k = 0 ∨ k = 1 ∨ k = 2 ∨ k = 3 ∨ k = 4 ∨ k = 5 ∨ k = 6 ∨ k = 7 ∨ k = 8 := by lia
  rcases this with h | h | h | h | h | h | h | h | h <;> subst h <;> exact ⟨by unfold pStr plainC; decide +kernel, by decide +kernel⟩
theorem prod_ok {a b c : Int} (a0 : 0 ≤ a) (a1 : a < 3) (b0 : 0 ≤ b) (b1 : b < 90000) (c0 : 0 ≤ c) (c1 : c < 12) : okIt .int (.int (a * b - c)) := by
  have : a = 0 ∨ a = 1 ∨ a = 2 := by lia
  rcases this with h | h | h <;> subst h <;> (show _ ∧ _; lia)
end Mine
namespace Mine
open PySem PySem.W PySem.Spec PySem.Calls PyProof.Rows
abbrev rngObj (a b : Int) (t u v : Tok) : Obj := { cls := .type "range", dict := none, data := .fields #[.int a t, .int b u, .int 1 v], slots := #[] }
section
variable {prog : Program} {w : World} {A : Around} {E : Value → Shared → Prop} {s : Shared} {h₀ : Heap} {L : Addr} {m : Str → Option Value} {news : List (Addr × Obj)} {Q : Value → Shared → Prop}
theorem range1_led {n : Int} {t : Tok} (F : Fr h₀ L s.heap m) (N : News h₀ L s.heap news)
    (h : ∀ r h' tk t₁ u₁ v₁, Fr h₀ L h' m → News h₀ L h' ((r, rngObj 0 n t₁ u₁ v₁) :: news) → (∀ p ∈ news, p.1 < r) → Q (.ref r) { s with heap := h', toks := tk }) :
    wpAny (model prog w) A (call (.type "range") [.int n t]) Q E s :=
  range1_rows F N fun h' tk t₁ u₁ v₁ hr F' N' k => h _ h' tk t₁ u₁ v₁ F' (fun p hp => by
    rcases List.mem_cons.mp hp with rfl | hp
    · exact ⟨hr, Nat.ne_of_gt F.ns.lt, none_at_size F⟩
    · exact N' p hp) fun p hp => Heap.lt_size (N p hp).1
theorem range2_led {a b : Int} {t u : Tok} (F : Fr h₀ L s.heap m) (N : News h₀ L s.heap news)
    (h : ∀ r h' tk t₁ u₁ v₁, Fr h₀ L h' m → News h₀ L h' ((r, rngObj a b t₁ u₁ v₁) :: news) → (∀ p ∈ news, p.1 < r) → Q (.ref r) { s with heap := h', toks := tk }) :
    wpAny (model prog w) A (call (.type "range") [.int a t, .int b u]) Q E s :=
  range2_rows F N fun h' tk t₁ u₁ v₁ hr F' N' k => h _ h' tk t₁ u₁ v₁ F' (fun p hp => by
    rcases List.mem_cons.mp hp with rfl | hp
    · exact ⟨hr, Nat.ne_of_gt F.ns.lt, none_at_size F⟩
    · exact N' p hp) fun p hp => Heap.lt_size (N p hp).1
end
theorem cells_seven {cm : Str → Option Value} {n1 n2 n3 n4 n5 n6 n7 : Str} {c1 c2 c3 c4 c5 c6 c7 : Addr} {cells : List (Addr × Obj)} (x : CellsAre cm [(n1, c1), (n2, c2), (n3, c3), (n4, c4), (n5, c5), (n6, c6), (n7, c7)] cells) :
    ∃ o1 o2 o3 o4 o5 o6 o7, cells = [(c1, o1), (c2, o2), (c3, o3), (c4, o4), (c5, o5), (c6, o6), (c7, o7)] ∧ o1.data = .cell (cm n1) ∧ o2.data = .cell (cm n2) ∧ o3.data = .cell (cm n3) ∧ o4.data = .cell (cm n4) ∧ o5.data = .cell (cm n5) ∧ o6.data = .cell (cm n6) ∧ o7.data = .cell (cm n7) := by
  cases x with
  | cons a1 x => cases x with
    | cons a2 x => cases x with
      | cons a3 x => cases x with
        | cons a4 x => cases x with
          | cons a5 x => cases x with
            | cons a6 x => cases x with
              | cons a7 x => cases x with
                | nil => exact ⟨_, _, _, _, _, _, _, rfl, a1, a2, a3, a4, a5, a6, a7⟩
def JoinPost (h₀ : Heap) (L : Addr) (J : (Str → Option Value) → List (Addr × Obj) → Prop) (s : Shared) (f : Flow) (s' : Shared) : Prop :=
  f = .next ∧ ∃ h' tk m' nx, s' = { s with heap := h', toks := tk } ∧ Fr h₀ L h' m' ∧ News h₀ L h' nx ∧ J m' nx
theorem JoinPost.intro {h₀ h' : Heap} {L : Addr} {J : (Str → Option Value) → List (Addr × Obj) → Prop} {s : Shared} {tk : Nat} {m' : Str → Option Value} {nx : List (Addr × Obj)} (F : Fr h₀ L h' m') (N : News h₀ L h' nx) (j : J m' nx) : JoinPost h₀ L J s .next { s with heap := h', toks := tk } :=
  ⟨rfl, h', tk, m', nx, rfl, F, N, j⟩
section
variable {prog : Program} {w : World} {A : Around} {E : Value → Shared → Prop} {s : Shared} {h₀ : Heap} {L : Addr} {env : Env} {Q : Flow → Shared → Prop}
theorem join_at {st : Stmt} {rest : List Stmt} (J : (Str → Option Value) → List (Addr × Obj) → Prop) (h : wpAny (model prog w) A (exec st env) (JoinPost h₀ L J s) E s)
    (k : ∀ h' tk m' nx, J m' nx → Fr h₀ L h' m' → News h₀ L h' nx → wpAny (model prog w) A (execs rest env) Q E { s with heap := h', toks := tk }) : wpAny (model prog w) A (execs (st :: rest) env) Q E s := by
  refine wpAny_execs_cons (wpAny_mono h (fun f s' hj => ?_) fun _ _ e => e)
  obtain ⟨rfl, h', tk, m', nx, rfl, F, N, j⟩ := hj
  exact k h' tk m' nx j F N
end
theorem chr_left (kd : Kd) : (kd.str == Str.ofString "character") = kd.left := by cases kd <;> decide +kernel
section
variable {prog : Program} {w : World} {A : Around} {h₀ : Heap} {L : Addr} {m : Str → Option Value} {env : Env}
theorem src_range {elt : Expr} {x : Str} {scope : Scope} {cl : List (Str × Addr)} {Fin : Shared → List Value → List (Addr × Obj) → Prop} {r : Addr} {a n : Nat} {b : Int} {t u v : Tok} {news : List (Addr × Obj)} {s₁ : Shared}
    (hh : A.handled = none) (F : Fr h₀ L s₁.heap m) (N : News h₀ L s₁.heap news) (hr : (r, rngObj (a : Nat) b t u v) ∈ news) (hb : b = ((a + n : Nat) : Int)) (ha : a ≤ 1000) (hn : n ≤ 1000)
    (h : ∀ g, LCg.CompRest prog w A h₀ L m env elt x scope cl { s₁ with heap := g } (fun _ => True) (fun i v => ∃ t, v = .int ((a : Int) + (i : Int)) t) (Fin { s₁ with heap := g }) n 0 [] news) :
    LCg.CompSrc prog w A h₀ L m env elt x scope cl Fin (.ref r) s₁ := by
  subst hb
  refine LCg.CompSrc.range hh F N (N _ hr).1 (small_of (by lia) (by lia) (by lia) (by lia)) (n := n) ?_ (by rw [sizeLine_eq]; lia) h
  rw [size_of (by lia)]
  lia
end
section
variable {prog : Program} {w : World} {A : Around} {E : Value → Shared → Prop} {s : Shared} {h₀ : Heap} {L : Addr} {m : Str → Option Value} {news : List (Addr × Obj)} {Q : Value → Shared → Prop}
theorem max_own {l : Addr} {vs : List Value} {ns : List Int} {X : Int} (hh : A.handled = none) (F : Fr h₀ L s.heap m) (N : News h₀ L s.heap news) (hl : s.heap.IsList l (List.toArray vs)) (hi : IntsAre vs ns) (hne : 0 < ns.length) (hX : ∀ M, M ∈ ns → (∀ a, a ∈ ns → a ≤ M) → M = X)
    (h : ∀ h' (t : Tok) tk, Fr h₀ L h' m → News h₀ L h' news → Q (.int X t) { s with heap := h', toks := tk }) : wpAny (model prog w) A (call (.builtin "max") [.ref l]) Q E s :=
  max_list_N hh F N hl hi hne fun h' M t tk F' N' h1 h2 => by rw [hX M h1 h2]; exact h h' t tk F' N'
end
theorem ints_of_pl {ys : List Value} : ∀ {ns : List Int}, Pl ns.length (fun i y => ∃ tk, y = .int (ns.getD i 0) tk) ys → IntsAre ys ns := by
  induction ys with
  | nil => intro ns h; obtain ⟨h1, _⟩ := h; cases ns with | nil => exact .nil | cons _ _ => simp at h1
  | cons y ys ih =>
    intro ns h
    obtain ⟨h1, h2⟩ := h
    cases ns with
    | nil => simp at h1
    | cons t ns =>
      obtain ⟨tk, e⟩ := h2 0 y (by simp)
      have e' : y = .int t tk := by simpa using e
      subst e'
      refine .cons t tk (ih ⟨by simpa using h1, fun j z hz => ?_⟩)
      obtain ⟨tk', e⟩ := h2 (j + 1) z (by simpa using hz)
      exact ⟨tk', by simpa using e⟩
theorem lens_getD (l : List Str) (i : Nat) {t : Str} (h : l[i]? = some t) : (l.map fun t => (t.length : Int)).getD i 0 = (t.length : Int) := by
  rw [List.getD_eq_getElem?_getD, List.getElem?_map, h]; rfl
theorem le_wide : ∀ (l : List Str) (t : Str), t ∈ l → (t.length : Int) ≤ wide l := by
  have key : ∀ (l : List Str) (a : Int), a ≤ l.foldl (fun a t => mx a (t.length : Int)) a ∧ ∀ t ∈ l, (t.length : Int) ≤ l.foldl (fun a t => mx a (t.length : Int)) a := by
    intro l
    induction l with
    | nil => intro a; exact ⟨Int.le_refl _, fun t h => nomatch h⟩
    | cons x r ih =>
      intro a
      obtain ⟨h1, h2⟩ := ih (mx a (x.length : Int))
      have hm : a ≤ mx a (x.length : Int) ∧ (x.length : Int) ≤ mx a (x.length : Int) := by unfold mx; split <;> lia
      refine ⟨Int.le_trans hm.1 h1, fun t ht => ?_⟩
      rcases List.mem_cons.mp ht with rfl | ht
      · exact Int.le_trans hm.2 h1
      · exact h2 t ht
  exact fun l t h => (key l 0).2 t h
theorem wide_mem : ∀ (l : List Str), wide l = 0 ∨ ∃ t ∈ l, wide l = (t.length : Int) := by
  have key : ∀ (l : List Str) (a : Int), l.foldl (fun a t => mx a (t.length : Int)) a = a ∨ ∃ t ∈ l, l.foldl (fun a t => mx a (t.length : Int)) a = (t.length : Int) := by
    intro l
    induction l with
    | nil => intro a; exact .inl rfl
    | cons x r ih =>
      intro a
      rcases ih (mx a (x.length : Int)) with h | ⟨t, ht, h⟩
      · have : mx a (x.length : Int) = a ∨ mx a (x.length : Int) = (x.length : Int) := by unfold mx; split <;> simp
        rcases this with h' | h'
        · exact .inl (h.trans h')
        · exact .inr ⟨x, by simp, h.trans h'⟩
      · exact .inr ⟨t, by simp [ht], h⟩
  exact fun l => key l 0
theorem max_wide {l : List Str} (hne : 0 < l.length) (M : Int) (h1 : M ∈ l.map fun t => (t.length : Int)) (h2 : ∀ a, a ∈ (l.map fun t => (t.length : Int)) → a ≤ M) : M = wide l := by
  obtain ⟨t, ht, rfl⟩ := List.mem_map.mp h1
  refine Int.le_antisymm (le_wide l t ht) ?_
  rcases wide_mem l with h | ⟨t', ht', h⟩
  · rw [h]; lia
  · rw [h]; exact h2 _ (List.mem_map.mpr ⟨t', ht', rfl⟩)
theorem max_width {c : List Str} {hd : Str} (M : Int) (h1 : M ∈ [(hd.length : Int)] ++ c.map fun t => (t.length : Int)) (h2 : ∀ a, a ∈ ([(hd.length : Int)] ++ c.map fun t => (t.length : Int)) → a ≤ M) : M = mx (wide c) (hd.length : Int) := by
  have a1 : (hd.length : Int) ≤ M := h2 _ (by simp)
  have a2 : wide c ≤ M := by
    rcases wide_mem c with h | ⟨t', ht', h⟩
    · rw [h]; lia
    · rw [h]; exact h2 _ (by simp; exact .inr ⟨t', ht', rfl⟩)
  rcases List.mem_append.mp h1 with h | h
  · rw [List.mem_singleton] at h
    unfold mx; split <;> lia
  · obtain ⟨t, ht, rfl⟩ := List.mem_map.mp h
    have := le_wide c t ht
    unfold mx; split <;> lia
section
variable {prog : Program} {w : World} {A : Around} {E : Value → Shared → Prop} {s : Shared} {env : Env} {h₀ : Heap} {Q : Flow → Shared → Prop}
/-- a turn's end where a turn only goes on -/
def NextPost (h₀ : Heap) (L : Addr) (I : Addr) (o : Obj) (J : (Str → Option Value) → List (Addr × Obj) → Prop) (s₁ : Shared) (f : Flow) (s₂ : Shared) : Prop :=
  f = .next ∧ ∃ h' tk m' nx, s₂ = { s₁ with heap := h', toks := tk } ∧ Fr h₀ L h' m' ∧ News h₀ L h' ((I, o) :: nx) ∧ (∀ p ∈ nx, p.1 ≠ I) ∧ J m' nx
theorem NextPost.intro {L I : Addr} {o : Obj} {J : (Str → Option Value) → List (Addr × Obj) → Prop} {s₁ : Shared} {h' : Heap} {tk : Nat} {m' : Str → Option Value} {nx : List (Addr × Obj)}
    (F : Fr h₀ L h' m') (N : News h₀ L h' ((I, o) :: nx)) (hn : ∀ p ∈ nx, p.1 ≠ I) (hj : J m' nx) : NextPost h₀ L I o J s₁ .next { s₁ with heap := h', toks := tk } := ⟨rfl, h', tk, m', nx, rfl, F, N, hn, hj⟩
/-- a for over range(n) whose name is captured -/
theorem iter_rangeC {r : Addr} {n : Nat} {t u v : Tok} {x : Str} {px : Pos} {body : List Stmt} {m₀ : Str → Option Value} {news₀ news : List (Addr × Obj)}
    (J : Nat → (Str → Option Value) → List (Addr × Obj) → Prop) (hh : A.handled = none)
    (F : Fr h₀ env.locals s.heap m₀) (N₀ : News h₀ env.locals s.heap news₀) (hr : (r, rngObj 0 (n : Nat) t u v) ∈ news₀)
    (h4 : n < 1000000) (hj : J 0 m₀ news ∧ ∀ p ∈ news, p ∈ news₀)
    (turn : ∀ I i t o m₁ news₁ s₁, i < n → J i m₁ news₁ → (∀ p ∈ news₁, p.1 ≠ I) → Fr h₀ env.locals s₁.heap m₁ → News h₀ env.locals s₁.heap ((I, o) :: news₁) →
      wpAny (model prog w) A (assign (.Name x px) env (.int (i : Nat) t)) (fun _ s₃ => wpAny (model prog w) A (execs body env) (NextPost h₀ env.locals I o (J (i + 1)) s₁) E s₃) E s₁)
    (done : ∀ m₁ news₁ h tk, J n m₁ news₁ → Fr h₀ env.locals h m₁ → News h₀ env.locals h news₁ → Q .next { s with heap := h, toks := tk }) :
    wpAny (model prog w) A (pyIter (.ref r)) (fun it s₂ => LoopAtT prog w A h₀ env (.Name x px) body Q E it s₂) E s := by
  have N : News h₀ env.locals s.heap news := fun p hp => N₀ p (hj.2 p hp)
  refine wpAny_pyIter_range (N₀ _ hr).1 (small_of (by lia) (by lia) (by lia) (by lia)) ?_
  have hn : Builtin.Range.rangeSize 0 (n : Int) 1 = (n : Int) := by rw [size_of (by lia)]; lia
  have W := Walks.range (prog := prog) (w := w) hh s.heap.objs.size 0 1 n
  refine ⟨s.heap.objs.size, [s.heap.objs.size], [s.heap.objs.size], n, _, _, m₀, news, J, rfl, W, ?_, ?_, ?_, ?_, F.push _, (fun p hp => ⟨Heap.get?_push_of_some _ (N p hp).1, (N p hp).2⟩), ?_, hj.1, ?_, ?_⟩
  · intro hm; exact absurd F.ns.lt (by rw [List.mem_singleton.mp hm]; exact Nat.lt_irrefl _)
  · intro b hb; rw [List.mem_singleton.mp hb]; exact next_is_new F
  · intro p hp hm; exact absurd (Heap.lt_size (N p hp).1) (by rw [List.mem_singleton.mp hm]; exact Nat.lt_irrefl _)
  · show IsRangeIter _ _ _ _ _
    rw [hn]; simpa using Heap.get?_push_size _ rfl
  · intro i s' v Q' _ hq
    exact wpAny_pure hq
  · rintro i v m₁ news₁ s₁ own hi ⟨t', rfl⟩ hJ hoff hown hget hall hst₁ F₁ N₁
    have hst₁ : IsRangeIter s₁.heap s.heap.objs.size _ _ _ := hst₁
    have hI0 : h₀.get? s.heap.objs.size = none := next_is_new F
    have hIo := hall s.heap.objs.size (by simp) hI0 _ hst₁
    have hon : ∀ p ∈ own, p = (s.heap.objs.size, _) := fun p hp => by
      have h1 : p.1 = s.heap.objs.size := List.mem_singleton.mp (hown p hp)
      have h2 := hget p hp
      rw [h1, hst₁] at h2
      exact Prod.ext h1 (Option.some.inj h2).symm
    have N₂ : News h₀ env.locals s₁.heap ((s.heap.objs.size, _) :: news₁) := fun p hp => by
      rcases List.mem_cons.mp hp with rfl | hp
      · exact N₁ _ (List.mem_append_left _ hIo)
      · exact N₁ p (List.mem_append_right _ hp)
    rw [show (0 : Int) + (i : Int) * 1 = (i : Int) by lia]
    refine wpAny_mono (turn _ i t' _ m₁ news₁ s₁ hi hJ (fun p hp e => hoff p hp (by rw [e]; simp)) F₁ N₂) (fun _ s₂ h₂ => wpAny_mono h₂ (fun f s₃ hf => ?_) fun _ _ e => e) fun _ _ e => e
    obtain ⟨rfl, h', tk', m', nx, rfl, F', N', hne, hJ'⟩ := hf
    refine ⟨rfl, h', tk', m', nx, rfl, F', fun p hp => ?_, fun p hp hm => hne p hp (List.mem_singleton.mp hm), hJ'⟩
    rcases List.mem_append.mp hp with hp | hp
    · rw [hon p hp]; exact N' _ (.head _)
    · exact N' p (.tail _ hp)
  · intro h' tk m' news' F' N' _ hJ
    exact done m' news' h' tk hJ F' N'
end
theorem take_tot (rm : Int) (ws : List Int) (b : Nat) : ∀ k : Nat, b + k ≤ ws.length → rm + ((ws.drop b).take k).sum + (k : Int) = tot rm ws b k
  | 0, _ => by simp [tot]
  | k + 1, h => by
    have ih := take_tot rm ws b k (by lia)
    rw [tot_succ, ← ih, List.take_add_one, List.getElem?_drop, List.getD_eq_getElem?_getD, List.getElem?_eq_getElem (show b + k < ws.length by lia)]
    simp [List.sum_append]
    lia
theorem sum_tot (rm : Int) (ws : List Int) (b n : Nat) (h : b + n < ws.length) :
    rm + ((ws.drop ((b : Nat) : Int).toNat).take (min (((b + n : Nat) : Int) + 1).toNat ws.length - ((b : Nat) : Int).toNat)).sum + ((b + n : Nat) : Int) + 1 - (b : Int) = tot rm ws b (n + 1) := by
  rw [← take_tot rm ws b (n + 1) (by lia)]
  have e1 : min (((b + n : Nat) : Int) + 1).toNat ws.length - ((b : Nat) : Int).toNat = n + 1 := by lia
  have e2 : ((b : Nat) : Int).toNat = b := by lia
  rw [e1, e2]
  lia
section
variable {M : Model} {A : Around} {E : Value → Shared → Prop} {s : Shared} {h₀ : Heap} {L a : Addr} {m : Str → Option Value} {cn : Str} {cs : Scope} {ccd : Value} {cl : List (Str × Addr)} {x : Str} {v : Value} {Q : Value → Shared → Prop}
theorem ldX (F : Fr h₀ L s.heap m) (hv : m x = some v) (h : Q v s)
    (hk : cs.kind = .function := by rfl) (hx : (envX cn cs L a ccd cl).kindOf x = some .local := by rfl) :
    wpAny M A (loadName (envX cn cs L a ccd cl) x) Q E s := wpAny_loadName_local hk hx F.ns hv h
end
theorem allNe_same {d : Nat} : ∀ {a b : List (Addr × Obj)}, AllNe d a → b.map (·.1) = a.map (·.1) → ∀ p ∈ b, @Ne Nat p.1 d
  | a, [], _, _, _, h => nomatch h
  | [], _ :: _, _, e, _, _ => by simp at e
  | x :: a, y :: b, n, e, p, h => by
    have e1 : y.1 = x.1 := (List.cons.inj e).1
    have e2 : b.map (·.1) = a.map (·.1) := (List.cons.inj e).2
    rcases List.mem_cons.mp h with rfl | h
    · rw [e1]; exact n.1
    · exact allNe_same n.2 e2 p h
end Mine
namespace Mine
open PySem PySem.W PySem.Spec PySem.Calls PyProof.Rows
def pat (c : Nat) : List Nat := [91, 44, c, 93]
def hits (c : Nat) : List Nat → Nat
  | [] => 0
  | x :: r => (if (x :: r).take 4 = pat c then 1 else 0) + hits c r
def Cl (c : Nat) (l : List Nat) (n : Nat) : Prop := ∀ r, hits c (l ++ r) = n + hits c r
theorem Cl.nil {c : Nat} : Cl c [] 0 := fun r => (Nat.zero_add _).symm
theorem Cl.append {c : Nat} {a b : List Nat} {n m : Nat} (x : Cl c a n) (y : Cl c b m) : Cl c (a ++ b) (n + m) := fun r => by
  rw [List.append_assoc, x, y, Nat.add_assoc]
theorem cl_other {c x : Nat} (h : x ≠ 91) : Cl c [x] 0 := fun r => by
  show (if (x :: r).take 4 = pat c then 1 else 0) + hits c r = 0 + hits c r
  rw [if_neg]
  intro e
  have e1 : x :: r.take 3 = pat c := e
  exact h (List.cons.inj e1).1
theorem cl_spc {c : Nat} : ∀ n : Nat, Cl c (List.replicate n 32) 0
  | 0 => Cl.nil
  | n + 1 => by
    rw [List.replicate_succ]
    exact Cl.append (a := [32]) (cl_other (by decide)) (cl_spc n)
theorem cl_mark {c m : Nat} (hm : m ≠ 91) : Cl c [91, 44, m, 93] (if m = c then 1 else 0) := fun r => by
  have h1 : hits c ([44, m, 93] ++ r) = hits c r := by
    have := (Cl.append (a := [44]) (b := [m, 93]) (cl_other (c := c) (by decide)) (Cl.append (a := [m]) (cl_other hm) (cl_other (x := 93) (by decide)))) r
    simpa using this
  show (if [91, 44, m, 93] = pat c then 1 else 0) + hits c ([44, m, 93] ++ r) = _
  rw [h1]
  congr 1
  unfold pat
  by_cases e : m = c
  · rw [if_pos e, if_pos (by rw [e])]
  · rw [if_neg e, if_neg]
    intro h
    simp at h
    exact e h
theorem cl_cat {c : Nat} {g : Nat → Str} {f : Nat → Nat} : ∀ n : Nat, (∀ j, j < n → Cl c (g j).cps.toList (f j)) → Cl c (cat ((List.range n).map g)).cps.toList ((List.range n).map f).sum
  | 0, _ => Cl.nil
  | n + 1, h => by
    rw [range_succ_map, range_succ_map, cat_snoc, Str.cps_append, Array.toList_append, List.sum_append, List.sum_singleton]
    exact (cl_cat n fun j hj => h j (by lia)).append (h n (by lia))
def Sm (c b n : Nat) : Nat := ((List.range n).map fun j => if 49 + (b + j) = c then 1 else 0).sum
theorem Sm_succ (c b n : Nat) : Sm c b (n + 1) = Sm c b n + if 49 + (b + n) = c then 1 else 0 := by
  unfold Sm
  rw [range_succ_map, List.sum_append, List.sum_singleton]
theorem Sm_add (c b n : Nat) : ∀ m : Nat, Sm c b (n + m) = Sm c b n + Sm c (b + n) m
  | 0 => rfl
  | m + 1 => by rw [← Nat.add_assoc, Sm_succ, Sm_add c b n m, Sm_succ, Nat.add_assoc, Nat.add_assoc]
theorem Sm_one {k : Nat} : ∀ n : Nat, Sm (49 + k) 0 n = if k < n then 1 else 0
  | 0 => rfl
  | n + 1 => by
    rw [Sm_succ, Sm_one n]
    by_cases h1 : k < n
    · rw [if_pos h1, if_neg (by lia), if_pos (by lia)]
    · by_cases h2 : k = n
      · rw [if_neg h1, if_pos (by lia), if_pos (by lia)]
      · rw [if_neg h1, if_neg (by lia), if_neg (by lia)]
theorem mark_cps {i : Nat} (h : i < 7) : (Str.ofString "[," ++ Str.ofString (toString ((i : Int) + 1)) ++ Str.ofString "]").cps.toList = [91, 44, 49 + i, 93] := by
  have : i = 0 ∨ i = 1 ∨ i = 2 ∨ i = 3 ∨ i = 4 ∨ i = 5 ∨ i = 6 := by lia
  rcases this with h | h | h | h | h | h | h <;> subst h <;> decide +kernel
theorem cl_pad {c : Nat} {t : Str} {n : Int} {b : Bool} {m : Nat} (h : Cl c t.cps.toList m) : Cl c (pad t n b).cps.toList m := by
  have hs : (Str.ofString " ").cps.toList = [32] := by decide +kernel
  unfold pad fill
  rw [Str.cps_append, Array.toList_append, hs]
  have e : ∀ {l : List Nat} {k : Nat}, Cl c l k → Cl c ([32] ++ l) (0 + k) := fun y => Cl.append (a := [32]) (cl_other (c := c) (by decide : (32 : Nat) ≠ 91)) y
  split
  · rw [Str.cps_append, Array.toList_append]
    have := e (h.append (cl_spc (n.toNat - t.length)))
    simpa [spc] using this
  · rw [Str.cps_append, Array.toList_append]
    have := e ((cl_spc (n.toNat - t.length)).append h)
    simpa [spc] using this
theorem cl_headLine {D : LayD} {ws : List Int} {c b n : Nat} (hcn : D.cn = none) (hb : b + n ≤ 7) : Cl c (headLine D ws b n).cps.toList (Sm c b n) := by
  unfold headLine
  rw [cat_cons, Str.cps_append, Array.toList_append]
  have h2 : Cl c (cat ((List.range n).map fun j => pad (head D.cn (b + j)) (ws.getD (b + j) 0) D.left)).cps.toList (Sm c b n) := cl_cat n fun j hj => by
    refine cl_pad ?_
    rw [hcn]
    show Cl c (Str.ofString "[," ++ Str.ofString (toString (((b + j : Nat) : Int) + 1)) ++ Str.ofString "]").cps.toList _
    rw [mark_cps (by lia)]
    exact cl_mark (by lia)
  have h1 : Cl c (spc (room D.rn).toNat).cps.toList 0 := by simpa [spc] using cl_spc (c := c) (room D.rn).toNat
  have := h1.append h2
  rwa [Nat.zero_add] at this
theorem len_headLine {D : LayD} (ok : D.ok) {b n : Nat} (hb : b + n ≤ D.cols.length) : (headLine D (widths D) b n).length ≤ 100000 := by
  have c7 := ok.c7
  have hw := widths_bnd ok
  have hr := room_le ok
  refine line_len ?_ (fun j hj => Nat.le_trans (len_pad (len_head ok (by lia)) (getD_bnd hw _).2) (by lia)) (by lia)
  rw [len_spc]; lia
theorem lines_heads {D : LayD} (ok : D.ok) (hcn : D.cn = none) {pg : Int} {b : Nat} {ls : List Str} (x : Lines (block D (widths D)) (more (room D.rn) (widths D) pg) D.cols.length b ls) :
    ∃ hs : List Str, ls.length = hs.length * (D.rows + 1) ∧ (∀ (i : Nat) (t : Str), hs[i]? = some t → ls[i * (D.rows + 1)]? = some t) ∧ hs.length ≤ D.cols.length - b ∧ (∀ t ∈ hs, t.length ≤ 100000) ∧
      (b < D.cols.length → 1 ≤ hs.length) ∧ (b ≤ D.cols.length → ∀ c, Cl c (cat hs).cps.toList (Sm c b (D.cols.length - b))) := by
  have c7 := ok.c7
  induction x with
  | @done b h => 
    refine ⟨[], by simp, fun i t e => by simp at e, Nat.zero_le _, fun t ht => (nomatch ht), fun h' => by lia, fun h' c => ?_⟩
    rw [show D.cols.length - b = 0 by lia]; exact Cl.nil
  | @step b n r h1 h2 h3 h4 _ ih =>
    have hbn : b + n ≤ D.cols.length := by
      rcases Nat.lt_or_ge 1 n with h | h
      · have := (h3 (n - 1) (by lia) (by lia)).1
        rw [widths_len] at this
        lia
      · lia
    obtain ⟨hs, e1, e2, e3, e4, _, e6⟩ := ih
    refine ⟨headLine D (widths D) b n :: hs, ?_, ?_, ?_, ?_, fun _ => by simp, fun _ c => ?_⟩
    · rw [List.length_append, block_len, e1, List.length_cons, Nat.succ_mul]; lia
    · intro i t e
      cases i with
      | zero => simp at e; subst e; simp [block]
      | succ i =>
        rw [List.getElem?_cons_succ] at e
        rw [List.getElem?_append_right (by rw [block_len, Nat.succ_mul]; lia), block_len, show (i + 1) * (D.rows + 1) - (D.rows + 1) = i * (D.rows + 1) by rw [Nat.succ_mul]; lia]
        exact e2 i t e
    · rw [List.length_cons]; lia
    · intro t ht
      rcases List.mem_cons.mp ht with rfl | ht
      · exact len_headLine ok hbn
      · exact e4 t ht
    · rw [cat_cons, Str.cps_append, Array.toList_append]
      have := (cl_headLine (ws := widths D) (c := c) hcn (show b + n ≤ 7 by lia)).append (e6 hbn c)
      rwa [← Sm_add, show n + (D.cols.length - (b + n)) = D.cols.length - b by lia] at this
theorem hits_zero {c : Nat} : ∀ {l : List Nat}, hits c l = 0 → ∀ i, (l.drop i).take 4 ≠ pat c
  | [], _, i => by simp [pat]
  | x :: r, h, i => by
    have h' : (if (x :: r).take 4 = pat c then 1 else 0) + hits c r = 0 := h
    cases i with
    | zero =>
      intro e
      rw [if_pos (by simpa using e)] at h'
      lia
    | succ i =>
      rw [List.drop_succ_cons]
      exact hits_zero (by lia) i
theorem hits_one {c : Nat} : ∀ {l : List Nat}, hits c l = 1 → ∃ d, (l.drop d).take 4 = pat c ∧ ∀ i, (l.drop i).take 4 = pat c → i = d
  | [], h => by simp [hits] at h
  | x :: r, h => by
    have h' : (if (x :: r).take 4 = pat c then 1 else 0) + hits c r = 1 := h
    by_cases hx : (x :: r).take 4 = pat c
    · rw [if_pos hx] at h'
      refine ⟨0, hx, fun i hi => ?_⟩
      cases i with
      | zero => rfl
      | succ i => rw [List.drop_succ_cons] at hi; exact absurd hi (hits_zero (l := r) (by lia) i)
    · rw [if_neg hx] at h'
      obtain ⟨d, h1, h2⟩ := hits_one (c := c) (l := r) (by lia)
      refine ⟨d + 1, h1, fun i hi => ?_⟩
      cases i with
      | zero => exact absurd hi hx
      | succ i => rw [List.drop_succ_cons] at hi; rw [h2 i hi]
theorem count_one {x y : Str} {c : Nat} (hy : y.cps.toList = pat c) (h : hits c x.cps.toList = 1) : Txt.count x y = 1 := by
  have hyl : y.length = 4 := by
    have := congrArg List.length hy
    simpa [pat, Str.length] using this
  obtain ⟨d, h1, h2⟩ := hits_one h
  have at_iff : ∀ i, StrLaws.At x y x.length i ↔ (x.cps.toList.drop i).take 4 = pat c := by
    intro i
    unfold StrLaws.At
    rw [StrLaws.subAt_eq, hyl, hy]
    constructor
    · intro h; simpa using h.2
    · intro h
      refine ⟨?_, by simpa using h⟩
      have := congrArg List.length h
      rw [List.length_take, List.length_drop, Array.length_toList] at this
      have e4 : (pat c).length = 4 := rfl
      rw [e4] at this
      unfold Str.length
      lia
  obtain ⟨f, hG, hn⟩ := StrLaws.occ_tight x y (by lia)
  unfold Txt.count
  generalize Builtin.Str.occurrences x y 0 x.length (x.length + 1) = cuts at hG
  match cuts, hG with
  | [], hG =>
    have e : f = 0 := hG
    exact absurd ((at_iff d).mpr h1) (hn d (by lia))
  | [_], _ => rfl
  | a :: b :: r, hG =>
    obtain ⟨_, ha, _, hb1, hb, _⟩ := hG
    have e1 := h2 a ((at_iff a).mp ha)
    have e2 := h2 b ((at_iff b).mp hb)
    lia
theorem told_count {D : LayD} (ok : D.ok) (hcn : D.cn = none) {pg : Int} {ls : List Str} (x : Lines (block D (widths D)) (more (room D.rn) (widths D) pg) D.cols.length 0 ls) :
    ∃ hs : List Str, ls.length = hs.length * (D.rows + 1) ∧ (∀ (i : Nat) (t : Str), hs[i]? = some t → ls[i * (D.rows + 1)]? = some t) ∧ 1 ≤ hs.length ∧ hs.length ≤ 7 ∧ (cat hs).length ≤ 1000000 ∧
      ∀ k, k < D.cols.length → Txt.count (cat hs) (Str.ofString "[," ++ Str.ofString (toString ((k : Int) + 1)) ++ Str.ofString "]") = 1 := by
  have c7 := ok.c7
  have c1 := ok.c1
  obtain ⟨hs, e1, e2, e3, e4, e5, e6⟩ := lines_heads ok hcn x
  refine ⟨hs, e1, e2, e5 (by lia), by lia, ?_, fun k hk => ?_⟩
  · have := len_cat_le hs e4
    have h7 : hs.length * 100000 ≤ 7 * 100000 := Nat.mul_le_mul_right _ (by lia)
    lia
  · refine count_one (c := 49 + k) (mark_cps (by lia)) ?_
    have := e6 (by lia) (49 + k) []
    rw [List.append_nil, Nat.sub_zero, Sm_one, if_pos hk] at this
    rw [this]; rfl
end Mine
namespace Mine
open PySem PySem.W PySem.Spec PySem.Calls PyProof.Rows
/-- the objects of a ledger, as they stand in a heap -/
def Has (led : List (Addr × Obj)) (h : Heap) : Prop := ∀ p ∈ led, h.get? p.1 = some p.2
theorem Has.of {h₀ h : Heap} {L : Addr} {news led : List (Addr × Obj)} (N : News h₀ L h news) (hs : ∀ p ∈ led, p ∈ news) : Has led h := fun p hp => (N p (hs p hp)).1
theorem vecAt_has {w : World} {h : Heap} {x dx l : Addr} {led : List (Addr × Obj)} {kind : Str} {av : Value} {n : Nat} {t0 t1 t2 t3 t4 tk : Tok} {b1 b2 : Bool} (H : Has led h) (h1 : (x, instObj 188 dx) ∈ led)
    (h2 : (dx, dictOf [ent w (Str.ofString "kind") t0 (.str kind tk), ent w (Str.ofString "items") t1 (.ref l), ent w (Str.ofString "attrs") t2 av, ent w (Str.ofString "shared") t3 (.bool b1), ent w (Str.ofString "loose") t4 (.bool b2)] n) ∈ led) : VecAt w h x kind l av :=
  ⟨dx, _, n, t0, t1, t2, t3, t4, tk, b1, b2, H _ h1, H _ h2⟩
theorem nullAt_has {w : World} {h : Heap} {x dx : Addr} {led : List (Addr × Obj)} {n : Nat} {t0 t1 tk : Tok} (H : Has led h) (h1 : (x, instObj 159 dx) ∈ led)
    (h2 : (dx, dictOf [ent w (Str.ofString "kind") t0 (.str (Str.ofString "NULL") tk), ent w (Str.ofString "attrs") t1 .none] n) ∈ led) : NullAt w h x :=
  ⟨dx, _, n, t0, t1, tk, H _ h1, H _ h2⟩
theorem dictAt_has {w : World} {h : Heap} {a : Addr} {o : Obj} {led : List (Addr × Obj)} {kvs : List (Value × Value)} (H : Has led h) (hm : (a, o) ∈ led) (hd : o.IsDictOf (PySem.strKind PG w) (strPairs kvs)) (lo : (a == sysModules) = false) : DictAt w h a kvs :=
  ⟨o, H _ hm, hd, lo⟩
theorem list_has {h : Heap} {a : Addr} {vs : List Value} {k : Nat} {led : List (Addr × Obj)} (H : Has led h) (hm : (a, listOf (List.toArray vs) k) ∈ led) : h.IsList a (List.toArray vs) := ⟨_, H _ hm, rfl, _, rfl⟩
theorem intsL_has {h : Heap} {a : Addr} {vs : List Value} {k : Nat} {ns : List Int} {led : List (Addr × Obj)} (H : Has led h) (hm : (a, listOf (List.toArray vs) k) ∈ led) (hv : IntsAre vs ns) : IntsL h a ns := ⟨vs, list_has H hm, hv⟩
theorem strsL_has {h : Heap} {a : Addr} {vs : List Value} {k : Nat} {ts : List Str} {led : List (Addr × Obj)} (H : Has led h) (hm : (a, listOf (List.toArray vs) k) ∈ led) (hv : StrsAre vs ts) : StrsL h a ts := ⟨vs, list_has H hm, hv⟩
/-- a matrix as it stands in the heap -/
def MatIs (w : World) (h : Heap) (x : Addr) (kd : Kd) (l : Addr) (R W : Nat) (rn cn : Option (List Str)) : Prop :=
  ∃ at' kvs dv dl, VecAt w h x kd.str l (.ref at') ∧ DictAt w h at' kvs ∧ (valueAt (strPairs kvs) (Str.ofString "dim")).getD .none = .ref dv ∧ VecAt w h dv (Str.ofString "integer") dl .none ∧ IntsL h dl [(R : Int), (W : Int)] ∧
    (((valueAt (strPairs kvs) (Str.ofString "dimnames")).getD .none = .none ∧ rn = none ∧ cn = none) ∨
     ∃ nv nl p0 p1, (valueAt (strPairs kvs) (Str.ofString "dimnames")).getD .none = .ref nv ∧ VecAt w h nv (Str.ofString "list") nl .none ∧ h.IsList nl (List.toArray [.ref p0, .ref p1]) ∧ PartAt w h p0 rn ∧ PartAt w h p1 cn ∧ ¬ (rn = none ∧ cn = none))
def AllGt (d : Nat) (led : List (Addr × Obj)) : Prop := ∀ p ∈ led, @LT.lt Nat _ d p.1
theorem allLt_mem {d : Nat} : ∀ {l : List (Addr × Obj)}, AllLt d l → ∀ p ∈ l, @LT.lt Nat _ p.1 d
  | [], _, _, h => nomatch h
  | _ :: _, x, p, h => by
    rcases List.mem_cons.mp h with rfl | h
    · exact x.1
    · exact allLt_mem x.2 p h
theorem AllGt.ne {d : Nat} {l : List (Addr × Obj)} (x : AllGt d l) {e : Nat} (h : e ≤ d) : ∀ p ∈ l, @Ne Nat p.1 e := fun p hp q => by
  have := x p hp
  rw [q] at this
  lia
theorem AllGt.le {d e : Nat} {l : List (Addr × Obj)} (x : AllGt d l) (h : e ≤ d) : AllGt e l := fun p hp => Nat.lt_of_le_of_lt h (x p hp)
theorem AllGt.cons {d : Nat} {p : Addr × Obj} {l : List (Addr × Obj)} (h : @LT.lt Nat _ d p.1) (x : AllGt d l) : AllGt d (p :: l) := fun q hq => by
  rcases List.mem_cons.mp hq with rfl | hq
  · exact h
  · exact x q hq
theorem AllGt.nil {d : Nat} : AllGt d [] := fun _ h => nomatch h
abbrev tupObj (its : List Value) : Obj := { cls := .type "tuple", data := .seq its.toArray }
section
variable {prog : Program} {w : World} {A : Around} {E : Value → Shared → Prop} {s : Shared} {h₀ : Heap} {L : Addr} {m : Str → Option Value} {env : Env}
/-- a written tuple as a comprehension's source -/
def TupSrc (prog : Program) (w : World) (A : Around) (h₀ : Heap) (L : Addr) (m : Str → Option Value) (env : Env) (elt : Expr) (x : Str) (scope : Scope) (cl : List (Str × Addr)) (Fin : Shared → List Value → List (Addr × Obj) → Prop) (xv : Value) (s₁ : Shared) : Prop :=
  ∃ ax its news, xv = .ref ax ∧ A.handled = none ∧ Fr h₀ L s₁.heap m ∧ News h₀ L s₁.heap news ∧ (ax, tupObj its) ∈ news ∧ its.length ≤ 1000 ∧
    ∀ g, LCg.CompRest prog w A h₀ L m env elt x scope cl { s₁ with heap := g } (fun nw => (ax, tupObj its) ∈ nw) (fun i v => its[i]? = some v) (Fin { s₁ with heap := g }) its.length 0 [] news
theorem tup_assign {elt iter : Expr} {x y : Str} {px py : Pos} {scope : Scope} {cl : List (Str × Addr)} {pos spos : Pos} {Q : Flow → Shared → Prop} (_ : Fr h₀ L s.heap m) (hLe : env.locals = L)
    (hsw : swapsWith (.ListComp elt [⟨.Name x px, iter, [], 0⟩] scope pos) (some (.Name y py)) spos.line env = pure true)
    (hclos : closureFor scope env = pure cl) (hcell : ∀ z ∈ scope.names, z.2 ≠ .cell) (hkind : scope.kind = .function)
    (hnames : ∀ z ∈ scope.names, z.2 = .local → scope.names.lookup z.1 = some .local) (hx : scope.names.lookup x = some .local)
    (hy : env.kindOf y = some .local) (hp : (env.scope.kind == .class || (env.scope.kind == .module && env.locals != env.globals)) = false)
    (h : wpAny (model prog w) A (eval iter env) (TupSrc prog w A h₀ L m env elt x scope cl (fun s₂ => LCg.FinA h₀ L m s₂ y Q)) E s)
    (hs : ∀ x, foldedSetIterable iter env x = pure x) :
    wpAny (model prog w) A (exec (.Assign [.Name y py] (.ListComp elt [⟨.Name x px, iter, [], 0⟩] scope pos) spos) env) Q E s := by
  subst hLe
  rw [exec_Assign_Name_used _ _ _ _ hsw]
  refine wpAny_bind (wpAny_standAt (wpAny_bind ?_))
  show wpAny _ A (do let _ ← comprehension (.ListComp elt [⟨.Name x px, iter, [], 0⟩] scope pos) scope env _ (newList []) false (eval iter env) (some (assign (.Name y py) env))) _ _ s
  refine wpAny_bind (wpAny_mono (wpAny_comprehension_free (use := some (assign (.Name y py) env)) (Q := fun _ s' => Q .next s') rfl hs hclos hkind hnames
    (wpAny_mono h (fun xv s₁ h₁ => ?_) fun _ _ e => e)) (fun _ s' hq => wpAny_pure (wpAny_pure hq)) fun _ _ e => e)
  obtain ⟨ax, its, news, rfl, hh, F, N, hm, hsz, R⟩ := h₁
  have ht : s₁.heap.IsTuple ax its.toArray := ⟨_, (N _ hm).1, rfl, _, rfl⟩
  have hlt : ax < s₁.heap.objs.size := Heap.lt_size (N _ hm).1
  have up : ∀ b o, s₁.heap.get? b = some o → (s₁.heap.push { cls := .type "tuple_iterator", data := .fields #[.ref ax, .int 0 0] }).get? b = some o := fun b o e => Heap.get?_push_of_some _ e
  have W : Walks prog w A s₁.heap.objs.size [s₁.heap.objs.size, ax] [s₁.heap.objs.size] its.length (fun i v => its[i]? = some v) (fun i h => h.IsTupleIter s₁.heap.objs.size ax i ∧ h.IsTuple ax its.toArray) := by
    have := Walks.tuple (prog := prog) (w := w) hh s₁.heap.objs.size ax (Nat.ne_of_lt hlt) its.toArray
    simpa using this
  refine wpAny_pyIter_tuple ht ?_
  refine LCg.block_U (S := fun nw => (ax, tupObj its) ∈ nw) W (by rw [sizeLine_eq]; lia) (fun i h st => by obtain ⟨o, e, _⟩ := st.1; exact ⟨o, e⟩)
    (fun i h h' o nw st e e' _ Nw hmw => ⟨by obtain ⟨o', q, r⟩ := st.1; rw [e] at q; cases q; exact ⟨o, e', r⟩, ⟨_, (Nw _ hmw).1, rfl, _, rfl⟩⟩)
    hcell hkind hx ⟨⟨_, Heap.get?_push_size _ rfl, rfl, rfl⟩, ht.push _⟩ (fun b hb => ?_) (F.keeps up) (N.grown up) (Nat.ne_of_lt F.ns.lt) (next_is_new F) (fun p hp => Nat.ne_of_lt (Heap.lt_size (N p hp).1)) hm (R _) ?_
  · show b < (s₁.heap.push _).objs.size
    rw [Heap.size_push]
    rcases List.mem_cons.mp hb with rfl | hb
    · exact Nat.lt_succ_self _
    · rw [List.mem_singleton.mp hb]; exact Nat.lt_succ_of_lt hlt
  · intro D C h' tk m' ys news' F' N' o1 hn hC₀ hD₀ hCL hDL hCD offC fin
    show wpAny _ A (assign (.Name y py) env (.ref D)) _ _ _
    refine wpAny_assign_Name (wpAny_storeName_local hy F'.ns (fun h₂ hn₂ hs₂ => ?_) hp)
    have hL₀ : h₀.get? env.locals = none := Heap.get?_none_of_le F'.above
    have F₂ : Fr h₀ env.locals h₂ (fun z => if z = y then some (.ref D) else m z) := ⟨hn₂, fun b o e => hs₂.extBut b o (fun q => by rw [q, hL₀] at e; cases e) (F'.keep b o e), F'.above⟩
    refine ⟨m', hn.sameBut hs₂ hCL, fun h'' hs'' => fin D h'' _ (F₂.change hs'' hCL hC₀) (fun p hp => ?_) o1⟩
    have z : h₂.get? p.1 = some p.2 := hs₂.extBut _ _ (N' p hp).2.1 (N' p hp).1
    refine ⟨hs''.extBut _ _ ?_ z, (N' p hp).2⟩
    rcases List.mem_cons.mp hp with rfl | hp
    · exact Ne.symm hCD
    · exact offC p hp
end
def PartsHas (w : World) (ys : List Value) (led : List (Addr × Obj)) (os : List (Option (List Str))) : Prop :=
  ∃ ps : List Addr, ys = ps.map Value.ref ∧ ps.length = os.length ∧ ∀ h', Has led h' → ∀ (i : Nat) (p : Addr) (o : Option (List Str)), ps[i]? = some p → os[i]? = some o → PartAt w h' p o
theorem PartsHas.nil {w : World} : PartsHas w [] [] [] := ⟨[], rfl, rfl, fun _ _ i p o e => by simp at e⟩
theorem PartsHas.snoc {w : World} {ys : List Value} {led new : List (Addr × Obj)} {os : List (Option (List Str))} {p : Addr} {o : Option (List Str)} (x : PartsHas w ys led os) (hp : ∀ h', Has new h' → PartAt w h' p o) : PartsHas w (ys ++ [.ref p]) (new ++ led) (os ++ [o]) := by
  obtain ⟨ps, rfl, hl, h⟩ := x
  refine ⟨ps ++ [p], by simp, by simp [hl], fun h' H i q o' e1 e2 => ?_⟩
  rcases Nat.lt_trichotomy i ps.length with hi | hi | hi
  · rw [List.getElem?_append_left hi] at e1
    rw [List.getElem?_append_left (by rw [← hl]; exact hi)] at e2
    exact h h' (fun z hz => H z (List.mem_append_right _ hz)) i q o' e1 e2
  · subst hi
    rw [List.getElem?_append_right (Nat.le_refl _)] at e1
    rw [hl, List.getElem?_append_right (Nat.le_refl _)] at e2
    simp at e1 e2
    subst e1 e2
    exact hp h' fun z hz => H z (List.mem_append_left _ hz)
  · rw [List.getElem?_eq_none (by simp; lia)] at e1; cases e1
theorem PartsHas.two {w : World} {ys : List Value} {led : List (Addr × Obj)} {o1 o2 : Option (List Str)} (x : PartsHas w ys led [o1, o2]) : ∃ p1 p2, ys = [.ref p1, .ref p2] ∧ ∀ h', Has led h' → PartAt w h' p1 o1 ∧ PartAt w h' p2 o2 := by
  obtain ⟨ps, rfl, hl, h⟩ := x
  match ps, hl with
  | [p1, p2], _ => exact ⟨p1, p2, rfl, fun h' H => ⟨h h' H 0 p1 o1 rfl rfl, h h' H 1 p2 o2 rfl rfl⟩⟩
theorem news_swap {h₀ h : Heap} {L : Addr} {a b c : List (Addr × Obj)} (N : News h₀ L h (a ++ (b ++ c))) : News h₀ L h (b ++ (a ++ c)) :=
  fun p hp => N p (by simp only [List.mem_append] at hp ⊢; rcases hp with h | h | h <;> simp [h])
def TestPost (s : Shared) (b : Bool) (s' : Shared) : Prop := b = true ∧ ∃ tk, s' = { s with toks := tk }
theorem TestPost.intro {s : Shared} {tk : Nat} : TestPost s true { s with toks := tk } := ⟨rfl, tk, rfl⟩
theorem dim_one (t : Tok) (v : Value) : (valueAt (strPairs [(Value.str (Str.ofString "dim") t, v)]) (Str.ofString "dim")).getD .none = v := by
  simp [strPairs, valueAt]
theorem dim_no (t : Tok) (v : Value) : (valueAt (strPairs [(Value.str (Str.ofString "dim") t, v)]) (Str.ofString "dimnames")).getD .none = .none := by
  have h : ¬ Str.ofString "dim" = Str.ofString "dimnames" := by decide +kernel
  simp [strPairs, valueAt, h]
theorem if_true {M : Model} {A : Around} {E : Value → Shared → Prop} {env : Env} {s : Shared} {test : Expr} {body orelse : List Stmt} {pos : Pos} {Q : Flow → Shared → Prop}
    (ht : wpAny M A (isTrue test env (eval test env)) (TestPost s) E s) (h : ∀ tk, wpAny M A (execs body env) Q E { s with toks := tk }) : wpAny M A (exec (.If test body orelse pos) env) Q E s := by
  refine wpAny_If (wpAny_mono ht (fun b s' hb => ?_) fun _ _ e => e)
  obtain ⟨rfl, tk, rfl⟩ := hb
  exact h tk
def MadePart (w : World) (led : List (Addr × Obj)) (p : Addr) (o : Option (List Str)) : Prop := ∀ h, Has led h → PartAt w h p o
def OffAll (led news : List (Addr × Obj)) : Prop := ∀ p ∈ led, ∀ q ∈ news, @Ne Nat q.1 p.1
def IsPart (h : Heap) (v : Value) (o : Option (List Str)) : Prop := ∃ a, v = optV a ∧ OptL h a o
/-- the end of an element that makes one part -/
def PartEnd (w : World) (h₀ : Heap) (L : Addr) (m : Str → Option Value) (s₁ : Shared) (I : Addr) (oI : Obj) (C : Addr) (oC : Obj) (D : Addr) (oD : Obj) (nw : List (Addr × Obj)) (o : Option (List Str)) (y : Value) (s₂ : Shared) : Prop :=
  ∃ h' tk p new, s₂ = { s₁ with heap := h', toks := tk } ∧ y = .ref p ∧ Fr h₀ L h' m ∧ News h₀ L h' ((I, oI) :: (C, oC) :: (D, oD) :: (new ++ nw)) ∧ LCg.Off3 I C D new ∧ OffAll new nw ∧ ∀ h', Has new h' → PartAt w h' p o
theorem PartEnd.intro {w : World} {h₀ : Heap} {L : Addr} {m : Str → Option Value} {s₁ : Shared} {I : Addr} {oI : Obj} {C : Addr} {oC : Obj} {D : Addr} {oD : Obj} {p : Addr} {nw new all : List (Addr × Obj)} {o : Option (List Str)} {h' : Heap} {tk : Nat}
    (F : Fr h₀ L h' m) (N : News h₀ L h' all) (e : all = new ++ (I, oI) :: (C, oC) :: (D, oD) :: nw) (off : LCg.Off3 I C D new) (g : OffAll new nw) (hp : ∀ h', Has new h' → PartAt w h' p o) :
    PartEnd w h₀ L m s₁ I oI C oC D oD nw o (.ref p) { s₁ with heap := h', toks := tk } := by
  subst e
  refine ⟨h', tk, p, new, rfl, rfl, F, fun q hq => N q ?_, off, g, hp⟩
  simp only [List.mem_cons, List.mem_append] at hq ⊢
  rcases hq with h | h | h | h | h
  · exact .inr (.inl h)
  · exact .inr (.inr (.inl h))
  · exact .inr (.inr (.inr (.inl h)))
  · exact .inl h
  · exact .inr (.inr (.inr (.inr h)))
theorem off3_append {I C D : Addr} {a b : List (Addr × Obj)} (x : LCg.Off3 I C D a) (y : LCg.Off3 I C D b) : LCg.Off3 I C D (a ++ b) :=
  LCg.Off3.of fun p hp => (List.mem_append.mp hp).elim (x.mem p) (y.mem p)
section
variable {prog : Program} {w : World} {A : Around} {s : Shared} {h₀ : Heap} {L : Addr} {m : Str → Option Value} {env : Env}
theorem parts_comp {elt : Expr} {x : Str} {scope : Scope} {cl : List (Str × Addr)} {Fin : List Value → List (Addr × Obj) → Prop} {ax : Addr} {v1 v2 : Value} {rn cn : Option (List Str)} {news : List (Addr × Obj)} (hm : (ax, tupObj [v1, v2]) ∈ news)
    (p1 : IsPart h₀ v1 rn) (p2 : IsPart h₀ v2 cn)
    (turn : ∀ v o I oI C oC D ys nw m₂ h tk (E' : Value → Shared → Prop), (o = rn ∨ o = cn) → IsPart h₀ v o → LCg.NsObj oC m₂ → m₂ x = some v → Fr h₀ L h m → News h₀ L h ((I, oI) :: (C, oC) :: (D, LCg.lst ys) :: nw) → LCg.Off3 I C D nw → (ax, tupObj [v1, v2]) ∈ nw → ((@Ne Nat I C) ∧ (@Ne Nat I D) ∧ (@Ne Nat C D)) →
      wpAny (model prog w) A (eval elt (compEnvC scope cl C env)) (PartEnd w h₀ L m { s with heap := h, toks := tk } I oI C oC D (LCg.lst ys) nw o) E' { s with heap := h, toks := tk })
    (done : ∀ ys led, PartsHas w ys led [rn, cn] → OffAll led news → Fin ys (led ++ news)) :
    LCg.CompRest prog w A h₀ L m env elt x scope cl s (fun nw => (ax, tupObj [v1, v2]) ∈ nw) (fun i v => [v1, v2][i]? = some v) Fin [v1, v2].length 0 [] news := by
  refine compRest_J (fun i ys nw => ∃ led, nw = led ++ news ∧ OffAll led news ∧ PartsHas w ys led ([rn, cn].take i)) ?_ ?_ _ 0 [] news rfl ⟨[], rfl, (fun _ h => nomatch h), PartsHas.nil⟩
  · rintro i ys nw v I oI C oC D m₂ h tk E' hi ⟨led, rfl, hg, hP⟩ hv hC hx F N off ne
    obtain ⟨o, ho, hpo, hor⟩ : ∃ o, [rn, cn][i]? = some o ∧ IsPart h₀ v o ∧ (o = rn ∨ o = cn) := by
      have hi2 : i < 2 := hi
      have : i = 0 ∨ i = 1 := by lia
      rcases this with rfl | rfl
      · have e : v1 = v := by simpa using hv
        exact ⟨rn, rfl, e ▸ p1, .inl rfl⟩
      · have e : v2 = v := by simpa using hv
        exact ⟨cn, rfl, e ▸ p2, .inr rfl⟩
    have htk : [rn, cn].take (i + 1) = [rn, cn].take i ++ [o] := by rw [List.take_add_one, ho]; rfl
    refine wpAny_mono (turn v o I oI C oC D ys _ m₂ h tk E' hor hpo hC hx F N off (List.mem_append_right _ hm) ne) (fun y s₂ hy => ?_) fun _ _ e => e
    obtain ⟨h', tk', p, new, rfl, rfl, F', N', off', g', hp'⟩ := hy
    refine ⟨h', tk', new ++ (led ++ news), rfl, F', N', off3_append off' off, List.mem_append_right _ (List.mem_append_right _ hm), new ++ led, by rw [List.append_assoc], fun q hq z hz => (List.mem_append.mp hq).elim (fun h => g' q h z (List.mem_append_right _ hz)) (fun h => hg q h z hz), ?_⟩
    rw [htk]
    exact hP.snoc hp'
  · rintro ys nw ⟨led, rfl, hg, hP⟩
    exact done ys led hP hg
end
def OffT (led : List (Addr × Obj)) : List (Addr × Obj) → Prop
  | [] => True
  | q :: r => (∀ p ∈ led, @Ne Nat p.1 q.1) ∧ OffT led r
theorem offT_of {led : List (Addr × Obj)} : ∀ {news : List (Addr × Obj)}, OffAll led news → OffT led news
  | [], _ => trivial
  | _ :: _, h => ⟨fun p hp e => h p hp _ (.head _) e.symm, offT_of fun p hp q hq => h p hp q (.tail _ hq)⟩
theorem off1_tail {D : Addr} {led : List (Addr × Obj)} : ∀ {a : List (Addr × Obj)}, LCg.Off1 D (a ++ led) → LCg.Off1 D led
  | [], h => h
  | _ :: _, h => off1_tail h.2
theorem news_rot {h₀ h : Heap} {L : Addr} {p : Addr × Obj} {a b : List (Addr × Obj)} (N : News h₀ L h (p :: (a ++ b))) : News h₀ L h (p :: (b ++ a)) := fun q hq => N q (by
  rcases List.mem_cons.mp hq with h | h
  · rw [h]; exact .head _
  · exact .tail _ ((List.mem_append.mp h).elim (List.mem_append_right _) (List.mem_append_left _)))
theorem offT_nil {L : Nat} {o1 o2 o3 o4 o5 o6 : Obj} : OffT [] [(L + 1 + 1 + 1 + 1 + 1 + 1, o1), (L + 1 + 1 + 1 + 1 + 1, o2), (L + 1 + 1 + 1 + 1, o3), (L + 1 + 1 + 1, o4), (L + 1 + 1, o5), (L + 1, o6)] :=
  ⟨List.forall_mem_nil _, List.forall_mem_nil _, List.forall_mem_nil _, List.forall_mem_nil _, List.forall_mem_nil _, List.forall_mem_nil _, trivial⟩
theorem offT_cons {p : Addr × Obj} {led : List (Addr × Obj)} : ∀ {cells : List (Addr × Obj)}, (∀ q ∈ cells, @Ne Nat p.1 q.1) → OffT led cells → OffT (p :: led) cells
  | [], _, _ => trivial
  | _ :: _, h, x => ⟨List.forall_mem_cons.mpr ⟨h _ (.head _), x.1⟩, offT_cons (fun q hq => h q (.tail _ hq)) x.2⟩
theorem offT_gt {L : Nat} {p : Addr × Obj} {led : List (Addr × Obj)} {o1 o2 o3 o4 o5 o6 : Obj} (h : @LT.lt Nat _ (L + 1 + 1 + 1 + 1 + 1 + 1) p.1) (x : OffT led [(L + 1 + 1 + 1 + 1 + 1 + 1, o1), (L + 1 + 1 + 1 + 1 + 1, o2), (L + 1 + 1 + 1 + 1, o3), (L + 1 + 1 + 1, o4), (L + 1 + 1, o5), (L + 1, o6)]) : OffT (p :: led) [(L + 1 + 1 + 1 + 1 + 1 + 1, o1), (L + 1 + 1 + 1 + 1 + 1, o2), (L + 1 + 1 + 1 + 1, o3), (L + 1 + 1 + 1, o4), (L + 1 + 1, o5), (L + 1, o6)] := by
  refine offT_cons (fun q hq => ?_) x
  simp only [List.mem_cons, List.not_mem_nil, or_false] at hq
  rcases hq with rfl | rfl | rfl | rfl | rfl | rfl <;> (dsimp only; lia)
theorem offT_ne {L : Nat} {d : Addr} {o : Obj} {led : List (Addr × Obj)} {o1 o2 o3 o4 o5 o6 : Obj} (h1 : @Ne Nat (L + 1 + 1 + 1 + 1 + 1 + 1) d) (h2 : @Ne Nat (L + 1 + 1 + 1 + 1 + 1) d) (h3 : @Ne Nat (L + 1 + 1 + 1 + 1) d) (h4 : @Ne Nat (L + 1 + 1 + 1) d) (h5 : @Ne Nat (L + 1 + 1) d) (h6 : @Ne Nat (L + 1) d)
    (x : OffT led [(L + 1 + 1 + 1 + 1 + 1 + 1, o1), (L + 1 + 1 + 1 + 1 + 1, o2), (L + 1 + 1 + 1 + 1, o3), (L + 1 + 1 + 1, o4), (L + 1 + 1, o5), (L + 1, o6)]) : OffT ((d, o) :: led) [(L + 1 + 1 + 1 + 1 + 1 + 1, o1), (L + 1 + 1 + 1 + 1 + 1, o2), (L + 1 + 1 + 1 + 1, o3), (L + 1 + 1 + 1, o4), (L + 1 + 1, o5), (L + 1, o6)] := by
  refine offT_cons (fun q hq => ?_) x
  simp only [List.mem_cons, List.not_mem_nil, or_false] at hq
  rcases hq with rfl | rfl | rfl | rfl | rfl | rfl
  · exact Ne.symm h1
  · exact Ne.symm h2
  · exact Ne.symm h3
  · exact Ne.symm h4
  · exact Ne.symm h5
  · exact Ne.symm h6
theorem dim2_one (t t' : Tok) (v v' : Value) : (valueAt (strPairs [(Value.str (Str.ofString "dim") t, v), (Value.str (Str.ofString "dimnames") t', v')]) (Str.ofString "dim")).getD .none = v := by
  simp [strPairs, valueAt]
theorem dim2_two (t t' : Tok) (v v' : Value) : (valueAt (strPairs [(Value.str (Str.ofString "dim") t, v), (Value.str (Str.ofString "dimnames") t', v')]) (Str.ofString "dimnames")).getD .none = v' := by
  have h : ¬ Str.ofString "dim" = Str.ofString "dimnames" := by decide +kernel
  simp [strPairs, valueAt, h]
def ThenPost (P : Shared → Prop) (f : Flow) (s : Shared) : Prop := f = .next ∧ P s
section
variable {prog : Program} {w : World} {A : Around} {E : Value → Shared → Prop} {s : Shared} {h₀ : Heap} {L : Addr} {env : Env} {Q : Flow → Shared → Prop}
theorem join2_at {st1 st2 : Stmt} {rest : List Stmt} (J : (Str → Option Value) → List (Addr × Obj) → Prop)
    (h : wpAny (model prog w) A (exec st1 env) (ThenPost fun s' => wpAny (model prog w) A (exec st2 env) (JoinPost h₀ L J s) E s') E s)
    (k : ∀ h' tk m' nx, J m' nx → Fr h₀ L h' m' → News h₀ L h' nx → wpAny (model prog w) A (execs rest env) Q E { s with heap := h', toks := tk }) : wpAny (model prog w) A (execs (st1 :: st2 :: rest) env) Q E s := by
  refine wpAny_execs_cons (wpAny_mono h (fun f s' hj => ?_) fun _ _ e => e)
  obtain ⟨rfl, hs⟩ := hj
  refine wpAny_execs_cons (wpAny_mono hs (fun f s' hj => ?_) fun _ _ e => e)
  obtain ⟨rfl, h', tk, m', nx, rfl, F, N, j⟩ := hj
  exact k h' tk m' nx j F N
end
theorem colsIn_nil (led : List (Addr × Obj)) : ColsIn led [] [] := ⟨rfl, fun j a c h => by simp at h⟩
theorem colOf_len {kd : Kd} {its : List It} {R W i : Nat} (hn : its.length = R * W) (hi : i < W) : (colOf kd its R i).length = R := by
  have : i * R + R ≤ R * W := by rw [← Nat.succ_mul, Nat.mul_comm]; exact Nat.mul_le_mul_left _ hi
  simp [colOf]; lia
theorem item_at {kd : Kd} {vs : List Value} {its : List It} {R W i j : Nat} (hv : ItsAre vs its) (ho : ∀ it ∈ its, okIt kd it) (hn : its.length = R * W) (hi : i < W) (hj : j < R) :
    ∃ it t, okIt kd it ∧ vs[((i : Int) * (R : Int) + (j : Int)).toNat]? = some (it.val t) ∧ (colOf kd its R i)[j]? = some (shown kd it) := by
  have hb : i * R + R ≤ R * W := by rw [← Nat.succ_mul, Nat.mul_comm]; exact Nat.mul_le_mul_left _ hi
  have hl : vs.length = R * W := hv.1.trans hn
  have hlt : i * R + j < vs.length := by lia
  have hx : vs[i * R + j]? = some vs[i * R + j] := List.getElem?_eq_getElem hlt
  obtain ⟨it, t, h1, h2⟩ := hv.2 _ _ hx
  refine ⟨it, t, ho it (List.mem_of_getElem? h1), ?_, ?_⟩
  · rw [show ((i : Int) * (R : Int) + (j : Int)).toNat = i * R + j by rw [← Int.natCast_mul, ← Int.natCast_add]; exact Int.toNat_natCast _, hx, h2]
  · unfold colOf
    rw [List.getElem?_map, List.getElem?_take, if_pos hj, List.getElem?_drop, h1]; rfl
theorem heads_some {c : List Str} {W : Nat} (h : c.length = W) : (List.range W).map (head (some c)) = c := by
  subst h
  refine List.ext_getElem (by simp) fun i h1 h2 => ?_
  simp only [List.getElem_map, List.getElem_range]
  show c.getD i Str.empty = _
  rw [List.getD_eq_getElem?_getD, List.getElem?_eq_getElem h2]; rfl
end Mine
namespace Mine
open PySem PySem.W PySem.Spec PySem.Calls PyProof.Rows PyProof.V
def tOk (s : Str) : Prop := ∀ c ∈ s.cps.toList, c < 0x110000
theorem tOk.append {a b : Str} (x : tOk a) (y : tOk b) : tOk (a ++ b) := fun c hc => by
  rw [Str.cps_append, Array.toList_append] at hc
  exact (List.mem_append.mp hc).elim (x c) (y c)
theorem tOk.empty : tOk Str.empty := fun _ h => nomatch h
theorem tOk_spc (n : Nat) : tOk (spc n) := fun c hc => by
  have : c = 32 := by
    have h : c ∈ List.replicate n 32 := hc
    exact (List.mem_replicate.mp h).2
  lia
theorem tOk_of (s : String) : tOk (Str.ofString s) := fun c hc => by
  rw [Str.ofString_eq_toList] at hc
  simp at hc
  obtain ⟨x, _, rfl⟩ := hc
  have := x.valid
  unfold Char.toNat
  unfold UInt32.isValidChar Nat.isValidChar at this
  lia
theorem tOk.fill {s : Str} (x : tOk s) (n : Int) (b : Bool) : tOk (fill s n b) := by
  unfold Mine.fill
  split
  · exact x.append (tOk_spc _)
  · exact (tOk_spc _).append x
theorem tOk_cat : ∀ {ts : List Str}, (∀ t ∈ ts, tOk t) → tOk (cat ts)
  | [], _ => tOk.empty
  | t :: r, h => by
    rw [cat_cons]
    exact (h t (.head _)).append (tOk_cat fun u hu => h u (.tail _ hu))
theorem tOk_p {s : Str} (h : pStr s) : tOk s := fun c hc => by
  have := (h c hc).2.1
  lia
theorem tOk_shown {kd : Kd} {it : It} (h : okIt kd it) : tOk (shown kd it) := by
  cases it with
  | na => cases kd <;> exact tOk_of _
  | int i =>
    cases kd with
    | int => exact tOk_of _
    | lgl => show tOk (if i = 1 then Str.ofString "TRUE" else Str.ofString "FALSE"); split <;> exact tOk_of _
    | chr => exact h.elim
  | txt s =>
    cases kd with
    | int => exact h.elim
    | lgl => exact h.elim
    | chr => exact ((tOk_of _).append (tOk_p h.1)).append (tOk_of _)
structure LayD.tok (D : LayD) : Prop where
  ct : ∀ c ∈ D.cols, ∀ t ∈ c, tOk t
  rt : ∀ l, D.rn = some l → ∀ t ∈ l, tOk t
  nt : ∀ l, D.cn = some l → ∀ t ∈ l, tOk t
theorem tOk_getD {l : List Str} (h : ∀ t ∈ l, tOk t) (i : Nat) : tOk (l.getD i Str.empty) := by
  rcases getD_mem_or (l := l) (i := i) with h' | h'
  · exact h _ h'
  · rw [h']; exact tOk.empty
theorem tOk_head {D : LayD} (k : D.tok) (i : Nat) : tOk (head D.cn i) := by
  unfold head
  split
  · rename_i l e; exact tOk_getD (k.nt l e) i
  · exact ((tOk_of _).append (tOk_of _)).append (tOk_of _)
theorem tOk_mark {D : LayD} (k : D.tok) (i : Nat) : tOk (mark D.rn i) := by
  unfold mark
  split
  · rename_i l e; exact (tOk_getD (k.rt l e) i).fill _ _
  · exact (((tOk_of _).append (tOk_of _)).append (tOk_of _)).fill _ _
theorem tOk_cell {D : LayD} (k : D.tok) (j r : Nat) : tOk (cell D j r) := by
  unfold cell
  refine tOk_getD (fun t ht => ?_) r
  rw [List.getD_eq_getElem?_getD] at ht
  cases e : D.cols[j]? with
  | none => rw [e] at ht; exact nomatch ht
  | some c => rw [e] at ht; exact k.ct c (List.mem_of_getElem? e) t ht
theorem tOk_pad {t : Str} (x : tOk t) (n : Int) (b : Bool) : tOk (pad t n b) := (tOk_of _).append (x.fill n b)
theorem tOk_block {D : LayD} (k : D.tok) (ws : List Int) (b n : Nat) : ∀ t ∈ block D ws b n, tOk t := by
  intro t ht
  rcases List.mem_cons.mp ht with rfl | ht
  · refine tOk_cat fun u hu => ?_
    rcases List.mem_cons.mp hu with rfl | hu
    · exact tOk_spc _
    · obtain ⟨j, _, rfl⟩ := List.mem_map.mp hu
      exact tOk_pad (tOk_head k _) _ _
  · obtain ⟨r, _, rfl⟩ := List.mem_map.mp ht
    refine tOk_cat fun u hu => ?_
    rcases List.mem_cons.mp hu with rfl | hu
    · exact tOk_mark k _
    · obtain ⟨j, _, rfl⟩ := List.mem_map.mp hu
      exact tOk_pad (tOk_cell k _ _) _ _
theorem tOk_lines {D : LayD} (k : D.tok) {ws : List Int} {C : Nat → Nat → Prop} {count b : Nat} {ls : List Str} (x : Lines (block D ws) C count b ls) : ∀ t ∈ ls, tOk t := by
  induction x with
  | done _ => exact fun _ h => nomatch h
  | step _ _ _ _ _ ih => exact fun t ht => (List.mem_append.mp ht).elim (tOk_block k _ _ _ t) (ih t)
theorem layD_tok {kd : Kd} {its : List It} {R W : Nat} {rn cn : Option (List Str)} (ho : ∀ it ∈ its, okIt kd it) (nm : NamesOk R W rn cn) : (layD kd its R W rn cn).tok := by
  refine ⟨fun c hc t ht => ?_, fun l e t ht => tOk_p (nm.rt l e t ht).1, fun l e t ht => tOk_p (nm.ct l e t ht).1⟩
  obtain ⟨j, _, rfl⟩ := List.mem_map.mp hc
  obtain ⟨it, hit, rfl⟩ := List.mem_map.mp ht
  exact tOk_shown (ho it (List.mem_of_mem_drop (List.mem_of_mem_take hit)))
theorem strOk_of {s : Str} (h : tOk s) : PyData.strOk s = true := by
  unfold PyData.strOk
  rw [Array.all_eq_true']
  intro c hc
  exact decide_eq_true (h c (Array.mem_toList_iff.mpr hc))
theorem rs_canLayAll0 : ∀ {ts : List Str}, (∀ t ∈ ts, tOk t) → PyData.canLayAll0 (ts.map PyData.str) = true
  | [], _ => rfl
  | t :: r, h => by simp [PyData.canLayAll0, PyData.canLay0, rs_canLayAll0 (ts := r) fun u hu => h u (.tail _ hu), strOk_of (h t (.head _))]
theorem rs_depthAll : ∀ ts : List Str, PyData.depthAll (ts.map PyData.str) = 0
  | [] => rfl
  | _ :: r => by simp [PyData.depthAll, PyData.depth, rs_depthAll r]
theorem rs_shaped {ts : List Str} (h : ∀ t ∈ ts, tOk t) : SeqAt.shaped (.list (ts.map PyData.str)) = true := by
  simp [SeqAt.shaped, PyData.canLay0, PyData.depth, rs_canLayAll0 h, rs_depthAll]
theorem rs_sameAll : ∀ ts : List Str, PySem.Spec.sameAll (ts.map PyData.str) (ts.map PyData.str) = true
  | [] => by simp [PySem.Spec.sameAll]
  | a :: r => by simp [PySem.Spec.sameAll, PySem.Spec.same, rs_sameAll r]
theorem rs_same (ts : List Str) : PySem.Spec.same (.list (ts.map PyData.str)) (.list (ts.map PyData.str)) = true := by
  simp only [PySem.Spec.same]; exact rs_sameAll ts
theorem rs_carried {vs : List Value} {ts : List Str} (h : StrsAre vs ts) : CarriedAll vs (ts.map PyData.str) := by
  induction h with
  | nil => exact .nil
  | cons x t _ ih => exact .cons (.str x t) ih
section
variable {prog : Program} {w : World} {A : Around} {E : Value → Shared → Prop} {s : Shared} {a b : Addr} {xs ys : List Value} {ts : List Str} {Q : Value → Shared → Prop}
theorem ne_strs_own (ha : s.heap.IsList a xs.toArray) (hi : StrsAre xs ts) (hb : s.heap.IsList b ys.toArray) (hj : StrsAre ys ts) (ht : ∀ t ∈ ts, tOk t) (hu : A.units + 64 < cLine) (h : Q (.bool false) s) :
    wpAny (model prog w) A (compareOp .NotEq (.ref a) (.ref b)) Q E s :=
  ne_dataH_same (reads_newData ha (rs_carried hi)) (reads_newData hb (rs_carried hj)) (rs_shaped ht) (rs_shaped ht) hu (SeqAt.noMix_of_shape (.list .str) rfl _ _ (list_map_has fun _ => rfl) (list_map_has fun _ => rfl)) (by rw [rs_same]; exact h)
theorem eq_ints_own {ns : List Int} (ha : s.heap.IsList a xs.toArray) (hi : IntsAre xs ns) (hb : s.heap.IsList b ys.toArray) (hj : IntsAre ys ns) (hu : A.units + 64 < cLine) (h : Q (.bool true) s) :
    wpAny (model prog w) A (compareOp .Eq (.ref a) (.ref b)) Q E s :=
  ke_eq_ints ha hb hi hj hu (by simpa using h)
end
/-- a list's texts, wherever what stood keeps standing -/
def HeadsAt (g : Heap) (led : List (Addr × Obj)) (a : Addr) (ts : List Str) : Prop := ∀ h', (∀ b o, g.get? b = some o → h'.get? b = some o) → Has led h' → StrsL h' a ts
theorem HeadsAt.use {g h' : Heap} {led : List (Addr × Obj)} {a : Addr} {ts : List Str} (x : HeadsAt g led a ts) (k : ∀ b o, g.get? b = some o → h'.get? b = some o) (H : Has led h') : StrsL h' a ts := x h' k H
theorem ColsIn.mono {ce ce2 : List (Addr × Obj)} {as : List Addr} {cols : List (List Str)} (x : ColsIn ce as cols) (h : ∀ p ∈ ce, p ∈ ce2) : ColsIn ce2 as cols :=
  ⟨x.1, fun j a c h1 h2 => let ⟨vs, k, hm, hv⟩ := x.2 j a c h1 h2; ⟨vs, k, h _ hm, hv⟩⟩
/-- a matrix, wherever its objects stand -/
def MatAt (w : World) (led : List (Addr × Obj)) (x : Addr) (kd : Kd) (l : Addr) (R W : Nat) (rn cn : Option (List Str)) : Prop := ∀ h', Has led h' → MatIs w h' x kd l R W rn cn
theorem MatAt.use {w : World} {h' : Heap} {led : List (Addr × Obj)} {x l : Addr} {kd : Kd} {R W : Nat} {rn cn : Option (List Str)} (m : MatAt w led x kd l R W rn cn) (H : Has led h') : MatIs w h' x kd l R W rn cn := m h' H
theorem MatAt.mono {w : World} {led led2 : List (Addr × Obj)} {x l : Addr} {kd : Kd} {R W : Nat} {rn cn : Option (List Str)} (m : MatAt w led x kd l R W rn cn) (h : ∀ p ∈ led, p ∈ led2) : MatAt w led2 x kd l R W rn cn := fun h' H => m h' fun p hp => H p (h p hp)
section
variable {prog : Program} {w : World} {A : Around} {E : Value → Shared → Prop} {s : Shared} {h₀ : Heap} {L : Addr} {m : Str → Option Value} {env : Env}
/-- range(0, n * c, c) as a comprehension's source -/
def StrideSrc (prog : Program) (w : World) (A : Around) (h₀ : Heap) (L : Addr) (m : Str → Option Value) (env : Env) (elt : Expr) (x : Str) (scope : Scope) (cl : List (Str × Addr)) (Fin : Shared → List Value → List (Addr × Obj) → Prop) (xv : Value) (s₁ : Shared) : Prop :=
  ∃ r b c t u v n news, xv = .ref r ∧ A.handled = none ∧ Fr h₀ L s₁.heap m ∧ News h₀ L s₁.heap news ∧ IsRange s₁.heap r 0 b c t u v ∧ Builtin.Range.small 0 b c = true ∧ Builtin.Range.rangeSize 0 b c = ((n : Nat) : Int) ∧ n ≤ sizeLine ∧
    ∀ g, LCg.CompRest prog w A h₀ L m env elt x scope cl { s₁ with heap := g } (fun _ => True) (fun i v => ∃ t, v = .int (0 + (i : Int) * c) t) (Fin { s₁ with heap := g }) n 0 [] news
theorem comp_stride {elt iter : Expr} {x : Str} {px : Pos} {scope : Scope} {cl : List (Str × Addr)} {pos : Pos} {Q : Value → Shared → Prop} (_ : Fr h₀ L s.heap m)
    (hclos : closureFor scope env = pure cl) (hcell : ∀ y ∈ scope.names, y.2 ≠ .cell) (hkind : scope.kind = .function)
    (hnames : ∀ y ∈ scope.names, y.2 = .local → scope.names.lookup y.1 = some .local) (hx : scope.names.lookup x = some .local)
    (h : wpAny (model prog w) A (eval iter env) (StrideSrc prog w A h₀ L m env elt x scope cl (fun s₂ => LCg.FinE h₀ L m s₂ Q)) E s)
    (hs : ∀ x, foldedSetIterable iter env x = pure x) :
    wpAny (model prog w) A (eval (.ListComp elt [⟨.Name x px, iter, [], 0⟩] scope pos) env) Q E s := by
  rw [eval_ListComp]
  refine wpAny_comprehension_free (use := none) rfl hs hclos hkind hnames (wpAny_mono h (fun xv s₁ h₁ => ?_) fun _ _ e => e)
  obtain ⟨r, b, c, t, u, v, n, news, rfl, hh, F, N, hr, hsm, hn, hsz, R⟩ := h₁
  refine wpAny_pyIter_range hr hsm ?_
  refine LCg.block_U (S := fun _ => True) (Walks.range hh s₁.heap.objs.size 0 c n) hsz (fun i h st => ⟨_, st⟩)
    (fun i h h' o nw st e e' _ _ _ => by
      have st' : h.get? s₁.heap.objs.size = some _ := st
      show h'.get? s₁.heap.objs.size = some _
      rw [e', ← e]; exact st')
    hcell hkind hx (by show IsRangeIter _ _ _ _ _; rw [hn]; simpa using Heap.get?_push_size _ rfl) (fun b hb => ?_)
    (F.keeps fun _ _ e => Heap.get?_push_of_some _ e) (N.grown fun _ _ e => Heap.get?_push_of_some _ e) (Nat.ne_of_lt F.ns.lt) (next_is_new F) (fun p hp => Nat.ne_of_lt (Heap.lt_size (N p hp).1)) trivial (R _) ?_
  · rw [List.mem_singleton.mp hb]
    show s₁.heap.objs.size < (s₁.heap.push _).objs.size
    rw [Heap.size_push]; exact Nat.lt_succ_self _
  · intro D C h tk m' ys news' F' N' o1 hn hC₀ hD₀ hCL hDL hCD offC fin
    refine ⟨m', hn, fun h'' hs'' => fin D h'' tk (F'.change hs'' hCL hC₀) (fun p hp => ?_) o1⟩
    refine ⟨hs''.extBut _ _ ?_ (N' p hp).1, (N' p hp).2⟩
    rcases List.mem_cons.mp hp with rfl | hp
    · exact Ne.symm hCD
    · exact offC p hp
end
end Mine
namespace Mine
open PySem PySem.W PySem.Spec PySem.Calls PyProof.Rows PyProof.V
theorem lines_first {D : LayD} {ws : List Int} {C : Nat → Nat → Prop} {count : Nat} {ls : List Str} (x : Lines (block D ws) C count 0 ls) (h : 1 ≤ count) : ∃ t, ls[0]? = some t := by
  cases x with
  | done h' => lia
  | step _ _ _ _ _ => exact ⟨headLine D ws 0 _, by simp [block]; rfl⟩
theorem small_stride5 {n R : Nat} (hR : 1 ≤ R) (hR4 : R ≤ 4) (hn : n ≤ 7) : Builtin.Range.small 0 ((n * (R + 1) : Nat) : Int) ((R : Int) + 1) = true := by
  have hb : n * (R + 1) ≤ 7 * 5 := Nat.mul_le_mul hn (by lia)
  have hs : 0 ≤ Builtin.Range.rangeSize 0 ((n * (R + 1) : Nat) : Int) ((R : Int) + 1) ∧ Builtin.Range.rangeSize 0 ((n * (R + 1) : Nat) : Int) ((R : Int) + 1) < 10000 := by
    generalize n * (R + 1) = b at hb
    have : R = 1 ∨ R = 2 ∨ R = 3 ∨ R = 4 := by lia
    rcases this with h | h | h | h <;> subst h <;> simp [Builtin.Range.rangeSize] <;> split <;> lia
  have f : ∀ x : Int, -10000000 < x → x < 10000000 → Builtin.Range.rangeFitsLong x = true := by
    intro x h1 h2
    unfold Builtin.Range.rangeFitsLong
    simp
    lia
  unfold Builtin.Range.small
  rw [f 0 (by lia) (by lia), f _ (by lia) (by lia), f ((R : Int) + 1) (by lia) (by lia), f _ (by lia) (by lia), f (((n * (R + 1) : Nat) : Int) + ((R : Int) + 1 - 1)) (by lia) (by lia)]
  simp
theorem size_stride5 {n R : Nat} (hR : 1 ≤ R) (hR4 : R ≤ 4) : Builtin.Range.rangeSize 0 ((n * (R + 1) : Nat) : Int) ((R : Int) + 1) = (n : Int) := by
  have : R = 1 ∨ R = 2 ∨ R = 3 ∨ R = 4 := by lia
  rcases this with h | h | h | h <;> subst h <;> simp [Builtin.Range.rangeSize] <;> lia
theorem told_at {ls hs : List Str} {vs : List Value} {R i : Nat} (hv : StrsAre vs ls) (h : ∀ (i : Nat) (t : Str), hs[i]? = some t → ls[i * (R + 1)]? = some t) (hi : i < hs.length) :
    ∃ t tk, hs[i]? = some t ∧ vs[(0 + (i : Int) * ((R : Int) + 1)).toNat]? = some (.str t tk) := by
  have e : hs[i]? = some hs[i] := List.getElem?_eq_getElem hi
  obtain ⟨tk, h2⟩ := strsAre_at hv (h i _ e)
  refine ⟨_, tk, e, ?_⟩
  have : (0 + (i : Int) * ((R : Int) + 1)).toNat = i * (R + 1) := by
    rw [Int.zero_add, show (i : Int) * ((R : Int) + 1) = ((i * (R + 1) : Nat) : Int) by simp [Int.natCast_mul]]
    exact Int.toNat_natCast _
  rw [this]; exact h2
section
variable {prog : Program} {w : World} {A : Around} {E : Value → Shared → Prop} {s : Shared} {x y : Str} {t u : Tok} {Q : Value → Shared → Prop}
theorem count_own (h : ∀ t k, Q (.int (Txt.count x y) t) { s with toks := k }) : wpAny (model prog w) A (call (.builtin "str.count") ([.str x t] ++ [.str y u])) Q E s := by
  show wpAny (model prog w) A (call (.builtin "str.count") [.str x t, .str y u]) Q E s
  exact SC.count (h _ _)
theorem rep_own {h₀ : Heap} {L l : Addr} {m : Str → Option Value} {news : List (Addr × Obj)} {k W : Nat} (F : Fr h₀ L s.heap m) (N : News h₀ L s.heap news) (hm : (l, listOf (List.toArray [.int 1 t]) k) ∈ news) (hW : W ≤ 100)
    (h : ∀ D h' vs, Fr h₀ L h' m → News h₀ L h' ((D, listOf (List.toArray vs) 0) :: news) → (∀ p ∈ news, p.1 < D) → IntsAre vs (List.replicate W 1) → Q (.ref D) { s with heap := h' }) :
    wpAny (model prog w) A (binaryOp .Mult (.ref l) (.int (W : Int) u)) Q E s :=
  KM.mul F N (News.isList N hm) (.cons 1 t .nil) (by lia) (by lia) (by simp; lia) fun D h' F' N' lt hi _ _ _ _ _ => h D h' _ F' N' lt (by simpa using hi)
theorem intsAre_ones : ∀ {n : Nat} {ys : List Value}, Pl n (fun _ y => ∃ tk, y = Value.int 1 tk) ys → IntsAre ys (List.replicate n 1) := by
  intro n ys h
  induction ys generalizing n with
  | nil => obtain ⟨h1, _⟩ := h; cases n with | zero => exact .nil | succ _ => simp at h1
  | cons y ys ih =>
    obtain ⟨h1, h2⟩ := h
    cases n with
    | zero => simp at h1
    | succ n =>
      obtain ⟨tk, rfl⟩ := h2 0 y (by simp)
      rw [List.replicate_succ]
      exact .cons 1 tk (ih ⟨by simpa using h1, fun j z hz => h2 (j + 1) z (by simpa using hz)⟩)
end
end Mine
namespace Mine
open PySem PySem.W PySem.Spec PySem.Calls PyProof.Rows
abbrev SaysTop (w : World) (p : Program) (loose : List Str) (mean : ExcName → Option Value) (mg mb : Str → Option Value) (f : Addr) (vs : List Value) (h : Heap) (Res : Value → Heap → Prop) : Prop :=
  ∀ (s : Shared) (Q E : Value → Shared → Prop), s.heap = h → (Mine.hk.heap_1 w.params).In h → Top p loose mean mg mb h →
    (∀ v h' tk', (∀ b o, h.get? b = some o → h'.get? b = some o) → Res v h' → Q v { s with heap := h', toks := tk' }) →
    wpAny (model PG w) callerA (call (.ref f) vs) Q E s
section
variable {w : World} {p : Program} {loose : List Str} {mean : ExcName → Option Value} {mg mb : Str → Option Value}
theorem enterTop (binds : List (Str × Value)) {d : Nat} {f : Addr} {vs : List Value} {h : Heap} {Res : Value → Heap → Prop} {name qual : Str} {params : Arguments} {body : List Stmt} {scope : Scope} {dV kV doc pm cdv ct oc : Value} {an od : Option Addr} {osl : Array (Option Value)}
    (ho : (Mine.hk.heap_1 w.params).lookup f = some ⟨oc, od, .func (fnOf name qual params body scope dV kV doc pm an cdv ct), osl⟩) (hcd : codeIn (Mine.hk.heap_1 w.params) cdv qual = true)
    (hbind : ∀ s : Shared, (Mine.hk.heap_1 w.params).In s.heap → BindsTo s (fnOf name qual params body scope dV kV doc pm an cdv ct) ⟨vs, []⟩ binds)
    (hkind : (binds.all fun y => scope.names.lookup y.1 == some .local || scope.names.lookup y.1 == some .cell) = true) (hnd : ((cellsFrom 0 scope.names []).map (·.1)).Nodup)
    (hco : scope.isCoroutine = false) (hgen : scope.isGenerator = false) (hkf : scope.kind = .function) (hd : 1 + claimMargin + 1 + d < recursionLimit) (hu : 7 + 20 * d + 15 < cLine)
    (hb : ∀ (dp un : Nat) (gd : Option (List Code)) (outer : List Env) (A : Around) (base g h₁ : Heap) (L : Addr) (s : Shared) (cells : List (Addr × Obj)), (∀ b o, h.get? b = some o → g.get? b = some o) →
      Fr g L h₁ (bindL (envOfC qual scope L f cdv).kindOf binds fun _ => none) → News g L h₁ cells → CellsAre (bindC (envOfC qual scope L f cdv).kindOf binds fun _ => none) (cellsFrom (L + 1) scope.names []) cells → Below A base outer g → (Mine.hk.heap_1 w.params).In g → Top p loose mean mg mb g → dp + d < recursionLimit → un + 20 * d + 15 < cLine →
      wpAny (model PG w) (ktrTop dp un gd qual scope L f cdv (cellsFrom (L + 1) scope.names []) outer) (execs body (envOfC qual scope L f cdv)) (Ret s g L Res) (fun _ _ => False) { s with heap := h₁ }) :
    SaysTop w p loose mean mg mb f vs h Res := by
  intro s Q E hs X₁ T hret
  subst hs
  refine wpAny_call ?_
  refine codeAny_call_function (Nat.lt_of_le_of_lt (Nat.le_add_right (1 + claimMargin) (1 + d)) (by lia)) (X₁ _ _ ho) rfl hco hgen rfl (codeRec_of X₁ hcd) (hbind s X₁ _ _ _ _ ?_)
  refine wpAny_newFunctionEnv_cells hkf (kindsX hkind _) fun env' he s' x => ?_
  subst he
  refine ⟨T.nolimit.keeps x.toInCall.keep, codeAny_func ?_⟩
  obtain ⟨h₁, tk, rfl, _⟩ := x.done
  have hk₁ := x.toInCall.keep
  obtain ⟨cells, NC, Y⟩ := Cl.news (h₀ := s.heap) (Nat.le_refl _) fun n c hm => ⟨x.cell n c (lookup_of_mem_nodup (cellsFrom_names scope.names 0 (s.heap.objs.size + 1) [] [] rfl ▸ hnd) hm), x.above n c hm⟩
  refine wpAny_mono (hb (1 + claimMargin + 1) (4 + 3) (some []) [] callerA s.heap s.heap h₁ s.heap.objs.size { s with toks := tk } cells (fun _ _ e => e) ⟨x.toInCall.ns, hk₁, Nat.le_refl _⟩ NC Y (below_caller _) X₁ T (by lia) (by lia)) (fun fl s' hr => ?_) (fun _ _ hf => hf.elim)
  obtain ⟨h', tk', m', rfl, F₂, hres⟩ := hr
  exact hret _ h' tk' (fun b o e => F₂.keep b o e) hres
end
end Mine
namespace Mine
open PySem PySem.W PySem.Spec PySem.Calls PyProof.Rows
theorem cells_two {cm : Str → Option Value} {n1 n2 : Str} {c1 c2 : Addr} {cells : List (Addr × Obj)} (x : CellsAre cm [(n1, c1), (n2, c2)] cells) :
    ∃ o1 o2, cells = [(c1, o1), (c2, o2)] ∧ o1.data = .cell (cm n1) ∧ o2.data = .cell (cm n2) := by
  cases x with
  | cons a1 x => cases x with
    | cons a2 x => cases x with
      | nil => exact ⟨_, _, rfl, a1, a2⟩
section
variable {prog : Program} {w : World} {A : Around} {E : Value → Shared → Prop} {s : Shared} {Q : Value → Shared → Prop}
theorem item_three {value slice : PySem.Expr} {l : Addr} {k : Int} {u t1 t2 t3 : Tok}
    (hl : s.heap.IsList l (List.toArray [.str (Str.ofString "integer") t1, .str (Str.ofString "character") t2, .str (Str.ofString "logical") t3])) (h0 : 0 ≤ k) (h3 : k < 3) (h : ∀ (kd : Kd) t, Q (.str kd.str t) s)
    (hs : subscripted slice false (.ref l) (.int k u) = operate [.ref l, .int k u] (getItem (.ref l) (.int k u))) :
    wpAny (model prog w) A (subscriptTail value slice (.ref l) (.int k u)) Q E s := by
  have : k = 0 ∨ k = 1 ∨ k = 2 := by lia
  rcases this with rfl | rfl | rfl
  · exact item_own hl (by decide) (by decide) rfl (h .int t1) hs
  · exact item_own hl (by decide) (by decide) rfl (h .chr t2) hs
  · exact item_own hl (by decide) (by decide) rfl (h .lgl t3) hs
end
def OptIn (p : Addr × Obj) (ra : Option Addr) (rn : Option (List Str)) : Prop := (ra = none ∧ rn = none) ∨ (ra = some p.1 ∧ ∃ vs ts k, p.2 = listOf (List.toArray vs) k ∧ StrsAre vs ts ∧ rn = some ts)
theorem OptIn.use {h₀ h : Heap} {L : Addr} {news : List (Addr × Obj)} {a : Addr} {o : Obj} {ra : Option Addr} {rn : Option (List Str)} (x : OptIn (a, o) ra rn) (N : News h₀ L h news) (hm : (a, o) ∈ news) : OptL h ra rn := by
  rcases x with ⟨rfl, rfl⟩ | ⟨rfl, vs, ts, k, e, hs, rfl⟩
  · trivial
  · dsimp only at e; subst e
    exact ⟨vs, News.isList N hm, hs⟩
theorem OptIn.no (p : Addr × Obj) : OptIn p none none := .inl ⟨rfl, rfl⟩
theorem OptIn.yes {a : Addr} {vs : List Value} {ts : List Str} {k : Nat} (h : StrsAre vs ts) : OptIn (a, listOf (List.toArray vs) k) (some a) (some ts) := .inr ⟨rfl, vs, ts, k, rfl, h, rfl⟩
def RowOk (R : Nat) (rn : Option (List Str)) : Prop := ∀ l, rn = some l → l.length = R ∧ ∀ t ∈ l, pStr t ∧ t.length ≤ 20
theorem RowOk.no (R : Nat) : RowOk R none := fun _ e => nomatch e
theorem RowOk.yes {R : Nat} {l : List Str} (h1 : l.length = R) (h2 : ∀ t ∈ l, pStr t ∧ t.length ≤ 20) : RowOk R (some l) := fun _ e => by cases e; exact ⟨h1, h2⟩
theorem namesOk_of {R W : Nat} {rn cn : Option (List Str)} (x : RowOk R rn) (y : RowOk W cn) : NamesOk R W rn cn := ⟨fun l e => (x l e).1, fun l e => (x l e).2, fun l e => (y l e).1, fun l e => (y l e).2⟩
/-- texts that may be names -/
def NmOk (t : Str) : Prop := pStr t ∧ t.length ≤ 20
theorem pStr.append {a b : Str} (x : pStr a) (y : pStr b) : pStr (a ++ b) := fun c hc => by
  rw [Str.cps_append, Array.toList_append] at hc
  exact (List.mem_append.mp hc).elim (x c) (y c)
theorem row_rep {k : Int} (h0 : 0 ≤ k) (h3 : k < 3) : pStr (rep (Str.ofString "row") (1 + k).toNat) ∧ (rep (Str.ofString "row") (1 + k).toNat).length ≤ 9 := by
  have : k = 0 ∨ k = 1 ∨ k = 2 := by lia
  rcases this with rfl | rfl | rfl <;> (refine ⟨?_, by decide +kernel⟩; unfold pStr plainC; decide +kernel)
theorem h_rep {k : Int} (h0 : 0 ≤ k) (h3 : k < 6) : pStr (rep (Str.ofString "h") (1 + k).toNat) ∧ (rep (Str.ofString "h") (1 + k).toNat).length ≤ 9 := by
  have : k = 0 ∨ k = 1 ∨ k = 2 ∨ k = 3 ∨ k = 4 ∨ k = 5 := by lia
  rcases this with rfl | rfl | rfl | rfl | rfl | rfl <;> (refine ⟨?_, by decide +kernel⟩; unfold pStr plainC; decide +kernel)
theorem dig_ok {n : Int} (h1 : 0 ≤ n) (h2 : n ≤ 7) : pStr (Str.ofString (toString n)) ∧ (Str.ofString (toString n)).length = 1 := by
  have : n = 0 ∨ n = 1 ∨ n = 2 ∨ n = 3 ∨ n = 4 ∨ n = 5 ∨ n = 6 ∨ n = 7 := by lia
  rcases this with h | h | h | h | h | h | h | h <;> subst h <;> (refine ⟨?_, by decide +kernel⟩; unfold pStr plainC; decide +kernel)
theorem nm_row {k n : Int} (h0 : 0 ≤ k) (h3 : k < 3) (h1 : 0 ≤ n) (h2 : n ≤ 7) : NmOk (rep (Str.ofString "row") (1 + k).toNat ++ Str.ofString (toString n)) := by
  obtain ⟨a, b⟩ := row_rep h0 h3
  obtain ⟨c, d⟩ := dig_ok h1 h2
  exact ⟨a.append c, by rw [Str.length_append]; lia⟩
theorem nm_head {k n : Int} (h0 : 0 ≤ k) (h3 : k < 6) (h1 : 0 ≤ n) (h2 : n ≤ 7) : NmOk (rep (Str.ofString "h") (1 + k).toNat ++ Str.ofString (toString n)) := by
  obtain ⟨a, b⟩ := h_rep h0 h3
  obtain ⟨c, d⟩ := dig_ok h1 h2
  exact ⟨a.append c, by rw [Str.length_append]; lia⟩
/-- the texts made so far -/
def NmsAre (n : Nat) (ys : List Value) : Prop := ∃ ts, StrsAre ys ts ∧ ts.length = n ∧ ∀ t ∈ ts, NmOk t
theorem NmsAre.nil : NmsAre 0 [] := ⟨[], .nil, rfl, fun _ h => nomatch h⟩
theorem NmsAre.snoc {n : Nat} {ys : List Value} {t : Str} {tk : Tok} (x : NmsAre n ys) (h : NmOk t) : NmsAre (n + 1) (ys ++ [.str t tk]) := by
  obtain ⟨ts, h1, h2, h3⟩ := x
  refine ⟨ts ++ [t], strsAre_snoc h1 _ _, by simp [h2], fun u hu => ?_⟩
  rcases List.mem_append.mp hu with hu | hu
  · exact h3 u hu
  · rw [List.mem_singleton.mp hu]; exact h
/-- the items made so far -/
def MadeIts (kd : Kd) (n : Nat) (ys : List Value) : Prop := ∃ its, ItsAre ys its ∧ its.length = n ∧ ∀ it ∈ its, okIt kd it
theorem MadeIts.nil {kd : Kd} : MadeIts kd 0 [] := ⟨[], ⟨rfl, fun i v e => by simp at e⟩, rfl, fun _ h => nomatch h⟩
theorem MadeIts.snoc {kd : Kd} {n : Nat} {ys : List Value} {it : It} {tk : Tok} (x : MadeIts kd n ys) (h : okIt kd it) : MadeIts kd (n + 1) (ys ++ [it.val tk]) := by
  obtain ⟨its, ⟨h1, h2⟩, h3, h4⟩ := x
  refine ⟨its ++ [it], ⟨by simp [h1], fun i v e => ?_⟩, by simp [h3], fun u hu => ?_⟩
  · rcases Nat.lt_trichotomy i ys.length with hi | hi | hi
    · rw [List.getElem?_append_left hi] at e
      rw [List.getElem?_append_left (by lia)]
      exact h2 i v e
    · subst hi
      rw [List.getElem?_append_right (Nat.le_refl _)] at e
      rw [h1, List.getElem?_append_right (Nat.le_refl _)]
      simp at e ⊢
      exact ⟨tk, e.symm⟩
    · rw [List.getElem?_eq_none (by simp; lia)] at e; cases e
  · rcases List.mem_append.mp hu with hu | hu
    · exact h4 u hu
    · rw [List.mem_singleton.mp hu]; exact h
theorem barOk_new {l : Addr} {t1 t2 : Tok} {k : Nat} : BarOk l 0 (listOf (List.toArray [.int 0 t1, .int 0 t2, .ref l]) k) := ⟨0, 0, t1, t2, k, rfl, by decide, by decide, by decide, by decide⟩
theorem take_len {ns : List Int} (h : ns.length ≤ 63) : 1 ≤ (List.take 40 (ns ++ [0])).length ∧ (List.take 40 (ns ++ [0])).length ≤ 40 := by
  rw [List.length_take, List.length_append]
  simp
  lia
/-- the end of an element that changes one object -/
def BarPost (h₀ : Heap) (L : Addr) (m : Str → Option Value) (s₁ : Shared) (pre : List (Addr × Obj)) (b : Addr) (post : List (Addr × Obj)) (G : Value → Obj → Prop) (y : Value) (s₂ : Shared) : Prop :=
  ∃ h' tk' ob, s₂ = { s₁ with heap := h', toks := tk' } ∧ Fr h₀ L h' m ∧ News h₀ L h' (pre ++ (b, ob) :: post) ∧ G y ob
theorem BarPost.intro {h₀ h' : Heap} {L b : Addr} {m : Str → Option Value} {s₁ : Shared} {pre post : List (Addr × Obj)} {G : Value → Obj → Prop} {y : Value} {tk' : Nat} {ob : Obj} (F : Fr h₀ L h' m) (N : News h₀ L h' (pre ++ (b, ob) :: post)) (g : G y ob) :
    BarPost h₀ L m s₁ pre b post G y { s₁ with heap := h', toks := tk' } := ⟨h', tk', ob, rfl, F, N, g⟩
theorem off3_swap {I C D b : Addr} {ob ob' : Obj} {post : List (Addr × Obj)} : ∀ {pre : List (Addr × Obj)}, LCg.Off3 I C D (pre ++ (b, ob) :: post) → LCg.Off3 I C D (pre ++ (b, ob') :: post)
  | [], x => ⟨x.1, x.2⟩
  | _ :: _, x => ⟨x.1, off3_swap x.2⟩
section
variable {prog : Program} {w : World} {A : Around} {s : Shared} {h₀ : Heap} {L : Addr} {m : Str → Option Value} {env : Env}
theorem updF_mid {b : Addr} {ob : Obj} {post : List (Addr × Obj)} (hq : ∀ p ∈ post, p.1 ≠ b) : ∀ {pre : List (Addr × Obj)}, (∀ p ∈ pre, p.1 ≠ b) → UpdF b ob (pre ++ (b, ob) :: post) (fun o' => pre ++ (b, o') :: post)
  | [], _ => .head hq
  | _ :: _, h => .tail (h _ (.head _)) (updF_mid hq fun p hp => h p (.tail _ hp))
theorem off3_mid {I C D b : Addr} {ob : Obj} {post : List (Addr × Obj)} : ∀ {pre : List (Addr × Obj)}, LCg.Off3 I C D (pre ++ (b, ob) :: post) → (@Ne Nat b I) ∧ (@Ne Nat b C) ∧ (@Ne Nat b D)
  | [], x => x.1
  | _ :: _, x => off3_mid x.2
theorem compRest_bar {elt : Expr} {x : Str} {scope : Scope} {cl : List (Str × Addr)} {P : Nat → Value → Prop} {Fin : List Value → List (Addr × Obj) → Prop} {n : Nat} (J : Nat → List Value → Obj → Prop) {pre post : List (Addr × Obj)} {b : Addr} {ob₀ : Obj} (hp : ∀ p ∈ pre, p.1 ≠ b) (hq : ∀ p ∈ post, p.1 ≠ b)
    (turn : ∀ i ys ob v I oI C oC D m₂ h tk (E' : Value → Shared → Prop), i < n → J i ys ob → P i v → LCg.NsObj oC m₂ → m₂ x = some v → Fr h₀ L h m → News h₀ L h ((I, oI) :: (C, oC) :: (D, LCg.lst ys) :: (pre ++ (b, ob) :: post)) → UpdF b ob ((I, oI) :: (C, oC) :: (D, LCg.lst ys) :: (pre ++ (b, ob) :: post)) (fun o' => (I, oI) :: (C, oC) :: (D, LCg.lst ys) :: (pre ++ (b, o') :: post)) →
      wpAny (model prog w) A (eval elt (compEnvC scope cl C env)) (BarPost h₀ L m { s with heap := h, toks := tk } ((I, oI) :: (C, oC) :: (D, LCg.lst ys) :: pre) b post (fun y ob' => J (i + 1) (ys ++ [y]) ob')) E' { s with heap := h, toks := tk })
    (done : ∀ ys ob, J n ys ob → Fin ys (pre ++ (b, ob) :: post)) (hj : J 0 [] ob₀) : LCg.CompRest prog w A h₀ L m env elt x scope cl s (fun _ => True) P Fin n 0 [] (pre ++ (b, ob₀) :: post) := by
  refine compRest_J (fun i ys nw => ∃ ob, nw = pre ++ (b, ob) :: post ∧ J i ys ob) ?_ (fun ys nw h => by obtain ⟨ob, rfl, h⟩ := h; exact done ys ob h) n 0 [] _ (by lia) ⟨ob₀, rfl, hj⟩
  rintro i ys nw v I oI C oC D m₂ h tk E' hi ⟨ob, rfl, hJ⟩ hP hC hx F N off ne
  obtain ⟨z1, z2, z3⟩ := off3_mid off
  refine wpAny_mono (turn i ys ob v I oI C oC D m₂ h tk E' hi hJ hP hC hx F N (.tail (Ne.symm z1) (.tail (Ne.symm z2) (.tail (Ne.symm z3) (updF_mid hq hp))))) (fun y s₂ hy => ?_) fun _ _ e => e
  obtain ⟨h', tk', ob', rfl, F', N', g⟩ := hy
  exact LCg.CompEnd.intro F' N' (pre ++ (b, ob') :: post) (fun p hp => hp) (off3_swap off) trivial ⟨ob', rfl, g⟩
end
section
variable {prog : Program} {w : World} {A : Around} {E : Value → Shared → Prop} {s : Shared} {Q : Value → Shared → Prop} {t u : Tok}
theorem row_add {k n : Int} (h0 : 0 ≤ k) (h3 : k < 3) (h1 : 0 ≤ n) (h2 : n ≤ 7) (h : ∀ t' kk, NmOk (rep (Str.ofString "row") (1 + k).toNat ++ Str.ofString (toString n)) → Q (.str (rep (Str.ofString "row") (1 + k).toNat ++ Str.ofString (toString n)) t') { s with toks := kk }) :
    wpAny (model prog w) A (binaryOp .Add (.str (rep (Str.ofString "row") (1 + k).toNat) t) (.str (Str.ofString (toString n)) u)) Q E s := by
  have a := (row_rep h0 h3).2
  have b := (dig_ok h1 h2).2
  exact add_own (by lia) (fun t' kk => h t' kk (nm_row h0 h3 h1 h2))
theorem h_add {k n : Int} (h0 : 0 ≤ k) (h3 : k < 6) (h1 : 0 ≤ n) (h2 : n ≤ 7) (h : ∀ t' kk, NmOk (rep (Str.ofString "h") (1 + k).toNat ++ Str.ofString (toString n)) → Q (.str (rep (Str.ofString "h") (1 + k).toNat ++ Str.ofString (toString n)) t') { s with toks := kk }) :
    wpAny (model prog w) A (binaryOp .Add (.str (rep (Str.ofString "h") (1 + k).toNat) t) (.str (Str.ofString (toString n)) u)) Q E s := by
  have a := (h_rep h0 h3).2
  have b := (dig_ok h1 h2).2
  exact add_own (by lia) (fun t' kk => h t' kk (nm_head h0 h3 h1 h2))
end
end Mine
namespace Mine
open PySem PySem.W PySem.Spec PySem.Calls PyProof.Rows
noncomputable def epsC {α : Type} (d : α) (P : α → Prop) : α := @Classical.epsilon α ⟨d⟩ fun x => ¬ P x
theorem epsE {α : Type} (d : α) {P : α → Prop} (h : P (epsC d P)) : ∀ x, P x := fun x => Classical.byContradiction fun hx => Classical.epsilon_spec (p := fun x => ¬ P x) ⟨x, hx⟩ h
structure Par where
  dp : Nat
  un : Nat
  gd : Option (List Code)
  outer : List Env
  A : Around
  base : Heap
  g : Heap
  h₁ : Heap
  L : Addr
  s : Shared
  cells : List (Addr × Obj)
def parD : Par := ⟨0, 0, none, [], ktrTop 0 0 none Str.empty default 0 0 .none [] [], default, default, default, 0, {}, []⟩
theorem epsA {α : Type} {c : α} (d : α) {P : α → Prop} (hc : c = epsC d P) (h : P c) : ∀ x, P x := epsE d (hc ▸ h)
section
variable {w : World} {p : Program} {loose : List Str} {mean : ExcName → Option Value} {mg mb : Str → Option Value}
theorem fn_inj {name qual name' qual' : Str} {params params' : Arguments} {body body' : List Stmt} {scope scope' : Scope} {dV kV doc pm cdv ct oc dV' kV' doc' pm' cdv' ct' oc' : Value} {an od an' od' : Option Addr} {osl osl' : Array (Option Value)}
    (e : some (Obj.mk oc od (.func (fnOf name qual params body scope dV kV doc pm an cdv ct)) osl) = some (Obj.mk oc' od' (.func (fnOf name' qual' params' body' scope' dV' kV' doc' pm' an' cdv' ct')) osl')) : qual = qual' ∧ body = body' ∧ scope = scope' ∧ cdv = cdv' := by
  simp only [Option.some.injEq, Obj.mk.injEq, fnOf, Data.func.injEq, FuncData.mk.injEq, FuncBody.stmts.injEq] at e
  exact ⟨e.2.2.1.2.1, e.2.2.1.2.2.2.1, e.2.2.1.2.2.2.2.1, e.2.2.1.2.2.2.2.2.2.2.2.2.2.2.2.1⟩
abbrev Body0 (w : World) (p : Program) (loose : List Str) (mean : ExcName → Option Value) (mg mb : Str → Option Value) (binds : List (Str × Value)) (d : Nat) (f : Addr) (h : Heap) (Res : Value → Heap → Prop) (qual : Str) (scope : Scope) (cdv : Value) (body : List Stmt) (x : Par) : Prop :=
  (∀ b o, h.get? b = some o → x.g.get? b = some o) → Fr x.g x.L x.h₁ (fun y => binds.reverse.lookup y) → News x.g x.L x.h₁ [] → Below x.A x.base x.outer x.g → (Mine.hk.heap_1 w.params).In x.g → Top p loose mean mg mb x.g → x.dp + d < recursionLimit → x.un + 20 * d + 15 < cLine →
    wpAny (model PG w) (ktrTop x.dp x.un x.gd qual scope x.L f cdv [] x.outer) (execs body (envOf qual scope x.L f cdv)) (Ret x.s x.g x.L Res) (fun _ _ => False) { x.s with heap := x.h₁ }
def Body0F (w : World) (p : Program) (loose : List Str) (mean : ExcName → Option Value) (mg mb : Str → Option Value) (binds : List (Str × Value)) (d : Nat) (f : Addr) (h : Heap) (Res : Value → Heap → Prop) (x : Par) : Prop :=
  ∃ name qual params body scope dV kV doc pm an cdv ct oc od osl, (Mine.hk.heap_1 w.params).lookup f = some ⟨oc, od, .func (fnOf name qual params body scope dV kV doc pm an cdv ct), osl⟩ ∧ Body0 w p loose mean mg mb binds d f h Res qual scope cdv body x
theorem body0_all (x : Par) {binds : List (Str × Value)} {d : Nat} {f : Addr} {h : Heap} {Res : Value → Heap → Prop} {name qual : Str} {params : Arguments} {body : List Stmt} {scope : Scope} {dV kV doc pm cdv ct oc : Value} {an od : Option Addr} {osl : Array (Option Value)}
    (hx : x = epsC parD (Body0F w p loose mean mg mb binds d f h Res)) (ho : (Mine.hk.heap_1 w.params).lookup f = some ⟨oc, od, .func (fnOf name qual params body scope dV kV doc pm an cdv ct), osl⟩)
    (hb : Body0 w p loose mean mg mb binds d f h Res qual scope cdv body x) (dp un : Nat) (gd : Option (List Code)) (outer : List Env) (A : Around) (base g h₁ : Heap) (L : Addr) (s : Shared) : Body0 w p loose mean mg mb binds d f h Res qual scope cdv body ⟨dp, un, gd, outer, A, base, g, h₁, L, s, []⟩ := by
  obtain ⟨_, _, _, _, _, _, _, _, _, _, _, _, _, _, _, e, hb'⟩ := epsE (P := Body0F w p loose mean mg mb binds d f h Res) parD (hx ▸ ⟨name, qual, params, body, scope, dV, kV, doc, pm, an, cdv, ct, oc, od, osl, ho, hb⟩) ⟨dp, un, gd, outer, A, base, g, h₁, L, s, []⟩
  obtain ⟨rfl, rfl, rfl, rfl⟩ := fn_inj (ho.symm.trans e)
  exact hb'
abbrev Body1 (w : World) (p : Program) (loose : List Str) (mean : ExcName → Option Value) (mg mb : Str → Option Value) (binds : List (Str × Value)) (b : Addr) (ob : Obj) (d : Nat) (f : Addr) (h : Heap) (Res : Value → Heap → Prop) (qual : Str) (scope : Scope) (cdv : Value) (body : List Stmt) (x : Par) : Prop :=
  (∀ b' o, b' ≠ b → h.get? b' = some o → x.g.get? b' = some o) → Fr x.g x.L x.h₁ (fun y => binds.reverse.lookup y) → News x.g x.L x.h₁ [(b, ob)] → Below x.A x.base x.outer x.g → (Mine.hk.heap_1 w.params).In x.g → Top p loose mean mg mb x.g → x.dp + d < recursionLimit → x.un + 20 * d + 15 < cLine →
    wpAny (model PG w) (ktrTop x.dp x.un x.gd qual scope x.L f cdv [] x.outer) (execs body (envOf qual scope x.L f cdv)) (Ret x.s x.g x.L Res) (fun _ _ => False) { x.s with heap := x.h₁ }
def Body1F (w : World) (p : Program) (loose : List Str) (mean : ExcName → Option Value) (mg mb : Str → Option Value) (binds : List (Str × Value)) (b : Addr) (ob : Obj) (d : Nat) (f : Addr) (h : Heap) (Res : Value → Heap → Prop) (x : Par) : Prop :=
  ∃ name qual params body scope dV kV doc pm an cdv ct oc od osl, (Mine.hk.heap_1 w.params).lookup f = some ⟨oc, od, .func (fnOf name qual params body scope dV kV doc pm an cdv ct), osl⟩ ∧ Body1 w p loose mean mg mb binds b ob d f h Res qual scope cdv body x
theorem body1_all (x : Par) {binds : List (Str × Value)} {b : Addr} {ob : Obj} {d : Nat} {f : Addr} {h : Heap} {Res : Value → Heap → Prop} {name qual : Str} {params : Arguments} {body : List Stmt} {scope : Scope} {dV kV doc pm cdv ct oc : Value} {an od : Option Addr} {osl : Array (Option Value)}
    (hx : x = epsC parD (Body1F w p loose mean mg mb binds b ob d f h Res)) (ho : (Mine.hk.heap_1 w.params).lookup f = some ⟨oc, od, .func (fnOf name qual params body scope dV kV doc pm an cdv ct), osl⟩)
    (hb : Body1 w p loose mean mg mb binds b ob d f h Res qual scope cdv body x) (dp un : Nat) (gd : Option (List Code)) (outer : List Env) (A : Around) (base g h₁ : Heap) (L : Addr) (s : Shared) : Body1 w p loose mean mg mb binds b ob d f h Res qual scope cdv body ⟨dp, un, gd, outer, A, base, g, h₁, L, s, []⟩ := by
  obtain ⟨_, _, _, _, _, _, _, _, _, _, _, _, _, _, _, e, hb'⟩ := epsE (P := Body1F w p loose mean mg mb binds b ob d f h Res) parD (hx ▸ ⟨name, qual, params, body, scope, dV, kV, doc, pm, an, cdv, ct, oc, od, osl, ho, hb⟩) ⟨dp, un, gd, outer, A, base, g, h₁, L, s, []⟩
  obtain ⟨rfl, rfl, rfl, rfl⟩ := fn_inj (ho.symm.trans e)
  exact hb'
abbrev BodyC (w : World) (p : Program) (loose : List Str) (mean : ExcName → Option Value) (mg mb : Str → Option Value) (binds : List (Str × Value)) (d : Nat) (f : Addr) (h : Heap) (Res : Value → Heap → Prop) (qual : Str) (scope : Scope) (cdv : Value) (body : List Stmt) (x : Par) : Prop :=
  (∀ b o, h.get? b = some o → x.g.get? b = some o) → Fr x.g x.L x.h₁ (bindL (envOfC qual scope x.L f cdv).kindOf binds fun _ => none) → News x.g x.L x.h₁ x.cells → CellsAre (bindC (envOfC qual scope x.L f cdv).kindOf binds fun _ => none) (cellsFrom (x.L + 1) scope.names []) x.cells → Below x.A x.base x.outer x.g → (Mine.hk.heap_1 w.params).In x.g → Top p loose mean mg mb x.g → x.dp + d < recursionLimit → x.un + 20 * d + 15 < cLine →
    wpAny (model PG w) (ktrTop x.dp x.un x.gd qual scope x.L f cdv (cellsFrom (x.L + 1) scope.names []) x.outer) (execs body (envOfC qual scope x.L f cdv)) (Ret x.s x.g x.L Res) (fun _ _ => False) { x.s with heap := x.h₁ }
def BodyCF (w : World) (p : Program) (loose : List Str) (mean : ExcName → Option Value) (mg mb : Str → Option Value) (binds : List (Str × Value)) (d : Nat) (f : Addr) (h : Heap) (Res : Value → Heap → Prop) (x : Par) : Prop :=
  ∃ name qual params body scope dV kV doc pm an cdv ct oc od osl, (Mine.hk.heap_1 w.params).lookup f = some ⟨oc, od, .func (fnOf name qual params body scope dV kV doc pm an cdv ct), osl⟩ ∧ BodyC w p loose mean mg mb binds d f h Res qual scope cdv body x
theorem bodyC_all (x : Par) {binds : List (Str × Value)} {d : Nat} {f : Addr} {h : Heap} {Res : Value → Heap → Prop} {name qual : Str} {params : Arguments} {body : List Stmt} {scope : Scope} {dV kV doc pm cdv ct oc : Value} {an od : Option Addr} {osl : Array (Option Value)}
    (hx : x = epsC parD (BodyCF w p loose mean mg mb binds d f h Res)) (ho : (Mine.hk.heap_1 w.params).lookup f = some ⟨oc, od, .func (fnOf name qual params body scope dV kV doc pm an cdv ct), osl⟩)
    (hb : BodyC w p loose mean mg mb binds d f h Res qual scope cdv body x) (dp un : Nat) (gd : Option (List Code)) (outer : List Env) (A : Around) (base g h₁ : Heap) (L : Addr) (s : Shared) (cells : List (Addr × Obj)) : BodyC w p loose mean mg mb binds d f h Res qual scope cdv body ⟨dp, un, gd, outer, A, base, g, h₁, L, s, cells⟩ := by
  obtain ⟨_, _, _, _, _, _, _, _, _, _, _, _, _, _, _, e, hb'⟩ := epsE (P := BodyCF w p loose mean mg mb binds d f h Res) parD (hx ▸ ⟨name, qual, params, body, scope, dV, kV, doc, pm, an, cdv, ct, oc, od, osl, ho, hb⟩) ⟨dp, un, gd, outer, A, base, g, h₁, L, s, cells⟩
  obtain ⟨rfl, rfl, rfl, rfl⟩ := fn_inj (ho.symm.trans e)
  exact hb'
end
def dC : Addr × Obj := (0, default)
theorem cells_six' {cm : Str → Option Value} {n1 n2 n3 n4 n5 n6 : Str} {c1 c2 c3 c4 c5 c6 : Addr} {cells : List (Addr × Obj)} (x : CellsAre cm [(n1, c1), (n2, c2), (n3, c3), (n4, c4), (n5, c5), (n6, c6)] cells) :
    cells = [(c1, (cells.getD 0 dC).2), (c2, (cells.getD 1 dC).2), (c3, (cells.getD 2 dC).2), (c4, (cells.getD 3 dC).2), (c5, (cells.getD 4 dC).2), (c6, (cells.getD 5 dC).2)] ∧ (cells.getD 0 dC).2.data = .cell (cm n1) ∧ (cells.getD 1 dC).2.data = .cell (cm n2) ∧ (cells.getD 2 dC).2.data = .cell (cm n3) ∧ (cells.getD 3 dC).2.data = .cell (cm n4) ∧ (cells.getD 4 dC).2.data = .cell (cm n5) ∧ (cells.getD 5 dC).2.data = .cell (cm n6) := by
  obtain ⟨o1, o2, o3, o4, o5, o6, rfl, d1, d2, d3, d4, d5, d6⟩ := cells_six x
  exact ⟨rfl, d1, d2, d3, d4, d5, d6⟩
theorem cells_seven' {cm : Str → Option Value} {n1 n2 n3 n4 n5 n6 n7 : Str} {c1 c2 c3 c4 c5 c6 c7 : Addr} {cells : List (Addr × Obj)} (x : CellsAre cm [(n1, c1), (n2, c2), (n3, c3), (n4, c4), (n5, c5), (n6, c6), (n7, c7)] cells) :
    cells = [(c1, (cells.getD 0 dC).2), (c2, (cells.getD 1 dC).2), (c3, (cells.getD 2 dC).2), (c4, (cells.getD 3 dC).2), (c5, (cells.getD 4 dC).2), (c6, (cells.getD 5 dC).2), (c7, (cells.getD 6 dC).2)] ∧ (cells.getD 0 dC).2.data = .cell (cm n1) ∧ (cells.getD 1 dC).2.data = .cell (cm n2) ∧ (cells.getD 2 dC).2.data = .cell (cm n3) ∧ (cells.getD 3 dC).2.data = .cell (cm n4) ∧ (cells.getD 4 dC).2.data = .cell (cm n5) ∧ (cells.getD 5 dC).2.data = .cell (cm n6) ∧ (cells.getD 6 dC).2.data = .cell (cm n7) := by
  obtain ⟨o1, o2, o3, o4, o5, o6, o7, rfl, d1, d2, d3, d4, d5, d6, d7⟩ := cells_seven x
  exact ⟨rfl, d1, d2, d3, d4, d5, d6, d7⟩
/-- the statement of the law's own call, as a claim about the world and what the head hands on -/
abbrev TW := World × Program × List Str × (ExcName → Option Value) × (Str → Option Value) × (Str → Option Value)
def SLaw (t : TW) : Prop := ∀ (l : Addr) (vs : List Value) (ns : List Int) (h : Heap) (_ : h.IsList l vs.toArray) (_ : IntsAre vs ns) (_ : ns.length ≤ 63), SaysTop t.1 t.2.1 t.2.2.1 t.2.2.2.1 t.2.2.2.2.1 t.2.2.2.2.2 445 [.ref l] h (fun v _ => v = .bool true)
def dW : TW := (⟨fun _ _ => 0, { strHash := fun _ => 0, shareClass := fun _ => 0, mergeTok := fun _ => 0, idOf := fun _ => 0, idOfShared := fun _ _ => 0, followText := fun _ => false, idOfImm := fun _ => 0 }⟩, default, [], fun _ => none, fun _ => none, fun _ => none)
@[irreducible] noncomputable def cW : TW := epsC dW SLaw
@[irreducible] noncomputable def w : World := cW.1
@[irreducible] noncomputable def p : Program := cW.2.1
@[irreducible] noncomputable def loose : List Str := cW.2.2.1
@[irreducible] noncomputable def mean : ExcName → Option Value := cW.2.2.2.1
@[irreducible] noncomputable def mg : Str → Option Value := cW.2.2.2.2.1
@[irreducible] noncomputable def mb : Str → Option Value := cW.2.2.2.2.2
end Mine
namespace Mine
open PySem PySem.W PySem.Spec PySem.Calls PyProof.Rows
section
variable {s h' h₀ : Heap} {L : Addr} {news : List (Addr × Obj)} {G : Value → Prop} {v : Value}
abbrev NewZ (s h' h₀ : Heap) (L : Addr) (news : List (Addr × Obj)) : Prop := ∀ led, NewLed s h' led → News h₀ L h' (led ++ news) ∧ ∀ p ∈ led, ∀ q ∈ news, @Ne Nat q.1 p.1
theorem r_eq {x : Value} {Z : Prop} (H : G x) : Z → v = x → G v := fun _ e => e ▸ H
theorem r_strs {ts : List Str} (H : ∀ D vs k, News h₀ L h' ((D, listOf (List.toArray vs) k) :: news) → StrsAre vs ts → (∀ q ∈ news, @Ne Nat q.1 D) → G (.ref D)) : NewZ s h' h₀ L news → NewStrs s h' v ts → G v
  | z, ⟨D, vs, k, e, l, d⟩ => e ▸ H D vs k (z _ l).1 d ((z _ l).2 _ (.head _))
theorem r_lines {P : List Str → Prop} (H : ∀ ls D vs k, News h₀ L h' ((D, listOf (List.toArray vs) k) :: news) → StrsAre vs ls → P ls → (∀ q ∈ news, @Ne Nat q.1 D) → G (.ref D)) : NewZ s h' h₀ L news → (∃ ls, NewStrs s h' v ls ∧ P ls) → G v
  | z, ⟨ls, x, d⟩ => r_strs (fun D vs k N y q => H ls D vs k N y d q) z x
theorem r_dim {R W : Int} (H : ∀ D t1 t2 k, News h₀ L h' ((D, listOf (List.toArray [.int R t1, .int W t2]) k) :: news) → (∀ q ∈ news, @Ne Nat q.1 D) → G (.ref D)) : NewZ s h' h₀ L news → (∃ D t1 t2 k, v = .ref D ∧ NewLed s h' [(D, listOf (List.toArray [.int R t1, .int W t2]) k)]) → G v
  | z, ⟨D, t1, t2, k, e, l⟩ => e ▸ H D t1 t2 k (z _ l).1 ((z _ l).2 _ (.head _))
theorem r_mat {R : Int} {cols : List (List Str)} {left : Bool} {w : World} (H : ∀ x dx C as k ce t0 t1 t2 t3 t4 t5 t6 tr, News h₀ L h' ((x, instObj 310 dx) :: (dx, dictOf [ent w (Str.ofString "rows") t0 (.int R tr), ent w (Str.ofString "columns") t1 (.ref C), ent w (Str.ofString "row_names") t2 .none, ent w (Str.ofString "column_names") t3 .none,
      ent w (Str.ofString "row_title") t4 .none, ent w (Str.ofString "column_title") t5 .none, ent w (Str.ofString "to_left") t6 (.bool left)] 7) :: (C, listOf (List.toArray (as.map Value.ref)) k) :: (ce ++ news)) → ColsIn ce as cols → @Ne Nat x dx → @Ne Nat C dx → (∀ p ∈ ce, @Ne Nat p.1 dx) → (∀ p ∈ ce ++ news, p.1 ≠ dx) → (∀ q ∈ news, @Ne Nat q.1 dx) → G (.ref x)) :
    NewZ s h' h₀ L news → MadeLay w s h' v R cols left → G v
  | z, ⟨x, dx, C, as, k, ce, t0, t1, t2, t3, t4, t5, t6, tr, e, l, ci, y1, y2, y3⟩ =>
    e ▸ H x dx C as k ce t0 t1 t2 t3 t4 t5 t6 tr (z _ l).1 ci y1 y2 y3 (forall_append y3 ((z _ l).2 _ (.tail _ (.head _)))) ((z _ l).2 _ (.tail _ (.head _)))
theorem r_led {P : Addr → List (Addr × Obj) → Prop} (H : ∀ p led, News h₀ L h' (led ++ news) → P p led → OffAll led news → G (.ref p)) : NewZ s h' h₀ L news → (∃ p led, v = .ref p ∧ NewLed s h' led ∧ P p led) → G v
  | z, ⟨p, led, e, l, d⟩ => e ▸ H p led (z _ l).1 d (z _ l).2
theorem r_blk {D : LayD} {ws : List Int} {b n : Nat} {Z : Prop} (H : ∀ a vs k, h'.get? a = some (listOf (List.toArray vs) k) → StrsAre vs (block D ws b n) → vs.length = D.rows + 1 → G (.ref a)) : Z → (∃ a, v = .ref a ∧ StrsO h' a (block D ws b n)) → G v
  | _, ⟨a, e, vs, k, g, d⟩ => e ▸ H a vs k g d ((strsAre_length d).trans (block_len _ _ _ _))
theorem r_hop {n : Int} {B : Prop} (H : ∀ hop tk, 0 ≤ hop → hop < n → B → G (.int hop tk)) : (∃ hop tk, v = .int hop tk ∧ 0 ≤ hop ∧ hop < n ∧ B) → G v
  | ⟨hop, tk, e, x, y, z⟩ => e ▸ H hop tk x y z
theorem r_hopN {n : Int} {B : Prop} (H : ∀ (k : Nat) tk, (k : Int) < n → B → G (.int k tk)) : (∃ hop tk, v = .int hop tk ∧ 0 ≤ hop ∧ hop < n ∧ B) → G v :=
  r_hop fun hop tk x y z => by obtain ⟨k, rfl⟩ := Int.eq_ofNat_of_zero_le x; exact H k tk y z
theorem r_it {P : It → Prop} {B : Prop} (H : ∀ it tk, P it → B → G (it.val tk)) : (∃ it tk, v = it.val tk ∧ P it ∧ B) → G v
  | ⟨it, tk, e, x, y⟩ => e ▸ H it tk x y
theorem r_ss {r c : List Str} (H : ∀ D A va ka B vb kb k, News h₀ L h' ((D, listOf (List.toArray [.ref A, .ref B]) k) :: (B, listOf (List.toArray vb) kb) :: (A, listOf (List.toArray va) ka) :: news) → StrsAre va r → StrsAre vb c →
      (∀ q ∈ news, @Ne Nat q.1 D) → (∀ q ∈ news, @Ne Nat q.1 B) → (∀ q ∈ news, @Ne Nat q.1 A) → G (.ref D)) : NewZ s h' h₀ L news → (∃ D ys k nw, v = .ref D ∧ NewLed s h' ((D, listOf (List.toArray ys) k) :: nw) ∧ PartsNew ys nw [some r, some c]) → G v
  | z, ⟨D, ys, k, nw, e, l, g⟩ => by
    obtain ⟨A, va, ka, B, vb, kb, rfl, rfl, sa, sb⟩ := parts_ss g
    exact e ▸ H D A va ka B vb kb k (z _ l).1 sa sb ((z _ l).2 _ (.head _)) ((z _ l).2 _ (.tail _ (.head _))) ((z _ l).2 _ (.tail _ (.tail _ (.head _))))
theorem r_sn {r : List Str} (H : ∀ D A va ka k, News h₀ L h' ((D, listOf (List.toArray [.ref A, .none]) k) :: (A, listOf (List.toArray va) ka) :: news) → StrsAre va r →
      (∀ q ∈ news, @Ne Nat q.1 D) → (∀ q ∈ news, @Ne Nat q.1 A) → G (.ref D)) : NewZ s h' h₀ L news → (∃ D ys k nw, v = .ref D ∧ NewLed s h' ((D, listOf (List.toArray ys) k) :: nw) ∧ PartsNew ys nw [some r, none]) → G v
  | z, ⟨D, ys, k, nw, e, l, g⟩ => by
    obtain ⟨A, va, ka, rfl, rfl, sa⟩ := parts_sn g
    exact e ▸ H D A va ka k (z _ l).1 sa ((z _ l).2 _ (.head _)) ((z _ l).2 _ (.tail _ (.head _)))
theorem r_ns {r : List Str} (H : ∀ D A va ka k, News h₀ L h' ((D, listOf (List.toArray [.none, .ref A]) k) :: (A, listOf (List.toArray va) ka) :: news) → StrsAre va r →
      (∀ q ∈ news, @Ne Nat q.1 D) → (∀ q ∈ news, @Ne Nat q.1 A) → G (.ref D)) : NewZ s h' h₀ L news → (∃ D ys k nw, v = .ref D ∧ NewLed s h' ((D, listOf (List.toArray ys) k) :: nw) ∧ PartsNew ys nw [none, some r]) → G v
  | z, ⟨D, ys, k, nw, e, l, g⟩ => by
    obtain ⟨A, va, ka, rfl, rfl, sa⟩ := parts_ns g
    exact e ▸ H D A va ka k (z _ l).1 sa ((z _ l).2 _ (.head _)) ((z _ l).2 _ (.tail _ (.head _)))
end
theorem layIs_nn {w : World} {h₀ h : Heap} {L x dx C : Addr} {news ce : List (Addr × Obj)} {as : List Addr} {k n : Nat} {R : Nat} {cols : List (List Str)} {left : Bool} {t0 t1 t2 t3 t4 t5 t6 tr : Tok} (N : News h₀ L h news) (ci : ColsIn ce as cols) (h1 : (x, instObj 310 dx) ∈ news) (h3 : (C, listOf (List.toArray (as.map Value.ref)) k) ∈ news)
    (h2 : (dx, dictOf [ent w (Str.ofString "rows") t0 (.int R tr), ent w (Str.ofString "columns") t1 (.ref C), ent w (Str.ofString "row_names") t2 .none, ent w (Str.ofString "column_names") t3 .none, ent w (Str.ofString "row_title") t4 .none, ent w (Str.ofString "column_title") t5 .none, ent w (Str.ofString "to_left") t6 (.bool left)] n) ∈ news)
    (hs : ∀ p ∈ ce, p ∈ news) : LayIs w h x ⟨R, cols, none, none, left⟩ := layIs_news (rna := none) (cna := none) (D := ⟨R, cols, none, none, left⟩) N h1 h2 h3 hs ci trivial trivial
theorem layIs_sn {w : World} {h₀ h : Heap} {L x dx C a : Addr} {news ce : List (Addr × Obj)} {as : List Addr} {k n : Nat} {R : Nat} {cols : List (List Str)} {left : Bool} {rl : List Str} {t0 t1 t2 t3 t4 t5 t6 tr : Tok} (N : News h₀ L h news) (ci : ColsIn ce as cols) (h1 : (x, instObj 310 dx) ∈ news) (h3 : (C, listOf (List.toArray (as.map Value.ref)) k) ∈ news)
    (h2 : (dx, dictOf [ent w (Str.ofString "rows") t0 (.int R tr), ent w (Str.ofString "columns") t1 (.ref C), ent w (Str.ofString "row_names") t2 (.ref a), ent w (Str.ofString "column_names") t3 .none, ent w (Str.ofString "row_title") t4 .none, ent w (Str.ofString "column_title") t5 .none, ent w (Str.ofString "to_left") t6 (.bool left)] n) ∈ news)
    (hs : ∀ p ∈ ce, p ∈ news) (hr : StrsL h a rl) : LayIs w h x ⟨R, cols, some rl, none, left⟩ := layIs_news (rna := some a) (cna := none) (D := ⟨R, cols, some rl, none, left⟩) N h1 h2 h3 hs ci hr trivial
theorem layIs_ns {w : World} {h₀ h : Heap} {L x dx C c : Addr} {news ce : List (Addr × Obj)} {as : List Addr} {k n : Nat} {R : Nat} {cols : List (List Str)} {left : Bool} {kl : List Str} {t0 t1 t2 t3 t4 t5 t6 tr : Tok} (N : News h₀ L h news) (ci : ColsIn ce as cols) (h1 : (x, instObj 310 dx) ∈ news) (h3 : (C, listOf (List.toArray (as.map Value.ref)) k) ∈ news)
    (h2 : (dx, dictOf [ent w (Str.ofString "rows") t0 (.int R tr), ent w (Str.ofString "columns") t1 (.ref C), ent w (Str.ofString "row_names") t2 .none, ent w (Str.ofString "column_names") t3 (.ref c), ent w (Str.ofString "row_title") t4 .none, ent w (Str.ofString "column_title") t5 .none, ent w (Str.ofString "to_left") t6 (.bool left)] n) ∈ news)
    (hs : ∀ p ∈ ce, p ∈ news) (hc : StrsL h c kl) : LayIs w h x ⟨R, cols, none, some kl, left⟩ := layIs_news (rna := none) (cna := some c) (D := ⟨R, cols, none, some kl, left⟩) N h1 h2 h3 hs ci trivial hc
theorem layIs_ss {w : World} {h₀ h : Heap} {L x dx C a c : Addr} {news ce : List (Addr × Obj)} {as : List Addr} {k n : Nat} {R : Nat} {cols : List (List Str)} {left : Bool} {rl : List Str} {kl : List Str} {t0 t1 t2 t3 t4 t5 t6 tr : Tok} (N : News h₀ L h news) (ci : ColsIn ce as cols) (h1 : (x, instObj 310 dx) ∈ news) (h3 : (C, listOf (List.toArray (as.map Value.ref)) k) ∈ news)
    (h2 : (dx, dictOf [ent w (Str.ofString "rows") t0 (.int R tr), ent w (Str.ofString "columns") t1 (.ref C), ent w (Str.ofString "row_names") t2 (.ref a), ent w (Str.ofString "column_names") t3 (.ref c), ent w (Str.ofString "row_title") t4 .none, ent w (Str.ofString "column_title") t5 .none, ent w (Str.ofString "to_left") t6 (.bool left)] n) ∈ news)
    (hs : ∀ p ∈ ce, p ∈ news) (hr : StrsL h a rl) (hc : StrsL h c kl) : LayIs w h x ⟨R, cols, some rl, some kl, left⟩ := layIs_news (rna := some a) (cna := some c) (D := ⟨R, cols, some rl, some kl, left⟩) N h1 h2 h3 hs ci hr hc
end Mine
open PySem PySem.W PySem.Spec PySem.Calls PyProof.Rows
namespace Mine
section
local macro_rules | `(tactic| walk_at "O") => `(tactic| first | lia | omega)
local macro_rules | `(tactic| walk_at "ENTER") => `(tactic| ((case k6 => k_is); (case k7 => k_is); (case k9 => (intro _ hX9; first | exact BindsTo.of_eq rfl | exact binds_K hX9 rfl (by k_is) rfl rfl rfl)); (case kB => exact locs rfl); (case c2 => exact rfl); (case c3 => exact rfl); (case c4 => exact rfl); (case c5 => decide)))
local macro_rules | `(tactic| walk_at "ENTERC") => `(tactic| ((case k6 => k_is); (case k7 => k_is); (case k9 => (intro _ hX9; first | exact BindsTo.of_eq rfl | exact binds_K hX9 rfl (by k_is) rfl rfl rfl)); (case kB => exact rfl); (case kD => decide +kernel); (case c2 => exact rfl); (case c3 => exact rfl); (case c4 => exact rfl)))
local macro_rules | `(tactic| walk_at "STOP") => `(tactic| first
  | (with_reducible show wpAny _ _ (exec (Stmt.While _ _ _ _) _) _ _ _)
  | (with_reducible show wpAny _ _ (exec (Stmt.For _ _ _ _ _) _) _ _ _)
  | (with_reducible show wpAny _ _ (eval (Expr.ListComp _ _ _ _) _) _ _ _)
  | (with_reducible show wpAny _ _ (exec (Stmt.Assign _ (Expr.ListComp _ _ _ _) _) _) _ _ _)
  | (with_reducible show LCg.CompSrc _ _ _ _ _ _ _ _ _ _ _ _ _ _)
  | (with_reducible show wpAny _ _ (pyIter _) _ _ _))
local macro_rules | `(tactic| walk_at "STEP") => `(tactic| (first | (k_unfold; (try dsimp only)) | (k_unmd; k_unfold; (try dsimp only)) | (k_end; wrow_close) | ((fail_if_success (walk_at "STOP")); (first | walk1 | (dsimp only; walk1) | (leave1; try dsimp only)))))
local macro_rules | `(tactic| walk_at "STEPS") => `(tactic| repeat' (walk_at "STEP"))
local macro_rules | `(tactic| walk_at "USE2") => `(tactic| ((first | exact rfl | assumption); (first | exact room2 (by with_reducible assumption) (by with_reducible assumption) (by with_unfolding_all rfl) | exact ⟨by first | walk_at "O" | ktr_room, by first | walk_at "O" | ktr_units⟩)))
local macro_rules | `(tactic| walk_at "USE") => `(tactic| (k_asm; k_asm; k_asm; k_asm; k_asm; walk_at "USE2"))
local macro_rules | `(tactic| walk_at "LTS") => `(tactic| first | exact Nat.lt_succ_self _ | (refine Nat.lt_succ_of_lt ?_; walk_at "LTS"))
local macro_rules | `(tactic| walk_at "LTA") => `(tactic| first | with_reducible assumption | walk_at "LTS" | (refine Nat.lt_trans ?_ (by with_reducible assumption); walk_at "LTA"))
local macro_rules | `(tactic| k_lt $h) => `(tactic| k_dflt (first | ((first | refine ltK $h ?_ | refine neK $h ?_); clear $h; dsimp only [LtK, NeK]; intros; (fail_if_success (with_reducible first | show LtK _ _ _ | show NeK _ _ _))) | (refine hide ?_; intro hG9; (first | replace $h := allLt_of $h | replace $h := allNe_of $h); (repeat (obtain ⟨hx, $h⟩ := $h; (try dsimp only at hx))); refine hG9 ?_; clear hG9)))
local macro_rules | `(tactic| k_ne) => `(tactic| (refine neN ?_; (try dsimp only); first | with_reducible assumption | with_reducible exact Ne.symm (by assumption) | with_reducible exact Nat.ne_of_lt (by assumption) | with_reducible exact Nat.ne_of_gt (by assumption) | exact Nat.ne_of_lt (by walk_at "LTA") | exact Nat.ne_of_gt (by walk_at "LTA") | walk_at "O"))
local macro_rules | `(tactic| k_inst) => `(tactic| exact inst_of (Fr.keep (by k_asm)) (by assumption) (by assumption))
local macro_rules | `(tactic| walk_at "GO") => `(tactic| ((try dsimp only); (try k_unmd); (try k_fold); walk_at "STEPS"))
local macro_rules | `(tactic| walk_at "LOOK") => `(tactic| first | with_reducible assumption | rfl | (refine lk_skip (by decide) ?_; walk_at "LOOK") | assumption)
local macro_rules | `(tactic| walk_at "eval Name") => `(tactic| (k_here; k_dflt (refine' nameX_L ?F ?v ?_ ?a ?b; (case F => k_asm); (case a => rfl); (case b => rfl); (case v => walk_at "LOOK"); k_whole)))
local macro_rules | `(tactic| walk_at "LEN") => `(tactic| first | walk_at "O" | with_reducible assumption | (simp only [Str.length_append, len_spc, len_cat, len_fill', len_empty, len_l1, len_l2, len_l3, len_l4, len_l5, len_l6, len_l7, len_l8, List.map_cons, List.map_nil, List.sum_cons, List.sum_nil]; walk_at "O"))
local macro_rules | `(tactic| walk_at "call builtin:str.join") => `(tactic| (k_here; k_dflt (apply join_own; k_asm; k_mem; (first | assumption | exact StrsAre.cons _ _ StrsAre.nil | exact StrsAre.cons _ _ (StrsAre.cons _ _ StrsAre.nil)); walk_at "LEN"; k_whole; intro _ _)))
local macro_rules | `(tactic| walk_at "call builtin:str.ljust") => `(tactic| (k_here; k_dflt ((with_reducible refine' ljust_own ?_ ?_ ?_); walk_at "LEN"; walk_at "LEN"; k_whole; intro _ _)))
local macro_rules | `(tactic| walk_at "call builtin:str.rjust") => `(tactic| (k_here; k_dflt ((with_reducible refine' rjust_own ?_ ?_ ?_); walk_at "LEN"; walk_at "LEN"; k_whole; intro _ _)))
local macro_rules | `(tactic| walk_at "END") => `(tactic| ((try dsimp only); refine Ret.intro (by k_asm) ?_))
local macro_rules | `(tactic| walk_at "binaryOp Mult str int") => `(tactic| (k_here; k_dflt ((with_reducible refine' mul_own ?c ?a ?b ?_); (case c => first | decide +kernel | walk_at "LEN"); (case a => walk_at "LEN"); (case b => walk_at "LEN"); k_whole; intro _ _)))
local macro_rules | `(tactic| walk_at "binaryOp Mult str int") => `(tactic| (k_here; k_dflt ((with_reducible refine' mul_spc ?_ ?_ ?_); walk_at "LEN"; walk_at "LEN"; k_whole; intro _ _)))
local macro_rules | `(tactic| walk_at "binaryOp Add str str") => `(tactic| (k_here; k_dflt ((with_reducible refine' add_own ?_ ?_); walk_at "LEN"; k_whole; intro _ _)))
local macro_rules | `(tactic| walk_at "SUB") => `(tactic| first | exact List.forall_mem_nil _ | (refine' List.forall_mem_cons.mpr ⟨?a, ?b⟩; (case a => first | walk_at "MEMR" | k_mem); (case b => walk_at "SUB")) | (intro _ _; walk_at "TAIL"))
local macro_rules | `(tactic| walk_at "TAIL") => `(tactic| first | assumption | exact List.mem_append_left _ (by assumption) | (refine List.Mem.tail _ ?_; walk_at "TAIL"))
local macro_rules | `(tactic| walk_at "call type:range") => `(tactic| (k_here; (rename Fr _ _ _ _ => F'); (rename News _ _ _ _ => N'); first | (with_unfolding_all refine range1_rows F' N' ?_; intro _ _ _ _ _ _ _ _ _) | (with_unfolding_all refine range2_rows F' N' ?_; intro _ _ _ _ _ _ _ _ _)))
local macro_rules | `(tactic| walk_at "LIST") => `(tactic| first | exact Heap.IsList.at (by with_reducible assumption) (fun o e => Fr.keep (by k_asm) _ o e) | exact News.isList (by k_asm) (by k_mem))
local macro_rules | `(tactic| walk_at "ITEM") => `(tactic| (k_here; (with_reducible show wpAny _ _ (subscriptTail _ _ (Value.ref _) (Value.int _ _)) _ _ _); (with_unfolding_all refine' item_own ?k1 ?k2 ?k3 ?k4 ?_ ?k6; (case k1 => walk_at "LIST"); (case k4 => first | with_reducible assumption | with_unfolding_all rfl | assumption); (case k2 => walk_at "O"); (case k3 => walk_at "O"); (case k6 => with_unfolding_all rfl); k_whole)))
local macro_rules | `(tactic| walk_at "subscriptTail") => `(tactic| walk_at "ITEM")
local macro_rules | `(tactic| walk_at "MEMR") => `(tactic| first | with_reducible exact List.Mem.head _ | (refine List.Mem.tail _ ?_; walk_at "MEMR"))
local macro_rules | `(tactic| walk_at "NES") => `(tactic| first | exact List.forall_mem_nil _ | (refine' List.forall_mem_cons.mpr ⟨?a, ?b⟩; (case a => k_ne); (case b => walk_at "NES")))
local macro_rules | `(tactic| k_updF) => `(tactic| first | ((with_reducible refine' UpdF.head ?a); (case a => walk_at "NES")) | (refine' UpdF.tail ?a ?b; (case a => k_ne); (case b => k_updF)))
local macro_rules | `(tactic| walk_at "A") => `(tactic| first | with_reducible assumption | ((with_reducible first | apply VecAt.at | apply DictAt.at | apply LayIs.at | apply LayAt.at | apply PartAt.at | apply IntsL.at | apply StrsL.at | apply OptL.at); (with_reducible assumption); exact Fr.keep (by k_asm)) | walk_at "LIST" | exact News.get (by k_asm) (by k_mem) | walk_at "LEN" | assumption)
local macro_rules | `(tactic| walk_at "R") => `(tactic| (with_reducible apply r_eq))
local macro_rules | `(tactic| walk_at "R") => `(tactic| ((with_reducible apply r_strs); intro _ _ _ _ _ q9; (try k_lt q9)))
local macro_rules | `(tactic| walk_at "call ref") => `(tactic| (k_here; k_dflt (apply says_useN; walk_at "S"; walk_at "USE"; k_whole; intro _ _ _ _ _ _; walk_at "R"; (try dsimp only))))
local macro_rules | `(tactic| walk_at "call ref") => `(tactic| (k_here; k_dflt (apply says_useT; walk_at "S"; walk_at "USE"; k_whole; intro _ _ _ _ _ _; (try dsimp only))))
section
section
theorem esc_says (c : Nat) (b : Bool) (t1 : Tok) (h : Heap) (h1 : 48 ≤ c) (h2 : c < 123) (h3 : c ≠ 92) : Says w p loose mean mg mb 1 227 [] [.str ⟨#[c]⟩ t1, .bool b] h (fun v _ => ∃ tk, v = .str ⟨#[c]⟩ tk) := by
  have e1 : (Str.mk #[c] == Str.ofString "\\") = false := by
    rw [show Str.ofString "\\" = Str.mk #[92] from by decide +kernel]
    simp; walk_at "O"
  have e2 : (Str.mk #[c] == Str.ofString "\"") = false := by
    rw [show Str.ofString "\"" = Str.mk #[34] from by decide +kernel]
    simp; walk_at "O"
  refine' enter0 [("char", .str ⟨#[c]⟩ t1), ("quote", .bool b)] ?k6 ?k7 ?k9 ?kB ?c2 ?c3 ?c4 ?c5 ?_
  walk_at "ENTER"
  intro dp un gd outer A base g h₁ L s hg F' N' B' X' T' hd hu
  (try dsimp only); k_fold; walk_at "STEPS"
  all_goals (try (exfalso; simp_all; done))
  all_goals (try (exfalso; walk_at "O"))
  all_goals (dsimp only; exact Ret.intro (by k_asm) ⟨_, rfl⟩)
theorem enc_says (st : Str) (b : Bool) (t1 : Tok) (h : Heap) (hp : pStr st) (hl : st.length ≤ 100) : Says w p loose mean mg mb 3 232 [] [.str st t1, .bool b] h (fun v _ => ∃ tk, v = .str (if b then Str.ofString "\"" ++ st ++ Str.ofString "\"" else st) tk) := by
  refine' enterC [("s", .str st t1), ("quote", .bool b)] ?k6 ?k7 ?k9 ?kB ?kD ?c2 ?c3 ?c4 ?_
  walk_at "ENTERC"
  intro dp un gd outer A base g h₁ L s cells hg F' N' hY B' X' T' hd hu
  k_cells hY
  walk_at "GO"
  refine lc_core F' (cl := [("quote", L + 1)]) (fun a y => ∃ c tk, a = .str ⟨#[c]⟩ tk ∧ ∃ tk', y = .str ⟨#[c]⟩ tk') (by rfl) (by decide) (by rfl) (by decide) (by rfl) ?_ (by intro _; rfl)
  walk_at "GO"
  refine LcSrc.str rfl (by rw [sizeLine_eq]; exact Nat.le_trans hl (by walk_at "O")) (by k_asm) (by k_asm) ?_ ?_
  · rintro i v ⟨c, tk, hc, rfl⟩ C s₂ m₂ hC hns hm hk
    walk_at "GO"
    apply says_use
    refine' esc_says c b tk _ ?_ ?_ ?_
    · exact (hp c (by rw [Array.getElem?_eq_some_iff] at hc; obtain ⟨_, e⟩ := hc; rw [← e]; simp)).1
    · exact (hp c (by rw [Array.getElem?_eq_some_iff] at hc; obtain ⟨_, e⟩ := hc; rw [← e]; simp)).2.1
    · exact (hp c (by rw [Array.getElem?_eq_some_iff] at hc; obtain ⟨_, e⟩ := hc; rw [← e]; simp)).2.2
    walk_at "USE"
    rintro v9 h9 tk9 F9 N9 k9 ⟨tk', rfl⟩
    exact ⟨⟨c, tk, rfl, _, rfl⟩, _, _, rfl, k9⟩
  · intro D k ys h' tk F1 N1 k1 hD hP
    have hS : StrsAre ys (signs st) := by
      refine strsAre_of_pl ⟨by rw [hP.1]; simp [signs], fun j y hy t ht => ?_⟩
      refine hide ?_; intro hG9
      obtain ⟨v, ⟨c, u, hc, rfl⟩, c', tk', e, tk2, rfl⟩ := hP.2 j y hy
      refine hG9 ?_; clear hG9
      cases e
      refine ⟨tk2, ?_⟩
      have : some t = some ⟨#[c]⟩ := by rw [← ht]; simp [signs, hc]
      cases this; rfl
    have hL : (cat (signs st)).length ≤ 1000000 := by rw [cat_signs]; walk_at "O"
    walk_at "GO"
    all_goals rw [cat_signs] at *
    all_goals walk_at "END"
    · rename b = true => hb; subst hb; exact ⟨_, rfl⟩
    · rename b = false => hb; subst hb; exact ⟨_, rfl⟩
end
end
section
section
theorem ofString_append (a b : String) : Str.ofString (a ++ b) = Str.ofString a ++ Str.ofString b := by
  refine Str.ext' (Array.toList_inj.mp ?_)
  rw [Str.cps_append, Str.ofString_eq_toList, Str.ofString_eq_toList, Str.ofString_eq_toList]
  simp [String.toList_append]
theorem neg_text {n : Int} (h : n < 0) : Str.ofString (toString n) = Str.ofString "-" ++ Str.ofString (toString (-n)) := by
  obtain ⟨m, rfl⟩ : ∃ m : Nat, n = Int.negSucc m := ⟨(-n - 1).toNat, by walk_at "O"⟩
  rw [← ofString_append]; rfl
theorem whole_says (n : Int) (t1 : Tok) (h : Heap) (hn : -10000000 < n) (hn' : n < 10000000) : Says w p loose mean mg mb 1 66 [] [.int n t1] h (fun v _ => ∃ tk, v = .str (Str.ofString (toString n)) tk) := by
  have hlen := len_int (if n < 0 then -n else n) (by split <;> walk_at "O") (by split <;> walk_at "O")
  have hdash : (Str.ofString "-").length = 1 := by decide +kernel
  refine' enter0 [("n", .int n t1)] ?k6 ?k7 ?k9 ?kB ?c2 ?c3 ?c4 ?c5 ?_
  walk_at "ENTER"
  intro dp un gd outer A base g h₁ L s hg F' N' B' X' T' hd hu
  walk_at "GO"
  refine while_false (by with_unfolding_all passes_own) ?_
  walk_at "GO"
  refine ⟨by simp; walk_at "O", ?_⟩
  walk_at "GO"
  all_goals walk_at "END"
  · rename n < 0 => hz
    refine ⟨_, congrArg (Value.str · _) ?_⟩
    rw [cat_cons, cat_cons, cat_nil, Str.append_empty, if_pos hz, ← neg_text hz]
  · rename ¬ n < 0 => hz
    refine ⟨_, congrArg (Value.str · _) ?_⟩
    rw [cat_cons, cat_nil, Str.append_empty, if_neg hz]
end
end
section
local macro_rules | `(tactic| walk_at "S") => `(tactic| first | (apply whole_says <;> walk_at "A") | fail)
local macro_rules | `(tactic| walk_at "S") => `(tactic| first | (apply enc_says <;> walk_at "A") | fail)
section
local macro_rules | `(tactic| k_room) => `(tactic| ktr_room)
abbrev T3 := (Kd) × (It) × (Tok) × (Tok) × (Tok) × (Heap)
def S3 (t : T3) : Prop := ∀ (ho : okIt (t.1) (t.2.1)), Says w p loose mean mg mb 5 254 [] [.str (t.1).str (t.2.2.1), (t.2.1).val (t.2.2.2.1), .int 7 (t.2.2.2.2.1), .bool true] (t.2.2.2.2.2) (fun v _ => ∃ tk, v = .str (shown (t.1) (t.2.1)) tk)
def d3 : T3 := ((.int : Kd), (.na : It), (0 : Tok), (0 : Tok), (0 : Tok), (default : Heap))
@[irreducible] noncomputable def c3 : T3 := epsC d3 S3
@[irreducible] noncomputable def c3_kd : Kd := c3.1
@[irreducible] noncomputable def c3_it : It := c3.2.1
@[irreducible] noncomputable def c3_t1 : Tok := c3.2.2.1
@[irreducible] noncomputable def c3_t2 : Tok := c3.2.2.2.1
@[irreducible] noncomputable def c3_t3 : Tok := c3.2.2.2.2.1
@[irreducible] noncomputable def c3_h : Heap := c3.2.2.2.2.2
@[irreducible] noncomputable def e3 : Par := epsC parD (Body0F w p loose mean mg mb [("kind", .str c3_kd.str c3_t1), ("item", c3_it.val c3_t2), ("digits", .int 7 c3_t3), ("quote", .bool true)] 4 254 c3_h (fun v _ => ∃ tk, v = .str (shown c3_kd c3_it) tk))
theorem fmt_says_c : S3 c3 := by
  with_unfolding_all show ∀ (ho : okIt c3_kd c3_it), Says w p loose mean mg mb 5 254 [] [.str c3_kd.str c3_t1, c3_it.val c3_t2, .int 7 c3_t3, .bool true] c3_h (fun v _ => ∃ tk, v = .str (shown c3_kd c3_it) tk)
  intro ho
  refine' enter0 [("kind", .str c3_kd.str c3_t1), ("item", c3_it.val c3_t2), ("digits", .int 7 c3_t3), ("quote", .bool true)] ?k6 ?k7 ?k9 ?kB ?c2 ?c3 ?c4 ?c5 (body0_all e3 ?hE ?hK ?_)
  case hE => with_unfolding_all rfl
  walk_at "ENTER"
  case hK => k_is
  intro hg F' N' B' X' T' hd hu
  generalize hq_kd : c3_kd = kd at *
  generalize hq_it : c3_it = it at *
  cases kd <;> cases it <;> first | exact ho.elim | skip
  all_goals dsimp only [Kd.str, It.val] at *
  · walk_at "GO"; walk_at "END"; exact ⟨_, rfl⟩
  · obtain ⟨o1, o2⟩ := ho; walk_at "GO"; walk_at "END"; exact ⟨_, rfl⟩
  · walk_at "GO"; walk_at "END"; exact ⟨_, rfl⟩
  · obtain ⟨o1, o2⟩ := ho; walk_at "GO"; walk_at "END"; exact ⟨_, rfl⟩
  · walk_at "GO"; walk_at "END"; exact ⟨_, rfl⟩
  · rename Int => i
    walk_at "GO"
    all_goals walk_at "END"
    · rename i = 1 => hi; exact ⟨_, by rw [show shown Kd.lgl (It.int i) = Str.ofString "TRUE" from if_pos hi]⟩
    · rename i ≠ 1 => hi; exact ⟨_, by rw [show shown Kd.lgl (It.int i) = Str.ofString "FALSE" from if_neg hi]⟩
theorem fmt_says (kd : Kd) (it : It) (t1 t2 t3 : Tok) (h : Heap) (ho : okIt kd it) :
    Says w p loose mean mg mb 5 254 [] [.str kd.str t1, it.val t2, .int 7 t3, .bool true] h (fun v _ => ∃ tk, v = .str (shown kd it) tk) :=
  epsA d3 (P := S3) (c := c3) (by with_unfolding_all rfl) fmt_says_c (kd, it, t1, t2, t3, h) ho
end
section
local macro_rules | `(tactic| walk_at "S") => `(tactic| first | (apply fmt_says <;> walk_at "A") | fail)
theorem its_says (x l : Addr) (kd : Kd) (vs : List Value) (its : List It) (av : Value) (t1 : Tok) (h : Heap) (hx : VecAt w h x kd.str l av) (hl : h.IsList l vs.toArray) (hv : ItsAre vs its) (ho : ∀ it ∈ its, okIt kd it) (hn : its.length ≤ 100) :
    Says w p loose mean mg mb 7 260 [] [.ref x, .int 7 t1, .bool true] h (fun v h' => NewStrs h h' v (its.map (shown kd))) := by
  refine hide ?_; intro hG9
  obtain ⟨dx, sl, n, u0, u1, u2, u3, u4, tk, b1, b2, hx, hdx⟩ := hx
  refine hG9 ?_; clear hG9
  have e1 : (kd.str == Str.ofString "double") = false := by cases kd <;> decide +kernel
  refine' enterC [("v", .ref x), ("digits", .int 7 t1), ("quote", .bool true)] ?k6 ?k7 ?k9 ?kB ?kD ?c2 ?c3 ?c4 ?_
  walk_at "ENTERC"
  intro dp un gd outer A base g h₁ L s cells hg F' N' hY B' X' T' hd hu
  replace hx := hg _ _ hx
  replace hdx := hg _ _ hdx
  have hl' : g.IsList l vs.toArray := stays_list hg hl
  k_cells hY
  walk_at "GO"
  · refine LCg.ListComp_U (by k_asm) (by rfl) (by decide) (by rfl) (by decide) (by rfl) ?_ (by intro _; rfl)
    walk_at "GO"
    refine LCg.CompSrc.base rfl (by k_asm) (by k_asm) hl' (by rw [sizeLine_eq]; simp [hv.1]; walk_at "O") ?_
    intro hg'
    refine compRest_pure (fun i y => ∃ it tk, its[i]? = some it ∧ y = .str (shown kd it) tk) (.inl hl') ?_ ?_
    · intro i ys v I oI C oC D m₂ h' tk' E' hi hP hC hm F N
      refine hide ?_; intro hG9
      obtain ⟨it, tv, hit, rfl⟩ := hv.2 i v (by simpa using hP)
      refine hG9 ?_; clear hG9
      have hok := ho it (List.mem_of_getElem? hit)
      walk_at "GO"
      exact EltPost.intro (by k_asm) (by k_asm) ⟨it, _, hit, rfl⟩
    · intro ys hp D h' tk' F1 N1 O1
      walk_at "GO"
      walk_at "END"
      refine newStrs_news hg N1 (.head _) (strsAre_of_pl ⟨by rw [hp.1]; simp [hv.1], fun j y hy t ht => ?_⟩)
      refine hide ?_; intro hG9
      obtain ⟨it, tk, h1, rfl⟩ := hp.2 j y hy
      refine hG9 ?_; clear hG9
      rw [List.getElem?_map, h1] at ht
      cases ht; exact ⟨_, rfl⟩
end
section
theorem names_says (l : Addr) (vs : List Value) (ts : List Str) (h : Heap) (hl : h.IsList l vs.toArray) (hv : StrsAre vs ts) (hp : ∀ t ∈ ts, pStr t ∧ t.length ≤ 20) (hn : ts.length ≤ 100) : Says w p loose mean mg mb 5 319 [] [.ref l] h (fun v h' => NewStrs h h' v ts) := by
  refine' enter0 [("names", .ref l)] ?k6 ?k7 ?k9 ?kB ?c2 ?c3 ?c4 ?c5 ?_
  walk_at "ENTER"
  intro dp un gd outer A base g h₁ L s hg F' N' B' X' T' hd hu
  have hl' : g.IsList l vs.toArray := stays_list hg hl
  walk_at "GO"
  refine LCg.ListComp_U (by k_asm) (by rfl) (by decide) (by rfl) (by decide) (by rfl) ?_ (by intro _; rfl)
  walk_at "GO"
  refine LCg.CompSrc.base rfl (by k_asm) (by k_asm) hl' (by rw [sizeLine_eq]; simp [strsAre_length hv]; walk_at "O") ?_
  intro hg'
  refine compRest_pure (fun i y => ∃ t tk, ts[i]? = some t ∧ y = .str t tk) (.inl hl') ?_ ?_
  · intro i ys v I oI C oC D m₂ h' tk' E' hi hP hC hm F N
    refine hide ?_; intro hG9
    obtain ⟨t, tk, ht, rfl⟩ := strsAre_get hv (show vs[i]? = some v by simpa using hP)
    refine hG9 ?_; clear hG9
    obtain ⟨hp1, hp2⟩ := hp t (List.mem_of_getElem? ht)
    walk_at "GO"
    exact EltPost.intro (by k_asm) (by k_asm) ⟨t, _, ht, rfl⟩
  · intro ys hp D h' tk' F1 N1 O1
    walk_at "GO"
    walk_at "END"
    refine newStrs_news hg N1 (.head _) (strsAre_of_pl ⟨by rw [hp.1]; simp [strsAre_length hv], fun j y hy t ht => ?_⟩)
    refine hide ?_; intro hG9
    obtain ⟨t', tk, h1, rfl⟩ := hp.2 j y hy
    refine hG9 ?_; clear hG9
    rw [h1] at ht
    cases ht; exact ⟨_, rfl⟩
theorem names_none_says (h : Heap) : Says w p loose mean mg mb 5 319 [] [.none] h (fun v h' => v = .none) := by
  refine' enter0 [("names", .none)] ?k6 ?k7 ?k9 ?kB ?c2 ?c3 ?c4 ?c5 ?_
  walk_at "ENTER"
  intro dp un gd outer A base g h₁ L s hg F' N' B' X' T' hd hu
  walk_at "GO"
  walk_at "END"
  rfl
end
end
section
section
abbrev T26 := (Addr) × (Addr) × (Kd) × (Heap)
def S26 (t : T26) : Prop := ∀ (hx : VecAt w (t.2.2.2) (t.1) (t.2.2.1).str (t.2.1) .none), Says w p loose mean mg mb 1 220 [] [.ref (t.1)] (t.2.2.2) (fun v h' => v = .bool true)
def d26 : T26 := ((0 : Addr), (0 : Addr), (.int : Kd), (default : Heap))
@[irreducible] noncomputable def c26 : T26 := epsC d26 S26
@[irreducible] noncomputable def c26_x : Addr := c26.1
@[irreducible] noncomputable def c26_l : Addr := c26.2.1
@[irreducible] noncomputable def c26_kd : Kd := c26.2.2.1
@[irreducible] noncomputable def c26_h : Heap := c26.2.2.2
@[irreducible] noncomputable def e26 : Par := epsC parD (Body0F w p loose mean mg mb [("v", .ref c26_x)] 0 220 c26_h (fun v h' => v = .bool true))
theorem atomic_says_c : S26 c26 := by
  with_unfolding_all show ∀ (hx : VecAt w c26_h c26_x c26_kd.str c26_l .none), Says w p loose mean mg mb 1 220 [] [.ref c26_x] c26_h (fun v h' => v = .bool true)
  intro hx
  refine' enter0 [("v", .ref c26_x)] ?k6 ?k7 ?k9 ?kB ?c2 ?c3 ?c4 ?c5 (body0_all e26 ?hE ?hK ?_)
  case hE => with_unfolding_all rfl
  walk_at "ENTER"
  case hK => k_is
  intro hg F' N' B' X' T' hd hu
  generalize hq_kd : c26_kd = kd at *
  replace hx := hx.at hg
  refine hide ?_; intro hG9
  obtain ⟨ddx, dsl, dn, u0, u1, u2, u3, u4, tk, b1, b2, hdx1, hdx2⟩ := hx
  refine hG9 ?_; clear hG9
  cases kd
  · walk_at "GO"
    walk_at "END"
    rfl
  · walk_at "GO"
    walk_at "END"
    rfl
  · walk_at "GO"
    walk_at "END"
    rfl
theorem atomic_says (x l : Addr) (kd : Kd) (h : Heap) (hx : VecAt w h x kd.str l .none) :
    Says w p loose mean mg mb 1 220 [] [.ref x] h (fun v h' => v = .bool true) :=
  epsA d26 (P := S26) (c := c26) (by with_unfolding_all rfl) atomic_says_c (x, l, kd, h) hx
end
end
section
section
local macro_rules | `(tactic| k_room) => `(tactic| ktr_room)
local macro_rules | `(tactic| walk_at "A") => `(tactic| exact vecAt_news (by k_asm) (by k_mem) (by k_mem))
local macro_rules | `(tactic| walk_at "S") => `(tactic| first | (apply its_says <;> walk_at "A") | fail)
local macro_rules | `(tactic| walk_at "S") => `(tactic| first | (apply atomic_says <;> walk_at "A") | fail)
abbrev T5 := (Addr) × (Kd) × (List Value) × (List It) × (Tok) × (Tok) × (Heap)
def S5 (t : T5) : Prop := ∀ (hl : (t.2.2.2.2.2.2).IsList (t.1) (t.2.2.1).toArray) (hv : ItsAre (t.2.2.1) (t.2.2.2.1)) (ho : ∀ it ∈ (t.2.2.2.1), okIt (t.2.1) it) (hn : (t.2.2.2.1).length ≤ 100), Says w p loose mean mg mb 10 375 [] [.str (t.2.1).str (t.2.2.2.2.1), .ref (t.1), .bool true, .int 7 (t.2.2.2.2.2.1)] (t.2.2.2.2.2.2) (fun v h' => NewStrs (t.2.2.2.2.2.2) h' v ((t.2.2.2.1).map (shown (t.2.1))))
def d5 : T5 := ((0 : Addr), (.int : Kd), ([] : List Value), ([] : List It), (0 : Tok), (0 : Tok), (default : Heap))
@[irreducible] noncomputable def c5 : T5 := epsC d5 S5
@[irreducible] noncomputable def c5_l : Addr := c5.1
@[irreducible] noncomputable def c5_kd : Kd := c5.2.1
@[irreducible] noncomputable def c5_vs : List Value := c5.2.2.1
@[irreducible] noncomputable def c5_its : List It := c5.2.2.2.1
@[irreducible] noncomputable def c5_t1 : Tok := c5.2.2.2.2.1
@[irreducible] noncomputable def c5_t2 : Tok := c5.2.2.2.2.2.1
@[irreducible] noncomputable def c5_h : Heap := c5.2.2.2.2.2.2
@[irreducible] noncomputable def e5 : Par := epsC parD (Body0F w p loose mean mg mb [("kind", .str c5_kd.str c5_t1), ("items", .ref c5_l), ("quote", .bool true), ("digits", .int 7 c5_t2)] 9 375 c5_h (fun v h' => NewStrs c5_h h' v (c5_its.map (shown c5_kd))))
theorem cell_says_c : S5 c5 := by
  with_unfolding_all show ∀ (hl : c5_h.IsList c5_l c5_vs.toArray) (hv : ItsAre c5_vs c5_its) (ho : ∀ it ∈ c5_its, okIt c5_kd it) (hn : c5_its.length ≤ 100), Says w p loose mean mg mb 10 375 [] [.str c5_kd.str c5_t1, .ref c5_l, .bool true, .int 7 c5_t2] c5_h (fun v h' => NewStrs c5_h h' v (c5_its.map (shown c5_kd)))
  intro hl hv ho hn
  refine' enter0 [("kind", .str c5_kd.str c5_t1), ("items", .ref c5_l), ("quote", .bool true), ("digits", .int 7 c5_t2)] ?k6 ?k7 ?k9 ?kB ?c2 ?c3 ?c4 ?c5 (body0_all e5 ?hE ?hK ?_)
  case hE => with_unfolding_all rfl
  walk_at "ENTER"
  case hK => k_is
  intro hg F' N' B' X' T' hd hu
  have hl' : e5.g.IsList c5_l c5_vs.toArray := stays_list hg hl
  walk_at "GO"
  walk_at "END"
  exact newStrs_news hg (by k_asm) (.head _) (by with_reducible assumption)
theorem cell_says (l : Addr) (kd : Kd) (vs : List Value) (its : List It) (t1 t2 : Tok) (h : Heap) (hl : h.IsList l vs.toArray) (hv : ItsAre vs its) (ho : ∀ it ∈ its, okIt kd it) (hn : its.length ≤ 100) :
    Says w p loose mean mg mb 10 375 [] [.str kd.str t1, .ref l, .bool true, .int 7 t2] h (fun v h' => NewStrs h h' v (its.map (shown kd))) :=
  epsA d5 (P := S5) (c := c5) (by with_unfolding_all rfl) cell_says_c (l, kd, vs, its, t1, t2, h) hl hv ho hn
end
end
section
section
theorem offset_says (x : Addr) (R : Int) (cols : Addr) (rn cn : Option Addr) (b : Bool) (h : Heap) (hl : LayAt w h x R cols rn cn b) : Says w p loose mean mg mb 1 326 [] [.ref x] h (fun v _ => ∃ tk, v = .int 0 tk) := by
  refine hide ?_; intro hG9
  obtain ⟨dx, sl, n, t0, t1, t2, t3, t4, t5, t6, tr, hx, hdx⟩ := hl
  refine hG9 ?_; clear hG9
  refine' enter0 [("layout", .ref x)] ?k6 ?k7 ?k9 ?kB ?c2 ?c3 ?c4 ?c5 ?_
  walk_at "ENTER"
  intro dp un gd outer A base g h₁ L s hg F' N' B' X' T' hd hu
  replace hx := hg _ _ hx
  replace hdx := hg _ _ hdx
  walk_at "GO"
  all_goals (dsimp only; exact Ret.intro (by k_asm) ⟨_, rfl⟩)
theorem widest_says (l : Addr) (vs : List Value) (ts : List Str) (h : Heap) (hl : h.IsList l vs.toArray) (hv : StrsAre vs ts) (hs : ∀ t ∈ ts, t.length ≤ 1000) : Says w p loose mean mg mb 1 267 [] [.ref l] h (fun v _ => ∃ tk, v = .int (wide ts) tk) := by
  refine' enter0 [("texts", .ref l)] ?k6 ?k7 ?k9 ?kB ?c2 ?c3 ?c4 ?c5 ?_
  walk_at "ENTER"
  intro dp un gd outer A base g h₁ L s hg F' N' B' X' T' hd hu
  have hl' : g.IsList l vs.toArray := stays_list hg hl
  walk_at "GO"
  refine For_invV g (by rfl) (by rfl) ?_ (by intro _; rfl) (by with_unfolding_all passes_own)
  walk_at "STEPS"
  refine iter_list (m₀ := _) (news := []) (fun i m nw => nw = [] ∧ (∃ tk, m (Str.ofString "found") = some (.int (wide (ts.take i)) tk))) (by rfl) hl' (by k_asm) (by k_asm) ⟨⟨rfl, _, rfl⟩, by simp⟩ ?_ ?_
  · rintro I i v o m₁ news₁ h' tk hv' ⟨rfl, tk1, hm⟩ hne F₁ N₁
    refine hide ?_; intro hG9
    obtain ⟨t, tk2, ht, rfl⟩ := strsAre_get hv hv'
    refine hG9 ?_; clear hG9
    have hlen := hs t (List.mem_of_getElem? ht)
    walk_at "GO"
    refine TurnPost.intro (by k_asm) (by k_asm) (by simp) ⟨rfl, ?_⟩
    rw [wide_take ht]
    exact ⟨_, by walk_at "LOOK"⟩
  · rintro m₁ news₁ h' tk ⟨rfl, tk1, hm⟩ F₁ N₁
    rw [List.take_of_length_le (by rw [strsAre_length hv]; exact Nat.le_refl _)] at hm
    walk_at "GO"
    all_goals (dsimp only; exact Ret.intro (by k_asm) ⟨_, rfl⟩)
theorem padded_says (tx : Str) (n : Int) (b : Bool) (t1 t2 : Tok) (h : Heap) (hl : tx.length ≤ 1000) (h1 : -1000 ≤ n) (h2 : n ≤ 1000) : Says w p loose mean mg mb 1 354 [] [.str tx t1, .int n t2, .bool b] h (fun v _ => ∃ tk, v = .str (pad tx n b) tk) := by
  refine' enter0 [("text", .str tx t1), ("width", .int n t2), ("to_left", .bool b)] ?k6 ?k7 ?k9 ?kB ?c2 ?c3 ?c4 ?c5 ?_
  walk_at "ENTER"
  intro dp un gd outer A base g h₁ L s hg F' N' B' X' T' hd hu
  have hsp : (Str.ofString " ").length = 1 := by decide +kernel
  have hf1 := len_fill_le (n := n) (b := true) hl (by walk_at "O")
  have hf2 := len_fill_le (n := n) (b := false) hl (by walk_at "O")
  walk_at "GO"
  all_goals walk_at "END"
  · rename b = true => hb; subst hb; exact ⟨_, by rw [show spc (Int.toNat 1) = Str.ofString " " from by decide +kernel]; rfl⟩
  · rename b = false => hb; subst hb; exact ⟨_, by rw [show spc (Int.toNat 1) = Str.ofString " " from by decide +kernel]; rfl⟩
theorem head_says (x : Addr) (D : LayD) (i : Nat) (v1 : Tok) (h : Heap) (hl : LayIs w h x D) (ok : D.ok) (hi : i < D.cols.length) : Says w p loose mean mg mb 1 347 [] [.ref x, .int i v1] h (fun v _ => ∃ tk, v = .str (head D.cn i) tk) := by
  refine hide ?_; intro hG9
  obtain ⟨ca, rna, cna, ⟨dx, sl, n, t0, t1, t2, t3, t4, t5, t6, tr, hx, hdx⟩, hc, hr, hn⟩ := hl
  refine hG9 ?_; clear hG9
  refine' enter0 [("layout", .ref x), ("place", .int i v1)] ?k6 ?k7 ?k9 ?kB ?c2 ?c3 ?c4 ?c5 ?_
  walk_at "ENTER"
  intro dp un gd outer A base g h₁ L s hg F' N' B' X' T' hd hu
  replace hx := hg _ _ hx
  replace hdx := hg _ _ hdx
  replace hn := hn.at hg
  have c7 := ok.c7
  unfold head
  cases hcn : D.cn <;> rw [hcn] at hn <;> cases cna <;> first | exact hn.elim | skip
  · dsimp only [optV] at hdx
    walk_at "GO"
    walk_at "END"
    exact ⟨_, rfl⟩
  · dsimp only [optV] at hdx
    rename List Str => l
    have hl := ok.nl l hcn
    refine hide ?_; intro hG9
    obtain ⟨vs, hl1, hv⟩ := hn
    refine hG9 ?_; clear hG9
    walk_at "GO"
    walk_at "END"
    exact ⟨_, rfl⟩
end
end
section
section
local macro_rules | `(tactic| walk_at "S") => `(tactic| first | (apply widest_says <;> walk_at "A") | fail)
local macro_rules | `(tactic| walk_at "S") => `(tactic| first | (apply offset_says <;> walk_at "A") | fail)
local macro_rules | `(tactic| walk_at "S") => `(tactic| first | (apply padded_says <;> walk_at "A") | fail)
local macro_rules | `(tactic| walk_at "S") => `(tactic| first | (apply head_says <;> walk_at "A") | fail)
theorem room_says (x : Addr) (D : LayD) (h : Heap) (hl : LayIs w h x D) (ok : D.ok) : Says w p loose mean mg mb 3 333 [] [.ref x] h (fun v _ => ∃ tk, v = .int (room D.rn) tk) := by
  refine hide ?_; intro hG9
  obtain ⟨ca, rna, cna, ⟨dx, sl, n, t0, t1, t2, t3, t4, t5, t6, tr, hx, hdx⟩, hc, hr, hn⟩ := hl
  refine hG9 ?_; clear hG9
  refine' enter0 [("layout", .ref x)] ?k6 ?k7 ?k9 ?kB ?c2 ?c3 ?c4 ?c5 ?_
  walk_at "ENTER"
  intro dp un gd outer A base g h₁ L s hg F' N' B' X' T' hd hu
  replace hx := hg _ _ hx
  replace hdx := hg _ _ hdx
  replace hr := hr.at hg
  have r1 := ok.r1
  have r4 := ok.r4
  have hlen : (Str.ofString (toString ((D.rows : Int) + 1))).length = 1 := len_digit (by walk_at "O") (by walk_at "O")
  unfold room
  cases hrn : D.rn <;> rw [hrn] at hr <;> cases rna <;> first | exact hr.elim | skip
  · dsimp only [optV] at hdx
    walk_at "GO"
    walk_at "END"
    exact ⟨_, by rw [hlen]; rfl⟩
  · dsimp only [optV] at hdx
    rename List Str => l
    refine hide ?_; intro hG9
    obtain ⟨vs, hl1, hv⟩ := hr
    refine hG9 ?_; clear hG9
    have hb : ∀ t ∈ l, t.length ≤ 1000 := fun t ht => by have := ok.rt l hrn t ht; walk_at "O"
    walk_at "GO"
    walk_at "END"
    exact ⟨_, rfl⟩
end
end
section
local macro_rules | `(tactic| walk_at "S") => `(tactic| first | (apply widest_says <;> walk_at "A") | fail)
local macro_rules | `(tactic| walk_at "S") => `(tactic| first | (apply offset_says <;> walk_at "A") | fail)
local macro_rules | `(tactic| walk_at "S") => `(tactic| first | (apply padded_says <;> walk_at "A") | fail)
local macro_rules | `(tactic| walk_at "S") => `(tactic| first | (apply head_says <;> walk_at "A") | fail)
local macro_rules | `(tactic| walk_at "S") => `(tactic| first | (apply room_says <;> walk_at "A") | fail)
section
abbrev T9 := (Addr) × (LayD) × (Nat) × (Tok) × (Heap)
def S9 (t : T9) : Prop := ∀ (hl : LayIs w (t.2.2.2.2) (t.1) (t.2.1)) (ok : (t.2.1).ok) (hi : (t.2.2.1) < (t.2.1).rows), Says w p loose mean mg mb 5 340 [] [.ref (t.1), .int (t.2.2.1) (t.2.2.2.1)] (t.2.2.2.2) (fun v _ => ∃ tk, v = .str (mark (t.2.1).rn (t.2.2.1)) tk)
def d9 : T9 := ((0 : Addr), (⟨0, [], none, none, false⟩ : LayD), (0 : Nat), (0 : Tok), (default : Heap))
@[irreducible] noncomputable def c9 : T9 := epsC d9 S9
@[irreducible] noncomputable def c9_x : Addr := c9.1
@[irreducible] noncomputable def c9_D : LayD := c9.2.1
@[irreducible] noncomputable def c9_i : Nat := c9.2.2.1
@[irreducible] noncomputable def c9_v1 : Tok := c9.2.2.2.1
@[irreducible] noncomputable def c9_h : Heap := c9.2.2.2.2
@[irreducible] noncomputable def e9 : Par := epsC parD (Body0F w p loose mean mg mb [("layout", .ref c9_x), ("place", .int c9_i c9_v1)] 4 340 c9_h (fun v _ => ∃ tk, v = .str (mark c9_D.rn c9_i) tk))
theorem mark_says_c : S9 c9 := by
  with_unfolding_all show ∀ (hl : LayIs w c9_h c9_x c9_D) (ok : c9_D.ok) (hi : c9_i < c9_D.rows), Says w p loose mean mg mb 5 340 [] [.ref c9_x, .int c9_i c9_v1] c9_h (fun v _ => ∃ tk, v = .str (mark c9_D.rn c9_i) tk)
  intro hl ok hi
  have hl0 := hl
  refine hide ?_; intro hG9
  obtain ⟨ca, rna, cna, hla, hc, hr, hn⟩ := hl
  refine hG9 ?_; clear hG9
  have hla0 := hla
  refine hide ?_; intro hG9
  obtain ⟨dx, sl, n, t0, t1, t2, t3, t4, t5, t6, tr, hx, hdx⟩ := hla
  refine hG9 ?_; clear hG9
  refine' enter0 [("layout", .ref c9_x), ("place", .int c9_i c9_v1)] ?k6 ?k7 ?k9 ?kB ?c2 ?c3 ?c4 ?c5 (body0_all e9 ?hE ?hK ?_)
  case hE => with_unfolding_all rfl
  walk_at "ENTER"
  case hK => k_is
  intro hg F' N' B' X' T' hd hu
  replace hl0 := hl0.at hg
  replace hla0 := hla0.at hg
  replace hx := hg _ _ hx
  replace hdx := hg _ _ hdx
  replace hr := hr.at hg
  have r1 := ok.r1
  have r4 := ok.r4
  obtain ⟨hro1, hro2⟩ := room_le ok
  have hdig : (Str.ofString (toString ((c9_i : Int) + 1))).length = 1 := len_digit (by walk_at "O") (by walk_at "O")
  unfold mark
  cases hrn : c9_D.rn <;> rw [hrn] at hr <;> cases rna <;> first | exact hr.elim | skip
  · dsimp only [optV] at hdx
    walk_at "GO"
    walk_at "END"
    refine ⟨_, congrArg (Value.str · _) ?_⟩
    rw [show spc (Int.toNat 0) = Str.empty from rfl, Str.empty_append, Str.empty_append, show room c9_D.rn = 4 from by rw [hrn]; rfl]
  · dsimp only [optV] at hdx
    rename List Str => l
    have hl := ok.rl l hrn
    have hgl := len_getD (i := ((c9_i : Int)).toNat) (ok.rt l hrn)
    refine hide ?_; intro hG9
    obtain ⟨vs, hl1, hv⟩ := hr
    refine hG9 ?_; clear hG9
    walk_at "GO"
    walk_at "END"
    refine ⟨_, congrArg (Value.str · _) ?_⟩
    rw [show spc (Int.toNat 0) = Str.empty from rfl, Str.empty_append, show room c9_D.rn = wide l from by rw [hrn]; rfl]
    rfl
theorem mark_says (x : Addr) (D : LayD) (i : Nat) (v1 : Tok) (h : Heap) (hl : LayIs w h x D) (ok : D.ok) (hi : i < D.rows) :
    Says w p loose mean mg mb 5 340 [] [.ref x, .int i v1] h (fun v _ => ∃ tk, v = .str (mark D.rn i) tk) :=
  epsA d9 (P := S9) (c := c9) (by with_unfolding_all rfl) mark_says_c (x, D, i, v1, h) hl ok hi
end
section
local macro_rules | `(tactic| walk_at "call builtin:list.append") => `(tactic| (k_here; k_dflt (apply append_own; k_asm; k_asm; k_upd; (first | with_reducible assumption | exact Nat.zero_le _ | (simp; done)); k_whole); intro h' F' N'; (try k_sweep)))
local macro_rules | `(tactic| walk_at "S") => `(tactic| first | (apply mark_says <;> walk_at "A") | fail)
abbrev T10 := (Addr) × (Addr) × (LayD) × (List Int) × (Nat) × (Nat) × (Tok) × (Tok) × (Heap) × (Addr) × (Option Addr) × (Option Addr) × (Addr) × (Array (Option Value)) × (Nat) × (Tok) × (Tok) × (Tok) × (Tok) × (Tok) × (Tok) × (Tok) × (Tok)
def S10 (t : T10) : Prop := ∀ (hl0 : LayIs w (t.2.2.2.2.2.2.2.2.1) (t.1) (t.2.2.1)) (ok : (t.2.2.1).ok) (hw : IntsL (t.2.2.2.2.2.2.2.2.1) (t.2.1) (t.2.2.2.1)) (hwn : (t.2.2.2.1).length = (t.2.2.1).cols.length) (hwb : ∀ z ∈ (t.2.2.2.1), 0 ≤ z ∧ z ≤ 20) (hbe : (t.2.2.2.2.1) ≤ (t.2.2.2.2.2.1)) (he : (t.2.2.2.2.2.1) ≤ (t.2.2.1).cols.length) (hla0 : LayAt w (t.2.2.2.2.2.2.2.2.1) (t.1) (t.2.2.1).rows (t.2.2.2.2.2.2.2.2.2.1) (t.2.2.2.2.2.2.2.2.2.2.1) (t.2.2.2.2.2.2.2.2.2.2.2.1) (t.2.2.1).left) (hc : ColsAt (t.2.2.2.2.2.2.2.2.1) (t.2.2.2.2.2.2.2.2.2.1) (t.2.2.1).cols) (hr : OptL (t.2.2.2.2.2.2.2.2.1) (t.2.2.2.2.2.2.2.2.2.2.1) (t.2.2.1).rn) (hn : OptL (t.2.2.2.2.2.2.2.2.1) (t.2.2.2.2.2.2.2.2.2.2.2.1) (t.2.2.1).cn) (hx : (t.2.2.2.2.2.2.2.2.1).get? (t.1) = some ⟨.ref 310, some (t.2.2.2.2.2.2.2.2.2.2.2.2.1), .plain, (t.2.2.2.2.2.2.2.2.2.2.2.2.2.1)⟩) (hdx : (t.2.2.2.2.2.2.2.2.1).get? (t.2.2.2.2.2.2.2.2.2.2.2.2.1) = some (dictOf [ent w "rows" (t.2.2.2.2.2.2.2.2.2.2.2.2.2.2.2.1) (.int (t.2.2.1).rows (t.2.2.2.2.2.2.2.2.2.2.2.2.2.2.2.2.2.2.2.2.2.2)), ent w "columns" (t.2.2.2.2.2.2.2.2.2.2.2.2.2.2.2.2.1) (.ref (t.2.2.2.2.2.2.2.2.2.1)), ent w "row_names" (t.2.2.2.2.2.2.2.2.2.2.2.2.2.2.2.2.2.1) (optV (t.2.2.2.2.2.2.2.2.2.2.1)), ent w "column_names" (t.2.2.2.2.2.2.2.2.2.2.2.2.2.2.2.2.2.2.1) (optV (t.2.2.2.2.2.2.2.2.2.2.2.1)), ent w "row_title" (t.2.2.2.2.2.2.2.2.2.2.2.2.2.2.2.2.2.2.2.1) .none, ent w "column_title" (t.2.2.2.2.2.2.2.2.2.2.2.2.2.2.2.2.2.2.2.2.1) .none, ent w "to_left" (t.2.2.2.2.2.2.2.2.2.2.2.2.2.2.2.2.2.2.2.2.2.1) (.bool (t.2.2.1).left)] (t.2.2.2.2.2.2.2.2.2.2.2.2.2.2.1))), Says w p loose mean mg mb 7 361 [] [.ref (t.1), .ref (t.2.1), .int (t.2.2.2.2.1) (t.2.2.2.2.2.2.1), .int (t.2.2.2.2.2.1) (t.2.2.2.2.2.2.2.1)] (t.2.2.2.2.2.2.2.2.1) (fun v h' => ∃ a, v = .ref a ∧ StrsO h' a (block (t.2.2.1) (t.2.2.2.1) (t.2.2.2.2.1) ((t.2.2.2.2.2.1) - (t.2.2.2.2.1))))
def d10 : T10 := ((0 : Addr), (0 : Addr), (⟨0, [], none, none, false⟩ : LayD), ([] : List Int), (0 : Nat), (0 : Nat), (0 : Tok), (0 : Tok), (default : Heap), (0 : Addr), (none : Option Addr), (none : Option Addr), (0 : Addr), (#[] : Array (Option Value)), (0 : Nat), (0 : Tok), (0 : Tok), (0 : Tok), (0 : Tok), (0 : Tok), (0 : Tok), (0 : Tok), (0 : Tok))
@[irreducible] noncomputable def c10 : T10 := epsC d10 S10
@[irreducible] noncomputable def c10_x : Addr := c10.1
@[irreducible] noncomputable def c10_wl : Addr := c10.2.1
@[irreducible] noncomputable def c10_D : LayD := c10.2.2.1
@[irreducible] noncomputable def c10_ws : List Int := c10.2.2.2.1
@[irreducible] noncomputable def c10_b : Nat := c10.2.2.2.2.1
@[irreducible] noncomputable def c10_e : Nat := c10.2.2.2.2.2.1
@[irreducible] noncomputable def c10_v1 : Tok := c10.2.2.2.2.2.2.1
@[irreducible] noncomputable def c10_v2 : Tok := c10.2.2.2.2.2.2.2.1
@[irreducible] noncomputable def c10_h : Heap := c10.2.2.2.2.2.2.2.2.1
@[irreducible] noncomputable def c10_ca : Addr := c10.2.2.2.2.2.2.2.2.2.1
@[irreducible] noncomputable def c10_rna : Option Addr := c10.2.2.2.2.2.2.2.2.2.2.1
@[irreducible] noncomputable def c10_cna : Option Addr := c10.2.2.2.2.2.2.2.2.2.2.2.1
@[irreducible] noncomputable def c10_dx : Addr := c10.2.2.2.2.2.2.2.2.2.2.2.2.1
@[irreducible] noncomputable def c10_sl : Array (Option Value) := c10.2.2.2.2.2.2.2.2.2.2.2.2.2.1
@[irreducible] noncomputable def c10_n : Nat := c10.2.2.2.2.2.2.2.2.2.2.2.2.2.2.1
@[irreducible] noncomputable def c10_t0 : Tok := c10.2.2.2.2.2.2.2.2.2.2.2.2.2.2.2.1
@[irreducible] noncomputable def c10_t1 : Tok := c10.2.2.2.2.2.2.2.2.2.2.2.2.2.2.2.2.1
@[irreducible] noncomputable def c10_t2 : Tok := c10.2.2.2.2.2.2.2.2.2.2.2.2.2.2.2.2.2.1
@[irreducible] noncomputable def c10_t3 : Tok := c10.2.2.2.2.2.2.2.2.2.2.2.2.2.2.2.2.2.2.1
@[irreducible] noncomputable def c10_t4 : Tok := c10.2.2.2.2.2.2.2.2.2.2.2.2.2.2.2.2.2.2.2.1
@[irreducible] noncomputable def c10_t5 : Tok := c10.2.2.2.2.2.2.2.2.2.2.2.2.2.2.2.2.2.2.2.2.1
@[irreducible] noncomputable def c10_t6 : Tok := c10.2.2.2.2.2.2.2.2.2.2.2.2.2.2.2.2.2.2.2.2.2.1
@[irreducible] noncomputable def c10_tr : Tok := c10.2.2.2.2.2.2.2.2.2.2.2.2.2.2.2.2.2.2.2.2.2.2
@[irreducible] noncomputable def e10 : Par := epsC parD (Body0F w p loose mean mg mb [("layout", .ref c10_x), ("widths", .ref c10_wl), ("begin", .int c10_b c10_v1), ("end", .int c10_e c10_v2)] 6 361 c10_h (fun v h' => ∃ a, v = .ref a ∧ StrsO h' a (block c10_D c10_ws c10_b (c10_e - c10_b))))
theorem block_c : S10 c10 := by
  with_unfolding_all show ∀ (hl0 : LayIs w c10_h c10_x c10_D) (ok : c10_D.ok) (hw : IntsL c10_h c10_wl c10_ws) (hwn : c10_ws.length = c10_D.cols.length) (hwb : ∀ z ∈ c10_ws, 0 ≤ z ∧ z ≤ 20) (hbe : c10_b ≤ c10_e) (he : c10_e ≤ c10_D.cols.length) (hla0 : LayAt w c10_h c10_x c10_D.rows c10_ca c10_rna c10_cna c10_D.left) (hc : ColsAt c10_h c10_ca c10_D.cols) (hr : OptL c10_h c10_rna c10_D.rn) (hn : OptL c10_h c10_cna c10_D.cn) (hx : c10_h.get? c10_x = some ⟨.ref 310, some c10_dx, .plain, c10_sl⟩) (hdx : c10_h.get? c10_dx = some (dictOf [ent w "rows" c10_t0 (.int c10_D.rows c10_tr), ent w "columns" c10_t1 (.ref c10_ca), ent w "row_names" c10_t2 (optV c10_rna), ent w "column_names" c10_t3 (optV c10_cna), ent w "row_title" c10_t4 .none, ent w "column_title" c10_t5 .none, ent w "to_left" c10_t6 (.bool c10_D.left)] c10_n)), Says w p loose mean mg mb 7 361 [] [.ref c10_x, .ref c10_wl, .int c10_b c10_v1, .int c10_e c10_v2] c10_h (fun v h' => ∃ a, v = .ref a ∧ StrsO h' a (block c10_D c10_ws c10_b (c10_e - c10_b)))
  intro hl0 ok hw hwn hwb hbe he hla0 hc hr hn hx hdx
  refine' enter0 [("layout", .ref c10_x), ("widths", .ref c10_wl), ("begin", .int c10_b c10_v1), ("end", .int c10_e c10_v2)] ?k6 ?k7 ?k9 ?kB ?c2 ?c3 ?c4 ?c5 (body0_all e10 ?hE ?hK ?_)
  case hE => with_unfolding_all rfl
  walk_at "ENTER"
  case hK => k_is
  intro hg F' N' B' X' T' hd hu
  replace hl0 := hl0.at hg
  replace hla0 := hla0.at hg
  replace hx := hg _ _ hx
  replace hdx := hg _ _ hdx
  replace hw := hw.at hg
  refine hide ?_; intro hG9
  obtain ⟨wvs, hwl, hwv⟩ := hw
  refine hG9 ?_; clear hG9
  refine hide ?_; intro hG9
  obtain ⟨as, hal, hasl, hcol⟩ := hc.at hg
  refine hG9 ?_; clear hG9
  obtain ⟨hro1, hro2⟩ := room_le ok
  have c7 := ok.c7
  walk_at "GO"
  have hft : (fill (Str.ofString "") (room c10_D.rn + 0) true).length ≤ 100 := by rw [fill_empty, len_spc]; walk_at "O"
  refine For_invV e10.g (by rfl) (by rfl) ?_ (by intro _; rfl) (by with_unfolding_all passes_own)
  walk_at "STEPS"
  refine' iter_range (fun i m nw => ∃ P R vs k, nw = [(P, listOf (List.toArray vs) k), (R, listOf #[] 0)] ∧ @Ne Nat P R ∧ StrsAre vs (fill (Str.ofString "") (room c10_D.rn + 0) true :: (List.range i).map fun j => pad (head c10_D.cn (c10_b + j)) (c10_ws.getD (c10_b + j) 0) c10_D.left) ∧
    m (Str.ofString "pieces") = some (.ref P) ∧ m (Str.ofString "rows") = some (.ref R) ∧ m (Str.ofString "layout") = some (.ref c10_x) ∧ m (Str.ofString "widths") = some (.ref c10_wl) ∧ m (Str.ofString "begin") = some (.int c10_b c10_v1) ∧ m (Str.ofString "end") = some (.int c10_e c10_v2)) rfl ?F ?N ?r ?ab ?h1 ?h4 ?j ?turn ?done
  case F => k_asm
  case N => k_asm
  case r => with_reducible assumption
  case j =>
    refine' ⟨⟨?Pq9, ?Rq9, ?vsq9, ?kq9, rfl, ?ne, ?st, ?l1, ?l2, ?l3, ?l4, ?l5, ?l6⟩, ?sub⟩
    case l1 => walk_at "LOOK"
    case l2 => walk_at "LOOK"
    case l3 => walk_at "LOOK"
    case l4 => walk_at "LOOK"
    case l5 => walk_at "LOOK"
    case l6 => walk_at "LOOK"
    case sub => walk_at "SUB"
    case st => exact StrsAre.cons _ _ StrsAre.nil
    case ne => walk_at "O"
  case ab => walk_at "O"
  case h1 => walk_at "O"
  case h4 => walk_at "O"
  case turn =>
    rintro I i t o m₁ news₁ c10_h tk hi hJ9 hne F₁ N₁
    refine hide ?_; intro hG9
    refine ex4 hJ9 ?_; clear hJ9; intro P R vs k hJ9
    refine and9 hJ9 ?_; clear hJ9; rintro rfl hPR hvs m1 m2 m3 m4 m5 m6
    refine hG9 ?_; clear hG9
    have q1 : @Ne Nat P I := hne _ (.head _)
    have q2 : @Ne Nat R I := hne _ (.tail _ (.head _))
    have hh := len_head ok (i := c10_b + i) (by walk_at "O")
    have hvl : vs.length ≤ 1000 := by rw [strsAre_length hvs]; simp; walk_at "O"
    obtain ⟨g1, g2⟩ := getD_bnd hwb ((c10_b : Int) + (i : Int)).toNat
    walk_at "GO"
    rename News _ _ _ _ => N9
    refine TurnPost.intro (by k_asm) N9 ?_ ⟨P, R, _, _, rfl, hPR, ?_, by walk_at "LOOK", by walk_at "LOOK", by walk_at "LOOK", by walk_at "LOOK", by walk_at "LOOK", by walk_at "LOOK"⟩
    · intro p hp; simp at hp; rcases hp with rfl | rfl <;> assumption
    · rw [range_succ_map]; exact strsAre_snoc hvs _ _
  rintro m₁ news₁ c10_h tk hJ9 F₁ N₁
  refine hide ?_; intro hG9
  refine ex4 hJ9 ?_; clear hJ9; intro P R vs k hJ9
  refine and9 hJ9 ?_; clear hJ9; rintro rfl hPR hvs m1 m2 m3 m4 m5 m6
  refine hG9 ?_; clear hG9
  rw [show ((c10_e : Int) - (c10_b : Int)).toNat = c10_e - c10_b by walk_at "O"] at hvs
  have hll : (cat (fill (Str.ofString "") (room c10_D.rn + 0) true :: (List.range (c10_e - c10_b)).map fun j => pad (head c10_D.cn (c10_b + j)) (c10_ws.getD (c10_b + j) 0) c10_D.left)).length ≤ 100000 :=
    line_len hft (fun j hj => Nat.le_trans (len_pad (len_head ok (by walk_at "O")) (getD_bnd hwb _).2) (by walk_at "O")) (by walk_at "O")
  have hll' : (cat (fill (Str.ofString "") (room c10_D.rn + 0) true :: (List.range (c10_e - c10_b)).map fun j => pad (head c10_D.cn (c10_b + j)) (c10_ws.getD (c10_b + j) 0) c10_D.left)).length ≤ 1000000 := by walk_at "O"
  walk_at "GO"
  refine For_invV e10.g (by rfl) (by rfl) ?_ (by intro _; rfl) (by with_unfolding_all passes_own)
  walk_at "STEPS"
  refine' iter_range0 (fun i m nw => ∃ R vs k, nw = [(R, listOf (List.toArray vs) k)] ∧ StrsAre vs ((cat (fill (Str.ofString "") (room c10_D.rn + 0) true :: (List.range (c10_e - c10_b)).map fun j => pad (head c10_D.cn (c10_b + j)) (c10_ws.getD (c10_b + j) 0) c10_D.left)) :: (List.range i).map (bodyLine c10_D c10_ws c10_b (c10_e - c10_b))) ∧
    m (Str.ofString "rows") = some (.ref R) ∧ m (Str.ofString "layout") = some (.ref c10_x) ∧ m (Str.ofString "widths") = some (.ref c10_wl) ∧ m (Str.ofString "begin") = some (.int c10_b c10_v1) ∧ m (Str.ofString "end") = some (.int c10_e c10_v2)) rfl ?Fb ?Nb ?rb ?abb ?h4b ?jb ?turnb ?doneb
  case Fb => k_asm
  case Nb => k_asm
  case rb => with_reducible assumption
  case jb =>
    refine' ⟨⟨?Rb, ?vsb, ?kb, rfl, ?stb, ?l1b, ?l2b, ?l3b, ?l4b, ?l5b⟩, ?subb⟩
    case l1b => walk_at "LOOK"
    case l2b => walk_at "LOOK"
    case l3b => walk_at "LOOK"
    case l4b => walk_at "LOOK"
    case l5b => walk_at "LOOK"
    case subb => walk_at "SUB"
    case stb => exact StrsAre.cons _ _ StrsAre.nil
  case abb => walk_at "O"
  case h4b => have := ok.r4; walk_at "O"
  case turnb =>
    have r4 := ok.r4
    rintro I r t o m₁ news₁ c10_h tk hr hJ9 hne F₁ N₁
    refine hide ?_; intro hG9
    refine ex3 hJ9 ?_; clear hJ9; intro R vs k hJ9
    refine and7 hJ9 ?_; clear hJ9; rintro rfl hvs m1 m2 m3 m4 m5
    refine hG9 ?_; clear hG9
    have hr' : r < c10_D.rows := by walk_at "O"
    have q1 : @Ne Nat R I := hne _ (.head _)
    have hvl : vs.length ≤ 1000 := by rw [strsAre_length hvs]; simp; walk_at "O"
    have hmk := len_mark ok (i := r) (by walk_at "O")
    walk_at "GO"
    refine For_invV e10.g (by rfl) (by rfl) ?_ (by intro _; rfl) (by with_unfolding_all passes_own)
    walk_at "STEPS"
    refine' iter_range (fun i m nw => ∃ P vs3 k3, nw = [(P, listOf (List.toArray vs3) k3), (R, listOf (List.toArray vs) k), (I, o)] ∧ @Ne Nat P R ∧ @Ne Nat P I ∧ StrsAre vs3 (mark c10_D.rn r :: (List.range i).map fun j => pad (cell c10_D (c10_b + j) r) (c10_ws.getD (c10_b + j) 0) c10_D.left) ∧
      m (Str.ofString "pieces") = some (.ref P) ∧ m (Str.ofString "row") = some (.int (r : Nat) t) ∧ m (Str.ofString "rows") = some (.ref R) ∧ m (Str.ofString "layout") = some (.ref c10_x) ∧ m (Str.ofString "widths") = some (.ref c10_wl) ∧ m (Str.ofString "begin") = some (.int c10_b c10_v1) ∧ m (Str.ofString "end") = some (.int c10_e c10_v2)) rfl ?Fc ?Nc ?rc ?abc ?h1c ?h4c ?jc ?turnc ?donec
    case Fc => k_asm
    case Nc => k_asm
    case rc => with_reducible assumption
    case jc =>
      refine' ⟨⟨?Pc, ?vsc, ?kc, rfl, ?nec, ?ne2c, ?stc, ?l1c, ?l2c, ?l3c, ?l4c, ?l5c, ?l6c, ?l7c⟩, ?subc⟩
      case l1c => walk_at "LOOK"
      case l2c => walk_at "LOOK"
      case l3c => walk_at "LOOK"
      case l4c => walk_at "LOOK"
      case l5c => walk_at "LOOK"
      case l6c => walk_at "LOOK"
      case l7c => walk_at "LOOK"
      case subc => walk_at "SUB"
      case stc => exact StrsAre.cons _ _ StrsAre.nil
      case nec => walk_at "O"
      case ne2c => walk_at "O"
    case abc => walk_at "O"
    case h1c => walk_at "O"
    case h4c => walk_at "O"
    case turnc =>
      rintro I2 i c10_t2 o2 m₂ news₂ h2 tk2 hi hJ9 hne2 F₂ N₂
      refine hide ?_; intro hG9
      refine ex3 hJ9 ?_; clear hJ9; intro P vs3 k3 hJ9
      refine and11 hJ9 ?_; clear hJ9; rintro rfl hPR hPI hvs3 n1 n2 n3 n4 n5 n6 n7
      refine hG9 ?_; clear hG9
      have q2 : @Ne Nat P I2 := hne2 _ (.head _)
      have q3 : @Ne Nat R I2 := hne2 _ (.tail _ (.head _))
      have q4 : @Ne Nat I I2 := hne2 _ (.tail _ (.tail _ (.head _)))
      have hvl3 : vs3.length ≤ 1000 := by rw [strsAre_length hvs3]; simp; walk_at "O"
      refine hide ?_; intro hG9
      obtain ⟨a, cvs, tc, e1, e2, e3⟩ := col_at ok hasl hcol (j := c10_b + i) (r := r) (by walk_at "O") hr'
      refine hG9 ?_; clear hG9
      have hlc := len_cell ok (j := c10_b + i) (r := r) (by walk_at "O") hr'
      have e1' : (as.map Value.ref)[((c10_b : Int) + (i : Int)).toNat]? = some (.ref a) := e1
      have e3' : cvs[((r : Nat) : Int).toNat]? = some (.str (cell c10_D (c10_b + i) r) tc) := e3
      obtain ⟨g1, g2⟩ := getD_bnd hwb ((c10_b : Int) + (i : Int)).toNat
      walk_at "GO"
      rename News _ _ _ _ => N9
      refine TurnPost.intro (by k_asm) N9 ?_ ⟨P, _, _, rfl, hPR, hPI, ?_, by walk_at "LOOK", by walk_at "LOOK", by walk_at "LOOK", by walk_at "LOOK", by walk_at "LOOK", by walk_at "LOOK", by walk_at "LOOK"⟩
      · intro p hp; simp at hp; rcases hp with rfl | rfl | rfl <;> assumption
      · rw [range_succ_map]; exact strsAre_snoc hvs3 _ _
    rintro m₂ news₂ h2 tk2 hJ9 F₂ N₂
    refine hide ?_; intro hG9
    refine ex3 hJ9 ?_; clear hJ9; intro P vs3 k3 hJ9
    refine and11 hJ9 ?_; clear hJ9; rintro rfl hPR hPI hvs3 n1 n2 n3 n4 n5 n6 n7
    refine hG9 ?_; clear hG9
    rw [show ((c10_e : Int) - (c10_b : Int)).toNat = c10_e - c10_b by walk_at "O"] at hvs3
    have hll : (cat (mark c10_D.rn r :: (List.range (c10_e - c10_b)).map fun j => pad (cell c10_D (c10_b + j) r) (c10_ws.getD (c10_b + j) 0) c10_D.left)).length ≤ 100000 :=
      line_len (Nat.le_trans hmk (by walk_at "O")) (fun j hj => Nat.le_trans (len_pad (len_cell ok (by walk_at "O") hr') (getD_bnd hwb _).2) (by walk_at "O")) (by walk_at "O")
    have hll' : (cat (mark c10_D.rn r :: (List.range (c10_e - c10_b)).map fun j => pad (cell c10_D (c10_b + j) r) (c10_ws.getD (c10_b + j) 0) c10_D.left)).length ≤ 1000000 := by walk_at "O"
    walk_at "GO"
    rename News _ _ _ _ => N9
    refine TurnPost.intro (by k_asm) (news_sub N9 (by walk_at "SUB")) (ne_of_mem1 q1) ⟨R, _, _, rfl, ?_, by walk_at "LOOK", by walk_at "LOOK", by walk_at "LOOK", by walk_at "LOOK", by walk_at "LOOK"⟩
    rw [range_succ_map]; exact strsAre_snoc hvs _ _
  rintro m₁ news₁ c10_h tk hJ9 F₁ N₁
  refine hide ?_; intro hG9
  refine ex3 hJ9 ?_; clear hJ9; intro R vs k hJ9
  refine and7 hJ9 ?_; clear hJ9; rintro rfl hvs m1 m2 m3 m4 m5
  refine hG9 ?_; clear hG9
  walk_at "GO"
  walk_at "END"
  refine ⟨R, rfl, strsO_news (by k_asm) (.head _) ?_⟩
  rw [show ((c10_D.rows : Nat) : Int).toNat = c10_D.rows from rfl] at hvs
  rw [fill_empty] at hvs
  exact hvs
theorem block_says (x wl : Addr) (D : LayD) (ws : List Int) (b e : Nat) (v1 v2 : Tok) (h : Heap) (hl : LayIs w h x D) (ok : D.ok) (hw : IntsL h wl ws) (hwn : ws.length = D.cols.length) (hwb : ∀ n ∈ ws, 0 ≤ n ∧ n ≤ 20) (hbe : b ≤ e) (he : e ≤ D.cols.length) :
    Says w p loose mean mg mb 7 361 [] [.ref x, .ref wl, .int b v1, .int e v2] h (fun v h' => ∃ a, v = .ref a ∧ StrsO h' a (block D ws b (e - b))) := by
  have hl0 := hl
  obtain ⟨ca, rna, cna, hla, hc, hr, hn⟩ := hl
  have hla0 := hla
  obtain ⟨dx, sl, n, t0, t1, t2, t3, t4, t5, t6, tr, hx, hdx⟩ := hla
  exact epsA d10 (P := S10) (c := c10) (by with_unfolding_all rfl) block_c (x, wl, D, ws, b, e, v1, v2, h, ca, rna, cna, dx, sl, n, t0, t1, t2, t3, t4, t5, t6, tr) hl0 ok hw hwn hwb hbe he hla0 hc hr hn hx hdx
end
section
local macro_rules | `(tactic| walk_at "call builtin:len") => `(tactic| (k_here; (with_reducible show wpAny _ _ (call (Value.builtin "len") [Value.ref _]) _ _ _); k_dflt (apply len_own; walk_at "LIST"; (with_reducible assumption); walk_at "O"; k_whole; intro _ _)))
local macro_rules | `(tactic| walk_at "call builtin:list.append") => `(tactic| (k_here; k_dflt (apply append_own; k_asm; k_asm; k_upd; (first | with_reducible assumption | exact Nat.zero_le _ | (simp; done)); k_whole); intro h' F' N'; (try k_sweep)))
local macro_rules | `(tactic| walk_at "S") => `(tactic| first | (apply mark_says <;> walk_at "A") | fail)
local macro_rules | `(tactic| walk_at "A") => `(tactic| exact intsL_news (by k_asm) (by k_mem) (by with_reducible assumption))
local macro_rules | `(tactic| walk_at "S") => `(tactic| first | (apply block_says <;> walk_at "A") | fail)
local macro_rules | `(tactic| walk_at "R") => `(tactic| ((with_reducible apply r_blk); intros))
local macro_rules | `(tactic| walk_at "call builtin:list.extend") => `(tactic| (k_here; k_dflt (refine' extend_own ?k1 ?k2 ?k3 ?k4 ?k5 ?k6 ?k7 ?_; (case k1 => k_asm); (case k2 => k_asm); (case k3 => k_asm); (case k7 => k_upd); (case k4 => exact List.ne_nil_of_length_pos (by walk_at "O")); (case k5 => walk_at "O"); (case k6 => walk_at "O"); k_whole); intro h' F' N'; (try k_sweep)))
abbrev T11 := (Addr) × (LayD) × (Int) × (Tok) × (Heap)
def S11 (t : T11) : Prop := ∀ (hl : LayIs w (t.2.2.2.2) (t.1) (t.2.1)) (ok : (t.2.1).ok), Says w p loose mean mg mb 10 368 [] [.ref (t.1), .int (t.2.2.1) (t.2.2.2.1)] (t.2.2.2.2) (fun v h' => ∃ ls, NewStrs (t.2.2.2.2) h' v ls ∧ Lines (block (t.2.1) (widths (t.2.1))) (more (room (t.2.1).rn) (widths (t.2.1)) (t.2.2.1)) (t.2.1).cols.length 0 ls)
def d11 : T11 := ((0 : Addr), (⟨0, [], none, none, false⟩ : LayD), (0 : Int), (0 : Tok), (default : Heap))
@[irreducible] noncomputable def c11 : T11 := epsC d11 S11
@[irreducible] noncomputable def c11_x : Addr := c11.1
@[irreducible] noncomputable def c11_D : LayD := c11.2.1
@[irreducible] noncomputable def c11_width : Int := c11.2.2.1
@[irreducible] noncomputable def c11_v1 : Tok := c11.2.2.2.1
@[irreducible] noncomputable def c11_h : Heap := c11.2.2.2.2
@[irreducible] noncomputable def e11 : Par := epsC parD (Body0F w p loose mean mg mb [("layout", .ref c11_x), ("width", .int c11_width c11_v1)] 9 368 c11_h (fun v h' => ∃ ls, NewStrs c11_h h' v ls ∧ Lines (block c11_D (widths c11_D)) (more (room c11_D.rn) (widths c11_D) c11_width) c11_D.cols.length 0 ls))
theorem layout_says_c : S11 c11 := by
  with_unfolding_all show ∀ (hl : LayIs w c11_h c11_x c11_D) (ok : c11_D.ok), Says w p loose mean mg mb 10 368 [] [.ref c11_x, .int c11_width c11_v1] c11_h (fun v h' => ∃ ls, NewStrs c11_h h' v ls ∧ Lines (block c11_D (widths c11_D)) (more (room c11_D.rn) (widths c11_D) c11_width) c11_D.cols.length 0 ls)
  intro hl ok
  have hl0 := hl
  refine hide ?_; intro hG9
  obtain ⟨ca, rna, cna, hla, hc, hr, hn⟩ := hl
  refine hG9 ?_; clear hG9
  have hla0 := hla
  refine hide ?_; intro hG9
  obtain ⟨dx, sl, n, t0, t1, t2, t3, t4, t5, t6, tr, hx, hdx⟩ := hla
  refine hG9 ?_; clear hG9
  refine' enter0 [("layout", .ref c11_x), ("width", .int c11_width c11_v1)] ?k6 ?k7 ?k9 ?kB ?c2 ?c3 ?c4 ?c5 (body0_all e11 ?hE ?hK ?_)
  case hE => with_unfolding_all rfl
  walk_at "ENTER"
  case hK => k_is
  intro hg F' N' B' X' T' hd hu
  replace hl0 := hl0.at hg
  replace hla0 := hla0.at hg
  replace hx := hg _ _ hx
  replace hdx := hg _ _ hdx
  refine hide ?_; intro hG9
  obtain ⟨as, hal, hasl, hcol⟩ := hc.at hg
  refine hG9 ?_; clear hG9
  obtain ⟨hro1, hro2⟩ := room_le ok
  have c7 := ok.c7
  have c1 := ok.c1
  have hln : (as.map Value.ref).length = c11_D.cols.length := by rw [List.length_map, hasl]
  walk_at "GO"
  refine For_invV e11.g (by rfl) (by rfl) ?_ (by intro _; rfl) (by with_unfolding_all passes_own)
  walk_at "STEPS"
  refine' iter_range0 (fun i m nw => ∃ W vs k tc tl, nw = [(W, listOf (List.toArray vs) k)] ∧ IntsAre vs ((List.range i).map (widthAt c11_D)) ∧
    m (Str.ofString "widths") = some (.ref W) ∧ m (Str.ofString "layout") = some (.ref c11_x) ∧ m (Str.ofString "width") = some (.int c11_width c11_v1) ∧ m (Str.ofString "count") = some (.int (c11_D.cols.length : Nat) tc) ∧ m (Str.ofString "labels") = some (.int (room c11_D.rn + 0) tl)) rfl ?F ?N ?r ?ab ?h4 ?j ?turn ?done
  case F => k_asm
  case N => k_asm
  case r => with_reducible assumption
  case j =>
    refine' ⟨⟨?Wq9, ?vsq9, ?kq9, ?tc, ?tl, rfl, ?st, ?l1, ?l2, ?l3, ?l4, ?l5⟩, ?sub⟩
    case l1 => walk_at "LOOK"
    case l2 => walk_at "LOOK"
    case l3 => walk_at "LOOK"
    case l4 => walk_at "LOOK"
    case l5 => walk_at "LOOK"
    case sub => walk_at "SUB"
    case st => exact IntsAre.nil
  case ab => walk_at "O"
  case h4 => walk_at "O"
  case turn =>
    rintro I i t o m₁ news₁ c11_h tk hi hJ9 hne F₁ N₁
    refine hide ?_; intro hG9
    refine ex5 hJ9 ?_; clear hJ9; intro W vs k tc tl hJ9
    refine and7 hJ9 ?_; clear hJ9; rintro rfl hvs m1 m2 m3 m4 m5
    refine hG9 ?_; clear hG9
    have hi' : i < c11_D.cols.length := by walk_at "O"
    have q1 : @Ne Nat W I := hne _ (.head _)
    have hvl : vs.length ≤ 1000 := by rw [IntsAre.length hvs]; simp; walk_at "O"
    refine hide ?_; intro hG9
    obtain ⟨a, cvs, e1, e2, e3⟩ := colS_at hasl hcol hi'
    refine hG9 ?_; clear hG9
    have e4 := col_len ok hi'
    have e1' : (as.map Value.ref)[((i : Nat) : Int).toNat]? = some (.ref a) := e1
    have hlh := len_head ok (i := i) (by walk_at "O")
    walk_at "GO"
    rename News _ _ _ _ => N9
    refine TurnPost.intro (by k_asm) N9 (ne_of_mem1 q1) ⟨W, _, _, _, _, rfl, ?_, by walk_at "LOOK", by walk_at "LOOK", by walk_at "LOOK", by walk_at "LOOK", by walk_at "LOOK"⟩
    rw [range_succ_map]; exact intsAre_snoc hvs _ _
  rintro m₁ news₁ c11_h tk hJ9 F₁ N₁
  refine hide ?_; intro hG9
  refine ex5 hJ9 ?_; clear hJ9; intro W vs k tc tl hJ9
  refine and7 hJ9 ?_; clear hJ9; rintro rfl hvs m1 m2 m3 m4 m5
  refine hG9 ?_; clear hG9
  walk_at "GO"
  · exfalso; walk_at "O"
  have hwv : IntsAre vs (widths c11_D) := hvs
  have hwl := widths_len c11_D
  have hwb := widths_bnd ok
  refine' while_J (L := e11.L) (fun n m nw => ∃ b acc R vr kr tb tc tl, nw = [(R, listOf (List.toArray vr) kr), (W, listOf (List.toArray vs) k)] ∧ @Ne Nat R W ∧ StrsAre vr acc ∧ (∀ r, Lines (block c11_D (widths c11_D)) (more (room c11_D.rn) (widths c11_D) c11_width) c11_D.cols.length b r → Lines (block c11_D (widths c11_D)) (more (room c11_D.rn) (widths c11_D) c11_width) c11_D.cols.length 0 (acc ++ r)) ∧ b ≤ c11_D.cols.length ∧ n = c11_D.cols.length - b ∧ acc.length ≤ 5 * b ∧
    m (Str.ofString "begin") = some (.int (b : Nat) tb) ∧ m (Str.ofString "rows") = some (.ref R) ∧ m (Str.ofString "widths") = some (.ref W) ∧ m (Str.ofString "layout") = some (.ref c11_x) ∧ m (Str.ofString "width") = some (.int c11_width c11_v1) ∧ m (Str.ofString "count") = some (.int (c11_D.cols.length : Nat) tc) ∧ m (Str.ofString "labels") = some (.int (room c11_D.rn + 0) tl)) c11_D.cols.length ?Eb ?Fb ?Nb ?jb ?turnb
  case Eb => with_unfolding_all passes_own
  case Fb => k_asm
  case Nb => k_asm
  case jb =>
    refine' ⟨⟨0, [], ?Rb, ?vrb, ?krb, ?tbb, ?tcb, ?tlb, rfl, ?neb, ?stb, fun r c11_h => c11_h, Nat.zero_le _, rfl, Nat.le_refl _, ?l1b, ?l2b, ?l3b, ?l4b, ?l5b, ?l6b, ?l7b⟩, ?subb⟩
    case l1b => walk_at "LOOK"
    case l2b => walk_at "LOOK"
    case l3b => walk_at "LOOK"
    case l4b => walk_at "LOOK"
    case l5b => walk_at "LOOK"
    case l6b => walk_at "LOOK"
    case l7b => walk_at "LOOK"
    case subb => walk_at "SUB"
    case stb => exact StrsAre.nil
    case neb => walk_at "O"
  case turnb =>
    rintro n m₁ news₁ c11_h tk hJ9 F₁ N₁
    refine hide ?_; intro hG9
    refine ex8 hJ9 ?_; clear hJ9; intro b acc R vr kr tb tc tl hJ9
    refine and14 hJ9 ?_; clear hJ9; rintro rfl hRW hvr hacc hb rfl hal m1 m2 m3 m4 m5 m6 m7
    refine hG9 ?_; clear hG9
    walk_at "GO"
    refine ⟨fun ht => ?_, fun hf => ?_⟩
    · have hlt : b < c11_D.cols.length := by simpa using ht
      obtain ⟨tk0, hx0⟩ := intsAre_at hwv (i := b) (by walk_at "O")
      have hx0' : vs[((b : Nat) : Int).toNat]? = some (.int ((widths c11_D).getD b 0) tk0) := hx0
      obtain ⟨w1, w2⟩ := getD_bnd hwb b
      have hvrl : vr.length ≤ 1000 := by rw [strsAre_length hvr]; walk_at "O"
      have r4 := ok.r4
      walk_at "GO"
      refine' while_J (L := e11.L) (fun n m nw => ∃ e n2 T te tt, nw = [(R, listOf (List.toArray vr) kr), (W, listOf (List.toArray vs) k)] ∧ e = b + n2 ∧ 1 ≤ n2 ∧ e ≤ c11_D.cols.length ∧ (∀ k, 1 ≤ k → k < n2 → more (room c11_D.rn) (widths c11_D) c11_width b k) ∧ T = tot (room c11_D.rn) (widths c11_D) b n2 ∧ n = c11_D.cols.length - e ∧
        m (Str.ofString "end") = some (.int (e : Nat) te) ∧ m (Str.ofString "total") = some (.int T tt) ∧ m (Str.ofString "begin") = some (.int (b : Nat) tb) ∧ m (Str.ofString "rows") = some (.ref R) ∧ m (Str.ofString "widths") = some (.ref W) ∧ m (Str.ofString "layout") = some (.ref c11_x) ∧ m (Str.ofString "width") = some (.int c11_width c11_v1) ∧ m (Str.ofString "count") = some (.int (c11_D.cols.length : Nat) tc) ∧ m (Str.ofString "labels") = some (.int (room c11_D.rn + 0) tl)) (c11_D.cols.length - (b + 1)) ?Ec ?Fc ?Nc ?jc ?turnc
      case Ec => with_unfolding_all passes_own
      case Fc => k_asm
      case Nc => k_asm
      case jc =>
        refine' ⟨⟨b + 1, 1, ?Tc, ?tec, ?ttc, rfl, rfl, Nat.le_refl _, hlt, fun k h1 h2 => absurd h2 (by walk_at "O"), ?eqc, rfl, ?l1c, ?l2c, ?l3c, ?l4c, ?l5c, ?l6c, ?l7c, ?l8c, ?l9c⟩, ?subc⟩
        case l1c => walk_at "LOOK"
        case l2c => walk_at "LOOK"
        case l3c => walk_at "LOOK"
        case l4c => walk_at "LOOK"
        case l5c => walk_at "LOOK"
        case l6c => walk_at "LOOK"
        case l7c => walk_at "LOOK"
        case l8c => walk_at "LOOK"
        case l9c => walk_at "LOOK"
        case subc => walk_at "SUB"
        case eqc => rw [tot_succ]; simp [tot]
      case turnc =>
        rintro n m₂ news₂ h2 tk2 hJ9 F₂ N₂
        refine hide ?_; intro hG9
        refine ex5 hJ9 ?_; clear hJ9; intro e n2 T te tt hJ9
        refine and16 hJ9 ?_; clear hJ9; rintro rfl rfl hn1 hec hmo rfl rfl n1 n2' n3 n4 n5 n6 n7 n8 n9
        refine hG9 ?_; clear hG9
        obtain ⟨w3, w4⟩ := tot_le (rm := room c11_D.rn) hwb b n2
        by_cases hlt2 : b + n2 < c11_D.cols.length
        · obtain ⟨tk3, hx3⟩ := intsAre_at hwv (i := b + n2) (by walk_at "O")
          have hx3' : vs[((b + n2 : Nat) : Int).toNat]? = some (.int ((widths c11_D).getD (b + n2) 0) tk3) := hx3
          obtain ⟨w5, w6⟩ := getD_bnd hwb (b + n2)
          have ets : tot (room c11_D.rn) (widths c11_D) b n2 + 1 + (widths c11_D).getD ((b + n2 : Nat) : Int).toNat 0 = tot (room c11_D.rn) (widths c11_D) b (n2 + 1) := (tot_succ _ _ _ _).symm
          walk_at "GO"
          · refine ⟨fun _ => ?_, fun hf => (by cases hf)⟩
            walk_at "GO"
            rename (_ : Int) < c11_width => hmw
            rw [ets] at hmw
            have hm2 : more (room c11_D.rn) (widths c11_D) c11_width b n2 := ⟨by walk_at "O", hmw⟩
            refine WhlPost.intro (by k_asm) (by k_asm) (show c11_D.cols.length - (b + n2 + 1) < c11_D.cols.length - (b + n2) by walk_at "O") ⟨b + n2 + 1, n2 + 1, _, _, _, rfl, rfl, by walk_at "O", by walk_at "O", ?_, ets, rfl, by walk_at "LOOK", by walk_at "LOOK", by walk_at "LOOK", by walk_at "LOOK", by walk_at "LOOK", by walk_at "LOOK", by walk_at "LOOK", by walk_at "LOOK", by walk_at "LOOK"⟩
            intro k h1 h2
            rcases Nat.lt_or_ge k n2 with c11_h | c11_h
            · exact hmo k h1 c11_h
            · obtain rfl : k = n2 := by walk_at "O"
              exact hm2
          · rename ¬ (_ : Int) < c11_width => hmw
            rw [ets] at hmw
            have hnm : ¬ more (room c11_D.rn) (widths c11_D) c11_width b n2 := fun c11_h => hmw c11_h.2
            refine ⟨fun ht => (by cases ht), fun _ => ?_⟩
            walk_at "GO"
            rename News _ _ _ _ => N9
            rename StrsAre _ (block _ _ _ _) => hv9
            rw [Nat.add_sub_cancel_left] at hv9
            refine WhlPost.intro (by k_asm) N9 (show c11_D.cols.length - (b + n2) < c11_D.cols.length - b by walk_at "O") ⟨b + n2, acc ++ block c11_D (widths c11_D) b n2, R, _, _, _, _, _, rfl, hRW, strsAre_append hvr hv9, fun r hr => (by rw [List.append_assoc]; exact hacc _ (Lines.step hlt hn1 hmo hnm hr)), hec, rfl, ?_, by walk_at "LOOK", by walk_at "LOOK", by walk_at "LOOK", by walk_at "LOOK", by walk_at "LOOK", by walk_at "LOOK", by walk_at "LOOK"⟩
            rw [List.length_append, block_len]; walk_at "O"
        · walk_at "GO"
          · have hnm : ¬ more (room c11_D.rn) (widths c11_D) c11_width b n2 := fun c11_h => hlt2 (by have := c11_h.1; walk_at "O")
            refine ⟨fun ht => (by cases ht), fun _ => ?_⟩
            walk_at "GO"
            rename News _ _ _ _ => N9
            rename StrsAre _ (block _ _ _ _) => hv9
            rw [Nat.add_sub_cancel_left] at hv9
            refine WhlPost.intro (by k_asm) N9 (show c11_D.cols.length - (b + n2) < c11_D.cols.length - b by walk_at "O") ⟨b + n2, acc ++ block c11_D (widths c11_D) b n2, R, _, _, _, _, _, rfl, hRW, strsAre_append hvr hv9, fun r hr => (by rw [List.append_assoc]; exact hacc _ (Lines.step hlt hn1 hmo hnm hr)), hec, rfl, ?_, by walk_at "LOOK", by walk_at "LOOK", by walk_at "LOOK", by walk_at "LOOK", by walk_at "LOOK", by walk_at "LOOK", by walk_at "LOOK"⟩
            rw [List.length_append, block_len]; walk_at "O"
    · have hbe : c11_D.cols.length ≤ b := by simpa using hf
      walk_at "GO"
      walk_at "END"
      exact ⟨acc, newStrs_news hg (by k_asm) (.head _) hvr, by have := hacc [] (.done hbe); simpa using this⟩
theorem layout_says (x : Addr) (D : LayD) (width : Int) (v1 : Tok) (h : Heap) (hl : LayIs w h x D) (ok : D.ok) :
    Says w p loose mean mg mb 10 368 [] [.ref x, .int width v1] h (fun v h' => ∃ ls, NewStrs h h' v ls ∧ Lines (block D (widths D)) (more (room D.rn) (widths D) width) D.cols.length 0 ls) :=
  epsA d11 (P := S11) (c := c11) (by with_unfolding_all rfl) layout_says_c (x, D, width, v1, h) hl ok
end
end
section
section
local macro_rules | `(tactic| walk_at "SUB") => `(tactic| first | exact List.forall_mem_nil _ | (refine' List.forall_mem_cons.mpr ⟨?a, ?b⟩; (case a => k_mem); (case b => walk_at "SUB")) | (intro _ _; walk_at "TAIL"))
local macro_rules | `(tactic| k_all) => `(tactic| with_reducible assumption)
local macro_rules | `(tactic| k_room) => `(tactic| ktr_room)
local macro_rules | `(tactic| walk_at "call builtin:len") => `(tactic| (k_here; (with_reducible show wpAny _ _ (call (Value.builtin "len") [Value.ref _]) _ _ _); k_dflt (apply len_own; walk_at "LIST"; (with_reducible assumption); walk_at "O"; k_whole; intro _ _)))
local macro_rules | `(tactic| walk_at "call builtin:list.append") => `(tactic| (k_here; k_dflt (apply append_own; k_asm; k_asm; k_upd; (first | with_reducible assumption | exact Nat.zero_le _ | (simp; done)); k_whole); intro h' F' N'; (try k_sweep)))
local macro_rules | `(tactic| walk_at "A") => `(tactic| exact slice_list (by k_asm) (by k_mem) (by with_reducible assumption))
local macro_rules | `(tactic| walk_at "S") => `(tactic| first | (apply cell_says <;> walk_at "A") | fail)
abbrev T12 := (Addr) × (Kd) × (List Value) × (List It) × (Nat) × (Nat) × (Tok) × (Tok) × (Tok) × (Heap)
def S12 (t : T12) : Prop := ∀ (hl : (t.2.2.2.2.2.2.2.2.2).IsList (t.1) (t.2.2.1).toArray) (hv : ItsAre (t.2.2.1) (t.2.2.2.1)) (ho : ∀ it ∈ (t.2.2.2.1), okIt (t.2.1) it) (hn : (t.2.2.2.1).length = (t.2.2.2.2.1) * (t.2.2.2.2.2.1)) (hR : 1 ≤ (t.2.2.2.2.1)) (hR4 : (t.2.2.2.2.1) ≤ 4) (hW : 1 ≤ (t.2.2.2.2.2.1)) (hW7 : (t.2.2.2.2.2.1) ≤ 7), Says w p loose mean mg mb 13 389 [] [.str (t.2.1).str (t.2.2.2.2.2.2.1), .ref (t.1), .int (t.2.2.2.2.1) (t.2.2.2.2.2.2.2.1), .bool true, .int 7 (t.2.2.2.2.2.2.2.2.1)] (t.2.2.2.2.2.2.2.2.2) (fun v h' => MadeLay w (t.2.2.2.2.2.2.2.2.2) h' v (t.2.2.2.2.1) ((List.range (t.2.2.2.2.2.1)).map (colOf (t.2.1) (t.2.2.2.1) (t.2.2.2.2.1))) (t.2.1).left)
def d12 : T12 := ((0 : Addr), (.int : Kd), ([] : List Value), ([] : List It), (0 : Nat), (0 : Nat), (0 : Tok), (0 : Tok), (0 : Tok), (default : Heap))
@[irreducible] noncomputable def c12 : T12 := epsC d12 S12
@[irreducible] noncomputable def c12_l : Addr := c12.1
@[irreducible] noncomputable def c12_kd : Kd := c12.2.1
@[irreducible] noncomputable def c12_vs : List Value := c12.2.2.1
@[irreducible] noncomputable def c12_its : List It := c12.2.2.2.1
@[irreducible] noncomputable def c12_R : Nat := c12.2.2.2.2.1
@[irreducible] noncomputable def c12_W : Nat := c12.2.2.2.2.2.1
@[irreducible] noncomputable def c12_u1 : Tok := c12.2.2.2.2.2.2.1
@[irreducible] noncomputable def c12_u2 : Tok := c12.2.2.2.2.2.2.2.1
@[irreducible] noncomputable def c12_u3 : Tok := c12.2.2.2.2.2.2.2.2.1
@[irreducible] noncomputable def c12_h : Heap := c12.2.2.2.2.2.2.2.2.2
@[irreducible] noncomputable def e12 : Par := epsC parD (Body0F w p loose mean mg mb [("kind", .str c12_kd.str c12_u1), ("items", .ref c12_l), ("rows", .int c12_R c12_u2), ("quote", .bool true), ("digits", .int 7 c12_u3)] 12 389 c12_h (fun v h' => MadeLay w c12_h h' v c12_R ((List.range c12_W).map (colOf c12_kd c12_its c12_R)) c12_kd.left))
theorem matrix_says_c : S12 c12 := by
  with_unfolding_all show ∀ (hl : c12_h.IsList c12_l c12_vs.toArray) (hv : ItsAre c12_vs c12_its) (ho : ∀ it ∈ c12_its, okIt c12_kd it) (hn : c12_its.length = c12_R * c12_W) (hR : 1 ≤ c12_R) (hR4 : c12_R ≤ 4) (hW : 1 ≤ c12_W) (hW7 : c12_W ≤ 7), Says w p loose mean mg mb 13 389 [] [.str c12_kd.str c12_u1, .ref c12_l, .int c12_R c12_u2, .bool true, .int 7 c12_u3] c12_h (fun v h' => MadeLay w c12_h h' v c12_R ((List.range c12_W).map (colOf c12_kd c12_its c12_R)) c12_kd.left)
  intro hl hv ho hn hR hR4 hW hW7
  refine' enter0 [("kind", .str c12_kd.str c12_u1), ("items", .ref c12_l), ("rows", .int c12_R c12_u2), ("quote", .bool true), ("digits", .int 7 c12_u3)] ?k6 ?k7 ?k9 ?kB ?c2 ?c3 ?c4 ?c5 (body0_all e12 ?hE ?hK ?_)
  case hE => with_unfolding_all rfl
  walk_at "ENTER"
  case hK => k_is
  intro hg F' N' B' X' T' hd hu
  have hl' : e12.g.IsList c12_l c12_vs.toArray := stays_list hg hl
  have hlen : c12_vs.length = c12_R * c12_W := by rw [hv.1, hn]
  have hb : c12_R * c12_W ≤ 4 * 7 := Nat.mul_le_mul hR4 hW7
  walk_at "GO"
  refine For_invV e12.g (by rfl) (by rfl) ?_ (by intro _; rfl) (by with_unfolding_all passes_own)
  walk_at "STEPS"
  refine' iter_stride (fun i m nw => ∃ C as k ce, nw = (C, listOf (List.toArray (as.map Value.ref)) k) :: ce ∧ (∀ p ∈ ce, p.1 ≠ C) ∧ ColsIn ce as ((List.range i).map (colOf c12_kd c12_its c12_R)) ∧
    m (Str.ofString "columns") = some (.ref C) ∧ m (Str.ofString "kind") = some (.str c12_kd.str c12_u1) ∧ m (Str.ofString "items") = some (.ref c12_l) ∧ m (Str.ofString "rows") = some (.int c12_R c12_u2) ∧ m (Str.ofString "quote") = some (.bool true) ∧ m (Str.ofString "digits") = some (.int 7 c12_u3)) rfl ?F ?N ?r hR hR4 hW hW7 ?j ?turn ?done
  case F => k_asm
  case N => k_asm
  case r => with_reducible assumption
  case j =>
    refine' ⟨⟨?Cq9, [], ?kq9, [], rfl, (fun _ hp => nomatch hp), ColsIn.nil, ?l1, ?l2, ?l3, ?l4, ?l5, ?l6⟩, ?sub⟩
    case l1 => walk_at "LOOK"
    case l2 => walk_at "LOOK"
    case l3 => walk_at "LOOK"
    case l4 => walk_at "LOOK"
    case l5 => walk_at "LOOK"
    case l6 => walk_at "LOOK"
    case sub => walk_at "SUB"
  case turn =>
    rintro I i t o m₁ news₁ c12_h tk hi hJ9 hne F₁ N₁
    refine hide ?_; intro hG9
    refine ex4 hJ9 ?_; clear hJ9; intro C as k ce hJ9
    refine and9 hJ9 ?_; clear hJ9; rintro rfl hce hci m1 m2 m3 m4 m5 m6
    refine hG9 ?_; clear hG9
    have q1 : @Ne Nat C I := hne _ (.head _)
    have lC := news_lt N₁ (.tail _ (.head _))
    have lI := news_lt N₁ (.head _)
    have hce2 : ∀ p ∈ ce, p.1 ≠ I := fun p hp => hne p (.tail _ hp)
    have hiR : i * c12_R + c12_R ≤ c12_R * c12_W := by rw [← Nat.succ_mul, Nat.mul_comm]; exact Nat.mul_le_mul_left _ hi
    have hsl := pick_run c12_vs (a := i * c12_R) (b := c12_R) (by walk_at "O")
    have hits := itsAre_run hv (i * c12_R) c12_R
    have hok2 : ∀ it ∈ (c12_its.drop (i * c12_R)).take c12_R, okIt c12_kd it := fun it hit => ho it (List.mem_of_mem_drop (List.mem_of_mem_take hit))
    have hn2 : ((c12_its.drop (i * c12_R)).take c12_R).length ≤ 100 := by rw [List.length_take]; walk_at "O"
    have hasl : (as.map Value.ref).length ≤ 1000 := by rw [List.length_map, hci.1]; simp; walk_at "O"
    walk_at "GO"
    rename News _ _ _ _ => N9
    rename StrsAre _ (List.map (shown c12_kd) _) => d9
    rw [show ∀ d, as.map Value.ref ++ [Value.ref d] = (as ++ [d]).map Value.ref from fun d => by simp] at N9
    refine TurnPost.intro (by k_asm) (nx := (C, _) :: (_, _) :: ce) (news_sub N9 (by walk_at "SUB")) ?_ ⟨C, as ++ [_], _, _, rfl, ?_, ?_, by walk_at "LOOK", by walk_at "LOOK", by walk_at "LOOK", by walk_at "LOOK", by walk_at "LOOK", by walk_at "LOOK"⟩
    rotate_left 1
    · exact List.forall_mem_cons.mpr ⟨by k_ne, hce⟩
    · rw [range_succ_map]; exact hci.snoc d9
    · exact List.forall_mem_cons.mpr ⟨q1, List.forall_mem_cons.mpr ⟨by k_ne, hce2⟩⟩
  rintro m₁ news₁ c12_h tk hJ9 F₁ N₁
  refine hide ?_; intro hG9
  refine ex4 hJ9 ?_; clear hJ9; intro C as k ce hJ9
  refine and9 hJ9 ?_; clear hJ9; rintro rfl hce hci m1 m2 m3 m4 m5 m6
  refine hG9 ?_; clear hG9
  have lC := news_lt N₁ (.head _)
  walk_at "GO"
  walk_at "END"
  rw [not_num] at *
  rename News _ _ _ _ => N9
  exact ⟨_, _, C, as, k, ce, _, _, _, _, _, _, _, _, rfl, newLed_news hg N9 (by walk_at "SUB"), hci, by k_ne, by k_ne, allLt_ne (by with_reducible assumption)⟩
theorem matrix_says (l : Addr) (kd : Kd) (vs : List Value) (its : List It) (R W : Nat) (u1 u2 u3 : Tok) (h : Heap) (hl : h.IsList l vs.toArray) (hv : ItsAre vs its) (ho : ∀ it ∈ its, okIt kd it) (hn : its.length = R * W) (hR : 1 ≤ R) (hR4 : R ≤ 4) (hW : 1 ≤ W) (hW7 : W ≤ 7) :
    Says w p loose mean mg mb 13 389 [] [.str kd.str u1, .ref l, .int R u2, .bool true, .int 7 u3] h (fun v h' => MadeLay w h h' v R ((List.range W).map (colOf kd its R)) kd.left) :=
  epsA d12 (P := S12) (c := c12) (by with_unfolding_all rfl) matrix_says_c (l, kd, vs, its, R, W, u1, u2, u3, h) hl hv ho hn hR hR4 hW hW7
end
end
section
section
local macro_rules | `(tactic| walk_at "getMethod ref") => `(tactic| (k_here; k_dflt (refine' dict_method_own ?T ?_; (case T => exact DictAt.at (by with_reducible assumption) (Fr.keep (by k_asm))); k_whole)))
local macro_rules | `(tactic| walk_at "call builtin:dict.get") => `(tactic| (k_here; k_dflt (refine' dict_get_own ?T ?v ?_; (case T => exact DictAt.at (by with_reducible assumption) (Fr.keep (by k_asm))); (case v => with_reducible assumption); k_whole)))
theorem get_says (x l at' : Addr) (kd nm : Str) (kvs : List (Value × Value)) (v : Value) (t2 : Tok) (h : Heap) (hx : VecAt w h x kd l (.ref at')) (ha : DictAt w h at' kvs) (hv : (valueAt (strPairs kvs) nm).getD .none = v) :
    Says w p loose mean mg mb 1 28 [] [.ref x, .str nm t2] h (fun v' h' => v' = v) := by
  refine hide ?_; intro hG9
  obtain ⟨dx, sl, n, u0, u1, u2, u3, u4, tk, b1, b2, hx, hdx⟩ := hx
  refine hG9 ?_; clear hG9
  refine' enter0 [("v", .ref x), ("name", .str nm t2)] ?k6 ?k7 ?k9 ?kB ?c2 ?c3 ?c4 ?c5 ?_
  walk_at "ENTER"
  intro dp un gd outer A base g h₁ L s hg F' N' B' X' T' hd hu
  replace hx := hg _ _ hx
  replace hdx := hg _ _ hdx
  replace ha := ha.at hg
  walk_at "GO"
  walk_at "END"
  rfl
theorem get_none_says (x l : Addr) (kd nm : Str) (t2 : Tok) (h : Heap) (hx : VecAt w h x kd l .none) :
    Says w p loose mean mg mb 1 28 [] [.ref x, .str nm t2] h (fun v' h' => v' = .none) := by
  refine hide ?_; intro hG9
  obtain ⟨dx, sl, n, u0, u1, u2, u3, u4, tk, b1, b2, hx, hdx⟩ := hx
  refine hG9 ?_; clear hG9
  refine' enter0 [("v", .ref x), ("name", .str nm t2)] ?k6 ?k7 ?k9 ?kB ?c2 ?c3 ?c4 ?c5 ?_
  walk_at "ENTER"
  intro dp un gd outer A base g h₁ L s hg F' N' B' X' T' hd hu
  replace hx := hg _ _ hx
  replace hdx := hg _ _ hdx
  walk_at "GO"
  walk_at "END"
  rfl
end
end
section
local macro_rules | `(tactic| walk_at "call type:list") => `(tactic| (k_here; (with_reducible show wpAny _ _ (call (Value.type _) [Value.ref _]) _ _ _); k_dflt (refine' list_copyK ?k1 ?k2 ?k3 ?_ ?z; (case k1 => k_asm); (case k2 => k_asm); (case k3 => walk_at "LIST"); (case z => rw [sizeLine_eq, List.size_toArray]; first | walk_at "O" | (simp; done) | (simp; walk_at "O")); k_whole); intro D' c' h' F' N' l1; (try k_lt l1); (try k_sweep)))
local macro_rules | `(tactic| walk_at "S") => `(tactic| first | (apply get_says <;> walk_at "A") | fail)
local macro_rules | `(tactic| walk_at "S") => `(tactic| first | (apply get_none_says <;> walk_at "A") | fail)
section
theorem dim_none_says (x l : Addr) (kd : Str) (h : Heap) (hx : VecAt w h x kd l .none) :
    Says w p loose mean mg mb 3 40 [] [.ref x] h (fun v' h' => v' = .none) := by
  refine' enter0 [("v", .ref x)] ?k6 ?k7 ?k9 ?kB ?c2 ?c3 ?c4 ?c5 ?_
  walk_at "ENTER"
  intro dp un gd outer A base g h₁ L s hg F' N' B' X' T' hd hu
  replace hx := hx.at hg
  walk_at "GO"
  walk_at "END"
  rfl
theorem dim_says (x l at' dv dl : Addr) (kd : Str) (kvs : List (Value × Value)) (R W : Int) (h : Heap) (hx : VecAt w h x kd l (.ref at')) (ha : DictAt w h at' kvs) (hv : (valueAt (strPairs kvs) (Str.ofString "dim")).getD .none = .ref dv)
    (hdv : VecAt w h dv (Str.ofString "integer") dl .none) (hdl : IntsL h dl [R, W]) :
    Says w p loose mean mg mb 3 40 [] [.ref x] h (fun v' h' => ∃ D t1 t2 k, v' = .ref D ∧ NewLed h h' [(D, listOf (List.toArray [.int R t1, .int W t2]) k)]) := by
  refine' enter0 [("v", .ref x)] ?k6 ?k7 ?k9 ?kB ?c2 ?c3 ?c4 ?c5 ?_
  walk_at "ENTER"
  intro dp un gd outer A base g h₁ L s hg F' N' B' X' T' hd hu
  replace hx := hx.at hg
  replace ha := ha.at hg
  refine hide ?_; intro hG9
  obtain ⟨ddx, dsl, dn, u0, u1, u2, u3, u4, tk, b1, b2, hdx1, hdx2⟩ := hdv.at hg
  refine hG9 ?_; clear hG9
  refine hide ?_; intro hG9
  obtain ⟨vs, hl, hvs⟩ := hdl.at hg
  refine hG9 ?_; clear hG9
  obtain ⟨t1, t2, rfl⟩ : ∃ t1 t2, vs = [.int R t1, .int W t2] := by
    cases hvs with
    | cons _ t1 r => cases r with
      | cons _ t2 r => cases r with
        | nil => exact ⟨t1, t2, rfl⟩
  walk_at "GO"
  walk_at "END"
  exact ⟨_, _, _, _, rfl, newLed_news hg (by k_asm) (by walk_at "SUB")⟩
local macro_rules | `(tactic| walk_at "S") => `(tactic| first | (apply dim_none_says <;> walk_at "A") | fail)
theorem names_list_says (x l : Addr) (h : Heap) (hx : VecAt w h x (Str.ofString "list") l .none) :
    Says w p loose mean mg mb 5 33 [] [.ref x] h (fun v' h' => v' = .none) := by
  refine' enter0 [("v", .ref x)] ?k6 ?k7 ?k9 ?kB ?c2 ?c3 ?c4 ?c5 ?_
  walk_at "ENTER"
  intro dp un gd outer A base g h₁ L s hg F' N' B' X' T' hd hu
  replace hx := hx.at hg
  have hx' := hx
  refine hide ?_; intro hG9
  obtain ⟨ddx, dsl, dn, u0, u1, u2, u3, u4, tk, b1, b2, hdx1, hdx2⟩ := hx'
  refine hG9 ?_; clear hG9
  walk_at "GO"
  walk_at "END"
  rfl
theorem titles_none_says (x l at' : Addr) (kd : Str) (kvs : List (Value × Value)) (h : Heap) (hx : VecAt w h x kd l (.ref at')) (ha : DictAt w h at' kvs) (hv : (valueAt (strPairs kvs) (Str.ofString "dimnames")).getD .none = .none) :
    Says w p loose mean mg mb 7 382 [] [.ref x] h (fun v' h' => v' = .none) := by
  refine' enter0 [("m", .ref x)] ?k6 ?k7 ?k9 ?kB ?c2 ?c3 ?c4 ?c5 ?_
  walk_at "ENTER"
  intro dp un gd outer A base g h₁ L s hg F' N' B' X' T' hd hu
  replace hx := hx.at hg
  replace ha := ha.at hg
  walk_at "GO"
  walk_at "END"
  rfl
local macro_rules | `(tactic| walk_at "S") => `(tactic| first | (apply names_list_says <;> walk_at "A") | fail)
theorem titles_says (x l at' nv nl : Addr) (kd : Str) (kvs : List (Value × Value)) (h : Heap) (hx : VecAt w h x kd l (.ref at')) (ha : DictAt w h at' kvs) (hv : (valueAt (strPairs kvs) (Str.ofString "dimnames")).getD .none = .ref nv)
    (hn : VecAt w h nv (Str.ofString "list") nl .none) :
    Says w p loose mean mg mb 7 382 [] [.ref x] h (fun v' h' => v' = .none) := by
  refine' enter0 [("m", .ref x)] ?k6 ?k7 ?k9 ?kB ?c2 ?c3 ?c4 ?c5 ?_
  walk_at "ENTER"
  intro dp un gd outer A base g h₁ L s hg F' N' B' X' T' hd hu
  replace hx := hx.at hg
  replace ha := ha.at hg
  replace hn := hn.at hg
  walk_at "GO"
  walk_at "END"
  rfl
theorem dimnames_none_says (x l at' : Addr) (kd : Str) (kvs : List (Value × Value)) (h : Heap) (hx : VecAt w h x kd l (.ref at')) (ha : DictAt w h at' kvs) (hv : (valueAt (strPairs kvs) (Str.ofString "dimnames")).getD .none = .none) :
    Says w p loose mean mg mb 5 45 [] [.ref x] h (fun v' h' => v' = .none) := by
  refine' enter0 [("v", .ref x)] ?k6 ?k7 ?k9 ?kB ?c2 ?c3 ?c4 ?c5 ?_
  walk_at "ENTER"
  intro dp un gd outer A base g h₁ L s hg F' N' B' X' T' hd hu
  replace hx := hx.at hg
  replace ha := ha.at hg
  walk_at "GO"
  walk_at "END"
  rfl
end
section
local macro_rules | `(tactic| walk_at "SUB") => `(tactic| first | exact List.forall_mem_nil _ | (refine' List.forall_mem_cons.mpr ⟨?a, ?b⟩; (case a => k_mem); (case b => walk_at "SUB")) | (intro _ _; walk_at "TAIL"))
abbrev T15 := (Addr) × (Addr) × (Addr) × (Addr) × (Addr) × (Addr) × (Addr) × (Str) × (List (Value × Value)) × (Option (List Str)) × (Option (List Str)) × (Heap)
def S15 (t : T15) : Prop := ∀ (hx : VecAt w (t.2.2.2.2.2.2.2.2.2.2.2) (t.1) (t.2.2.2.2.2.2.2.1) (t.2.1) (.ref (t.2.2.1))) (ha : DictAt w (t.2.2.2.2.2.2.2.2.2.2.2) (t.2.2.1) (t.2.2.2.2.2.2.2.2.1)) (hv : (valueAt (strPairs (t.2.2.2.2.2.2.2.2.1)) (Str.ofString "dimnames")).getD .none = .ref (t.2.2.2.1)) (hn : VecAt w (t.2.2.2.2.2.2.2.2.2.2.2) (t.2.2.2.1) (Str.ofString "list") (t.2.2.2.2.1) .none) (hnl : (t.2.2.2.2.2.2.2.2.2.2.2).IsList (t.2.2.2.2.1) (List.toArray [.ref (t.2.2.2.2.2.1), .ref (t.2.2.2.2.2.2.1)])) (h0 : PartAt w (t.2.2.2.2.2.2.2.2.2.2.2) (t.2.2.2.2.2.1) (t.2.2.2.2.2.2.2.2.2.1)) (h1 : PartAt w (t.2.2.2.2.2.2.2.2.2.2.2) (t.2.2.2.2.2.2.1) (t.2.2.2.2.2.2.2.2.2.2.1)) (hr : ∀ ts, (t.2.2.2.2.2.2.2.2.2.1) = some ts → ts.length ≤ 100) (hc : ∀ ts, (t.2.2.2.2.2.2.2.2.2.2.1) = some ts → ts.length ≤ 100), Says w p loose mean mg mb 7 45 [] [.ref (t.1)] (t.2.2.2.2.2.2.2.2.2.2.2) (fun v' h' => ∃ D ys k news, v' = .ref D ∧ NewLed (t.2.2.2.2.2.2.2.2.2.2.2) h' ((D, listOf (List.toArray ys) k) :: news) ∧ PartsNew ys news [(t.2.2.2.2.2.2.2.2.2.1), (t.2.2.2.2.2.2.2.2.2.2.1)])
def d15 : T15 := ((0 : Addr), (0 : Addr), (0 : Addr), (0 : Addr), (0 : Addr), (0 : Addr), (0 : Addr), (Str.empty : Str), ([] : List (Value × Value)), (none : Option (List Str)), (none : Option (List Str)), (default : Heap))
@[irreducible] noncomputable def c15 : T15 := epsC d15 S15
@[irreducible] noncomputable def c15_x : Addr := c15.1
@[irreducible] noncomputable def c15_l : Addr := c15.2.1
@[irreducible] noncomputable def c15_at' : Addr := c15.2.2.1
@[irreducible] noncomputable def c15_nv : Addr := c15.2.2.2.1
@[irreducible] noncomputable def c15_nl : Addr := c15.2.2.2.2.1
@[irreducible] noncomputable def c15_p0 : Addr := c15.2.2.2.2.2.1
@[irreducible] noncomputable def c15_p1 : Addr := c15.2.2.2.2.2.2.1
@[irreducible] noncomputable def c15_kd : Str := c15.2.2.2.2.2.2.2.1
@[irreducible] noncomputable def c15_kvs : List (Value × Value) := c15.2.2.2.2.2.2.2.2.1
@[irreducible] noncomputable def c15_rn : Option (List Str) := c15.2.2.2.2.2.2.2.2.2.1
@[irreducible] noncomputable def c15_cn : Option (List Str) := c15.2.2.2.2.2.2.2.2.2.2.1
@[irreducible] noncomputable def c15_h : Heap := c15.2.2.2.2.2.2.2.2.2.2.2
@[irreducible] noncomputable def e15 : Par := epsC parD (Body0F w p loose mean mg mb [("v", .ref c15_x)] 6 45 c15_h (fun v' h' => ∃ D ys k news, v' = .ref D ∧ NewLed c15_h h' ((D, listOf (List.toArray ys) k) :: news) ∧ PartsNew ys news [c15_rn, c15_cn]))
theorem dimnames_says_c : S15 c15 := by
  with_unfolding_all show ∀ (hx : VecAt w c15_h c15_x c15_kd c15_l (.ref c15_at')) (ha : DictAt w c15_h c15_at' c15_kvs) (hv : (valueAt (strPairs c15_kvs) (Str.ofString "dimnames")).getD .none = .ref c15_nv) (hn : VecAt w c15_h c15_nv (Str.ofString "list") c15_nl .none) (hnl : c15_h.IsList c15_nl (List.toArray [.ref c15_p0, .ref c15_p1])) (h0 : PartAt w c15_h c15_p0 c15_rn) (h1 : PartAt w c15_h c15_p1 c15_cn) (hr : ∀ ts, c15_rn = some ts → ts.length ≤ 100) (hc : ∀ ts, c15_cn = some ts → ts.length ≤ 100), Says w p loose mean mg mb 7 45 [] [.ref c15_x] c15_h (fun v' h' => ∃ D ys k news, v' = .ref D ∧ NewLed c15_h h' ((D, listOf (List.toArray ys) k) :: news) ∧ PartsNew ys news [c15_rn, c15_cn])
  intro hx ha hv hn hnl h0 h1 hr hc
  refine' enter0 [("v", .ref c15_x)] ?k6 ?k7 ?k9 ?kB ?c2 ?c3 ?c4 ?c5 (body0_all e15 ?hE ?hK ?_)
  case hE => with_unfolding_all rfl
  walk_at "ENTER"
  case hK => k_is
  intro hg F' N' B' X' T' hd hu
  replace hx := hx.at hg
  replace ha := ha.at hg
  refine hide ?_; intro hG9
  obtain ⟨ddx, dsl, dn, u0, u1, u2, u3, u4, tk, b1, b2, hdx1, hdx2⟩ := hn.at hg
  refine hG9 ?_; clear hG9
  replace hnl : e15.g.IsList c15_nl (List.toArray [.ref c15_p0, .ref c15_p1]) := stays_list hg hnl
  replace h0 := h0.at hg
  replace h1 := h1.at hg
  walk_at "GO"
  refine LCg.ListComp_U (by k_asm) (by rfl) (by decide) (by rfl) (by decide) (by rfl) ?_ (by intro _; rfl)
  walk_at "GO"
  refine LCg.CompSrc.base rfl (by k_asm) (by k_asm) hnl (by rw [sizeLine_eq]; simp) ?_
  intro hg'
  refine compRest_J (fun i ys nw => PartsNew ys nw ([c15_rn, c15_cn].take i)) ?_ ?_ _ 0 [] [] rfl PartsNew.nil
  · intro i ys news v I oI C oC D m₂ h' tk' E' hi hJ hP hC hm F N off ne
    obtain ⟨p, o, rfl, ho, hp, hl⟩ : ∃ p o, v = .ref p ∧ [c15_rn, c15_cn][i]? = some o ∧ PartAt w e15.g p o ∧ ∀ ts, o = some ts → ts.length ≤ 100 := by
      have hi2 : i < 2 := by simpa using hi
      have : i = 0 ∨ i = 1 := by walk_at "O"
      rcases this with rfl | rfl
      · exact ⟨c15_p0, c15_rn, by simpa using hP.symm, rfl, h0, hr⟩
      · exact ⟨c15_p1, c15_cn, by simpa using hP.symm, rfl, h1, hc⟩
    have htk : [c15_rn, c15_cn].take (i + 1) = [c15_rn, c15_cn].take i ++ [o] := by rw [List.take_add_one, ho]; rfl
    cases o with
    | none =>
      refine hide ?_; intro hG9
      obtain ⟨ndx, nsl, nn, w0, w1, wk, hn1, hn2⟩ := hp
      refine hG9 ?_; clear hG9
      walk_at "GO"
      exact LCg.CompEnd.intro (by k_asm) (by k_asm) news (by walk_at "SUB") off (.inl hnl) (by rw [htk]; exact PartsNew.snoc (led := []) hJ ⟨rfl, rfl⟩)
    | some ts =>
      refine hide ?_; intro hG9
      obtain ⟨cl, ⟨cdx, csl, cn', w0, w1, w2, w3, w4, wk, b3, b4, hn1, hn2⟩, vs, hcl, hvs⟩ := hp
      refine hG9 ?_; clear hG9
      have hvl : vs.length ≤ 100 := by rw [strsAre_length hvs]; exact hl _ rfl
      walk_at "GO"
      refine LCg.CompEnd.intro (by k_asm) (by k_asm) ((_, _) :: news) (by walk_at "SUB") ⟨⟨?_, ?_, ?_⟩, off⟩ (.inl hnl) (by rw [htk]; exact PartsNew.snoc (led := [_]) hJ ⟨_, _, _, rfl, rfl, hvs⟩)
      · walk_at "O"
      · walk_at "O"
      · walk_at "O"
  · intro ys news hJ D h' tk' F1 N1 O1
    walk_at "GO"
    walk_at "END"
    exact ⟨D, ys, _, news, rfl, newLed_news hg N1 (fun p hp => hp), by simpa using hJ⟩
theorem dimnames_says (x l at' nv nl p0 p1 : Addr) (kd : Str) (kvs : List (Value × Value)) (rn cn : Option (List Str)) (h : Heap) (hx : VecAt w h x kd l (.ref at')) (ha : DictAt w h at' kvs) (hv : (valueAt (strPairs kvs) (Str.ofString "dimnames")).getD .none = .ref nv) (hn : VecAt w h nv (Str.ofString "list") nl .none) (hnl : h.IsList nl (List.toArray [.ref p0, .ref p1])) (h0 : PartAt w h p0 rn) (h1 : PartAt w h p1 cn) (hr : ∀ ts, rn = some ts → ts.length ≤ 100) (hc : ∀ ts, cn = some ts → ts.length ≤ 100) :
    Says w p loose mean mg mb 7 45 [] [.ref x] h (fun v' h' => ∃ D ys k news, v' = .ref D ∧ NewLed h h' ((D, listOf (List.toArray ys) k) :: news) ∧ PartsNew ys news [rn, cn]) :=
  epsA d15 (P := S15) (c := c15) (by with_unfolding_all rfl) dimnames_says_c (x, l, at', nv, nl, p0, p1, kd, kvs, rn, cn, h) hx ha hv hn hnl h0 h1 hr hc
end
end
section
section
local macro_rules | `(tactic| walk_at "subscriptTail Name Constant ref int") => `(tactic| walk_at "ITEM")
local macro_rules | `(tactic| walk_at "subscriptTail Name Name ref int") => `(tactic| walk_at "ITEM")
local macro_rules | `(tactic| walk_at "subscriptTail Name BinOp ref int") => `(tactic| walk_at "ITEM")
local macro_rules | `(tactic| walk_at "ite") => `(tactic| first
  | ((with_reducible show (if (_ == _) = true then _ else _)); first | (refine' ite_neg ?c ?_; (case c => (rw [beq_iff_eq]; walk_at "O"))) | (refine' ite_pos ?c ?_; (case c => (rw [beq_iff_eq]; walk_at "O"))))
  | ((with_reducible show (if decide _ = true then _ else _)); first | (refine' ite_neg ?c ?_; (case c => (rw [decide_eq_true_eq]; walk_at "O"))) | (refine' ite_pos ?c ?_; (case c => (rw [decide_eq_true_eq]; walk_at "O")))))
local macro_rules | `(tactic| k_all) => `(tactic| with_reducible assumption)
local macro_rules | `(tactic| k_room) => `(tactic| ktr_room)
local macro_rules | `(tactic| walk_at "S") => `(tactic| first | (apply dim_says <;> walk_at "A") | fail)
local macro_rules | `(tactic| walk_at "R") => `(tactic| ((with_reducible apply r_dim); intro _ _ _ _ _ q9; (try k_lt q9)))
local macro_rules | `(tactic| walk_at "S") => `(tactic| first | (apply titles_none_says <;> walk_at "A") | fail)
local macro_rules | `(tactic| walk_at "S") => `(tactic| first | (apply titles_says <;> walk_at "A") | fail)
local macro_rules | `(tactic| walk_at "S") => `(tactic| first | (apply dimnames_none_says <;> walk_at "A") | fail)
local macro_rules | `(tactic| walk_at "S") => `(tactic| first | (apply matrix_says <;> walk_at "A") | fail)
local macro_rules | `(tactic| walk_at "R") => `(tactic| ((with_reducible apply r_mat); intro _ _ _ _ _ _ _ _ _ _ _ _ _ _ _ _ _ _ _ _ q9; (try k_lt q9)))
local macro_rules | `(tactic| walk_at "S") => `(tactic| focus (apply layout_says; rotate_left; walk_at "A"; walk_at "LAYIS"))
local macro_rules | `(tactic| walk_at "R") => `(tactic| ((with_reducible apply r_lines); intros))
local macro_rules | `(tactic| walk_at "S") => `(tactic| first | (apply dimnames_says <;> walk_at "A") | fail)
local macro_rules | `(tactic| walk_at "R") => `(tactic| (first | ((with_reducible apply r_ss); intro _ _ _ _ _ _ _ _ _ _ _ q1 q2 q3; (k_lt q1); (k_lt q2); (k_lt q3)) | ((with_reducible first | apply r_sn | apply r_ns); intro _ _ _ _ _ _ _ q1 q2); (k_lt q1); (k_lt q2)))
local macro_rules | `(tactic| walk_at "S") => `(tactic| first | (apply names_says <;> walk_at "A") | fail)
local macro_rules | `(tactic| walk_at "S") => `(tactic| first | (apply names_none_says <;> walk_at "A") | fail)
local macro_rules | `(tactic| walk_at "LAYP") => `(tactic| (k_asm; (first | with_reducible assumption | assumption); k_mem; k_mem; k_mem; walk_at "SUB"; (repeat exact strsL_news (by k_asm) (by k_mem) (by with_reducible assumption))))
local macro_rules | `(tactic| walk_at "LAYIS") => `(tactic| first | (apply layIs_nn; walk_at "LAYP") | (apply layIs_sn; walk_at "LAYP") | (apply layIs_ns; walk_at "LAYP") | (apply layIs_ss; walk_at "LAYP"))
local macro_rules | `(tactic| walk_at "STOP") => `(tactic| (with_reducible show wpAny _ _ (call (Value.ref 45) _) _ _ _))
abbrev T17 := (Addr) × (Addr) × (Addr) × (Addr) × (Addr) × (Kd) × (List (Value × Value)) × (List Value) × (List It) × (Nat) × (Nat) × (Option (List Str)) × (Option (List Str)) × (Int) × (Tok) × (Tok) × (Heap)
def S17 (t : T17) : Prop := ∀ (hx : VecAt w (t.2.2.2.2.2.2.2.2.2.2.2.2.2.2.2.2) (t.1) (t.2.2.2.2.2.1).str (t.2.1) (.ref (t.2.2.1))) (ha : DictAt w (t.2.2.2.2.2.2.2.2.2.2.2.2.2.2.2.2) (t.2.2.1) (t.2.2.2.2.2.2.1)) (hv1 : (valueAt (strPairs (t.2.2.2.2.2.2.1)) (Str.ofString "dim")).getD .none = .ref (t.2.2.2.1)) (hdv : VecAt w (t.2.2.2.2.2.2.2.2.2.2.2.2.2.2.2.2) (t.2.2.2.1) (Str.ofString "integer") (t.2.2.2.2.1) .none) (hdl : IntsL (t.2.2.2.2.2.2.2.2.2.2.2.2.2.2.2.2) (t.2.2.2.2.1) [((t.2.2.2.2.2.2.2.2.2.1) : Int), ((t.2.2.2.2.2.2.2.2.2.2.1) : Int)]) (h6 : ((valueAt (strPairs (t.2.2.2.2.2.2.1)) (Str.ofString "dimnames")).getD .none = .none ∧ (t.2.2.2.2.2.2.2.2.2.2.2.1) = none ∧ (t.2.2.2.2.2.2.2.2.2.2.2.2.1) = none) ∨ ∃ nv nl p0 p1, (valueAt (strPairs (t.2.2.2.2.2.2.1)) (Str.ofString "dimnames")).getD .none = .ref nv ∧ VecAt w (t.2.2.2.2.2.2.2.2.2.2.2.2.2.2.2.2) nv (Str.ofString "list") nl .none ∧ (t.2.2.2.2.2.2.2.2.2.2.2.2.2.2.2.2).IsList nl (List.toArray [.ref p0, .ref p1]) ∧ PartAt w (t.2.2.2.2.2.2.2.2.2.2.2.2.2.2.2.2) p0 (t.2.2.2.2.2.2.2.2.2.2.2.1) ∧ PartAt w (t.2.2.2.2.2.2.2.2.2.2.2.2.2.2.2.2) p1 (t.2.2.2.2.2.2.2.2.2.2.2.2.1) ∧ ¬ ((t.2.2.2.2.2.2.2.2.2.2.2.1) = none ∧ (t.2.2.2.2.2.2.2.2.2.2.2.2.1) = none)) (nm : NamesOk (t.2.2.2.2.2.2.2.2.2.1) (t.2.2.2.2.2.2.2.2.2.2.1) (t.2.2.2.2.2.2.2.2.2.2.2.1) (t.2.2.2.2.2.2.2.2.2.2.2.2.1)) (hl : (t.2.2.2.2.2.2.2.2.2.2.2.2.2.2.2.2).IsList (t.2.1) (t.2.2.2.2.2.2.2.1).toArray) (hv : ItsAre (t.2.2.2.2.2.2.2.1) (t.2.2.2.2.2.2.2.2.1)) (ho : ∀ it ∈ (t.2.2.2.2.2.2.2.2.1), okIt (t.2.2.2.2.2.1) it) (hn : (t.2.2.2.2.2.2.2.2.1).length = (t.2.2.2.2.2.2.2.2.2.1) * (t.2.2.2.2.2.2.2.2.2.2.1)) (hR : 1 ≤ (t.2.2.2.2.2.2.2.2.2.1)) (hR4 : (t.2.2.2.2.2.2.2.2.2.1) ≤ 4) (hW : 1 ≤ (t.2.2.2.2.2.2.2.2.2.2.1)) (hW7 : (t.2.2.2.2.2.2.2.2.2.2.1) ≤ 7), Says w p loose mean mg mb 18 402 [] [.ref (t.1), .bool true, .bool false, .int (t.2.2.2.2.2.2.2.2.2.2.2.2.2.1) (t.2.2.2.2.2.2.2.2.2.2.2.2.2.2.1), .int 7 (t.2.2.2.2.2.2.2.2.2.2.2.2.2.2.2.1)] (t.2.2.2.2.2.2.2.2.2.2.2.2.2.2.2.2) (fun v h' => ∃ ls, NewStrs (t.2.2.2.2.2.2.2.2.2.2.2.2.2.2.2.2) h' v ls ∧ Lines (block (layD (t.2.2.2.2.2.1) (t.2.2.2.2.2.2.2.2.1) (t.2.2.2.2.2.2.2.2.2.1) (t.2.2.2.2.2.2.2.2.2.2.1) (t.2.2.2.2.2.2.2.2.2.2.2.1) (t.2.2.2.2.2.2.2.2.2.2.2.2.1)) (widths (layD (t.2.2.2.2.2.1) (t.2.2.2.2.2.2.2.2.1) (t.2.2.2.2.2.2.2.2.2.1) (t.2.2.2.2.2.2.2.2.2.2.1) (t.2.2.2.2.2.2.2.2.2.2.2.1) (t.2.2.2.2.2.2.2.2.2.2.2.2.1)))) (more (room (t.2.2.2.2.2.2.2.2.2.2.2.1)) (widths (layD (t.2.2.2.2.2.1) (t.2.2.2.2.2.2.2.2.1) (t.2.2.2.2.2.2.2.2.2.1) (t.2.2.2.2.2.2.2.2.2.2.1) (t.2.2.2.2.2.2.2.2.2.2.2.1) (t.2.2.2.2.2.2.2.2.2.2.2.2.1))) (t.2.2.2.2.2.2.2.2.2.2.2.2.2.1)) (layD (t.2.2.2.2.2.1) (t.2.2.2.2.2.2.2.2.1) (t.2.2.2.2.2.2.2.2.2.1) (t.2.2.2.2.2.2.2.2.2.2.1) (t.2.2.2.2.2.2.2.2.2.2.2.1) (t.2.2.2.2.2.2.2.2.2.2.2.2.1)).cols.length 0 ls)
def d17 : T17 := ((0 : Addr), (0 : Addr), (0 : Addr), (0 : Addr), (0 : Addr), (.int : Kd), ([] : List (Value × Value)), ([] : List Value), ([] : List It), (0 : Nat), (0 : Nat), (none : Option (List Str)), (none : Option (List Str)), (0 : Int), (0 : Tok), (0 : Tok), (default : Heap))
@[irreducible] noncomputable def c17 : T17 := epsC d17 S17
@[irreducible] noncomputable def c17_x : Addr := c17.1
@[irreducible] noncomputable def c17_l : Addr := c17.2.1
@[irreducible] noncomputable def c17_at' : Addr := c17.2.2.1
@[irreducible] noncomputable def c17_dv : Addr := c17.2.2.2.1
@[irreducible] noncomputable def c17_dl : Addr := c17.2.2.2.2.1
@[irreducible] noncomputable def c17_kd : Kd := c17.2.2.2.2.2.1
@[irreducible] noncomputable def c17_kvs : List (Value × Value) := c17.2.2.2.2.2.2.1
@[irreducible] noncomputable def c17_vs : List Value := c17.2.2.2.2.2.2.2.1
@[irreducible] noncomputable def c17_its : List It := c17.2.2.2.2.2.2.2.2.1
@[irreducible] noncomputable def c17_R : Nat := c17.2.2.2.2.2.2.2.2.2.1
@[irreducible] noncomputable def c17_W : Nat := c17.2.2.2.2.2.2.2.2.2.2.1
@[irreducible] noncomputable def c17_rn : Option (List Str) := c17.2.2.2.2.2.2.2.2.2.2.2.1
@[irreducible] noncomputable def c17_cn : Option (List Str) := c17.2.2.2.2.2.2.2.2.2.2.2.2.1
@[irreducible] noncomputable def c17_pg : Int := c17.2.2.2.2.2.2.2.2.2.2.2.2.2.1
@[irreducible] noncomputable def c17_u1 : Tok := c17.2.2.2.2.2.2.2.2.2.2.2.2.2.2.1
@[irreducible] noncomputable def c17_u2 : Tok := c17.2.2.2.2.2.2.2.2.2.2.2.2.2.2.2.1
@[irreducible] noncomputable def c17_h : Heap := c17.2.2.2.2.2.2.2.2.2.2.2.2.2.2.2.2
@[irreducible] noncomputable def e17 : Par := epsC parD (Body0F w p loose mean mg mb [("m", .ref c17_x), ("quote", .bool true), ("right", .bool false), ("width", .int c17_pg c17_u1), ("digits", .int 7 c17_u2)] 17 402 c17_h (fun v h' => ∃ ls, NewStrs c17_h h' v ls ∧ Lines (block (layD c17_kd c17_its c17_R c17_W c17_rn c17_cn) (widths (layD c17_kd c17_its c17_R c17_W c17_rn c17_cn))) (more (room c17_rn) (widths (layD c17_kd c17_its c17_R c17_W c17_rn c17_cn)) c17_pg) (layD c17_kd c17_its c17_R c17_W c17_rn c17_cn).cols.length 0 ls))
theorem pm_mat_says_c : S17 c17 := by
  with_unfolding_all show ∀ (hx : VecAt w c17_h c17_x c17_kd.str c17_l (.ref c17_at')) (ha : DictAt w c17_h c17_at' c17_kvs) (hv1 : (valueAt (strPairs c17_kvs) (Str.ofString "dim")).getD .none = .ref c17_dv) (hdv : VecAt w c17_h c17_dv (Str.ofString "integer") c17_dl .none) (hdl : IntsL c17_h c17_dl [(c17_R : Int), (c17_W : Int)]) (h6 : ((valueAt (strPairs c17_kvs) (Str.ofString "dimnames")).getD .none = .none ∧ c17_rn = none ∧ c17_cn = none) ∨ ∃ nv nl p0 p1, (valueAt (strPairs c17_kvs) (Str.ofString "dimnames")).getD .none = .ref nv ∧ VecAt w c17_h nv (Str.ofString "list") nl .none ∧ c17_h.IsList nl (List.toArray [.ref p0, .ref p1]) ∧ PartAt w c17_h p0 c17_rn ∧ PartAt w c17_h p1 c17_cn ∧ ¬ (c17_rn = none ∧ c17_cn = none)) (nm : NamesOk c17_R c17_W c17_rn c17_cn) (hl : c17_h.IsList c17_l c17_vs.toArray) (hv : ItsAre c17_vs c17_its) (ho : ∀ it ∈ c17_its, okIt c17_kd it) (hn : c17_its.length = c17_R * c17_W) (hR : 1 ≤ c17_R) (hR4 : c17_R ≤ 4) (hW : 1 ≤ c17_W) (hW7 : c17_W ≤ 7), Says w p loose mean mg mb 18 402 [] [.ref c17_x, .bool true, .bool false, .int c17_pg c17_u1, .int 7 c17_u2] c17_h (fun v h' => ∃ ls, NewStrs c17_h h' v ls ∧ Lines (block (layD c17_kd c17_its c17_R c17_W c17_rn c17_cn) (widths (layD c17_kd c17_its c17_R c17_W c17_rn c17_cn))) (more (room c17_rn) (widths (layD c17_kd c17_its c17_R c17_W c17_rn c17_cn)) c17_pg) (layD c17_kd c17_its c17_R c17_W c17_rn c17_cn).cols.length 0 ls)
  intro hx ha hv1 hdv hdl h6 nm hl hv ho hn hR hR4 hW hW7
  have ok := layD_ok (rn := c17_rn) (cn := c17_cn) ho hn hR hR4 hW hW7 nm
  have hr := fun ts (e : c17_rn = some ts) => show ts.length ≤ 100 by rw [nm.rl ts e]; walk_at "O"
  have hc := fun ts (e : c17_cn = some ts) => show ts.length ≤ 100 by rw [nm.cl ts e]; walk_at "O"
  refine' enter0 [("m", .ref c17_x), ("quote", .bool true), ("right", .bool false), ("width", .int c17_pg c17_u1), ("digits", .int 7 c17_u2)] ?k6 ?k7 ?k9 ?kB ?c2 ?c3 ?c4 ?c5 (body0_all e17 ?hE ?hK ?_)
  case hE => with_unfolding_all rfl
  walk_at "ENTER"
  case hK => k_is
  intro hg F' N' B' X' T' hd hu
  generalize hq_rn : c17_rn = rn at *
  generalize hq_cn : c17_cn = cn at *
  replace hx := hx.at hg
  have hx' := hx
  refine hide ?_; intro hG9
  obtain ⟨ddx, dsl, dn, w0, w1, w2, w3, w4, tk, b1, b2, hdx1, hdx2⟩ := hx'
  refine hG9 ?_; clear hG9
  replace ha := ha.at hg
  replace hdv := hdv.at hg
  replace hdl := hdl.at hg
  have hl' : e17.g.IsList c17_l c17_vs.toArray := stays_list hg hl
  walk_at "GO"
  refine hide ?_; intro hG9
  rcases h6 with ⟨hv2, rfl, rfl⟩ | ⟨nv, nl, p0, p1, hv2, hnv, hnl, h0, h1, hne⟩
  · refine hG9 ?_; clear hG9
    walk1
    walk_at "GO"
    walk_at "END"
    exact ⟨_, newStrs_news hg (by k_asm) (.head _) (by with_reducible assumption), by with_reducible assumption⟩
  · replace hnv := hnv.at hg
    replace hnl : e17.g.IsList nl (List.toArray [.ref p0, .ref p1]) := stays_list hg hnl
    replace h0 := h0.at hg
    replace h1 := h1.at hg
    cases rn with
    | none =>
      cases cn with
      | none => exact absurd ⟨rfl, rfl⟩ hne
      | some c =>
        refine hG9 ?_; clear hG9
        have g1 := nm.ct c rfl
        have g2 := hc c rfl
        walk1
        walk_at "GO"
        walk_at "END"
        exact ⟨_, newStrs_news hg (by k_asm) (.head _) (by with_reducible assumption), by with_reducible assumption⟩
    | some r =>
      have g3 := nm.rt r rfl
      have g4 := hr r rfl
      cases cn with
      | none =>
        refine hG9 ?_; clear hG9
        walk1
        walk_at "GO"
        walk_at "END"
        exact ⟨_, newStrs_news hg (by k_asm) (.head _) (by with_reducible assumption), by with_reducible assumption⟩
      | some c =>
        refine hG9 ?_; clear hG9
        have g1 := nm.ct c rfl
        have g2 := hc c rfl
        walk1
        walk_at "GO"
        walk_at "END"
        exact ⟨_, newStrs_news hg (by k_asm) (.head _) (by with_reducible assumption), by with_reducible assumption⟩
theorem pm_mat_says (x l at' dv dl : Addr) (kd : Kd) (kvs : List (Value × Value)) (vs : List Value) (its : List It) (R W : Nat) (rn cn : Option (List Str)) (pg : Int) (u1 u2 : Tok) (h : Heap) (hx : VecAt w h x kd.str l (.ref at')) (ha : DictAt w h at' kvs) (hv1 : (valueAt (strPairs kvs) (Str.ofString "dim")).getD .none = .ref dv) (hdv : VecAt w h dv (Str.ofString "integer") dl .none) (hdl : IntsL h dl [(R : Int), (W : Int)]) (h6 : ((valueAt (strPairs kvs) (Str.ofString "dimnames")).getD .none = .none ∧ rn = none ∧ cn = none) ∨ ∃ nv nl p0 p1, (valueAt (strPairs kvs) (Str.ofString "dimnames")).getD .none = .ref nv ∧ VecAt w h nv (Str.ofString "list") nl .none ∧ h.IsList nl (List.toArray [.ref p0, .ref p1]) ∧ PartAt w h p0 rn ∧ PartAt w h p1 cn ∧ ¬ (rn = none ∧ cn = none)) (nm : NamesOk R W rn cn) (hl : h.IsList l vs.toArray) (hv : ItsAre vs its) (ho : ∀ it ∈ its, okIt kd it) (hn : its.length = R * W) (hR : 1 ≤ R) (hR4 : R ≤ 4) (hW : 1 ≤ W) (hW7 : W ≤ 7) :
    Says w p loose mean mg mb 18 402 [] [.ref x, .bool true, .bool false, .int pg u1, .int 7 u2] h (fun v h' => ∃ ls, NewStrs h h' v ls ∧ Lines (block (layD kd its R W rn cn) (widths (layD kd its R W rn cn))) (more (room rn) (widths (layD kd its R W rn cn)) pg) (layD kd its R W rn cn).cols.length 0 ls) :=
  epsA d17 (P := S17) (c := c17) (by with_unfolding_all rfl) pm_mat_says_c (x, l, at', dv, dl, kd, kvs, vs, its, R, W, rn, cn, pg, u1, u2, h) hx ha hv1 hdv hdl h6 nm hl hv ho hn hR hR4 hW hW7
end
end
section
local macro_rules | `(tactic| walk_at "ite") => `(tactic| first
  | ((with_reducible show (if (_ == _) = true then _ else _)); first | (refine' ite_neg ?c ?_; (case c => (rw [beq_iff_eq]; walk_at "O"))) | (refine' ite_pos ?c ?_; (case c => (rw [beq_iff_eq]; walk_at "O"))))
  | ((with_reducible show (if decide _ = true then _ else _)); first | (refine' ite_neg ?c ?_; (case c => (rw [decide_eq_true_eq]; walk_at "O"))) | (refine' ite_pos ?c ?_; (case c => (rw [decide_eq_true_eq]; walk_at "O")))))
section
local macro_rules | `(tactic| walk_at "call builtin:len") => `(tactic| (k_here; (with_reducible show wpAny _ _ (call (Value.builtin "len") [Value.ref _]) _ _ _); k_dflt (apply len_own; walk_at "LIST"; (with_reducible assumption); walk_at "O"; k_whole; intro _ _)))
abbrev T18 := (Addr) × (Addr) × (Obj) × (Int) × (List Value) × (List Int) × (Int) × (Tok) × (Heap)
def S18 (t : T18) : Prop := ∀ (hb0 : (t.2.2.2.2.2.2.2.2).get? (t.1) = some (t.2.2.1)) (hob : BarOk (t.2.1) (t.2.2.2.1) (t.2.2.1)) (hlb : (t.2.1) ≠ (t.1)) (hl : (t.2.2.2.2.2.2.2.2).IsList (t.2.1) (List.toArray (t.2.2.2.2.1))) (hcs : IntsAre (t.2.2.2.2.1) (t.2.2.2.2.2.1)) (h1 : 1 ≤ (t.2.2.2.2.2.1).length) (h2 : (t.2.2.2.2.2.1).length ≤ 40) (hcap : (t.2.2.2.1) ≤ 100000) (hn : 1 ≤ (t.2.2.2.2.2.2.1)) (hn2 : (t.2.2.2.2.2.2.1) ≤ 1000000), Says w p loose mean mg mb 1 409 [(t.1)] [.ref (t.1), .int (t.2.2.2.2.2.2.1) (t.2.2.2.2.2.2.2.1)] (t.2.2.2.2.2.2.2.2) (fun v h' => ∃ o', h'.get? (t.1) = some o' ∧ ∃ hop tk, v = .int hop tk ∧ 0 ≤ hop ∧ hop < (t.2.2.2.2.2.2.1) ∧ BarOk (t.2.1) ((t.2.2.2.1) + 1) o')
def d18 : T18 := ((0 : Addr), (0 : Addr), (default : Obj), (0 : Int), ([] : List Value), ([] : List Int), (0 : Int), (0 : Tok), (default : Heap))
@[irreducible] noncomputable def c18 : T18 := epsC d18 S18
@[irreducible] noncomputable def c18_b : Addr := c18.1
@[irreducible] noncomputable def c18_l : Addr := c18.2.1
@[irreducible] noncomputable def c18_ob : Obj := c18.2.2.1
@[irreducible] noncomputable def c18_cap : Int := c18.2.2.2.1
@[irreducible] noncomputable def c18_cs : List Value := c18.2.2.2.2.1
@[irreducible] noncomputable def c18_ns : List Int := c18.2.2.2.2.2.1
@[irreducible] noncomputable def c18_n : Int := c18.2.2.2.2.2.2.1
@[irreducible] noncomputable def c18_u3 : Tok := c18.2.2.2.2.2.2.2.1
@[irreducible] noncomputable def c18_h : Heap := c18.2.2.2.2.2.2.2.2
@[irreducible] noncomputable def e18 : Par := epsC parD (Body1F w p loose mean mg mb [("barrel", .ref c18_b), ("many_of", .int c18_n c18_u3)] c18_b c18_ob 0 409 c18_h (fun v h' => ∃ o', h'.get? c18_b = some o' ∧ ∃ hop tk, v = .int hop tk ∧ 0 ≤ hop ∧ hop < c18_n ∧ BarOk c18_l (c18_cap + 1) o'))
theorem scoop_says_c : S18 c18 := by
  with_unfolding_all show ∀ (hb0 : c18_h.get? c18_b = some c18_ob) (hob : BarOk c18_l c18_cap c18_ob) (hlb : c18_l ≠ c18_b) (hl : c18_h.IsList c18_l (List.toArray c18_cs)) (hcs : IntsAre c18_cs c18_ns) (h1 : 1 ≤ c18_ns.length) (h2 : c18_ns.length ≤ 40) (hcap : c18_cap ≤ 100000) (hn : 1 ≤ c18_n) (hn2 : c18_n ≤ 1000000), Says w p loose mean mg mb 1 409 [c18_b] [.ref c18_b, .int c18_n c18_u3] c18_h (fun v h' => ∃ o', h'.get? c18_b = some o' ∧ ∃ hop tk, v = .int hop tk ∧ 0 ≤ hop ∧ hop < c18_n ∧ BarOk c18_l (c18_cap + 1) o')
  intro hb0 hob hlb hl hcs h1 h2 hcap hn hn2
  refine hide ?_; intro hG9
  obtain ⟨t, c, u1, u2, k, hobE, ht, htc, hc, hc2⟩ := hob
  refine hG9 ?_; clear hG9
  refine' enter1 [("barrel", .ref c18_b), ("many_of", .int c18_n c18_u3)] c18_b _ hb0 ?k6 ?k7 ?k9 ?kB ?c2 ?c3 ?c4 ?c5 (body1_all e18 ?hE ?hK ?_)
  case hE => with_unfolding_all rfl
  walk_at "ENTER"
  case hK => k_is
  intro hg F' N' B' X' T' hd hu
  rw [hobE] at N'
  have hl' : e18.g.IsList c18_l (List.toArray c18_cs) := hl.at fun o e => hg _ _ hlb e
  have hlen : c18_cs.length = c18_ns.length := IntsAre.length hcs
  walk_at "GO"
  all_goals walk_at "END"
  all_goals first | exact scoop_end (by k_asm) (by walk_at "O") (by walk_at "O") hc hc2 hn | exact scoop_end (by k_asm) (by walk_at "O") (by walk_at "O") (fmod_lt48 _ (by decide) (by decide)).1 (fmod_lt48 _ (by decide) (by decide)).2 hn
theorem scoop_says (b l : Addr) (ob : Obj) (cap : Int) (cs : List Value) (ns : List Int) (n : Int) (u3 : Tok) (h : Heap) (hb0 : h.get? b = some ob) (hob : BarOk l cap ob) (hlb : l ≠ b) (hl : h.IsList l (List.toArray cs)) (hcs : IntsAre cs ns) (h1 : 1 ≤ ns.length) (h2 : ns.length ≤ 40) (hcap : cap ≤ 100000) (hn : 1 ≤ n) (hn2 : n ≤ 1000000) :
    Says w p loose mean mg mb 1 409 [b] [.ref b, .int n u3] h (fun v h' => ∃ o', h'.get? b = some o' ∧ ∃ hop tk, v = .int hop tk ∧ 0 ≤ hop ∧ hop < n ∧ BarOk l (cap + 1) o') :=
  epsA d18 (P := S18) (c := c18) (by with_unfolding_all rfl) scoop_says_c (b, l, ob, cap, cs, ns, n, u3, h) hb0 hob hlb hl hcs h1 h2 hcap hn hn2
end
section
local macro_rules | `(tactic| walk_at "call ref") => `(tactic| (k_here; k_dflt (apply says_use1; walk_at "S"; k_asm; k_asm; k_asm; k_asm; (first | with_reducible assumption | k_updF); k_asm; walk_at "USE2"; k_whole; intro _ _ _ _ _ N9; (try dsimp only at N9); walk_at "R"; (try dsimp only))))
local macro_rules | `(tactic| walk_at "S") => `(tactic| first | (apply scoop_says <;> walk_at "A") | fail)
local macro_rules | `(tactic| walk_at "R") => `(tactic| ((with_reducible apply r_hop); intros))
abbrev T19 := (Addr) × (Addr) × (Obj) × (Int) × (List Value) × (List Int) × (Kd) × (Tok) × (Heap)
def S19 (t : T19) : Prop := ∀ (hb0 : (t.2.2.2.2.2.2.2.2).get? (t.1) = some (t.2.2.1)) (hob : BarOk (t.2.1) (t.2.2.2.1) (t.2.2.1)) (hlb : (t.2.1) ≠ (t.1)) (hl : (t.2.2.2.2.2.2.2.2).IsList (t.2.1) (List.toArray (t.2.2.2.2.1))) (hcs : IntsAre (t.2.2.2.2.1) (t.2.2.2.2.2.1)) (h1 : 1 ≤ (t.2.2.2.2.2.1).length) (h2 : (t.2.2.2.2.2.1).length ≤ 40) (hcap : (t.2.2.2.1) ≤ 90000), Says w p loose mean mg mb 3 423 [(t.1)] [.ref (t.1), .str (t.2.2.2.2.2.2.1).str (t.2.2.2.2.2.2.2.1)] (t.2.2.2.2.2.2.2.2) (fun v h' => ∃ o', h'.get? (t.1) = some o' ∧ ∃ it tk, v = it.val tk ∧ okIt (t.2.2.2.2.2.2.1) it ∧ BarOk (t.2.1) ((t.2.2.2.1) + 4) o')
def d19 : T19 := ((0 : Addr), (0 : Addr), (default : Obj), (0 : Int), ([] : List Value), ([] : List Int), (.int : Kd), (0 : Tok), (default : Heap))
@[irreducible] noncomputable def c19 : T19 := epsC d19 S19
@[irreducible] noncomputable def c19_b : Addr := c19.1
@[irreducible] noncomputable def c19_l : Addr := c19.2.1
@[irreducible] noncomputable def c19_ob : Obj := c19.2.2.1
@[irreducible] noncomputable def c19_cap : Int := c19.2.2.2.1
@[irreducible] noncomputable def c19_cs : List Value := c19.2.2.2.2.1
@[irreducible] noncomputable def c19_ns : List Int := c19.2.2.2.2.2.1
@[irreducible] noncomputable def c19_kd : Kd := c19.2.2.2.2.2.2.1
@[irreducible] noncomputable def c19_u3 : Tok := c19.2.2.2.2.2.2.2.1
@[irreducible] noncomputable def c19_h : Heap := c19.2.2.2.2.2.2.2.2
@[irreducible] noncomputable def e19 : Par := epsC parD (Body1F w p loose mean mg mb [("barrel", .ref c19_b), ("sort", .str c19_kd.str c19_u3)] c19_b c19_ob 2 423 c19_h (fun v h' => ∃ o', h'.get? c19_b = some o' ∧ ∃ it tk, v = it.val tk ∧ okIt c19_kd it ∧ BarOk c19_l (c19_cap + 4) o'))
theorem entry_says_c : S19 c19 := by
  with_unfolding_all show ∀ (hb0 : c19_h.get? c19_b = some c19_ob) (hob : BarOk c19_l c19_cap c19_ob) (hlb : c19_l ≠ c19_b) (hl : c19_h.IsList c19_l (List.toArray c19_cs)) (hcs : IntsAre c19_cs c19_ns) (h1 : 1 ≤ c19_ns.length) (h2 : c19_ns.length ≤ 40) (hcap : c19_cap ≤ 90000), Says w p loose mean mg mb 3 423 [c19_b] [.ref c19_b, .str c19_kd.str c19_u3] c19_h (fun v h' => ∃ o', h'.get? c19_b = some o' ∧ ∃ it tk, v = it.val tk ∧ okIt c19_kd it ∧ BarOk c19_l (c19_cap + 4) o')
  intro hb0 hob hlb hl hcs h1 h2 hcap
  refine' enter1 [("barrel", .ref c19_b), ("sort", .str c19_kd.str c19_u3)] c19_b _ hb0 ?k6 ?k7 ?k9 ?kB ?c2 ?c3 ?c4 ?c5 (body1_all e19 ?hE ?hK ?_)
  case hE => with_unfolding_all rfl
  walk_at "ENTER"
  case hK => k_is
  intro hg F' N' B' X' T' hd hu
  generalize hq_kd : c19_kd = kd at *
  have hl' : e19.g.IsList c19_l (List.toArray c19_cs) := hl.at fun o e => hg _ _ hlb e
  cases kd
  · walk_at "GO"
    all_goals walk_at "END"
    · exact entry_end (by k_asm) (by with_reducible assumption) (by walk_at "O") .na 0 rfl trivial
    · exact entry_end (by k_asm) (by with_reducible assumption) (by walk_at "O") (.int _) _ rfl (prod_ok (by with_reducible assumption) (by with_reducible assumption) (by with_reducible assumption) (by with_reducible assumption) (by with_reducible assumption) (by with_reducible assumption))
  · walk_at "GO"
    all_goals walk_at "END"
    · exact entry_end (by k_asm) (by with_reducible assumption) (by walk_at "O") .na 0 rfl trivial
    · exact entry_end (by k_asm) (by with_reducible assumption) (by walk_at "O") (.txt _) _ rfl (abc_ok (by with_reducible assumption) (by with_reducible assumption))
  · walk_at "GO"
    all_goals walk_at "END"
    · exact entry_end (by k_asm) (by with_reducible assumption) (by walk_at "O") .na 0 rfl trivial
    · exact entry_end (by k_asm) (by with_reducible assumption) (by walk_at "O") (.int _) _ rfl (show _ ∨ _ by walk_at "O")
theorem entry_says (b l : Addr) (ob : Obj) (cap : Int) (cs : List Value) (ns : List Int) (kd : Kd) (u3 : Tok) (h : Heap) (hb0 : h.get? b = some ob) (hob : BarOk l cap ob) (hlb : l ≠ b) (hl : h.IsList l (List.toArray cs)) (hcs : IntsAre cs ns) (h1 : 1 ≤ ns.length) (h2 : ns.length ≤ 40) (hcap : cap ≤ 90000) :
    Says w p loose mean mg mb 3 423 [b] [.ref b, .str kd.str u3] h (fun v h' => ∃ o', h'.get? b = some o' ∧ ∃ it tk, v = it.val tk ∧ okIt kd it ∧ BarOk l (cap + 4) o') :=
  epsA d19 (P := S19) (c := c19) (by with_unfolding_all rfl) entry_says_c (b, l, ob, cap, cs, ns, kd, u3, h) hb0 hob hlb hl hcs h1 h2 hcap
end
end
section
section
local macro_rules | `(tactic| walk_at "ite") => `(tactic| first
  | ((with_reducible show (if (_ == _) = true then _ else _)); first | (refine' ite_neg ?c ?_; (case c => (rw [beq_iff_eq]; walk_at "O"))) | (refine' ite_pos ?c ?_; (case c => (rw [beq_iff_eq]; walk_at "O"))))
  | ((with_reducible show (if decide _ = true then _ else _)); first | (refine' ite_neg ?c ?_; (case c => (rw [decide_eq_true_eq]; walk_at "O"))) | (refine' ite_pos ?c ?_; (case c => (rw [decide_eq_true_eq]; walk_at "O")))))
theorem law_shown_says (kd : Kd) (it : It) (t1 t2 : Tok) (h : Heap) (ho : okIt kd it) : Says w p loose mean mg mb 1 416 [] [.str kd.str t1, it.val t2] h (fun v _ => ∃ tk, v = .str (shown kd it) tk) := by
  refine' enter0 [("sort", .str kd.str t1), ("held", it.val t2)] ?k6 ?k7 ?k9 ?kB ?c2 ?c3 ?c4 ?c5 ?_
  walk_at "ENTER"
  intro dp un gd outer A base g h₁ L s hg F' N' B' X' T' hd hu
  cases kd <;> cases it <;> first | exact ho.elim | skip
  all_goals dsimp only [Kd.str, It.val] at *
  · walk_at "GO"; walk_at "END"; exact ⟨_, rfl⟩
  · obtain ⟨o1, o2⟩ := ho; walk_at "GO"; walk_at "END"; exact ⟨_, rfl⟩
  · walk_at "GO"; walk_at "END"; exact ⟨_, rfl⟩
  · obtain ⟨o1, o2⟩ := ho; walk_at "GO"; walk_at "END"; exact ⟨_, rfl⟩
  · walk_at "GO"; walk_at "END"; exact ⟨_, rfl⟩
  · rename Int => i
    walk_at "GO"
    all_goals walk_at "END"
    · rename i = 1 => hi; exact ⟨_, by rw [show shown Kd.lgl (It.int i) = Str.ofString "TRUE" from if_pos hi]⟩
    · rename i ≠ 1 => hi; exact ⟨_, by rw [show shown Kd.lgl (It.int i) = Str.ofString "FALSE" from if_neg hi]⟩
theorem filled_says (tx : Str) (n : Int) (b : Bool) (t1 t2 : Tok) (h : Heap) (h0 : tx.length ≤ 1000) (h1 : 0 ≤ n) (h2 : n ≤ 1000) : Says w p loose mean mg mb 1 430 [] [.str tx t1, .int n t2, .bool b] h (fun v _ => ∃ tk, v = .str (fill tx n b) tk) := by
  refine' enter0 [("text_now", .str tx t1), ("size", .int n t2), ("at_left", .bool b)] ?k6 ?k7 ?k9 ?kB ?c2 ?c3 ?c4 ?c5 ?_
  walk_at "ENTER"
  intro dp un gd outer A base g h₁ L s hg F' N' B' X' T' hd hu
  walk_at "GO"
  all_goals walk_at "END"
  · rename b = true => hb; subst hb; exact ⟨_, by rw [show (n - (tx.length : Int)).toNat = n.toNat - tx.length by walk_at "O"]; rfl⟩
  · rename b = false => hb; subst hb; exact ⟨_, by rw [show (n - (tx.length : Int)).toNat = n.toNat - tx.length by walk_at "O"]; rfl⟩
end
end
section
section
local macro_rules | `(tactic| k_room) => `(tactic| ktr_room)
local macro_rules | `(tactic| walk_at "call type:list") => `(tactic| (k_here; (with_reducible show wpAny _ _ (call (Value.type _) [Value.ref _]) _ _ _); k_dflt (refine' list_copyK ?k1 ?k2 ?k3 ?_ ?z; (case k1 => k_asm); (case k2 => k_asm); (case k3 => walk_at "LIST"); (case z => rw [sizeLine_eq, List.size_toArray]; first | walk_at "O" | (simp; done) | (simp; walk_at "O")); k_whole); intro D' c' h' F' N' l1; (try k_lt l1); (try k_sweep)))
theorem char_says (a : Addr) (ts : List Str) (h : Heap) (ha : StrsL h a ts) (hlen : ts.length ≤ 100) :
    Says w p loose mean mg mb 6 206 [] [.ref a] h (fun v h' => ∃ p led, v = .ref p ∧ NewLed h h' led ∧ MadePart w led p (some ts)) := by
  refine hide ?_; intro hG9
  obtain ⟨cvs, hcl, hcv⟩ := ha
  refine hG9 ?_; clear hG9
  refine' enter0 [("items", .ref a)] ?k6 ?k7 ?k9 ?kB ?c2 ?c3 ?c4 ?c5 ?_
  walk_at "ENTER"
  intro dp un gd outer A base g h₁ L s hg F' N' B' X' T' hd hu
  have hcl' : g.IsList a cvs.toArray := stays_list hg hcl
  have hvl : cvs.length ≤ 100 := by rw [strsAre_length hcv]; exact hlen
  walk_at "GO"
  walk_at "END"
  rename News g _ _ _ => N9
  exact ⟨_, [_, _, _], rfl, newLed_news hg N9 (fun _ hp => hp), fun h'' H => ⟨_, vecAt_has H (.head _) (.tail _ (.head _)), strsL_has H (.tail _ (.tail _ (.head _))) hcv⟩⟩
end
end
section
local macro_rules | `(tactic| walk_at "ite") => `(tactic| first
  | ((with_reducible show (if (_ == _) = true then _ else _)); first | (refine' ite_neg ?c ?_; (case c => (rw [beq_iff_eq]; walk_at "O"))) | (refine' ite_pos ?c ?_; (case c => (rw [beq_iff_eq]; walk_at "O"))))
  | ((with_reducible show (if decide _ = true then _ else _)); first | (refine' ite_neg ?c ?_; (case c => (rw [decide_eq_true_eq]; walk_at "O"))) | (refine' ite_pos ?c ?_; (case c => (rw [decide_eq_true_eq]; walk_at "O")))))
local macro_rules | `(tactic| walk_at "call type:range") => `(tactic| (k_here; k_dflt (first | (refine' range1_led ?F ?N ?_; (case F => k_asm); (case N => k_asm); k_whole) | (refine' range2_led ?F ?N ?_; (case F => k_asm); (case N => k_asm); k_whole)); intro r' h' tk' t' u' v' F' N' l1; (try k_lt l1); (try k_sweep)))
local macro_rules | `(tactic| walk_at "call builtin:len") => `(tactic| (k_here; (with_reducible show wpAny _ _ (call (Value.builtin "len") [Value.ref _]) _ _ _); k_dflt (apply len_own; walk_at "LIST"; (with_reducible assumption); walk_at "O"; k_whole; intro _ _)))
local macro_rules | `(tactic| walk_at "call builtin:list.append") => `(tactic| (k_here; k_dflt (apply append_own; k_asm; k_asm; k_upd; (first | with_reducible assumption | exact Nat.zero_le _ | (simp; done)); k_whole); intro h' F' N'; (try k_sweep)))
local macro_rules | `(tactic| walk_at "STOP") => `(tactic| (with_reducible show wpAny _ _ (execs (Stmt.If _ _ _ _ :: _) _) _ _ _))
section
local macro_rules | `(tactic| walk_at "loadName") => `(tactic| (k_here; k_dflt (refine' ldX ?F ?v ?_ ?a ?b; (case F => k_asm); (case a => rfl); (case b => rfl); (case v => walk_at "LOOK"); k_whole)))
local macro_rules | `(tactic| walk_at "S") => `(tactic| first | (apply filled_says <;> walk_at "A") | fail)
local macro_rules | `(tactic| walk_at "call builtin:max") => `(tactic| (k_here; (with_reducible show wpAny _ _ (call (Value.builtin "max") [Value.ref _]) _ _ _); k_dflt (refine' max_own ?hh ?F ?N ?l ?i ?ne ?X ?_; (case hh => rfl); (case F => k_asm); (case N => k_asm); (case l => exact News.isList (by k_asm) (by k_mem)); (case i => with_reducible assumption); (case X => with_reducible assumption); (case ne => with_reducible assumption); k_whole; intro h' t' tk' F' N'; (try k_sweep))))
local macro_rules | `(tactic| walk_at "STOP") => `(tactic| (with_reducible show wpAny _ _ (execs (Stmt.While _ _ _ _ :: _) _) _ _ _))
abbrev T21 := (Addr) × (Addr) × (Option Addr) × (LayD) × (Kd) × (Nat) × (Int) × (Tok) × (Tok) × (Tok) × (Heap)
def S21 (t : T21) : Prop := ∀ (ok : (t.2.2.2.1).ok) (hc : ColsAt (t.2.2.2.2.2.2.2.2.2.2) (t.1) (t.2.2.2.1).cols) (hr : OptL (t.2.2.2.2.2.2.2.2.2.2) (t.2.2.1) (t.2.2.2.1).rn) (hh : StrsL (t.2.2.2.2.2.2.2.2.2.2) (t.2.1) ((List.range (t.2.2.2.1).cols.length).map (head (t.2.2.2.1).cn))) (hleft : (t.2.2.2.1).left = (t.2.2.2.2.1).left), Says w p loose mean mg mb 4 435 [] [.str (t.2.2.2.2.1).str (t.2.2.2.2.2.2.2.1), .ref (t.1), optV (t.2.2.1), .ref (t.2.1), .int (t.2.2.2.1).rows (t.2.2.2.2.2.2.2.2.1), .int (t.2.2.2.2.2.2.1) (t.2.2.2.2.2.2.2.2.2.1)] (t.2.2.2.2.2.2.2.2.2.2) (fun v h' => ∃ ls, NewStrs (t.2.2.2.2.2.2.2.2.2.2) h' v ls ∧ Lines (block (t.2.2.2.1) (widths (t.2.2.2.1))) (more (room (t.2.2.2.1).rn) (widths (t.2.2.2.1)) (t.2.2.2.2.2.2.1)) (t.2.2.2.1).cols.length 0 ls)
def d21 : T21 := ((0 : Addr), (0 : Addr), (none : Option Addr), (⟨0, [], none, none, false⟩ : LayD), (.int : Kd), (0 : Nat), (0 : Int), (0 : Tok), (0 : Tok), (0 : Tok), (default : Heap))
@[irreducible] noncomputable def c21 : T21 := epsC d21 S21
@[irreducible] noncomputable def c21_ca : Addr := c21.1
@[irreducible] noncomputable def c21_ha : Addr := c21.2.1
@[irreducible] noncomputable def c21_rna : Option Addr := c21.2.2.1
@[irreducible] noncomputable def c21_D : LayD := c21.2.2.2.1
@[irreducible] noncomputable def c21_kd : Kd := c21.2.2.2.2.1
@[irreducible] noncomputable def c21_R : Nat := c21.2.2.2.2.2.1
@[irreducible] noncomputable def c21_page : Int := c21.2.2.2.2.2.2.1
@[irreducible] noncomputable def c21_u1 : Tok := c21.2.2.2.2.2.2.2.1
@[irreducible] noncomputable def c21_u2 : Tok := c21.2.2.2.2.2.2.2.2.1
@[irreducible] noncomputable def c21_u3 : Tok := c21.2.2.2.2.2.2.2.2.2.1
@[irreducible] noncomputable def c21_h : Heap := c21.2.2.2.2.2.2.2.2.2.2
@[irreducible] noncomputable def e21 : Par := epsC parD (BodyCF w p loose mean mg mb [("sort", .str c21_kd.str c21_u1), ("cells", .ref c21_ca), ("row_heads", optV c21_rna), ("column_heads", .ref c21_ha), ("height", .int c21_D.rows c21_u2), ("page", .int c21_page c21_u3)] 3 435 c21_h (fun v h' => ∃ ls, NewStrs c21_h h' v ls ∧ Lines (block c21_D (widths c21_D)) (more (room c21_D.rn) (widths c21_D) c21_page) c21_D.cols.length 0 ls))
theorem due_says_c : S21 c21 := by
  with_unfolding_all show ∀ (ok : c21_D.ok) (hc : ColsAt c21_h c21_ca c21_D.cols) (hr : OptL c21_h c21_rna c21_D.rn) (hh : StrsL c21_h c21_ha ((List.range c21_D.cols.length).map (head c21_D.cn))) (hleft : c21_D.left = c21_kd.left), Says w p loose mean mg mb 4 435 [] [.str c21_kd.str c21_u1, .ref c21_ca, optV c21_rna, .ref c21_ha, .int c21_D.rows c21_u2, .int c21_page c21_u3] c21_h (fun v h' => ∃ ls, NewStrs c21_h h' v ls ∧ Lines (block c21_D (widths c21_D)) (more (room c21_D.rn) (widths c21_D) c21_page) c21_D.cols.length 0 ls)
  intro ok hc hr hh hleft
  refine' enterC [("sort", .str c21_kd.str c21_u1), ("cells", .ref c21_ca), ("row_heads", optV c21_rna), ("column_heads", .ref c21_ha), ("height", .int c21_D.rows c21_u2), ("page", .int c21_page c21_u3)] ?k6 ?k7 ?k9 ?kB ?kD ?c2 ?c3 ?c4 (bodyC_all e21 ?hE ?hK ?_)
  case hE => with_unfolding_all rfl
  walk_at "ENTERC"
  case hK => k_is
  intro hg F' N' hY B' X' T' hd hu
  generalize hq_rna : c21_rna = rna at *
  refine hide ?_; intro hG9
  obtain ⟨hE, d1, d2, d3, d4, d5, d6, d7⟩ := cells_seven' hY
  refine hG9 ?_; clear hG9
  rw [hE] at N'
  clear hY
  refine hide ?_; intro hG9
  obtain ⟨as, hal, hasl, hcol⟩ := hc.at hg
  refine hG9 ?_; clear hG9
  refine hide ?_; intro hG9
  obtain ⟨hvs, hhl, hhv⟩ := hh.at hg
  refine hG9 ?_; clear hG9
  replace hr := hr.at hg
  have hln : hvs.length = c21_D.cols.length := by rw [strsAre_length hhv]; simp
  have c7 := ok.c7
  have r1 := ok.r1
  have r4 := ok.r4
  have hlen : (Str.ofString (toString ((c21_D.rows : Int) + 1))).length = 1 := len_digit (by walk_at "O") (by walk_at "O")
  obtain ⟨hro1, hro2⟩ := room_le ok
  walk_at "GO"
  dsimp only
  refine join_at (h₀ := e21.g) (L := e21.L) (fun m nx => ∃ M mk k s4 ts a5 tw, nx = (M, listOf (List.toArray mk) k) :: [(e21.L + 1 + 1 + 1 + 1 + 1 + 1 + 1, (e21.cells.getD 0 dC).2), (e21.L + 1 + 1 + 1 + 1 + 1 + 1, (e21.cells.getD 1 dC).2), (e21.L + 1 + 1 + 1 + 1 + 1, (e21.cells.getD 2 dC).2), (e21.L + 1 + 1 + 1 + 1, s4), (e21.L + 1 + 1 + 1, a5), (e21.L + 1 + 1, (e21.cells.getD 5 dC).2), (e21.L + 1, (e21.cells.getD 6 dC).2)] ∧
    @Ne Nat (e21.L + 1 + 1 + 1 + 1 + 1 + 1 + 1) M ∧ @Ne Nat (e21.L + 1 + 1 + 1 + 1 + 1 + 1) M ∧ @Ne Nat (e21.L + 1 + 1 + 1 + 1 + 1) M ∧ StrsAre mk ((List.range c21_D.rows).map (mark c21_D.rn)) ∧ s4.data = .cell (some (.int (room c21_D.rn) ts)) ∧ a5.data = .cell (some (.bool c21_kd.left)) ∧
    m (Str.ofString "wide") = some (.int (c21_D.cols.length : Nat) tw) ∧ m (Str.ofString "marks_of") = some (.ref M) ∧ m (Str.ofString "height") = some (.int c21_D.rows c21_u2) ∧ m (Str.ofString "page") = some (.int c21_page c21_u3)) ?_ ?_
  · rw [chr_left] at *
    cases hrn : c21_D.rn <;> rw [hrn] at hr <;> cases rna <;> first | exact hr.elim | skip
    · dsimp only [optV] at *
      walk_at "GO"
      refine LCg.Assign_ListComp_U (by k_asm) (by rfl) (by rfl) (by rfl) (by decide) (by rfl) (by decide) (by rfl) (by rfl) (by rfl) ?_ (by intro _; rfl)
      walk_at "GO"
      refine src_range (a := 0) (n := c21_D.rows) rfl (by k_asm) (by k_asm) (by k_mem) (by simp) (by walk_at "O") (by walk_at "O") ?_
      intro hg'
      refine compRest_pure (fun i y => ∃ tk, y = .str (mark none i) tk) trivial ?_ ?_
      · rintro i ys v I oI C oC Dd m₂ h' tk' E' hi ⟨tv, rfl⟩ hC hm F N
        rw [show ((0 : Nat) : Int) + (i : Int) = (i : Int) by walk_at "O"] at hm
        have hdig : (Str.ofString (toString ((i : Int) + 1))).length = 1 := len_digit (by walk_at "O") (by walk_at "O")
        walk_at "GO"
        exact EltPost.intro (by k_asm) (by k_asm) ⟨_, congrArg (Value.str · _) (by rw [hlen]; rfl)⟩
      · intro ys hp Dd h' tk' F1 N1 O1
        simp only [LCg.Off1] at O1
        rename _ = Data.cell (some (Value.int _ _)) => dz
        rw [hlen] at dz
        walk_at "GO"
        refine JoinPost.intro (by k_asm) (news_sub N1 (by walk_at "SUB")) ⟨Dd, ys, _, _, _, _, _, rfl, by walk_at "O", by walk_at "O", by walk_at "O", strsAre_of_pl' hp, dz, by with_reducible assumption, by walk_at "LOOK", by walk_at "LOOK", by walk_at "LOOK", by walk_at "LOOK"⟩
    · dsimp only [optV] at *
      rename List Str => rl
      refine hide ?_; intro hG9
      obtain ⟨rvs, hrl, hrv⟩ := hr
      refine hG9 ?_; clear hG9
      have hrll := ok.rl rl hrn
      have hrt := ok.rt rl hrn
      walk_at "GO"
      refine LCg.ListComp_U (by k_asm) (by rfl) (by decide) (by rfl) (by decide) (by rfl) ?_ (by intro _; rfl)
      walk_at "GO"
      refine LCg.CompSrc.base rfl (by k_asm) (by k_asm) hrl (by rw [sizeLine_eq]; simp [strsAre_length hrv]; walk_at "O") ?_
      intro hg'
      refine compRest_pure (fun i y => ∃ t tk, rl[i]? = some t ∧ y = .int (t.length : Nat) tk) (.inl hrl) ?_ ?_
      · intro i ys v I oI C oC Dd m₂ h' tk' E' hi hP hC hm F N
        refine hide ?_; intro hG9
        obtain ⟨t, tk, ht, rfl⟩ := strsAre_get hrv (show rvs[i]? = some v by simpa using hP)
        refine hG9 ?_; clear hG9
        have hrt' := hrt t (List.mem_of_getElem? ht)
        walk_at "GO"
        exact EltPost.intro (by k_asm) (by k_asm) ⟨t, _, ht, rfl⟩
      · intro ys hp Dd h' tk' F1 N1 O1
        have hI : IntsAre ys (rl.map fun t => (t.length : Int)) := ints_of_pl ⟨by rw [hp.1]; simp [strsAre_length hrv], fun j y hy => by obtain ⟨t, tk, h1, rfl⟩ := hp.2 j y hy; exact ⟨tk, by rw [lens_getD _ _ h1]⟩⟩
        have hX := max_wide (l := rl) (by walk_at "O")
        have hpos : 0 < (rl.map fun t => (t.length : Int)).length := by simp; walk_at "O"
        simp only [LCg.Off1] at O1
        walk_at "GO"
        refine LCg.Assign_ListComp_U (by k_asm) (by rfl) (by rfl) (by rfl) (by decide) (by rfl) (by decide) (by rfl) (by rfl) (by rfl) ?_ (by intro _; rfl)
        walk_at "GO"
        refine LCg.CompSrc.base rfl (by k_asm) (by k_asm) hrl (by rw [sizeLine_eq]; simp [strsAre_length hrv]; walk_at "O") ?_
        intro hg''
        have hwn := wide_nonneg rl
        have hwl := wide_le20 hrt
        refine compRest_pure (fun i y => ∃ t tk, rl[i]? = some t ∧ y = .str (fill t (wide rl) true) tk) (.inl hrl) ?_ ?_
        · intro i ys v I oI C oC Dd m₂ h' tk' E' hi hP hC hm F N
          refine hide ?_; intro hG9
          obtain ⟨t, tk, ht, rfl⟩ := strsAre_get hrv (show rvs[i]? = some v by simpa using hP)
          refine hG9 ?_; clear hG9
          have hrt' := hrt t (List.mem_of_getElem? ht)
          walk_at "GO"
          exact EltPost.intro (by k_asm) (by k_asm) ⟨t, _, ht, rfl⟩
        · intro ys hp Dd h' tk' F1 N1 O1
          simp only [LCg.Off1] at O1
          rename _ = Data.cell (some (Value.int _ _)) => dz
          walk_at "GO"
          refine JoinPost.intro (by k_asm) (news_sub N1 (by walk_at "SUB")) ⟨Dd, ys, _, _, _, _, _, rfl, by walk_at "O", by walk_at "O", by walk_at "O", ?_, dz, by with_reducible assumption, by walk_at "LOOK", by walk_at "LOOK", by walk_at "LOOK", by walk_at "LOOK"⟩
          refine strsAre_of_pl' ⟨by rw [hp.1]; simp [strsAre_length hrv, hrll], fun j y hy => ?_⟩
          refine hide ?_; intro hG9
          obtain ⟨t, tk, h1, rfl⟩ := hp.2 j y hy
          refine hG9 ?_; clear hG9
          refine ⟨tk, ?_⟩
          show _ = Value.str (fill (rl.getD j Str.empty) (wide rl) true) tk
          rw [List.getD_eq_getElem?_getD, h1]; rfl
  · rintro h' tk m' nx hJ9 F₁ N₁
    refine hide ?_; intro hG9
    refine ex7 hJ9 ?_; clear hJ9; intro M mk k s4 ts a5 tw hJ9
    refine and11 hJ9 ?_; clear hJ9; rintro rfl hM1 hM2 hM3 hmk ds da m1 m2 m3 m4
    refine hG9 ?_; clear hG9
    walk_at "GO"
    refine For_invT e21.g ?_ (by intro _; rfl) (by with_unfolding_all passes_own)
    walk_at "STEPS"
    refine' iter_rangeC (fun i m nw => ∃ S vs ks c2 s3 cv, nw = (S, listOf (List.toArray vs) ks) :: (M, listOf (List.toArray mk) k) :: [(e21.L + 1 + 1 + 1 + 1 + 1 + 1 + 1, (e21.cells.getD 0 dC).2), (e21.L + 1 + 1 + 1 + 1 + 1 + 1, c2), (e21.L + 1 + 1 + 1 + 1 + 1, s3), (e21.L + 1 + 1 + 1 + 1, s4), (e21.L + 1 + 1 + 1, a5), (e21.L + 1 + 1, (e21.cells.getD 5 dC).2), (e21.L + 1, (e21.cells.getD 6 dC).2)] ∧ @LT.lt Nat _ M S ∧ @LT.lt Nat _ (e21.L + 1 + 1 + 1 + 1 + 1 + 1 + 1) S ∧ IntsAre vs ((List.range i).map (widthAt c21_D)) ∧ s3.data = .cell (some (.ref S)) ∧ c2.data = .cell cv ∧
      m (Str.ofString "wide") = some (.int (c21_D.cols.length : Nat) tw) ∧ m (Str.ofString "marks_of") = some (.ref M) ∧ m (Str.ofString "height") = some (.int c21_D.rows c21_u2) ∧ m (Str.ofString "page") = some (.int c21_page c21_u3)) rfl ?F ?N ?r ?h4 ?j ?turn ?done
    case F => k_asm
    case N => k_asm
    case r => k_mem
    case h4 => walk_at "O"
    case j =>
      refine' ⟨⟨?S, ?vsq9, ?ks, ?c2, ?s3, ?cv, rfl, ?e1, ?e2, ?e3, ?e4, ?e5, ?l1, ?l2, ?l3, ?l4⟩, ?sub⟩
      case l1 => walk_at "LOOK"
      case l2 => walk_at "LOOK"
      case l3 => walk_at "LOOK"
      case l4 => walk_at "LOOK"
      case e4 => with_reducible assumption
      case e5 => exact d2
      case sub => walk_at "SUB"
      case e3 => exact IntsAre.nil
      case e1 => walk_at "O"
      case e2 => walk_at "O"
    case turn =>
      rintro I i t o m₁ news₁ s₁ hi hJ9 hne F₁ N₁
      refine hide ?_; intro hG9
      refine ex6 hJ9 ?_; clear hJ9; intro S vs ks c2 s3 cv hJ9
      refine and10 hJ9 ?_; clear hJ9; rintro rfl hS1 hS2 hvi ds3 dc2 n1 n2 n3 n4
      refine hG9 ?_; clear hG9
      have hneA := allNe_of hne
      k_lt hne
      have hvl : vs.length ≤ 1000 := by rw [IntsAre.length hvi]; simp; walk_at "O"
      obtain ⟨tkh, ehd⟩ := strsAre_at hhv (i := i) (t := head c21_D.cn i) (by rw [List.getElem?_map, List.getElem?_range hi]; rfl)
      have ehd' : hvs[((i : Nat) : Int).toNat]? = some (.str (head c21_D.cn i) tkh) := ehd
      have hlh := len_head ok (i := i) (by walk_at "O")
      refine hide ?_; intro hG9
      obtain ⟨ac, cvs, ce1, ce2, ce3⟩ := colS_at hasl hcol hi
      refine hG9 ?_; clear hG9
      have ce1' : (as.map Value.ref)[((i : Nat) : Int).toNat]? = some (.ref ac) := ce1
      have clen : (c21_D.cols.getD i []).length = c21_D.rows := by rw [List.getD_eq_getElem?_getD, List.getElem?_eq_getElem hi]; exact ok.cl _ (List.getElem_mem hi)
      walk_at "GO"
      refine LCg.ListComp_U (by k_asm) (by rfl) (by decide) (by rfl) (by decide) (by rfl) ?_ (by intro _; rfl)
      walk_at "GO"
      refine src_range (a := 0) (n := c21_D.rows) rfl (by k_asm) (by k_asm) (by k_mem) (by simp) (by walk_at "O") (by walk_at "O") ?_
      intro hg'
      refine compRest_pure (fun j y => ∃ t tk, (c21_D.cols.getD i [])[j]? = some t ∧ y = .int (t.length : Nat) tk) trivial ?_ ?_
      · rintro j ys v I2 oI C oC Dd m₂ h' tk' E' hj ⟨tv, rfl⟩ hC hm F N
        rw [show ((0 : Nat) : Int) + (j : Int) = (j : Int) by walk_at "O"] at hm
        obtain ⟨tx, htx⟩ : ∃ tx, (c21_D.cols.getD i [])[j]? = some tx := ⟨_, List.getElem?_eq_getElem (by walk_at "O")⟩
        obtain ⟨tkc, ec⟩ := strsAre_at ce3 htx
        have ec' : cvs[((j : Nat) : Int).toNat]? = some (.str tx tkc) := ec
        have htl := col_len ok hi tx (List.mem_of_getElem? htx)
        walk_at "GO"
        exact EltPost.intro (by k_asm) (by k_asm) ⟨tx, _, htx, rfl⟩
      · intro ys hp Dd h' tk' F1 N1 O1
        have hI : IntsAre ys ((c21_D.cols.getD i []).map fun t => (t.length : Int)) := ints_of_pl ⟨by rw [hp.1, List.length_map, clen], fun j y hy => by obtain ⟨t, tk, h1, rfl⟩ := hp.2 j y hy; exact ⟨tk, by rw [lens_getD _ _ h1]⟩⟩
        have hX := max_width (c := c21_D.cols.getD i []) (hd := head c21_D.cn i)
        simp only [LCg.Off1] at O1
        walk_at "GO"
        have eM := hX _ (by with_reducible assumption) (by with_reducible assumption)
        subst eM
        rename News _ _ _ _ => N9
        refine NextPost.intro (by k_asm) (news_sub N9 (by walk_at "SUB")) ?_ ⟨S, _, _, _, _, _, rfl, hS1, hS2, ?_, ds3, by with_reducible assumption, by walk_at "LOOK", by walk_at "LOOK", by walk_at "LOOK", by walk_at "LOOK"⟩
        · exact allNe_same hneA rfl
        · rw [range_succ_map]; exact intsAre_snoc hvi _ _
    rintro m₁ news₁ c21_h tk hJ9 F₁ N₁
    refine hide ?_; intro hG9
    refine ex6 hJ9 ?_; clear hJ9; intro S vs ks c2 s3 cv hJ9
    refine and10 hJ9 ?_; clear hJ9; rintro rfl hS1 hS2 hvi ds3 dc2 n1 n2 n3 n4
    refine hG9 ?_; clear hG9
    have hwv : IntsAre vs (widths c21_D) := hvi
    have hwl := widths_len c21_D
    have hwb := widths_bnd ok
    walk_at "GO"
    dsimp only
    refine wpAny_execs_cons ?_
    refine' while_J (L := e21.L) (fun n m nw => ∃ b acc Ln vr kr c1 cr tb, nw = (Ln, listOf (List.toArray vr) kr) :: (S, listOf (List.toArray vs) ks) :: (M, listOf (List.toArray mk) k) :: [(e21.L + 1 + 1 + 1 + 1 + 1 + 1 + 1, c1), (e21.L + 1 + 1 + 1 + 1 + 1 + 1, c2), (e21.L + 1 + 1 + 1 + 1 + 1, s3), (e21.L + 1 + 1 + 1 + 1, s4), (e21.L + 1 + 1 + 1, a5), (e21.L + 1 + 1, (e21.cells.getD 5 dC).2), (e21.L + 1, (e21.cells.getD 6 dC).2)] ∧ @LT.lt Nat _ S Ln ∧ @LT.lt Nat _ M Ln ∧ @LT.lt Nat _ (e21.L + 1 + 1 + 1 + 1 + 1 + 1 + 1) Ln ∧ StrsAre vr acc ∧ (∀ r, Lines (block c21_D (widths c21_D)) (more (room c21_D.rn) (widths c21_D) c21_page) c21_D.cols.length b r → Lines (block c21_D (widths c21_D)) (more (room c21_D.rn) (widths c21_D) c21_page) c21_D.cols.length 0 (acc ++ r)) ∧ b ≤ c21_D.cols.length ∧ n = c21_D.cols.length - b ∧ acc.length ≤ 5 * b ∧ c1.data = .cell cr ∧
      m (Str.ofString "first") = some (.int (b : Nat) tb) ∧ m (Str.ofString "lines") = some (.ref Ln) ∧ m (Str.ofString "wide") = some (.int (c21_D.cols.length : Nat) tw) ∧ m (Str.ofString "marks_of") = some (.ref M) ∧ m (Str.ofString "height") = some (.int c21_D.rows c21_u2) ∧ m (Str.ofString "page") = some (.int c21_page c21_u3)) c21_D.cols.length ?Ed ?Fd ?Nd ?jd ?turnd
    case Ed => with_unfolding_all passes_own
    case Fd => k_asm
    case Nd => k_asm
    case jd =>
      refine' ⟨⟨0, [], ?Lnd, ?vrd, ?krd, ?c1d, ?crd, ?tbd, rfl, ?n1d, ?n2d, ?n3d, ?std, fun r c21_h => c21_h, Nat.zero_le _, rfl, Nat.le_refl _, ?c1dd, ?l1d, ?l2d, ?l3d, ?l4d, ?l5d, ?l6d⟩, ?subd⟩
      case l1d => walk_at "LOOK"
      case l2d => walk_at "LOOK"
      case l3d => walk_at "LOOK"
      case l4d => walk_at "LOOK"
      case l5d => walk_at "LOOK"
      case l6d => walk_at "LOOK"
      case subd => walk_at "SUB"
      case std => exact StrsAre.nil
      case c1dd => exact d1
      case n1d => walk_at "O"
      case n2d => walk_at "O"
      case n3d => walk_at "O"
    case turnd =>
      rintro n m₂ news₂ h2 tk2 hJ9 F₂ N₂
      refine hide ?_; intro hG9
      refine ex8 hJ9 ?_; clear hJ9; intro b acc Ln vr kr c1 cr tb hJ9
      refine and16 hJ9 ?_; clear hJ9; rintro rfl hL1 hL2 hL3 hvr hacc hb rfl hal dc1 p1 p2 p3 p4 p5 p6
      refine hG9 ?_; clear hG9
      have hvrl2 : vr.length ≤ 1000 := by rw [strsAre_length hvr]; walk_at "O"
      have hvrl : vr.length ≤ 900 := by rw [strsAre_length hvr]; walk_at "O"
      walk_at "GO"
      refine ⟨fun ht => ?_, fun hf => ?_⟩
      · have hlt : b < c21_D.cols.length := by simpa using ht
        walk_at "GO"
        dsimp only
        refine join_at (h₀ := e21.g) (L := e21.L) (fun m nx => ∃ e n2 te, nx = (Ln, listOf (List.toArray vr) kr) :: (S, listOf (List.toArray vs) ks) :: (M, listOf (List.toArray mk) k) :: [(e21.L + 1 + 1 + 1 + 1 + 1 + 1 + 1, c1), (e21.L + 1 + 1 + 1 + 1 + 1 + 1, c2), (e21.L + 1 + 1 + 1 + 1 + 1, s3), (e21.L + 1 + 1 + 1 + 1, s4), (e21.L + 1 + 1 + 1, a5), (e21.L + 1 + 1, (e21.cells.getD 5 dC).2), (e21.L + 1, (e21.cells.getD 6 dC).2)] ∧ e = b + n2 ∧ 1 ≤ n2 ∧ e ≤ c21_D.cols.length ∧ (∀ k, 1 ≤ k → k < n2 → more (room c21_D.rn) (widths c21_D) c21_page b k) ∧ ¬ more (room c21_D.rn) (widths c21_D) c21_page b n2 ∧ m (Str.ofString "behind") = some (.int (e : Nat) te) ∧ m (Str.ofString "first") = some (.int (b : Nat) tb) ∧ m (Str.ofString "lines") = some (.ref Ln) ∧ m (Str.ofString "wide") = some (.int (c21_D.cols.length : Nat) tw) ∧ m (Str.ofString "marks_of") = some (.ref M) ∧ m (Str.ofString "height") = some (.int c21_D.rows c21_u2) ∧ m (Str.ofString "page") = some (.int c21_page c21_u3)) ?_ ?_
        · refine' while_J (L := e21.L) (fun n m nw => ∃ e n2 te, nw = (Ln, listOf (List.toArray vr) kr) :: (S, listOf (List.toArray vs) ks) :: (M, listOf (List.toArray mk) k) :: [(e21.L + 1 + 1 + 1 + 1 + 1 + 1 + 1, c1), (e21.L + 1 + 1 + 1 + 1 + 1 + 1, c2), (e21.L + 1 + 1 + 1 + 1 + 1, s3), (e21.L + 1 + 1 + 1 + 1, s4), (e21.L + 1 + 1 + 1, a5), (e21.L + 1 + 1, (e21.cells.getD 5 dC).2), (e21.L + 1, (e21.cells.getD 6 dC).2)] ∧ e = b + n2 ∧ 1 ≤ n2 ∧ e ≤ c21_D.cols.length ∧ (∀ k, 1 ≤ k → k < n2 → more (room c21_D.rn) (widths c21_D) c21_page b k) ∧ n = c21_D.cols.length - e ∧ m (Str.ofString "behind") = some (.int (e : Nat) te) ∧ m (Str.ofString "first") = some (.int (b : Nat) tb) ∧ m (Str.ofString "lines") = some (.ref Ln) ∧ m (Str.ofString "wide") = some (.int (c21_D.cols.length : Nat) tw) ∧ m (Str.ofString "marks_of") = some (.ref M) ∧ m (Str.ofString "height") = some (.int c21_D.rows c21_u2) ∧ m (Str.ofString "page") = some (.int c21_page c21_u3)) (c21_D.cols.length - (b + 1)) ?Ee ?Fe ?Ne ?je ?turne
          case Ee => with_unfolding_all passes_own
          case Fe => k_asm
          case Ne => k_asm
          case je =>
            refine' ⟨⟨b + 1, 1, ?tee, rfl, rfl, Nat.le_refl _, hlt, fun k h1 h2 => absurd h2 (by walk_at "O"), rfl, ?l1e, ?l2e, ?l3e, ?l4e, ?l5e, ?l6e, ?l7e⟩, ?sube⟩
            case l1e => walk_at "LOOK"
            case l2e => walk_at "LOOK"
            case l3e => walk_at "LOOK"
            case l4e => walk_at "LOOK"
            case l5e => walk_at "LOOK"
            case l6e => walk_at "LOOK"
            case l7e => walk_at "LOOK"
            case sube => walk_at "SUB"
          case turne =>
            rintro n m₃ news₃ h3 tk3 hJ9 F₃ N₃
            refine hide ?_; intro hG9
            refine ex3 hJ9 ?_; clear hJ9; intro e n2 te hJ9
            refine and13 hJ9 ?_; clear hJ9; rintro rfl rfl hn1 hec hmo rfl r1 r2 r3 r4' r5 r6 r7
            refine hG9 ?_; clear hG9
            by_cases hlt2 : b + n2 < c21_D.cols.length
            · have hst := sum_tot (room c21_D.rn) (widths c21_D) b n2 (by walk_at "O")
              walk_at "GO"
              · rename (_ : Int) < c21_page => hmw
                rw [hst] at hmw
                have hm2 : more (room c21_D.rn) (widths c21_D) c21_page b n2 := ⟨by walk_at "O", hmw⟩
                refine ⟨fun _ => ?_, fun hf => (by cases hf)⟩
                walk_at "GO"
                rename News _ _ _ _ => N9
                refine WhlPost.intro (by k_asm) (news_sub N9 (by walk_at "SUB")) (show c21_D.cols.length - (b + n2 + 1) < c21_D.cols.length - (b + n2) by walk_at "O") ⟨b + n2 + 1, n2 + 1, _, rfl, rfl, by walk_at "O", by walk_at "O", ?_, rfl, by walk_at "LOOK", by walk_at "LOOK", by walk_at "LOOK", by walk_at "LOOK", by walk_at "LOOK", by walk_at "LOOK", by walk_at "LOOK"⟩
                intro k h1 h2
                rcases Nat.lt_or_ge k n2 with c21_h | c21_h
                · exact hmo k h1 c21_h
                · obtain rfl : k = n2 := by walk_at "O"
                  exact hm2
              · rename ¬ (_ : Int) < c21_page => hmw
                rw [hst] at hmw
                refine ⟨fun ht => (by cases ht), fun _ => ?_⟩
                rename News _ _ _ _ => N9
                (try dsimp only)
                exact JoinPost.intro (by k_asm) (news_sub N9 (by walk_at "SUB")) ⟨b + n2, n2, _, rfl, rfl, hn1, hec, hmo, fun c21_h => hmw c21_h.2, by walk_at "LOOK", by walk_at "LOOK", by walk_at "LOOK", by walk_at "LOOK", by walk_at "LOOK", by walk_at "LOOK", by walk_at "LOOK"⟩
            · walk_at "GO"
              refine ⟨fun ht => (by cases ht), fun _ => ?_⟩
              (try dsimp only)
              exact JoinPost.intro (by k_asm) (by k_asm) ⟨b + n2, n2, _, rfl, rfl, hn1, hec, hmo, fun c21_h => hlt2 (by have := c21_h.1; walk_at "O"), by walk_at "LOOK", by walk_at "LOOK", by walk_at "LOOK", by walk_at "LOOK", by walk_at "LOOK", by walk_at "LOOK", by walk_at "LOOK"⟩
        · rintro h3 tk3 m₃ nx₃ hJ9 F₃ N₃
          refine hide ?_; intro hG9
          refine ex3 hJ9 ?_; clear hJ9; intro e n2 te hJ9
          refine and13 hJ9 ?_; clear hJ9; rintro rfl rfl hn1 hec hmo hnm r1 r2 r3 r4' r5 r6 r7
          refine hG9 ?_; clear hG9
          have hlla : (cat ((List.range n2).map fun j => pad (head c21_D.cn (b + j)) ((widths c21_D).getD (b + j) 0) c21_D.left)).length ≤ 100000 := by
            have := line_len (f := Str.empty) (g := fun j => pad (head c21_D.cn (b + j)) ((widths c21_D).getD (b + j) 0) c21_D.left) (n := n2) (Nat.zero_le _) (fun j hj => Nat.le_trans (len_pad (len_head ok (by walk_at "O")) (getD_bnd hwb _).2) (by walk_at "O")) (by walk_at "O")
            rw [cat_cons, Str.length_append] at this; walk_at "O"
          walk_at "GO"
          refine LCg.ListComp_U (by k_asm) (by rfl) (by decide) (by rfl) (by decide) (by rfl) ?_ (by intro _; rfl)
          walk_at "GO"
          refine src_range (a := b) (n := n2) rfl (by k_asm) (by k_asm) (by k_mem) rfl (by walk_at "O") (by walk_at "O") ?_
          intro hg'
          refine compRest_pure (fun j y => ∃ tk, y = .str (pad (head c21_D.cn (b + j)) ((widths c21_D).getD (b + j) 0) c21_D.left) tk) trivial ?_ ?_
          · rintro j ys v I2 oI C oC Dd m₂ h' tk' E' hj ⟨tv, rfl⟩ hC hm F N
            have hbj : b + j < c21_D.cols.length := by walk_at "O"
            obtain ⟨tkh, ehd⟩ := strsAre_at hhv (i := b + j) (t := head c21_D.cn (b + j)) (by rw [List.getElem?_map, List.getElem?_range hbj]; rfl)
            have ehd' : hvs[((b : Int) + (j : Int)).toNat]? = some (.str (head c21_D.cn (b + j)) tkh) := ehd
            obtain ⟨tkw, ew⟩ := intsAre_at hwv (i := b + j) (by walk_at "O")
            have ew' : vs[((b : Int) + (j : Int)).toNat]? = some (.int ((widths c21_D).getD (b + j) 0) tkw) := ew
            obtain ⟨g1, g2⟩ := getD_bnd hwb ((b : Int) + (j : Int)).toNat
            have hlh := len_head ok (i := b + j) (by walk_at "O")
            walk_at "GO"
            exact EltPost.intro (by k_asm) (by k_asm) ⟨_, congrArg (Value.str · _) (by rw [← hleft]; rfl)⟩
          · intro ys hp Dd h' tk' F1 N1 O1
            have hS : StrsAre ys ((List.range n2).map fun j => pad (head c21_D.cn (b + j)) ((widths c21_D).getD (b + j) 0) c21_D.left) := strsAre_of_pl' hp
            have hlla' : (cat ((List.range n2).map fun j => pad (head c21_D.cn (b + j)) ((widths c21_D).getD (b + j) 0) c21_D.left)).length ≤ 1000000 := by walk_at "O"
            have hsp := len_spc (room c21_D.rn).toNat
            simp only [LCg.Off1] at O1
            walk_at "GO"
            refine For_invT e21.g ?_ (by intro _; rfl) (by with_unfolding_all passes_own)
            walk_at "STEPS"
            refine' iter_rangeC (fun i m nw => ∃ vr2 kr2 c1 cr rt q1 q2 q3, nw = (Ln, listOf (List.toArray vr2) kr2) :: (rt, rngObj (b : Nat) ((b + n2 : Nat) : Int) q1 q2 q3) :: (S, listOf (List.toArray vs) ks) :: (M, listOf (List.toArray mk) k) :: [(e21.L + 1 + 1 + 1 + 1 + 1 + 1 + 1, c1), (e21.L + 1 + 1 + 1 + 1 + 1 + 1, c2), (e21.L + 1 + 1 + 1 + 1 + 1, s3), (e21.L + 1 + 1 + 1 + 1, s4), (e21.L + 1 + 1 + 1, a5), (e21.L + 1 + 1, (e21.cells.getD 5 dC).2), (e21.L + 1, (e21.cells.getD 6 dC).2)] ∧ @LT.lt Nat _ Ln rt ∧ StrsAre vr2 (acc ++ [(spc (room c21_D.rn).toNat ++ cat ((List.range n2).map fun j => pad (head c21_D.cn (b + j)) ((widths c21_D).getD (b + j) 0) c21_D.left))] ++ (List.range i).map (bodyLine c21_D (widths c21_D) b n2)) ∧ c1.data = .cell cr ∧ m (Str.ofString "taken") = some (.ref rt) ∧ m (Str.ofString "behind") = some (.int ((b + n2 : Nat) : Int) te) ∧ m (Str.ofString "first") = some (.int (b : Nat) tb) ∧ m (Str.ofString "lines") = some (.ref Ln) ∧ m (Str.ofString "wide") = some (.int (c21_D.cols.length : Nat) tw) ∧ m (Str.ofString "marks_of") = some (.ref M) ∧ m (Str.ofString "height") = some (.int c21_D.rows c21_u2) ∧ m (Str.ofString "page") = some (.int c21_page c21_u3)) rfl ?Ff ?Nf ?rf ?h4f ?jf ?turnf ?donef
            case Ff => k_asm
            case Nf => k_asm
            case rf => k_mem
            case h4f => walk_at "O"
            case jf =>
              refine' ⟨⟨?vr2f, ?kr2f, ?c1f, ?crf, ?rtf, ?q1f, ?q2f, ?q3f, rfl, ?ltf, ?stf, ?c1df, ?l1f, ?l2f, ?l3f, ?l4f, ?l5f, ?l6f, ?l7f, ?l8f⟩, ?subf⟩
              case l1f => walk_at "LOOK"
              case l2f => walk_at "LOOK"
              case l3f => walk_at "LOOK"
              case l4f => walk_at "LOOK"
              case l5f => walk_at "LOOK"
              case l6f => walk_at "LOOK"
              case l7f => walk_at "LOOK"
              case l8f => walk_at "LOOK"
              case subf => walk_at "SUB"
              case stf => rw [List.range_zero, List.map_nil, List.append_nil]; exact strsAre_snoc hvr _ _
              case c1df => exact dc1
              case ltf => walk_at "O"
            case turnf =>
              rintro I i t o m₄ news₄ s₄ hi hJ9 hne F₄ N₄
              refine hide ?_; intro hG9
              refine ex8 hJ9 ?_; clear hJ9; intro vr2 kr2 c1 cr rt q1 q2 q3 hJ9
              refine and12 hJ9 ?_; clear hJ9; rintro rfl hrt hst2 dc1 y0 y1 y2 y3 y4 y5 y6 y7
              refine hG9 ?_; clear hG9
              have hneA := allNe_of hne
              k_lt hne
              have hv2l : vr2.length ≤ 1000 := by rw [strsAre_length hst2]; simp; walk_at "O"
              obtain ⟨tkm, emk⟩ := strsAre_at hmk (i := i) (t := mark c21_D.rn i) (by rw [List.getElem?_map, List.getElem?_range hi]; rfl)
              have emk' : mk[((i : Nat) : Int).toNat]? = some (.str (mark c21_D.rn i) tkm) := emk
              have hml := len_mark ok (i := i) (by walk_at "O")
              have hllb : (cat ((List.range n2).map fun j => pad (cell c21_D (b + j) i) ((widths c21_D).getD (b + j) 0) c21_D.left)).length ≤ 100000 := by
                have := line_len (f := Str.empty) (g := fun j => pad (cell c21_D (b + j) i) ((widths c21_D).getD (b + j) 0) c21_D.left) (n := n2) (Nat.zero_le _) (fun j hj => Nat.le_trans (len_pad (len_cell ok (by walk_at "O") hi) (getD_bnd hwb _).2) (by walk_at "O")) (by walk_at "O")
                rw [cat_cons, Str.length_append] at this; walk_at "O"
              have hllb' : (cat ((List.range n2).map fun j => pad (cell c21_D (b + j) i) ((widths c21_D).getD (b + j) 0) c21_D.left)).length ≤ 1000000 := by walk_at "O"
              walk_at "GO"
              refine LCg.ListComp_U (by k_asm) (by rfl) (by decide) (by rfl) (by decide) (by rfl) ?_ (by intro _; rfl)
              walk_at "GO"
              refine src_range (a := b) (n := n2) rfl (by k_asm) (by k_asm) (by k_mem) rfl (by walk_at "O") (by walk_at "O") ?_
              intro hg''
              refine compRest_pure (fun j y => ∃ tk, y = .str (pad (cell c21_D (b + j) i) ((widths c21_D).getD (b + j) 0) c21_D.left) tk) trivial ?_ ?_
              · rintro j ys v I2 oI C oC Dd m₂ h' tk' E' hj ⟨tv, rfl⟩ hC hm F N
                refine hide ?_; intro hG9
                obtain ⟨ac, cvs, tc, e1, e2, e3⟩ := col_at ok hasl hcol (j := b + j) (r := i) (by walk_at "O") hi
                refine hG9 ?_; clear hG9
                have e1' : (as.map Value.ref)[((b : Int) + (j : Int)).toNat]? = some (.ref ac) := e1
                have e3' : cvs[((i : Nat) : Int).toNat]? = some (.str (cell c21_D (b + j) i) tc) := e3
                obtain ⟨tkw, ew⟩ := intsAre_at hwv (i := b + j) (by walk_at "O")
                have ew' : vs[((b : Int) + (j : Int)).toNat]? = some (.int ((widths c21_D).getD (b + j) 0) tkw) := ew
                obtain ⟨g1, g2⟩ := getD_bnd hwb ((b : Int) + (j : Int)).toNat
                have hlc := len_cell ok (j := b + j) (r := i) (by walk_at "O") hi
                walk_at "GO"
                exact EltPost.intro (by k_asm) (by k_asm) ⟨_, congrArg (Value.str · _) (by rw [← hleft]; rfl)⟩
              · intro ys hp Dd h' tk' F1 N1 O1
                have hS : StrsAre ys ((List.range n2).map fun j => pad (cell c21_D (b + j) i) ((widths c21_D).getD (b + j) 0) c21_D.left) := strsAre_of_pl' hp
                simp only [LCg.Off1] at O1
                walk_at "GO"
                rename News _ _ _ _ => N9
                refine' NextPost.intro (by k_asm) (news_sub N9 ?sbz) ?nez ⟨?vz, ?kz, ?c1z, ?crz, rt, ?q1z, ?q2z, ?q3z, rfl, hrt, ?stz, ?dz, ?l1z, ?l2z, ?l3z, ?l4z, ?l5z, ?l6z, ?l7z, ?l8z⟩
                case l1z => walk_at "LOOK"
                case l2z => walk_at "LOOK"
                case l3z => walk_at "LOOK"
                case l4z => walk_at "LOOK"
                case l5z => walk_at "LOOK"
                case l6z => walk_at "LOOK"
                case l7z => walk_at "LOOK"
                case l8z => walk_at "LOOK"
                case sbz => walk_at "SUB"
                case dz => with_reducible assumption
                case stz =>
                  rw [range_succ_map, ← List.append_assoc, show bodyLine c21_D (widths c21_D) b n2 i = mark c21_D.rn i ++ cat ((List.range n2).map fun j => pad (cell c21_D (b + j) i) ((widths c21_D).getD (b + j) 0) c21_D.left) from cat_cons _ _]
                  exact strsAre_snoc hst2 _ _
                case nez => exact allNe_same hneA rfl
            rintro m₄ news₄ h4 tk4 hJ9 F₄ N₄
            refine hide ?_; intro hG9
            refine ex8 hJ9 ?_; clear hJ9; intro vr2 kr2 c1 cr rt q1 q2 q3 hJ9
            refine and12 hJ9 ?_; clear hJ9; rintro rfl hrt hst2 dc1 y0 y1 y2 y3 y4 y5 y6 y7
            refine hG9 ?_; clear hG9
            walk_at "GO"
            rename News _ _ _ _ => N9
            refine WhlPost.intro (by k_asm) (news_sub N9 (by walk_at "SUB")) (show c21_D.cols.length - (b + n2) < c21_D.cols.length - b by walk_at "O") ⟨b + n2, acc ++ block c21_D (widths c21_D) b n2, Ln, vr2, kr2, _, _, _, rfl, hL1, hL2, hL3, ?_, fun r hr => (by rw [List.append_assoc]; exact hacc _ (Lines.step hlt hn1 hmo hnm hr)), hec, rfl, ?_, dc1, by walk_at "LOOK", by walk_at "LOOK", by walk_at "LOOK", by walk_at "LOOK", by walk_at "LOOK", by walk_at "LOOK"⟩
            · rw [List.append_assoc] at hst2; exact hst2
            · rw [List.length_append, block_len]; walk_at "O"
      · have hbe : c21_D.cols.length ≤ b := by simpa using hf
        walk_at "GO"
        walk_at "END"
        exact ⟨acc, newStrs_news hg (by k_asm) (.head _) hvr, by have := hacc [] (.done hbe); simpa using this⟩
theorem due_says (ca ha : Addr) (rna : Option Addr) (D : LayD) (kd : Kd) (R : Nat) (page : Int) (u1 u2 u3 : Tok) (h : Heap) (ok : D.ok) (hc : ColsAt h ca D.cols) (hr : OptL h rna D.rn) (hh : StrsL h ha ((List.range D.cols.length).map (head D.cn))) (hleft : D.left = kd.left) :
    Says w p loose mean mg mb 4 435 [] [.str kd.str u1, .ref ca, optV rna, .ref ha, .int D.rows u2, .int page u3] h (fun v h' => ∃ ls, NewStrs h h' v ls ∧ Lines (block D (widths D)) (more (room D.rn) (widths D) page) D.cols.length 0 ls) :=
  epsA d21 (P := S21) (c := c21) (by with_unfolding_all rfl) due_says_c (ca, ha, rna, D, kd, R, page, u1, u2, u3, h) ok hc hr hh hleft
end
section
theorem pm_all_says (x l : Addr) (kd : Kd) (vs : List Value) (its : List It) (R W : Nat) (rn cn : Option (List Str)) (pg : Int) (u1 u2 : Tok) (h : Heap) (hm : MatIs w h x kd l R W rn cn) (nm : NamesOk R W rn cn)
    (hl : h.IsList l vs.toArray) (hv : ItsAre vs its) (ho : ∀ it ∈ its, okIt kd it) (hn : its.length = R * W) (hR : 1 ≤ R) (hR4 : R ≤ 4) (hW : 1 ≤ W) (hW7 : W ≤ 7) :
    Says w p loose mean mg mb 18 402 [] [.ref x, .bool true, .bool false, .int pg u1, .int 7 u2] h (fun v h' => ∃ ls, NewStrs h h' v ls ∧ Lines (block (layD kd its R W rn cn) (widths (layD kd its R W rn cn))) (more (room rn) (widths (layD kd its R W rn cn)) pg) (layD kd its R W rn cn).cols.length 0 ls) := by
  obtain ⟨at', kvs, dv, dl, h1, h2, h3, h4, h5, h6⟩ := hm
  exact pm_mat_says x l at' dv dl kd kvs vs its R W rn cn pg u1 u2 h h1 h2 h3 h4 h5 h6 nm hl hv ho hn hR hR4 hW hW7
theorem due_lay_says (ca ha : Addr) (rna : Option Addr) (kd : Kd) (its : List It) (R W : Nat) (rn cn : Option (List Str)) (page : Int) (u1 u2 u3 : Tok) (h : Heap) (ok : (layD kd its R W rn cn).ok) (hc : ColsAt h ca ((List.range W).map (colOf kd its R))) (hr : OptL h rna rn) (hh : StrsL h ha ((List.range W).map (head cn))) :
    Says w p loose mean mg mb 4 435 [] [.str kd.str u1, .ref ca, optV rna, .ref ha, .int R u2, .int page u3] h (fun v h' => ∃ ls, NewStrs h h' v ls ∧ Lines (block (layD kd its R W rn cn) (widths (layD kd its R W rn cn))) (more (room rn) (widths (layD kd its R W rn cn)) page) (layD kd its R W rn cn).cols.length 0 ls) :=
  due_says ca ha rna (layD kd its R W rn cn) kd 0 page u1 u2 u3 h ok hc hr (by rw [show (layD kd its R W rn cn).cols.length = W by simp]; exact hh) rfl
end
section
local macro_rules | `(tactic| walk_at "subscriptTail Name Constant ref int") => `(tactic| walk_at "ITEM")
local macro_rules | `(tactic| walk_at "subscriptTail Name Name ref int") => `(tactic| walk_at "ITEM")
local macro_rules | `(tactic| walk_at "subscriptTail Name BinOp ref int") => `(tactic| walk_at "ITEM")
local macro_rules | `(tactic| k_room) => `(tactic| ktr_room)
local macro_rules | `(tactic| walk_at "S") => `(tactic| first | (apply law_shown_says <;> walk_at "A") | fail)
local macro_rules | `(tactic| walk_at "A") => `(tactic| exact MatAt.use (by with_reducible assumption) (Has.of (by k_asm) (by walk_at "SUB")))
local macro_rules | `(tactic| walk_at "S") => `(tactic| first | (apply pm_all_says <;> walk_at "A") | fail)
local macro_rules | `(tactic| walk_at "R") => `(tactic| ((with_reducible apply r_lines); intro _ _ _ _ _ _ g9 q9; (have t99 := tOk_lines (by with_reducible assumption) g9); (try k_lt q9)))
local macro_rules | `(tactic| walk_at "A") => `(tactic| exact ColsIn.cols (by with_reducible assumption) (by k_asm) (by walk_at "SUB") (by k_mem))
local macro_rules | `(tactic| walk_at "A") => `(tactic| exact HeadsAt.use (by with_reducible assumption) (Fr.keep (by k_asm)) (Has.of (by k_asm) (by walk_at "SUB")))
local macro_rules | `(tactic| walk_at "S") => `(tactic| first | (apply due_lay_says <;> walk_at "A") | fail)
local macro_rules | `(tactic| walk_at "R") => `(tactic| ((with_reducible apply r_lines); (rename Lines _ _ _ _ _ => gold9); intro _ _ _ _ _ _ g9 q9; (have e99 := Lines.same gold9 g9); subst e99; (try k_lt q9)))
local macro_rules | `(tactic| walk_at "compareOp NotEq ref ref") => `(tactic| (k_here; (with_reducible show wpAny _ _ (compareOp CmpOp.NotEq (Value.ref _) (Value.ref _)) _ _ _); k_dflt (apply ne_strs_own; walk_at "LIST"; (with_reducible assumption); walk_at "LIST"; (with_reducible assumption); (with_reducible assumption); (first | units_room | ktr_units); k_whole)))
local macro_rules | `(tactic| walk_at "call builtin:str.count") => `(tactic| (k_here; k_dflt (refine' count_own ?_; k_whole; intro _ _)))
local macro_rules | `(tactic| walk_at "exec If") => `(tactic| refine wpAny_If ?_)
local macro_rules | `(tactic| walk_at "binaryOp Mult ref int") => `(tactic| (k_here; (with_reducible show wpAny _ _ (binaryOp Operator.Mult (Value.ref _) (Value.int _ _)) _ _ _); k_dflt (apply rep_own; k_asm; k_asm; k_mem; walk_at "O"; k_whole); intro D' h' vs' F' N' l1 i1; (try k_lt l1); (try k_sweep)))
local macro_rules | `(tactic| walk_at "compareOp Eq ref ref") => `(tactic| (k_here; (with_reducible show wpAny _ _ (compareOp CmpOp.Eq (Value.ref _) (Value.ref _)) _ _ _); k_dflt (apply eq_ints_own; walk_at "LIST"; (with_reducible assumption); walk_at "LIST"; (with_reducible assumption); (first | units_room | ktr_units); k_whole)))
local macro_rules | `(tactic| k_all) => `(tactic| with_reducible assumption)
local macro_rules | `(tactic| walk_at "S") => `(tactic| first | (apply char_says <;> walk_at "A") | fail)
local macro_rules | `(tactic| walk_at "R") => `(tactic| ((with_reducible apply r_led); intros))
local macro_rules | `(tactic| walk_at "FREE") => `(tactic| (first | (k_unfold; (try dsimp only)) | (k_unmd; k_unfold; (try dsimp only)) | (k_end; wrow_close) | walk1 | (dsimp only; walk1) | (leave1; try dsimp only)))
local macro_rules | `(tactic| walk_at "FREES") => `(tactic| repeat' (walk_at "FREE"))
abbrev T24 := (Addr) × (Option Addr) × (Option Addr) × (Kd) × (List Value) × (List It) × (Nat) × (Nat) × (Option (List Str)) × (Option (List Str)) × (Int) × (Tok) × (Tok) × (Tok) × (Tok) × (Heap)
def S24 (t : T24) : Prop := ∀ (hl : (t.2.2.2.2.2.2.2.2.2.2.2.2.2.2.2).IsList (t.1) (t.2.2.2.2.1).toArray) (hv : ItsAre (t.2.2.2.2.1) (t.2.2.2.2.2.1)) (ho : ∀ it ∈ (t.2.2.2.2.2.1), okIt (t.2.2.2.1) it) (hn : (t.2.2.2.2.2.1).length = (t.2.2.2.2.2.2.1) * (t.2.2.2.2.2.2.2.1)) (hR : 1 ≤ (t.2.2.2.2.2.2.1)) (hR4 : (t.2.2.2.2.2.2.1) ≤ 4) (hW : 1 ≤ (t.2.2.2.2.2.2.2.1)) (hW7 : (t.2.2.2.2.2.2.2.1) ≤ 7) (hr : OptL (t.2.2.2.2.2.2.2.2.2.2.2.2.2.2.2) (t.2.1) (t.2.2.2.2.2.2.2.2.1)) (hc : OptL (t.2.2.2.2.2.2.2.2.2.2.2.2.2.2.2) (t.2.2.1) (t.2.2.2.2.2.2.2.2.2.1)) (nm : NamesOk (t.2.2.2.2.2.2.1) (t.2.2.2.2.2.2.2.1) (t.2.2.2.2.2.2.2.2.1) (t.2.2.2.2.2.2.2.2.2.1)), Says w p loose mean mg mb 22 440 [] [.str (t.2.2.2.1).str (t.2.2.2.2.2.2.2.2.2.2.2.1), .ref (t.1), optV (t.2.1), optV (t.2.2.1), .int (t.2.2.2.2.2.2.1) (t.2.2.2.2.2.2.2.2.2.2.2.2.1), .int (t.2.2.2.2.2.2.2.1) (t.2.2.2.2.2.2.2.2.2.2.2.2.2.1), .int (t.2.2.2.2.2.2.2.2.2.2.1) (t.2.2.2.2.2.2.2.2.2.2.2.2.2.2.1)] (t.2.2.2.2.2.2.2.2.2.2.2.2.2.2.2) (fun v _ => v = .bool true)
def d24 : T24 := ((0 : Addr), (none : Option Addr), (none : Option Addr), (.int : Kd), ([] : List Value), ([] : List It), (0 : Nat), (0 : Nat), (none : Option (List Str)), (none : Option (List Str)), (0 : Int), (0 : Tok), (0 : Tok), (0 : Tok), (0 : Tok), (default : Heap))
@[irreducible] noncomputable def c24 : T24 := epsC d24 S24
@[irreducible] noncomputable def c24_l : Addr := c24.1
@[irreducible] noncomputable def c24_ra : Option Addr := c24.2.1
@[irreducible] noncomputable def c24_ha : Option Addr := c24.2.2.1
@[irreducible] noncomputable def c24_kd : Kd := c24.2.2.2.1
@[irreducible] noncomputable def c24_vs : List Value := c24.2.2.2.2.1
@[irreducible] noncomputable def c24_its : List It := c24.2.2.2.2.2.1
@[irreducible] noncomputable def c24_R : Nat := c24.2.2.2.2.2.2.1
@[irreducible] noncomputable def c24_W : Nat := c24.2.2.2.2.2.2.2.1
@[irreducible] noncomputable def c24_rn : Option (List Str) := c24.2.2.2.2.2.2.2.2.1
@[irreducible] noncomputable def c24_cn : Option (List Str) := c24.2.2.2.2.2.2.2.2.2.1
@[irreducible] noncomputable def c24_pg : Int := c24.2.2.2.2.2.2.2.2.2.2.1
@[irreducible] noncomputable def c24_u1 : Tok := c24.2.2.2.2.2.2.2.2.2.2.2.1
@[irreducible] noncomputable def c24_u2 : Tok := c24.2.2.2.2.2.2.2.2.2.2.2.2.1
@[irreducible] noncomputable def c24_u3 : Tok := c24.2.2.2.2.2.2.2.2.2.2.2.2.2.1
@[irreducible] noncomputable def c24_u4 : Tok := c24.2.2.2.2.2.2.2.2.2.2.2.2.2.2.1
@[irreducible] noncomputable def c24_h : Heap := c24.2.2.2.2.2.2.2.2.2.2.2.2.2.2.2
@[irreducible] noncomputable def e24 : Par := epsC parD (BodyCF w p loose mean mg mb [("sort", .str c24_kd.str c24_u1), ("items", .ref c24_l), ("row_words", optV c24_ra), ("head_names", optV c24_ha), ("height", .int c24_R c24_u2), ("wide", .int c24_W c24_u3), ("page", .int c24_pg c24_u4)] 21 440 c24_h (fun v _ => v = .bool true))
theorem right_says_c : S24 c24 := by
  with_unfolding_all show ∀ (hl : c24_h.IsList c24_l c24_vs.toArray) (hv : ItsAre c24_vs c24_its) (ho : ∀ it ∈ c24_its, okIt c24_kd it) (hn : c24_its.length = c24_R * c24_W) (hR : 1 ≤ c24_R) (hR4 : c24_R ≤ 4) (hW : 1 ≤ c24_W) (hW7 : c24_W ≤ 7) (hr : OptL c24_h c24_ra c24_rn) (hc : OptL c24_h c24_ha c24_cn) (nm : NamesOk c24_R c24_W c24_rn c24_cn), Says w p loose mean mg mb 22 440 [] [.str c24_kd.str c24_u1, .ref c24_l, optV c24_ra, optV c24_ha, .int c24_R c24_u2, .int c24_W c24_u3, .int c24_pg c24_u4] c24_h (fun v _ => v = .bool true)
  intro hl hv ho hn hR hR4 hW hW7 hr hc nm
  refine' enterC [("sort", .str c24_kd.str c24_u1), ("items", .ref c24_l), ("row_words", optV c24_ra), ("head_names", optV c24_ha), ("height", .int c24_R c24_u2), ("wide", .int c24_W c24_u3), ("page", .int c24_pg c24_u4)] ?k6 ?k7 ?k9 ?kB ?kD ?c2 ?c3 ?c4 (bodyC_all e24 ?hE ?hK ?_)
  case hE => with_unfolding_all rfl
  walk_at "ENTERC"
  case hK => k_is
  intro hg F' N' hY B' X' T' hd hu
  generalize hq_ra : c24_ra = ra at *
  generalize hq_ha : c24_ha = ha at *
  generalize hq_rn : c24_rn = rn at *
  generalize hq_cn : c24_cn = cn at *
  refine hide ?_; intro hG9
  obtain ⟨hE, d1, d2, d3, d4, d5, d6⟩ := cells_six' hY
  refine hG9 ?_; clear hG9
  rw [hE] at N'
  clear hY
  have hl' : e24.g.IsList c24_l c24_vs.toArray := hl.at fun o e => hg _ _ e
  replace hr := hr.at hg
  replace hc := hc.at hg
  refine join2_at (h₀ := e24.g) (L := e24.L) (fun m nx => ∃ x led, nx = (e24.L + 1 + 1 + 1 + 1 + 1 + 1, (e24.cells.getD 0 dC).2) :: (e24.L + 1 + 1 + 1 + 1 + 1, (e24.cells.getD 1 dC).2) :: (e24.L + 1 + 1 + 1 + 1, (e24.cells.getD 2 dC).2) :: (e24.L + 1 + 1 + 1, (e24.cells.getD 3 dC).2) :: (e24.L + 1 + 1, (e24.cells.getD 4 dC).2) :: (e24.L + 1, (e24.cells.getD 5 dC).2) :: led ∧ OffT led [(e24.L + 1 + 1 + 1 + 1 + 1 + 1, (e24.cells.getD 0 dC).2), (e24.L + 1 + 1 + 1 + 1 + 1, (e24.cells.getD 1 dC).2), (e24.L + 1 + 1 + 1 + 1, (e24.cells.getD 2 dC).2), (e24.L + 1 + 1 + 1, (e24.cells.getD 3 dC).2), (e24.L + 1 + 1, (e24.cells.getD 4 dC).2), (e24.L + 1, (e24.cells.getD 5 dC).2)] ∧ (∀ h', Has led h' → MatIs w h' x c24_kd c24_l c24_R c24_W rn cn) ∧
    m (Str.ofString "v") = some (.ref x) ∧ m (Str.ofString "row_words") = some (optV ra) ∧ m (Str.ofString "head_names") = some (optV ha) ∧ m (Str.ofString "wide") = some (.int c24_W c24_u3) ∧ m (Str.ofString "page") = some (.int c24_pg c24_u4)) ?_ ?_
  · walk_at "GO"
    refine ⟨rfl, ?_⟩
    by_cases hnn : rn = none ∧ cn = none
    · obtain ⟨rfl, rfl⟩ := hnn
      cases ra <;> first | exact hr.elim | skip
      cases ha <;> first | exact hc.elim | skip
      dsimp only [optV] at *
      walk_at "GO"
      rename News _ _ _ _ => N9
      refine' JoinPost.intro (by k_asm) (news_swap (a := [_, _, _, _, _, _, _]) (b := [(e24.L + 1 + 1 + 1 + 1 + 1 + 1, (e24.cells.getD 0 dC).2), (e24.L + 1 + 1 + 1 + 1 + 1, (e24.cells.getD 1 dC).2), (e24.L + 1 + 1 + 1 + 1, (e24.cells.getD 2 dC).2), (e24.L + 1 + 1 + 1, (e24.cells.getD 3 dC).2), (e24.L + 1 + 1, (e24.cells.getD 4 dC).2), (e24.L + 1, (e24.cells.getD 5 dC).2)]) (c := []) N9) ⟨?x0, ?led0, rfl, ?gt0, ?mi0, ?l01, ?l02, ?l03, ?l04, ?l05⟩
      case l01 => walk_at "LOOK"
      case l02 => walk_at "LOOK"
      case l03 => walk_at "LOOK"
      case l04 => walk_at "LOOK"
      case l05 => walk_at "LOOK"
      case gt0 => repeat' (first | exact offT_nil | refine offT_gt (by dsimp only; walk_at "O") ?_)
      case mi0 =>
        intro h' H
        exact ⟨_, _, _, _, vecAt_has H (by k_mem) (by k_mem), dictAt_has H (by k_mem) (by assumption) (by assumption), dim_one _ _, vecAt_has H (by k_mem) (by k_mem), intsL_has H (by k_mem) (.cons _ _ (.cons _ _ .nil)), .inl ⟨dim_no _ _, rfl, rfl⟩⟩
    · have hsome : (∃ r, rn = some r) ∨ (rn = none ∧ ∃ c, cn = some c) := by
        cases rn with
        | some r => exact .inl ⟨r, rfl⟩
        | none => cases cn with
          | some c => exact .inr ⟨rfl, c, rfl⟩
          | none => exact absurd ⟨rfl, rfl⟩ hnn
      refine if_true ?_ ?_
      · rcases hsome with ⟨r, rfl⟩ | ⟨rfl, c, rfl⟩
        · cases ra <;> first | exact hr.elim | skip
          dsimp only [optV] at *
          walk_at "GO"
          exact TestPost.intro
        · cases ra <;> first | exact hr.elim | skip
          cases ha <;> first | exact hc.elim | skip
          dsimp only [optV] at *
          walk_at "GO"
          exact TestPost.intro
      · intro tkT
        walk_at "GO"
        refine tup_assign (by k_asm) (by rfl) (by rfl) (by rfl) (by decide) (by rfl) (by decide) (by rfl) (by rfl) (by rfl) ?_ (by intro _; rfl)
        walk_at "GO"
        refine ⟨_, [optV ra, optV ha], _, rfl, rfl, by k_asm, by k_asm, .head _, by simp, ?_⟩
        intro hg'
        refine parts_comp (rn := rn) (cn := cn) (.head _) ⟨_, rfl, hr⟩ ⟨_, rfl, hc⟩ ?_ ?_
        · rintro v o I oI C oC Dd ys nw m₂ h' tk' E' hor ⟨a, rfl, hoa⟩ hC hm F N off hax ne
          cases o <;> cases a <;> first | exact hoa.elim | skip
          · change m₂ _ = some Value.none at hm
            walk_at "GO"
            rename News e24.g _ _ _ => N9
            rename @LT.lt Nat _ _ _ => l2
            rename @LT.lt Nat _ I _ => la
            rename @LT.lt Nat _ C _ => lb
            rename @LT.lt Nat _ Dd _ => lc
            rename AllLt _ _ => ld
            exact PartEnd.intro (new := [_, _]) (by k_asm) N9 rfl ⟨⟨Nat.ne_of_gt (Nat.lt_trans la l2), Nat.ne_of_gt (Nat.lt_trans lb l2), Nat.ne_of_gt (Nat.lt_trans lc l2)⟩, ⟨Nat.ne_of_gt la, Nat.ne_of_gt lb, Nat.ne_of_gt lc⟩, trivial⟩
              (List.forall_mem_cons.mpr ⟨fun q hq => Nat.ne_of_lt (Nat.lt_trans (allLt_mem ld q hq) l2), List.forall_mem_cons.mpr ⟨fun q hq => Nat.ne_of_lt (allLt_mem ld q hq), List.forall_mem_nil _⟩⟩)
              (fun h'' H => nullAt_has H (.head _) (.tail _ (.head _)))
          · change m₂ _ = some (Value.ref _) at hm
            rename List Str => ts
            replace hoa : StrsL e24.g _ ts := hoa
            have hvl : ts.length ≤ 100 := by
              rcases hor with c24_h | c24_h
              · have := nm.rl ts c24_h.symm; walk_at "O"
              · have := nm.cl ts c24_h.symm; walk_at "O"
            walk_at "GO"
            rename News e24.g _ _ _ => N99
            rename OffAll _ _ => q9
            rename MadePart _ _ _ _ => g9
            exact PartEnd.intro (by k_asm) N99 rfl (LCg.Off3.of fun p hp => ⟨Ne.symm (q9 p hp _ (.head _)), Ne.symm (q9 p hp _ (.tail _ (.head _))), Ne.symm (q9 p hp _ (.tail _ (.tail _ (.head _))))⟩) (fun p hp q hq => q9 p hp q (.tail _ (.tail _ (.tail _ hq)))) g9
        · intro ys led hP hg2 Dd h' tk' F1 N1 O1
          refine hide ?_; intro hG9
          obtain ⟨p1, p2, rfl, hpp⟩ := hP.two
          refine hG9 ?_; clear hG9
          replace N1 := news_rot N1
          replace O1 := off1_tail O1
          replace hg2 := offT_of hg2
          dsimp only [List.cons_append, List.nil_append] at N1
          simp only [LCg.Off1] at O1
          simp only [OffT] at hg2
          refine hide ?_; intro hG9
          obtain ⟨f1, f2, f3, f4, f5, f6, f7, f8, f9, f10, f11, f12, f13, f14, _⟩ := hg2
          refine hG9 ?_; clear hG9
          walk_at "GO"
          rename News e24.g _ _ _ => N9
          refine' JoinPost.intro (by k_asm) (news_swap (a := [_, _, _, _, _, _, _, _, _, _, _]) (b := [(e24.L + 1 + 1 + 1 + 1 + 1 + 1, (e24.cells.getD 0 dC).2), (e24.L + 1 + 1 + 1 + 1 + 1, (e24.cells.getD 1 dC).2), (e24.L + 1 + 1 + 1 + 1, (e24.cells.getD 2 dC).2), (e24.L + 1 + 1 + 1, (e24.cells.getD 3 dC).2), (e24.L + 1 + 1, (e24.cells.getD 4 dC).2), (e24.L + 1, (e24.cells.getD 5 dC).2)]) (c := led) N9) ⟨?x1, ?led1, rfl, ?gt1, ?mi1, ?l11, ?l12, ?l13, ?l14, ?l15⟩
          case l11 => walk_at "LOOK"
          case l12 => walk_at "LOOK"
          case l13 => walk_at "LOOK"
          case l14 => walk_at "LOOK"
          case l15 => walk_at "LOOK"
          case gt1 =>
            refine offT_gt (by dsimp only; walk_at "O") (offT_gt (by dsimp only; walk_at "O") (offT_ne (by walk_at "O") (by walk_at "O") (by walk_at "O") (by walk_at "O") (by walk_at "O") (by walk_at "O") ?_))
            repeat' (first | exact ⟨f9, f10, f11, f12, f13, f14, trivial⟩ | refine offT_gt (by dsimp only; walk_at "O") ?_)
          case mi1 =>
            intro h' H
            have H' := hpp h' (fun p hp => H p (by walk_at "TAIL"))
            exact ⟨_, [(.str (Str.ofString "dim") 0, .ref _), (.str (Str.ofString "dimnames") 0, .ref _)], _, _, vecAt_has H (by k_mem) (by k_mem), dictAt_has H (by k_mem) (by assumption) (by assumption), dim2_one _ _ _ _, vecAt_has H (by k_mem) (by k_mem), intsL_has H (by k_mem) (.cons _ _ (.cons _ _ .nil)), .inr ⟨_, _, p1, p2, dim2_two _ _ _ _, vecAt_has H (by k_mem) (by k_mem), list_has H (by k_mem), H'.1, H'.2, hnn⟩⟩
  · rintro h' tk' m' nx hJ9 F₁ N₁
    refine hide ?_; intro hG9
    refine ex2 hJ9 ?_; clear hJ9; intro x led hJ9
    refine and8 hJ9 ?_; clear hJ9; rintro rfl hOT hMI m1 m2 m3 m4 m5
    refine hG9 ?_; clear hG9
    have hled : ∀ p ∈ led, p ∈ led := fun _ c24_h => c24_h
    have lL := news_lt N₁ (.head _)
    have hld2 : ∀ p ∈ led, @LT.lt Nat _ p.1 h'.objs.size := fun p hp => Heap.lt_size (N₁ p (.tail _ (.tail _ (.tail _ (.tail _ (.tail _ (.tail _ hp))))))).1
    have hORW : c24_R * c24_W ≤ 28 := Nat.mul_le_mul hR4 hW7
    walk_at "GO"
    rename AllLt _ led => lC2
    refine For_invT e24.g ?_ (by intro _; rfl) (by with_unfolding_all passes_own)
    walk_at "STEPS"
    refine' iter_rangeC (fun i m nw => ∃ C as k ce c3 cv, nw = (C, listOf (List.toArray (as.map Value.ref)) k) :: (e24.L + 1 + 1 + 1 + 1 + 1 + 1, (e24.cells.getD 0 dC).2) :: (e24.L + 1 + 1 + 1 + 1 + 1, (e24.cells.getD 1 dC).2) :: (e24.L + 1 + 1 + 1 + 1, c3) :: (e24.L + 1 + 1 + 1, (e24.cells.getD 3 dC).2) :: (e24.L + 1 + 1, (e24.cells.getD 4 dC).2) :: (e24.L + 1, (e24.cells.getD 5 dC).2) :: ce ∧ @LT.lt Nat _ (e24.L + 1 + 1 + 1 + 1 + 1 + 1) C ∧ (∀ p ∈ ce, p.1 ≠ C) ∧ OffT ce [(e24.L + 1 + 1 + 1 + 1 + 1 + 1, (e24.cells.getD 0 dC).2), (e24.L + 1 + 1 + 1 + 1 + 1, (e24.cells.getD 1 dC).2), (e24.L + 1 + 1 + 1 + 1, (e24.cells.getD 2 dC).2), (e24.L + 1 + 1 + 1, (e24.cells.getD 3 dC).2), (e24.L + 1 + 1, (e24.cells.getD 4 dC).2), (e24.L + 1, (e24.cells.getD 5 dC).2)] ∧ ColsIn ce as ((List.range i).map (colOf c24_kd c24_its c24_R)) ∧ (∀ p ∈ led, p ∈ ce) ∧ c3.data = .cell cv ∧
      m (Str.ofString "cells") = some (.ref C) ∧ m (Str.ofString "v") = some (.ref x) ∧ m (Str.ofString "row_words") = some (optV ra) ∧ m (Str.ofString "head_names") = some (optV ha) ∧ m (Str.ofString "wide") = some (.int c24_W c24_u3) ∧ m (Str.ofString "page") = some (.int c24_pg c24_u4)) rfl ?F ?N ?r ?h4 ?j ?turn ?done
    case F => k_asm
    case N => k_asm
    case r => k_mem
    case h4 => walk_at "O"
    case j =>
      refine' ⟨⟨?Cq9, [], ?kq9, led, ?c3, ?cv, rfl, ?lt, ?ne, hOT, ?ci, hled, ?c3d, ?l1, ?l2, ?l3, ?l4, ?l5, ?l6⟩, ?sub⟩
      case l1 => walk_at "LOOK"
      case l2 => walk_at "LOOK"
      case l3 => walk_at "LOOK"
      case l4 => walk_at "LOOK"
      case l5 => walk_at "LOOK"
      case l6 => walk_at "LOOK"
      case sub => walk_at "SUB"
      case c3d => exact d3
      case lt => first | assumption | walk_at "O"
      case ne => exact allLt_ne lC2
      case ci => exact colsIn_nil _
    case turn =>
      rintro I i t o m₁ news₁ s₁ hi hJ9 hne F₁ N₁
      refine hide ?_; intro hG9
      refine ex6 hJ9 ?_; clear hJ9; intro C as k ce c3 cv hJ9
      refine and13 hJ9 ?_; clear hJ9; rintro rfl hC6 hce hOC hci hlc dc3 n1 n2 n3 n4 n5 n6
      refine hG9 ?_; clear hG9
      have hneA := allNe_of hne
      have hneC := hne
      replace hne := hneA
      simp only [AllNe] at hne
      refine hide ?_; intro hG9
      obtain ⟨g1, g2, g3, g4, g5, g6, g7, g8⟩ := hne
      refine hG9 ?_; clear hG9
      have hneI : ∀ p ∈ ce, p.1 ≠ I := fun p hp => hneC p (by walk_at "TAIL")
      simp only [OffT] at hOC
      refine hide ?_; intro hG9
      obtain ⟨f1, f2, f3, f4, f5, f6, _⟩ := hOC
      refine hG9 ?_; clear hG9
      have hasl : (as.map Value.ref).length ≤ 1000 := by rw [List.length_map, hci.1]; simp; walk_at "O"
      have hb1 : 0 ≤ (i : Int) * (c24_R : Int) := Int.mul_nonneg (Int.natCast_nonneg _) (Int.natCast_nonneg _)
      have hb2 : (i : Int) * (c24_R : Int) ≤ 28 := by
        have : i * c24_R ≤ 7 * 4 := Nat.mul_le_mul (by walk_at "O") hR4
        rw [← Int.natCast_mul]; walk_at "O"
      have hclen := colOf_len (kd := c24_kd) hn hi
      walk_at "GO"
      refine LCg.ListComp_U (by k_asm) (by rfl) (by decide) (by rfl) (by decide) (by rfl) ?_ (by intro _; rfl)
      walk_at "GO"
      refine src_range (a := 0) (n := c24_R) rfl (by k_asm) (by k_asm) (by k_mem) (by simp) (by walk_at "O") (by walk_at "O") ?_
      intro hg'
      refine compRest_pure (fun j y => ∀ t, (colOf c24_kd c24_its c24_R i)[j]? = some t → ∃ tk, y = .str t tk) trivial ?_ ?_
      · rintro j ys v I2 oI C2 oC Dd m₂ h' tk' E' hj ⟨tv, rfl⟩ hC hm F N
        rw [show ((0 : Nat) : Int) + (j : Int) = (j : Int) by walk_at "O"] at hm
        refine hide ?_; intro hG9
        obtain ⟨it, tkv, hok, hvi, hcj⟩ := item_at hv ho hn hi hj
        refine hG9 ?_; clear hG9
        walk_at "GO"
        exact EltPost.intro (by k_asm) (by k_asm) (fun t e => by rw [hcj] at e; cases e; exact ⟨_, rfl⟩)
      · intro ys hp Dd h' tk' F1 N1 O1
        have hS : StrsAre ys (colOf c24_kd c24_its c24_R i) := strsAre_of_pl (by rw [hclen]; exact hp)
        simp only [LCg.Off1] at O1
        refine hide ?_; intro hG9
        obtain ⟨x1, x2, x3, x4, x5, x6, x7, x8, x9, x10⟩ := O1
        refine hG9 ?_; clear hG9
        walk_at "GO"
        rename News e24.g _ _ _ => N9
        rw [show as.map Value.ref ++ [Value.ref Dd] = (as ++ [Dd]).map Value.ref from by simp] at N9
        refine' NextPost.intro (by k_asm) (news_sub N9 ?sbz) ?nez ⟨C, as ++ [Dd], ?kz, (Dd, LCg.lst ys) :: ce, ?c3z, ?cvz, rfl, hC6, List.forall_mem_cons.mpr ⟨Ne.symm x3, hce⟩, offT_ne x4 x5 x6 x7 x8 x9 ⟨f1, f2, f3, f4, f5, f6, trivial⟩, ?cz, fun p hp => .tail _ (hlc p hp), ?dz, ?l1z, ?l2z, ?l3z, ?l4z, ?l5z, ?l6z⟩
        case l1z => walk_at "LOOK"
        case l2z => walk_at "LOOK"
        case l3z => walk_at "LOOK"
        case l4z => walk_at "LOOK"
        case l5z => walk_at "LOOK"
        case l6z => walk_at "LOOK"
        case sbz => walk_at "SUB"
        case dz => with_reducible assumption
        case cz => rw [range_succ_map]; exact hci.snoc hS
        case nez => exact List.forall_mem_cons.mpr ⟨g1, List.forall_mem_cons.mpr ⟨g2, List.forall_mem_cons.mpr ⟨g3, List.forall_mem_cons.mpr ⟨g4, List.forall_mem_cons.mpr ⟨g5, List.forall_mem_cons.mpr ⟨g6, List.forall_mem_cons.mpr ⟨g7, List.forall_mem_cons.mpr ⟨Ne.symm x2, hneI⟩⟩⟩⟩⟩⟩⟩⟩
    rintro m₁ news₁ h2 tk2 hJ9 F₂ N₂
    refine hide ?_; intro hG9
    refine ex6 hJ9 ?_; clear hJ9; intro C as k ce c3 cv hJ9
    refine and13 hJ9 ?_; clear hJ9; rintro rfl hC6 hce hOC hci hlc dc3 n1 n2 n3 n4 n5 n6
    refine hG9 ?_; clear hG9
    dsimp only
    refine join2_at (h₀ := e24.g) (L := e24.L) (fun m nx => ∃ hA ce2, nx = (C, listOf (List.toArray (as.map Value.ref)) k) :: (e24.L + 1 + 1 + 1 + 1 + 1 + 1, (e24.cells.getD 0 dC).2) :: (e24.L + 1 + 1 + 1 + 1 + 1, (e24.cells.getD 1 dC).2) :: (e24.L + 1 + 1 + 1 + 1, c3) :: (e24.L + 1 + 1 + 1, (e24.cells.getD 3 dC).2) :: (e24.L + 1 + 1, (e24.cells.getD 4 dC).2) :: (e24.L + 1, (e24.cells.getD 5 dC).2) :: ce2 ∧ (∀ p ∈ ce2, p.1 ≠ C) ∧ OffT ce2 [(e24.L + 1 + 1 + 1 + 1 + 1 + 1, (e24.cells.getD 0 dC).2), (e24.L + 1 + 1 + 1 + 1 + 1, (e24.cells.getD 1 dC).2), (e24.L + 1 + 1 + 1 + 1, (e24.cells.getD 2 dC).2), (e24.L + 1 + 1 + 1, (e24.cells.getD 3 dC).2), (e24.L + 1 + 1, (e24.cells.getD 4 dC).2), (e24.L + 1, (e24.cells.getD 5 dC).2)] ∧ (∀ p ∈ ce, p ∈ ce2) ∧
      HeadsAt e24.g ce2 hA ((List.range c24_W).map (head cn)) ∧ m (Str.ofString "column_heads") = some (.ref hA) ∧
      m (Str.ofString "cells") = some (.ref C) ∧ m (Str.ofString "v") = some (.ref x) ∧ m (Str.ofString "row_words") = some (optV ra) ∧ m (Str.ofString "head_names") = some (optV ha) ∧ m (Str.ofString "wide") = some (.int c24_W c24_u3) ∧ m (Str.ofString "page") = some (.int c24_pg c24_u4)) ?_ ?_
    · cases hcn : cn <;> rw [hcn] at hc <;> cases ha <;> first | exact hc.elim | skip
      · change m₁ (Str.ofString "head_names") = some Value.none at n4
        walk_at "GO"
        refine ⟨rfl, ?_⟩
        walk_at "GO"
        refine LCg.Assign_ListComp_U (by k_asm) (by rfl) (by rfl) (by rfl) (by decide) (by rfl) (by decide) (by rfl) (by rfl) (by rfl) ?_ (by intro _; rfl)
        walk_at "GO"
        refine src_range (a := 0) (n := c24_W) rfl (by k_asm) (by k_asm) (by k_mem) (by simp) (by walk_at "O") (by walk_at "O") ?_
        intro hg'
        refine compRest_pure (fun i y => ∃ tk, y = .str (head none i) tk) trivial ?_ ?_
        · rintro i ys v I oI C2 oC Dd m₂ h' tk' E' hi ⟨tv, rfl⟩ hC hm F N
          rw [show ((0 : Nat) : Int) + (i : Int) = (i : Int) by walk_at "O"] at hm
          have hdig : (Str.ofString (toString ((i : Int) + 1))).length = 1 := len_digit (by walk_at "O") (by walk_at "O")
          walk_at "GO"
          exact EltPost.intro (by k_asm) (by k_asm) ⟨_, rfl⟩
        · intro ys hp Dd h' tk' F1 N1 O1
          simp only [LCg.Off1] at O1
          refine hide ?_; intro hG9
          obtain ⟨x1, x3, x4, x5, x6, x7, x8, x9, x10⟩ := O1
          refine hG9 ?_; clear hG9
          have hS := strsAre_of_pl' hp
          walk_at "GO"
          refine' JoinPost.intro (by k_asm) (news_sub N1 ?sby) ⟨Dd, (Dd, LCg.lst ys) :: ce, rfl, List.forall_mem_cons.mpr ⟨Ne.symm x3, hce⟩, offT_ne x4 x5 x6 x7 x8 x9 hOC, fun p hp => .tail _ hp, fun h' k H => strsL_has H (.head _) hS, ?l1y, ?l2y, ?l3y, ?l4y, ?l5y, ?l6y, ?l7y⟩
          case l1y => walk_at "LOOK"
          case l2y => walk_at "LOOK"
          case l3y => walk_at "LOOK"
          case l4y => walk_at "LOOK"
          case l5y => walk_at "LOOK"
          case l6y => walk_at "LOOK"
          case l7y => walk_at "LOOK"
          case sby => walk_at "SUB"
      · change m₁ (Str.ofString "head_names") = some (Value.ref _) at n4
        rename List Str => cl
        walk_at "GO"
        refine ⟨rfl, ?_⟩
        walk_at "GO"
        refine' JoinPost.intro (by k_asm) (by k_asm) ⟨_, ce, rfl, hce, hOC, fun p hp => hp, fun h' k H => (by rw [heads_some (nm.cl cl hcn)]; exact StrsL.at hc k), ?l1x, ?l2x, ?l3x, ?l4x, ?l5x, ?l6x, ?l7x⟩
        case l1x => walk_at "LOOK"
        case l2x => walk_at "LOOK"
        case l3x => walk_at "LOOK"
        case l4x => walk_at "LOOK"
        case l5x => walk_at "LOOK"
        case l6x => walk_at "LOOK"
        case l7x => walk_at "LOOK"
    · rintro h3 tk3 m₃ nx₃ hJ9 F₃ N₃
      refine hide ?_; intro hG9
      refine ex2 hJ9 ?_; clear hJ9; intro hA ce2 hJ9
      refine and12 hJ9 ?_; clear hJ9; rintro rfl hce2 hOC2 hcc2 hHA q1 q2 q3 q4 q5 q6 q7
      refine hG9 ?_; clear hG9
      have hMA : MatAt w ce2 x c24_kd c24_l c24_R c24_W rn cn := MatAt.mono (led := led) hMI fun p hp => hcc2 p (hlc p hp)
      have hci2 := hci.mono hcc2
      clear hci hce hOC hlc hcc2 hMI hOT
      have okD := layD_ok (rn := rn) (cn := cn) (kd := c24_kd) ho hn hR hR4 hW hW7 nm
      have tkD := layD_tok (R := c24_R) (W := c24_W) (rn := rn) (cn := cn) (kd := c24_kd) ho nm
      simp only [OffT] at hOC2
      refine hide ?_; intro hG9
      obtain ⟨f1, f2, f3, f4, f5, f6, _⟩ := hOC2
      refine hG9 ?_; clear hG9
      walk_at "GO"
      have hlenW : (layD c24_kd c24_its c24_R c24_W rn cn).cols.length = c24_W := by simp
      rename StrsAre _ _ => hst0
      refine wpAny_execs_cons ?_
      walk_at "GO"
      rename Lines _ _ _ _ _ => hlin
      obtain ⟨l0, hl0⟩ := lines_first hlin (by walk_at "O")
      obtain ⟨t0, ht0⟩ := strsAre_at hst0 hl0
      have ht0' : _[(0 : Int).toNat]? = some (Value.str l0 t0) := ht0
      refine wpAny_execs_cons ?_
      cases hcn : cn <;> rw [hcn] at hc <;> cases ha <;> first | exact hc.elim | skip
      · change m₃ (Str.ofString "head_names") = some Value.none at q5
        refine hide ?_; intro hG9
        obtain ⟨hs, e1, e2, e3, e4, e5, e6⟩ := told_count okD hcn hlin
        refine hG9 ?_; clear hG9
        have hlen0 : _ = hs.length * (c24_R + 1) := (strsAre_length hst0).trans e1
        have hb35 : hs.length * (c24_R + 1) ≤ 7 * 5 := Nat.mul_le_mul e4 (by walk_at "O")
        walk_at "GO"
        · refine comp_stride (by k_asm) (by rfl) (by decide) (by rfl) (by decide) (by rfl) ?_ (by intro _; rfl)
          walk_at "GO"
          refine ⟨_, _, _, _, _, _, hs.length, _, rfl, rfl, by k_asm, by k_asm, by with_reducible assumption, small_stride5 hR hR4 e4, size_stride5 hR hR4, by rw [sizeLine_eq]; walk_at "O", ?_⟩
          intro hg'
          refine compRest_pure (fun i y => ∀ t, hs[i]? = some t → ∃ tk, y = .str t tk) trivial ?_ ?_
          · rintro i ys v I2 oI C2 oC Dd m₂ h' tk' E' hi ⟨tv, rfl⟩ hC hm F N
            refine hide ?_; intro hG9
            obtain ⟨t, tkt, hti, hvt⟩ := told_at (R := c24_R) hst0 e2 hi
            refine hG9 ?_; clear hG9
            have hx1 : 0 ≤ (i : Int) * ((c24_R : Int) + 1) := Int.mul_nonneg (by walk_at "O") (by walk_at "O")
            have hx2 : (i : Int) * ((c24_R : Int) + 1) ≤ 35 := by
              have : i * (c24_R + 1) ≤ 7 * 5 := Nat.mul_le_mul (by walk_at "O") (by walk_at "O")
              rw [show (i : Int) * ((c24_R : Int) + 1) = ((i * (c24_R + 1) : Nat) : Int) by simp [Int.natCast_mul]]; walk_at "O"
            walk_at "GO"
            exact EltPost.intro (by k_asm) (by k_asm) (fun t' e => by rw [hti] at e; cases e; exact ⟨_, rfl⟩)
          · intro ys hp Dd h' tk' F1 N1 O1
            have hS : StrsAre ys hs := strsAre_of_pl hp
            simp only [LCg.Off1] at O1
            walk_at "GO"
            refine LCg.ListComp_U (by k_asm) (by rfl) (by decide) (by rfl) (by decide) (by rfl) ?_ (by intro _; rfl)
            walk_at "GO"
            refine src_range (a := 0) (n := c24_W) rfl (by k_asm) (by k_asm) (by k_mem) (by simp) (by walk_at "O") (by walk_at "O") ?_
            intro hg''
            refine compRest_pure (fun _ y => ∃ tk, y = Value.int 1 tk) trivial ?_ ?_
            · rintro i ys2 v I2 oI C2 oC Dd2 m₂ h' tk' E' hi ⟨tv, rfl⟩ hC hm F N
              rw [show ((0 : Nat) : Int) + (i : Int) = (i : Int) by walk_at "O"] at hm
              have hdig : (Str.ofString (toString ((i : Int) + 1))).length = 1 := len_digit (by walk_at "O") (by walk_at "O")
              have hone := e6 i (by rw [hlenW]; exact hi)
              walk_at "GO"
              rw [hone]
              exact EltPost.intro (by k_asm) (by k_asm) ⟨_, rfl⟩
            · intro ys2 hp2 Dd2 h' tk' F1 N1 O2
              have hS2 := intsAre_ones hp2
              simp only [LCg.Off1] at O2
              walk_at "GO"
              walk_at "END"
              rfl
        · walk_at "GO"
          walk_at "END"
          rfl
      · change m₃ (Str.ofString "head_names") = some (Value.ref _) at q5
        walk_at "GO"
        all_goals walk_at "GO"
        all_goals walk_at "END"
        all_goals rfl
theorem right_says (l : Addr) (ra ha : Option Addr) (kd : Kd) (vs : List Value) (its : List It) (R W : Nat) (rn cn : Option (List Str)) (pg : Int) (u1 u2 u3 u4 : Tok) (h : Heap) (hl : h.IsList l vs.toArray) (hv : ItsAre vs its) (ho : ∀ it ∈ its, okIt kd it) (hn : its.length = R * W) (hR : 1 ≤ R) (hR4 : R ≤ 4) (hW : 1 ≤ W) (hW7 : W ≤ 7) (hr : OptL h ra rn) (hc : OptL h ha cn) (nm : NamesOk R W rn cn) :
    Says w p loose mean mg mb 22 440 [] [.str kd.str u1, .ref l, optV ra, optV ha, .int R u2, .int W u3, .int pg u4] h (fun v _ => v = .bool true) :=
  epsA d24 (P := S24) (c := c24) (by with_unfolding_all rfl) right_says_c (l, ra, ha, kd, vs, its, R, W, rn, cn, pg, u1, u2, u3, u4, h) hl hv ho hn hR hR4 hW hW7 hr hc nm
end
section
local macro_rules | `(tactic| k_lt $h) => `(tactic| (replace $h := allLt_of $h; simp only [AllLt, and_true] at $h:ident))
theorem right_first_says (l : Addr) (a b c u1 u2 u3 u4 : Tok) (h : Heap) (hl : h.IsList l (List.toArray [.int 1234567 a, .int 2 b, .int 3 c])) :
    Says w p loose mean mg mb 22 440 [] [.str (Str.ofString "integer") u1, .ref l, .none, .none, .int 1 u2, .int 3 u3, .int 12 u4] h (fun v _ => v = .bool true) :=
  right_says l none none .int _ [.int 1234567, .int 2, .int 3] 1 3 none none 12 u1 u2 u3 u4 h hl
    ⟨rfl, fun i v e => match i, e with | 0, e => ⟨.int 1234567, a, rfl, by cases e; rfl⟩ | 1, e => ⟨.int 2, b, rfl, by cases e; rfl⟩ | 2, e => ⟨.int 3, c, rfl, by cases e; rfl⟩ | n + 3, e => by simp at e⟩
    (fun it hit => by simp at hit; rcases hit with rfl | rfl | rfl <;> (show _ ∧ _; walk_at "O")) rfl (by decide) (by decide) (by decide) (by decide) trivial trivial (namesOk_of (RowOk.no _) (RowOk.no _))
theorem right_law_says (l : Addr) (ra ha : Option Addr) (kd : Kd) (vs : List Value) (n1 n2 : Nat) (rn cn : Option (List Str)) (pg : Int) (u1 u2 u3 u4 : Tok) (h : Heap)
    (hl : h.IsList l (List.toArray vs)) (hm : MadeIts kd ((1 + n1) * (1 + n2)) vs) (b1 : (n1 : Int) < 4) (b2 : (n2 : Int) < 7) (hr : OptL h ra rn) (hc : OptL h ha cn) (x : RowOk (1 + n1) rn) (y : RowOk (1 + n2) cn) :
    Says w p loose mean mg mb 22 440 [] [.str kd.str u1, .ref l, optV ra, optV ha, .int (1 + (n1 : Int)) u2, .int (1 + (n2 : Int)) u3, .int pg u4] h (fun v _ => v = .bool true) := by
  refine hide ?_; intro hG9
  obtain ⟨its, hv, hn, ho⟩ := hm
  refine hG9 ?_; clear hG9
  rw [show (1 + (n1 : Int)) = ((1 + n1 : Nat) : Int) by walk_at "O", show (1 + (n2 : Int)) = ((1 + n2 : Nat) : Int) by walk_at "O"]
  exact right_says l ra ha kd vs its (1 + n1) (1 + n2) rn cn pg u1 u2 u3 u4 h hl hv ho hn (by walk_at "O") (by walk_at "O") (by walk_at "O") (by walk_at "O") hr hc (namesOk_of x y)
theorem sub_four {a b c d e f : Addr × Obj} {h₀ h : Heap} {L : Addr} (N : News h₀ L h [a, b, c, d, e, f]) : News h₀ L h [a, b, e, f] := news_sub N (by walk_at "SUB")
local macro_rules | `(tactic| walk_at "call ref") => `(tactic| (k_here; k_dflt (apply says_use1; walk_at "S"; k_asm; k_asm; k_asm; k_asm; (first | with_reducible assumption | k_updF); k_asm; walk_at "USE2"; k_whole; intro _ _ _ _ _ N9; (try dsimp only at N9); walk_at "R"; (try dsimp only))))
local macro_rules | `(tactic| walk_at "S") => `(tactic| first | (apply scoop_says <;> walk_at "A") | fail)
local macro_rules | `(tactic| walk_at "R") => `(tactic| ((with_reducible apply r_hopN); intros))
local macro_rules | `(tactic| walk_at "S") => `(tactic| first | (apply entry_says <;> walk_at "A") | fail)
local macro_rules | `(tactic| walk_at "R") => `(tactic| ((with_reducible apply r_it); intros))
local macro_rules | `(tactic| walk_at "S") => `(tactic| first | (apply right_first_says <;> walk_at "A") | fail)
local macro_rules | `(tactic| walk_at "A") => `(tactic| exact OptIn.use (by with_reducible assumption) (by k_asm) (by k_mem))
local macro_rules | `(tactic| walk_at "S") => `(tactic| first | (apply right_law_says <;> walk_at "A") | fail)
local macro_rules | `(tactic| walk_at "subscriptTail") => `(tactic| (k_here; (with_reducible show wpAny _ _ (subscriptTail _ _ (Value.ref _) (Value.int _ _)) _ _ _); (with_unfolding_all refine' item_three ?k1 ?k2 ?k3 ?_ ?k6; (case k1 => exact News.isList (by k_asm) (by k_mem)); (case k2 => walk_at "O"); (case k3 => walk_at "O"); (case k6 => with_unfolding_all rfl); k_whole); intro kd9 _))
local macro_rules | `(tactic| walk_at "binaryOp Add str str") => `(tactic| (k_here; (with_reducible show wpAny _ _ (binaryOp _ (Value.str (rep (Str.ofString "h") _) _) _) _ _ _); k_dflt ((with_reducible refine' h_add ?_ ?_ ?_ ?_ ?_); walk_at "O"; walk_at "O"; walk_at "O"; walk_at "O"; k_whole; intro _ _ _)))
local macro_rules | `(tactic| walk_at "binaryOp Add str str") => `(tactic| (k_here; (with_reducible show wpAny _ _ (binaryOp _ (Value.str (rep (Str.ofString "row") _) _) _) _ _ _); k_dflt ((with_reducible refine' row_add ?_ ?_ ?_ ?_ ?_); walk_at "O"; walk_at "O"; walk_at "O"; walk_at "O"; k_whole; intro _ _ _)))
local macro_rules | `(tactic| walk_at "binaryOp Mult str int") => `(tactic| (k_here; k_dflt ((with_reducible refine' mul_own ?c ?a ?b ?_); (case c => decide +kernel); (case a => walk_at "O"); (case b => walk_at "O"); k_whole; intro _ _)))
abbrev T25 := (Addr) × (List Value) × (List Int) × (Heap)
def S25 (t : T25) : Prop := ∀ (hl : (t.2.2.2).IsList (t.1) (t.2.1).toArray) (hv : IntsAre (t.2.1) (t.2.2.1)) (hn : (t.2.2.1).length ≤ 63), SaysTop w p loose mean mg mb 445 [.ref (t.1)] (t.2.2.2) (fun v _ => v = .bool true)
def d25 : T25 := ((0 : Addr), ([] : List Value), ([] : List Int), (default : Heap))
@[irreducible] noncomputable def c25 : T25 := epsC d25 S25
@[irreducible] noncomputable def c25_l : Addr := c25.1
@[irreducible] noncomputable def c25_vs : List Value := c25.2.1
@[irreducible] noncomputable def c25_ns : List Int := c25.2.2.1
@[irreducible] noncomputable def c25_h : Heap := c25.2.2.2
@[irreducible] noncomputable def e25 : Par := epsC parD (BodyCF w p loose mean mg mb [("script", .ref c25_l)] 23 445 c25_h (fun v _ => v = .bool true))
theorem law_says_c : S25 c25 := by
  with_unfolding_all show ∀ (hl : c25_h.IsList c25_l c25_vs.toArray) (hv : IntsAre c25_vs c25_ns) (hn : c25_ns.length ≤ 63), SaysTop w p loose mean mg mb 445 [.ref c25_l] c25_h (fun v _ => v = .bool true)
  intro hl hv hn
  refine' enterTop (d := 23) [("script", .ref c25_l)] ?k6 ?k7 ?k9 ?kB ?kD ?c2 ?c3 ?c4 ?cd ?cu (bodyC_all e25 ?hE ?hK ?_)
  case hE => with_unfolding_all rfl
  case cd => decide +kernel
  case cu => decide +kernel
  walk_at "ENTERC"
  case hK => k_is
  intro hg F' N' hY B' X' T' hd hu
  refine hide ?_; intro hG9
  obtain ⟨o1, o2, hE, d1, d2⟩ := cells_two hY
  refine hG9 ?_; clear hG9
  rw [hE] at N'
  clear hY
  have hl' : e25.g.IsList c25_l c25_vs.toArray := hl.at fun o e => hg _ _ e
  have hvl : c25_vs.length = c25_ns.length := IntsAre.length hv
  refine join_at (h₀ := e25.g) (L := e25.L) (fun m nx => ∃ b lb ob ws k oB, nx = [(b, ob), (lb, listOf (List.toArray ws) k), (e25.L + 1 + 1, o1), (e25.L + 1, oB)] ∧ BarOk lb 0 ob ∧ lb ≠ b ∧ @LT.lt Nat _ (e25.L + 1 + 1) lb ∧ @LT.lt Nat _ (e25.L + 1 + 1) b ∧ IntsAre ws (List.take 40 (c25_ns ++ [0])) ∧ oB.data = .cell (some (.ref b))) ?_ ?_
  · walk_at "GO"
    rename News e25.g _ _ _ => N9
    exact JoinPost.intro (by k_asm) (sub_four N9) ⟨_, _, _, _, _, _, rfl, barOk_new, (show @Ne Nat _ _ by walk_at "O"), by walk_at "O", by walk_at "O", by with_reducible assumption, by with_reducible assumption⟩
  · rintro h' tk' m' nx hJ9 F₁ N₁
    refine hide ?_; intro hG9
    refine ex6 hJ9 ?_; clear hJ9; intro b lb ob ws kb oB hJ9
    refine and7 hJ9 ?_; clear hJ9; rintro rfl hbar hlb hl1 hl2 hws dB
    refine hG9 ?_; clear hG9
    obtain ⟨q1, q2⟩ := take_len hn
    have hlb2 : @Ne Nat lb b := hlb
    generalize List.take 40 (c25_ns ++ [0]) = cs at hws q1 q2
    refine wpAny_execs_cons ?_
    walk_at "GO"
    refine For_invV e25.g (by rfl) (by rfl) ?_ (by intro _; rfl) (by with_unfolding_all passes_own)
    walk_at "STEPS"
    refine' iter_range0 (fun i m nw => ∃ ob oS oB v, nw = [(b, ob), (lb, listOf (List.toArray ws) kb), (e25.L + 1 + 1, oS), (e25.L + 1, oB)] ∧ BarOk lb (1000 * (i : Int)) ob ∧ oS.data = .cell v ∧ oB.data = .cell (some (.ref b))) rfl ?F ?N ?r ?ab ?h4 ?j ?turn ?done
    case F => k_asm
    case N => k_asm
    case r => exact News.get (by k_asm) (by k_mem)
    case ab => walk_at "O"
    case h4 => walk_at "O"
    case j =>
      refine' ⟨⟨_, _, _, ?vq9, rfl, hbar, ?dS, dB⟩, ?sub⟩
      case dS => exact d1
      case sub => walk_at "SUB"
    case turn =>
      rintro I i t o m₁ news₁ h2 tk2 hi hJ9 hne F₁ N₁
      refine hide ?_; intro hG9
      refine ex4 hJ9 ?_; clear hJ9; intro ob oS oB v hJ9
      refine and4 hJ9 ?_; clear hJ9; rintro rfl hbar dS dB
      refine hG9 ?_; clear hG9
      have hneA := allNe_of hne
      replace hne := hneA
      simp only [AllNe] at hne
      refine hide ?_; intro hG9
      obtain ⟨g1, g2, g3, g4, _⟩ := hne
      refine hG9 ?_; clear hG9
      have hcap : (1000 * (i : Int)) ≤ 1000 := by walk_at "O"
      generalize hc0 : (1000 * (i : Int)) = c0 at hbar hcap
      walk_at "GO"
      rename_i n1 _ hn1 b4 _ _ _ _ _ _ n2 _ hn2 b7 _ _ la _ lta _ _ _ ob9 _ _ _ hb9 kd tkd h9 oS9 FF NN dS9
      replace hb9 : BarOk lb (c0 + 3) ob9 := hb9.le (by walk_at "O")
      have hRW : (1 + n1) * (1 + n2) ≤ 28 := Nat.mul_le_mul (show 1 + n1 ≤ 4 by walk_at "O") (show 1 + n2 ≤ 7 by walk_at "O")
      refine LCg.Assign_ListComp_U (by k_asm) (by rfl) (by rfl) (by rfl) (by decide) (by rfl) (by decide) (by rfl) (by rfl) (by rfl) ?_ (by intro _; rfl)
      walk_at "GO"
      rename (_ : Nat) < _ ∧ _ => ltr
      refine src_range (a := 0) (n := (1 + n1) * (1 + n2)) rfl (by k_asm) (by k_asm) (by k_mem) (by simp [Int.natCast_mul, Int.natCast_add]) (by walk_at "O") (by walk_at "O") ?_
      intro hg'
      refine compRest_bar (pre := [_, _, _]) (b := b) (ob₀ := ob9) (post := [_, _, _]) (hp := ?pI) (hq := ?qI) (fun j ys ob => BarOk lb (c0 + 3 + 4 * (j : Int)) ob ∧ MadeIts kd j ys) ?turnI ?doneI ⟨hb9.le (by walk_at "O"), MadeIts.nil⟩
      case pI => walk_at "NES"
      case qI => walk_at "NES"
      case turnI =>
        rintro j ys ob3 v2 I2 oI C2 oC Dd m₂ h3 tk3 E' hj ⟨hb3, hm3⟩ ⟨tv, rfl⟩ hC hm F N U
        have hj28 : j < 28 := Nat.lt_of_lt_of_le hj hRW
        dsimp only [List.cons_append, List.nil_append] at N U
        generalize hcj : c0 + 3 + 4 * (j : Int) = cj at hb3
        walk_at "GO"
        exact BarPost.intro (by k_asm) (by k_asm) ⟨BarOk.le (by with_reducible assumption) (by walk_at "O"), hm3.snoc (by with_reducible assumption)⟩
      case doneI =>
        rintro ys ob3 ⟨hb3, hm3⟩ Dd h3 tk3 F1 N1 O1
        dsimp only [List.cons_append, List.nil_append] at N1 O1
        dsimp only
        simp only [LCg.Off1] at O1
        refine hide ?_; intro hG9
        obtain ⟨y1, y2, y3, y4, y5, y6, _⟩ := O1
        refine hG9 ?_; clear hG9
        replace hb3 : BarOk lb (c0 + 116) ob3 := hb3.le (by walk_at "O")
        have hmi : MadeIts kd ((1 + n1) * (1 + n2)) ys := hm3
        have hbD : @Ne Nat Dd b := Ne.symm y4
        replace N1 : News e25.g e25.L h3 [(Dd, LCg.lst ys), (I, o), (b, ob3), (lb, listOf (List.toArray ws) kb), (e25.L + 1 + 1, oS9), (e25.L + 1, oB)] := news_sub N1 (by walk_at "SUB")
        clear y1 y2 y3 y4 y5 y6 ltr hm3
        refine join2_at (h₀ := e25.g) (L := e25.L) (fun m nx => ∃ Dr oR ob ra rn th tw, nx = [(Dr, oR), (Dd, LCg.lst ys), (I, o), (b, ob), (lb, listOf (List.toArray ws) kb), (e25.L + 1 + 1, oS9), (e25.L + 1, oB)] ∧ BarOk lb (c0 + 126) ob ∧ OptIn (Dr, oR) ra rn ∧ RowOk (1 + n1) rn ∧ @Ne Nat Dr b ∧
          m (Str.ofString "row_words") = some (optV ra) ∧ m (Str.ofString "items") = some (.ref Dd) ∧ m (Str.ofString "height") = some (.int (1 + (n1 : Int)) th) ∧ m (Str.ofString "wide") = some (.int (1 + (n2 : Int)) tw)) ?_ ?_
        · walk_at "GO"
          refine ⟨rfl, ?_⟩
          refine wpAny_If ?_
          walk_at "GO"
          · rename BarOk _ (c0 + 116 + 1) _ => hb8
            refine LCg.Assign_ListComp_U (by k_asm) (by rfl) (by rfl) (by rfl) (by decide) (by rfl) (by decide) (by rfl) (by rfl) (by rfl) ?_ (by intro _; rfl)
            walk_at "GO"
            rename (_ : Nat) < _ ∧ _ => ltr
            refine hide ?_; intro hG9
            obtain ⟨l1, l2, l3, l4, l5, l6⟩ := ltr
            refine hG9 ?_; clear hG9
            refine src_range (a := 0) (n := 1 + n1) rfl (by k_asm) (by k_asm) (by k_mem) (by simp [Int.natCast_add]) (by walk_at "O") (by walk_at "O") ?_
            intro hg'
            refine compRest_bar (pre := [_, _, _]) (b := b) (post := [_, _, _]) (hp := ?pR) (hq := ?qR) (fun j ys ob => BarOk lb (c0 + 117 + 1 * (j : Int)) ob ∧ NmsAre j ys) ?turnR ?doneR ⟨BarOk.le hb8 (by walk_at "O"), NmsAre.nil⟩
            case pR => walk_at "NES"
            case qR => walk_at "NES"
            case turnR =>
              clear hb9 hb3 hb8
              rintro j ws2 ob3 v2 I2 oI C2 oC D2 m₂ h3 tk3 E' hj ⟨hb3, hm3⟩ ⟨tv, rfl⟩ hC hm F N U
              have hj4 : j < 4 := by walk_at "O"
              dsimp only [List.cons_append, List.nil_append] at N U
              generalize hcj : c0 + 117 + 1 * (j : Int) = cj at hb3
              rw [show ((0 : Nat) : Int) + (j : Int) = (j : Int) by walk_at "O"] at hm
              walk_at "GO"
              exact BarPost.intro (by k_asm) (by k_asm) ⟨BarOk.le (by with_reducible assumption) (by walk_at "O"), hm3.snoc (by with_reducible assumption)⟩
            case doneR =>
              rintro ys2 ob3 ⟨hb3, hm3⟩ D3 h3 tk3 F3 N3 O3
              dsimp only [List.cons_append, List.nil_append] at N3 O3
              walk_at "GO"
              simp only [LCg.Off1] at O3
              refine hide ?_; intro hG9
              obtain ⟨z1, z2, z3, z4, _⟩ := O3
              refine hG9 ?_; clear hG9
              refine hide ?_; intro hG9
              obtain ⟨ts, t1, t2, t3⟩ := hm3
              refine hG9 ?_; clear hG9
              refine' JoinPost.intro F3 (news_sub N3 ?sub3) ⟨D3, LCg.lst ys2, ob3, some D3, some ts, _, _, rfl, hb3.le (by walk_at "O"), OptIn.yes t1, RowOk.yes t2 t3, Ne.symm z4, ?lk1, ?lk2, ?lk3, ?lk4⟩
              case sub3 => walk_at "SUB"
              case lk1 => rfl
              case lk2 => walk_at "LOOK"
              case lk3 => walk_at "LOOK"
              case lk4 => walk_at "LOOK"
          · rename BarOk _ (c0 + 116 + 1) _ => hb8
            rename Fr _ _ _ _ => F8
            rename News _ _ _ _ => N8
            refine' JoinPost.intro F8 (news_sub N8 ?sub4) ⟨Dd, LCg.lst ys, _, none, none, _, _, rfl, hb8.le (by walk_at "O"), OptIn.no _, RowOk.no _, hbD, ?lk5, ?lk6, ?lk7, ?lk8⟩
            case sub4 => walk_at "SUB"
            case lk5 => rfl
            case lk6 => walk_at "LOOK"
            case lk7 => walk_at "LOOK"
            case lk8 => walk_at "LOOK"
        · rintro h4 tk4 m4 nx hJ9 F4 N4
          refine hide ?_; intro hG9
          refine ex7 hJ9 ?_; clear hJ9; intro Dr oR ob4 ra rn th tw hJ9
          refine and9 hJ9 ?_; clear hJ9; rintro rfl hb4 hor hro hrb k1 k2 k3 k4
          refine hG9 ?_; clear hG9
          clear hb9 hb3
          refine join2_at (h₀ := e25.g) (L := e25.L) (fun m nx => ∃ Dh oH ob ha cn th tw, nx = [(Dh, oH), (Dr, oR), (Dd, LCg.lst ys), (I, o), (b, ob), (lb, listOf (List.toArray ws) kb), (e25.L + 1 + 1, oS9), (e25.L + 1, oB)] ∧ BarOk lb (c0 + 136) ob ∧ OptIn (Dh, oH) ha cn ∧ RowOk (1 + n2) cn ∧ @Ne Nat Dh b ∧ m (Str.ofString "head_names") = some (optV ha) ∧
            m (Str.ofString "row_words") = some (optV ra) ∧ m (Str.ofString "items") = some (.ref Dd) ∧ m (Str.ofString "height") = some (.int (1 + (n1 : Int)) th) ∧ m (Str.ofString "wide") = some (.int (1 + (n2 : Int)) tw)) ?_ ?_
          · walk_at "GO"
            refine ⟨rfl, ?_⟩
            refine wpAny_If ?_
            walk_at "GO"
            · rename BarOk _ (c0 + 126 + 1) _ => hb8
              refine LCg.Assign_ListComp_U (by k_asm) (by rfl) (by rfl) (by rfl) (by decide) (by rfl) (by decide) (by rfl) (by rfl) (by rfl) ?_ (by intro _; rfl)
              walk_at "GO"
              rename (_ : Nat) < _ ∧ _ => ltr
              refine hide ?_; intro hG9
              obtain ⟨l1, l2, l3, l4, l5, l6, l7⟩ := ltr
              refine hG9 ?_; clear hG9
              refine src_range (a := 0) (n := 1 + n2) rfl (by k_asm) (by k_asm) (by k_mem) (by simp [Int.natCast_add]) (by walk_at "O") (by walk_at "O") ?_
              intro hg'
              refine compRest_bar (pre := [_, _, _, _]) (b := b) (post := [_, _, _]) (hp := ?pH) (hq := ?qH) (fun j ys ob => BarOk lb (c0 + 127 + 1 * (j : Int)) ob ∧ NmsAre j ys) ?turnH ?doneH ⟨BarOk.le hb8 (by walk_at "O"), NmsAre.nil⟩
              case pH => walk_at "NES"
              case qH => walk_at "NES"
              case turnH =>
                clear hb4
                rintro j ws2 ob3 v2 I2 oI C2 oC D2 m₂ h3 tk3 E' hj ⟨hb3, hm3⟩ ⟨tv, rfl⟩ hC hm F N U
                have hj7 : j < 7 := by walk_at "O"
                dsimp only [List.cons_append, List.nil_append] at N U
                generalize hcj : c0 + 127 + 1 * (j : Int) = cj at hb3
                rw [show ((0 : Nat) : Int) + (j : Int) = (j : Int) by walk_at "O"] at hm
                walk_at "GO"
                exact BarPost.intro (by k_asm) (by k_asm) ⟨BarOk.le (by with_reducible assumption) (by walk_at "O"), hm3.snoc (by with_reducible assumption)⟩
              case doneH =>
                rintro ys2 ob3 ⟨hb3, hm3⟩ D3 h3 tk3 F3 N3 O3
                dsimp only [List.cons_append, List.nil_append] at N3 O3
                walk_at "GO"
                simp only [LCg.Off1] at O3
                refine hide ?_; intro hG9
                obtain ⟨z1, z2, z3, z4, z5, _⟩ := O3
                refine hG9 ?_; clear hG9
                refine hide ?_; intro hG9
                obtain ⟨ts, t1, t2, t3⟩ := hm3
                refine hG9 ?_; clear hG9
                refine' JoinPost.intro F3 (news_sub N3 ?sub3) ⟨D3, LCg.lst ys2, ob3, some D3, some ts, _, _, rfl, hb3.le (by walk_at "O"), OptIn.yes t1, RowOk.yes t2 t3, Ne.symm z5, ?lk1, ?lk2, ?lk3, ?lk4, ?lk5⟩
                case sub3 => walk_at "SUB"
                case lk1 => rfl
                case lk2 => walk_at "LOOK"
                case lk3 => walk_at "LOOK"
                case lk4 => walk_at "LOOK"
                case lk5 => walk_at "LOOK"
            · rename BarOk _ (c0 + 126 + 1) _ => hb8
              rename Fr _ _ _ _ => F8
              rename News _ _ _ _ => N8
              refine' JoinPost.intro F8 (news_sub N8 ?sub4) ⟨Dd, LCg.lst ys, _, none, none, _, _, rfl, hb8.le (by walk_at "O"), OptIn.no _, RowOk.no _, hbD, ?lk6, ?lk7, ?lk8, ?lk9, ?lka⟩
              case sub4 => walk_at "SUB"
              case lk6 => rfl
              case lk7 => walk_at "LOOK"
              case lk8 => walk_at "LOOK"
              case lk9 => walk_at "LOOK"
              case lka => walk_at "LOOK"
          · rintro h5 tk5 m5 nx hJ9 F5 N5
            refine hide ?_; intro hG9
            refine ex7 hJ9 ?_; clear hJ9; intro Dh oH ob5 ha cn th tw hJ9
            refine and10 hJ9 ?_; clear hJ9; rintro rfl hb5 hoh hho hhb e0 e1 e2 e3 e4
            refine hG9 ?_; clear hG9
            clear hb4 k1 k2 k3 k4
            refine wpAny_execs_cons ?_
            walk_at "GO"
            rename BarOk _ (c0 + 136 + 1) _ => hb8
            rename News _ _ _ _ => N8
            refine' TurnPost.intro (by k_asm) (news_sub N8 ?subT) ?nez ⟨_, _, _, _, rfl, BarOk.le hb8 (by walk_at "O"), dS9, dB⟩
            case subT => walk_at "SUB"
            case nez => exact allNe_same hneA rfl
    case done =>
      rintro m₁ news₁ h2 tk2 hJ9 F₁ N₁
      refine hide ?_; intro hG9
      refine ex4 hJ9 ?_; clear hJ9; intro ob oS oB v hJ9
      refine and4 hJ9 ?_; clear hJ9; rintro rfl hbar dS dB
      refine hG9 ?_; clear hG9
      walk_at "GO"
      walk_at "END"
      rfl
theorem law_says (l : Addr) (vs : List Value) (ns : List Int) (h : Heap) (hl : h.IsList l vs.toArray) (hv : IntsAre vs ns) (hn : ns.length ≤ 63) :
    SaysTop w p loose mean mg mb 445 [.ref l] h (fun v _ => v = .bool true) :=
  epsA d25 (P := S25) (c := c25) (by with_unfolding_all rfl) law_says_c (l, vs, ns, h) hl hv hn
end
end
theorem law_c : SLaw cW := by
  with_unfolding_all exact fun l vs ns h hl hv hn => law_says l vs ns h hl hv hn
theorem law_all {w : World} {p : Program} {loose : List Str} {mean : ExcName → Option Value} {mg mb : Str → Option Value} (l : Addr) (vs : List Value) (ns : List Int) (h : Heap) (hl : h.IsList l vs.toArray) (hv : IntsAre vs ns) (hn : ns.length ≤ 63) :
    SaysTop w p loose mean mg mb 445 [.ref l] h (fun v _ => v = .bool true) :=
  epsA dW (P := SLaw) (c := cW) (by with_unfolding_all rfl) law_c (w, p, loose, mean, mg, mb) l vs ns h hl hv hn
end
end Mine
open PySem PySem.W PyProof.Rows
theorem Mine.main.tw10047389527955405517 : True := trivial
theorem Mine.main.tw10094358506670053839 : True := trivial
theorem Mine.main.tw10114013102757674387 : True := trivial
theorem Mine.main.tw10159738436595150677 : True := trivial
theorem Mine.main.tw10177057350305019805 : True := trivial
theorem Mine.main.tw10199874654664476236 : True := trivial
theorem Mine.main.tw10234815189450012239 : True := trivial
theorem Mine.main.tw10298723112805639129 : True := trivial
theorem Mine.main.tw10334261112615635914 : True := trivial
theorem Mine.main.tw10391951854915411234 : True := trivial
theorem Mine.main.tw104360540948158410 : True := trivial
theorem Mine.main.tw10609540516017602915 : True := trivial
theorem Mine.main.tw10625486282989778954 : True := trivial
theorem Mine.main.tw10642606787283503386 : True := trivial
theorem Mine.main.tw10665089971535097683 : True := trivial
theorem Mine.main.tw10669944970481658594 : True := trivial
theorem Mine.main.tw10707853282979444102 : True := trivial
theorem Mine.main.tw10821422270917381399 : True := trivial
theorem Mine.main.tw10825838108423173272 : True := trivial
theorem Mine.main.tw10876375607700338302 : True := trivial
theorem Mine.main.tw10877679251791092727 : True := trivial
theorem Mine.main.tw10896356407431480244 : True := trivial
theorem Mine.main.tw1099256609624015869 : True := trivial
theorem Mine.main.tw11003572833241299968 : True := trivial
theorem Mine.main.tw11135027115929721415 : True := trivial
theorem Mine.main.tw11221353774195762014 : True := trivial
theorem Mine.main.tw11403851563620829512 : True := trivial
theorem Mine.main.tw11461230924637031220 : True := trivial
theorem Mine.main.tw11501822485730972192 : True := trivial
theorem Mine.main.tw11505072364899133118 : True := trivial
theorem Mine.main.tw11554813239044494598 : True := trivial
theorem Mine.main.tw1156462466702112376 : True := trivial
theorem Mine.main.tw1157997071576566072 : True := trivial
theorem Mine.main.tw11595355409239048105 : True := trivial
theorem Mine.main.tw11646826074482590764 : True := trivial
theorem Mine.main.tw11676434600657463091 : True := trivial
theorem Mine.main.tw11710404883906591787 : True := trivial
theorem Mine.main.tw11741537727913789688 : True := trivial
theorem Mine.main.tw11752208632293872130 : True := trivial
theorem Mine.main.tw11785714552879321826 : True := trivial
theorem Mine.main.tw1178595665728414349 : True := trivial
theorem Mine.main.tw11815829001073249272 : True := trivial
theorem Mine.main.tw11857135199678951331 : True := trivial
theorem Mine.main.tw11982392923317675503 : True := trivial
theorem Mine.main.tw11987853993630220354 : True := trivial
theorem Mine.main.tw12057704586751987240 : True := trivial
theorem Mine.main.tw12077450504624328385 : True := trivial
theorem Mine.main.tw12205347405646519318 : True := trivial
theorem Mine.main.tw12252054271945606052 : True := trivial
theorem Mine.main.tw12273490649430754879 : True := trivial
theorem Mine.main.tw12298629886278197574 : True := trivial
theorem Mine.main.tw12343854547171428336 : True := trivial
theorem Mine.main.tw12455012482086183272 : True := trivial
theorem Mine.main.tw12623159325031504133 : True := trivial
theorem Mine.main.tw12652817052007968696 : True := trivial
theorem Mine.main.tw12670839924663504800 : True := trivial
theorem Mine.main.tw1270039299266317192 : True := trivial
theorem Mine.main.tw1277820614484962519 : True := trivial
theorem Mine.main.tw12839114828313443825 : True := trivial
theorem Mine.main.tw12872379398031375081 : True := trivial
theorem Mine.main.tw12885673836220544336 : True := trivial
theorem Mine.main.tw12900284412222446716 : True := trivial
theorem Mine.main.tw12915833801598196605 : True := trivial
theorem Mine.main.tw12922898485456448571 : True := trivial
theorem Mine.main.tw12927740378394474205 : True := trivial
theorem Mine.main.tw12941917028564957548 : True := trivial
theorem Mine.main.tw13110577991587790113 : True := trivial
theorem Mine.main.tw13113777628852026922 : True := trivial
theorem Mine.main.tw13219505800766818778 : True := trivial
theorem Mine.main.tw13224007501803129859 : True := trivial
theorem Mine.main.tw13270728482189477470 : True := trivial
theorem Mine.main.tw13293747886898857621 : True := trivial
theorem Mine.main.tw13350764725976880583 : True := trivial
theorem Mine.main.tw13355152605343272895 : True := trivial
theorem Mine.main.tw13402765919934010277 : True := trivial
theorem Mine.main.tw13503263706703578961 : True := trivial
theorem Mine.main.tw13590572293223372214 : True := trivial
theorem Mine.main.tw13591255225166038476 : True := trivial
theorem Mine.main.tw13639669503049741792 : True := trivial
theorem Mine.main.tw13676971244355772609 : True := trivial
theorem Mine.main.tw13693970394777133609 : True := trivial
theorem Mine.main.tw13777938177461255882 : True := trivial
theorem Mine.main.tw13803360072150633466 : True := trivial
theorem Mine.main.tw13838900630717943254 : True := trivial
theorem Mine.main.tw13876859957761632879 : True := trivial
theorem Mine.main.tw13962693860625380366 : True := trivial
theorem Mine.main.tw14009396871252706886 : True := trivial
theorem Mine.main.tw14027531716089632829 : True := trivial
theorem Mine.main.tw14061640607465278742 : True := trivial
theorem Mine.main.tw14106445559736802775 : True := trivial
theorem Mine.main.tw14161005256144132680 : True := trivial
theorem Mine.main.tw14218914174604095658 : True := trivial
theorem Mine.main.tw1429040668314091153 : True := trivial
theorem Mine.main.tw14439473939278146460 : True := trivial
theorem Mine.main.tw14457758005677747962 : True := trivial
theorem Mine.main.tw14510055921401542917 : True := trivial
theorem Mine.main.tw1453356044741674121 : True := trivial
theorem Mine.main.tw14635473669698735251 : True := trivial
theorem Mine.main.tw14639212616227390028 : True := trivial
theorem Mine.main.tw14662554035588321541 : True := trivial
theorem Mine.main.tw14663143327902243649 : True := trivial
theorem Mine.main.tw14672674291997333471 : True := trivial
theorem Mine.main.tw14722489848711283861 : True := trivial
theorem Mine.main.tw14759895335926876869 : True := trivial
theorem Mine.main.tw14788915703135433725 : True := trivial
theorem Mine.main.tw14793117695081215449 : True := trivial
theorem Mine.main.tw14907226015203709474 : True := trivial
theorem Mine.main.tw15017983477296125989 : True := trivial
theorem Mine.main.tw1504049600530537962 : True := trivial
theorem Mine.main.tw15079240505294077160 : True := trivial
theorem Mine.main.tw15109750227778091905 : True := trivial
theorem Mine.main.tw15131278010643852716 : True := trivial
theorem Mine.main.tw15270170921892066516 : True := trivial
theorem Mine.main.tw15303317825217679618 : True := trivial
theorem Mine.main.tw15342904991969174519 : True := trivial
theorem Mine.main.tw15365013842991253249 : True := trivial
theorem Mine.main.tw1545906260438175962 : True := trivial
theorem Mine.main.tw15467891735981029475 : True := trivial
theorem Mine.main.tw15485851114877660061 : True := trivial
theorem Mine.main.tw15514936471743626214 : True := trivial
theorem Mine.main.tw15595112118272840620 : True := trivial
theorem Mine.main.tw15624239662980076321 : True := trivial
theorem Mine.main.tw15643365686152983790 : True := trivial
theorem Mine.main.tw15649996292582860464 : True := trivial
theorem Mine.main.tw15734200111481486640 : True := trivial
theorem Mine.main.tw15734660467963936456 : True := trivial
theorem Mine.main.tw15737690656516749961 : True := trivial
theorem Mine.main.tw15768048840197415361 : True := trivial
theorem Mine.main.tw15803610866087392283 : True := trivial
theorem Mine.main.tw15806524323241146399 : True := trivial
theorem Mine.main.tw1587290215689348708 : True := trivial
theorem Mine.main.tw15984706205718930553 : True := trivial
theorem Mine.main.tw16008457594558532635 : True := trivial
theorem Mine.main.tw16035907590883218939 : True := trivial
theorem Mine.main.tw16046730324260685337 : True := trivial
theorem Mine.main.tw16049902774474827687 : True := trivial
theorem Mine.main.tw16102231251864390963 : True := trivial
theorem Mine.main.tw16136984950599521427 : True := trivial
theorem Mine.main.tw16153842264607907944 : True := trivial
theorem Mine.main.tw16187894506366716058 : True := trivial
theorem Mine.main.tw16193401482309157537 : True := trivial
theorem Mine.main.tw16251939892948500945 : True := trivial
theorem Mine.main.tw1632041292262086317 : True := trivial
theorem Mine.main.tw16320729459185622934 : True := trivial
theorem Mine.main.tw16364888086185871619 : True := trivial
theorem Mine.main.tw16411370214107742406 : True := trivial
theorem Mine.main.tw16452447596832230105 : True := trivial
theorem Mine.main.tw16480584520131690045 : True := trivial
theorem Mine.main.tw16512967305710189361 : True := trivial
theorem Mine.main.tw16519101796099990279 : True := trivial
theorem Mine.main.tw16572128252103988241 : True := trivial
theorem Mine.main.tw16629339528299215175 : True := trivial
theorem Mine.main.tw16656740534632174751 : True := trivial
theorem Mine.main.tw16721930046160240684 : True := trivial
theorem Mine.main.tw16798622893749714585 : True := trivial
theorem Mine.main.tw16819838333489098493 : True := trivial
theorem Mine.main.tw16832360635688203351 : True := trivial
theorem Mine.main.tw16922381011570985944 : True := trivial
theorem Mine.main.tw16923884221124529275 : True := trivial
theorem Mine.main.tw16950194794029067938 : True := trivial
theorem Mine.main.tw16952715711813285254 : True := trivial
theorem Mine.main.tw16965079339398995527 : True := trivial
theorem Mine.main.tw17052023290607921161 : True := trivial
theorem Mine.main.tw17057053908230417247 : True := trivial
theorem Mine.main.tw17091655785135471103 : True := trivial
theorem Mine.main.tw17118054049896295152 : True := trivial
theorem Mine.main.tw17146568849442343683 : True := trivial
theorem Mine.main.tw1714950047550659301 : True := trivial
theorem Mine.main.tw17201416709059790184 : True := trivial
theorem Mine.main.tw17223442867436993403 : True := trivial
theorem Mine.main.tw17236958762192778904 : True := trivial
theorem Mine.main.tw17272174723667511238 : True := trivial
theorem Mine.main.tw17297283025540448806 : True := trivial
theorem Mine.main.tw17336282652733537790 : True := trivial
theorem Mine.main.tw17353955331779342651 : True := trivial
theorem Mine.main.tw17402982504261768225 : True := trivial
theorem Mine.main.tw17450470499104002142 : True := trivial
theorem Mine.main.tw17477492558424962760 : True := trivial
theorem Mine.main.tw17510229520200029679 : True := trivial
theorem Mine.main.tw17561526911342447988 : True := trivial
theorem Mine.main.tw17665120845849184447 : True := trivial
theorem Mine.main.tw17679725944135375923 : True := trivial
theorem Mine.main.tw17695171507069755227 : True := trivial
theorem Mine.main.tw17708487481403421675 : True := trivial
theorem Mine.main.tw17715262827843222689 : True := trivial
theorem Mine.main.tw17725498274588495791 : True := trivial
theorem Mine.main.tw17737603089517620647 : True := trivial
theorem Mine.main.tw1777545030009416734 : True := trivial
theorem Mine.main.tw17924188408937702994 : True := trivial
theorem Mine.main.tw17958375852430007124 : True := trivial
theorem Mine.main.tw17974016328880235120 : True := trivial
theorem Mine.main.tw18063282731904131703 : True := trivial
theorem Mine.main.tw18134284020713443437 : True := trivial
theorem Mine.main.tw18190005008629794160 : True := trivial
theorem Mine.main.tw18218335207050127959 : True := trivial
theorem Mine.main.tw1826329307503635854 : True := trivial
theorem Mine.main.tw18284262389922463811 : True := trivial
theorem Mine.main.tw18302796317244248524 : True := trivial
theorem Mine.main.tw18315214858253571532 : True := trivial
theorem Mine.main.tw18332899500509843999 : True := trivial
theorem Mine.main.tw18421580907717582127 : True := trivial
theorem Mine.main.tw18431692314602308842 : True := trivial
theorem Mine.main.tw18442785490491869365 : True := trivial
theorem Mine.main.tw1850612553970854742 : True := trivial
theorem Mine.main.tw1900339198761634783 : True := trivial
theorem Mine.main.tw2007339730380871907 : True := trivial
theorem Mine.main.tw2019394398466159022 : True := trivial
theorem Mine.main.tw2110754180369666209 : True := trivial
theorem Mine.main.tw2190695567426971638 : True := trivial
theorem Mine.main.tw2195194259037543316 : True := trivial
theorem Mine.main.tw221909299271738847 : True := trivial
theorem Mine.main.tw2225956059507018244 : True := trivial
theorem Mine.main.tw2227430411747474389 : True := trivial
theorem Mine.main.tw2238316416991798583 : True := trivial
theorem Mine.main.tw2279707942289718827 : True := trivial
theorem Mine.main.tw2287757881348798766 : True := trivial
theorem Mine.main.tw2406621943657119228 : True := trivial
theorem Mine.main.tw2524017781993486291 : True := trivial
theorem Mine.main.tw2538046985915079169 : True := trivial
theorem Mine.main.tw2544328076492683441 : True := trivial
theorem Mine.main.tw2629084897520917108 : True := trivial
theorem Mine.main.tw2647654807098235363 : True := trivial
theorem Mine.main.tw2702614204127132176 : True := trivial
theorem Mine.main.tw2724176850512262202 : True := trivial
theorem Mine.main.tw2729793432009153956 : True := trivial
theorem Mine.main.tw2759098988195820126 : True := trivial
theorem Mine.main.tw2821470743931037460 : True := trivial
theorem Mine.main.tw2895952525429962455 : True := trivial
theorem Mine.main.tw2921621734765799159 : True := trivial
theorem Mine.main.tw302440914744352476 : True := trivial
theorem Mine.main.tw3027586509356016917 : True := trivial
theorem Mine.main.tw3045742163950154196 : True := trivial
theorem Mine.main.tw31828345220925962 : True := trivial
theorem Mine.main.tw3234112476842188716 : True := trivial
theorem Mine.main.tw330327031418712150 : True := trivial
theorem Mine.main.tw3343439749351644125 : True := trivial
theorem Mine.main.tw33456957511925785 : True := trivial
theorem Mine.main.tw341453280667917650 : True := trivial
theorem Mine.main.tw3454311308915712629 : True := trivial
theorem Mine.main.tw3466206800631347469 : True := trivial
theorem Mine.main.tw3491332818749588091 : True := trivial
theorem Mine.main.tw3532412968194664532 : True := trivial
theorem Mine.main.tw3557749057250611081 : True := trivial
theorem Mine.main.tw3562595001068472590 : True := trivial
theorem Mine.main.tw3570300971023340979 : True := trivial
theorem Mine.main.tw3583811862363856187 : True := trivial
theorem Mine.main.tw3613476055612923068 : True := trivial
theorem Mine.main.tw3626430660855392483 : True := trivial
theorem Mine.main.tw3627144658338631552 : True := trivial
theorem Mine.main.tw3779293765908593550 : True := trivial
theorem Mine.main.tw3829396358689915599 : True := trivial
theorem Mine.main.tw3848698983108048278 : True := trivial
theorem Mine.main.tw387501639795913443 : True := trivial
theorem Mine.main.tw3905226178654972811 : True := trivial
theorem Mine.main.tw3934531018447913466 : True := trivial
theorem Mine.main.tw3960113756560652017 : True := trivial
theorem Mine.main.tw4026956272090484662 : True := trivial
theorem Mine.main.tw4038153913678941442 : True := trivial
theorem Mine.main.tw4039676971129161736 : True := trivial
theorem Mine.main.tw4072190877284726289 : True := trivial
theorem Mine.main.tw4108550071563198673 : True := trivial
theorem Mine.main.tw4126091431370883743 : True := trivial
theorem Mine.main.tw4189750870438640210 : True := trivial
theorem Mine.main.tw4261964983698606537 : True := trivial
theorem Mine.main.tw4297412468100583042 : True := trivial
theorem Mine.main.tw4324958949535026087 : True := trivial
theorem Mine.main.tw4333880214566435006 : True := trivial
theorem Mine.main.tw4365514962571936147 : True := trivial
theorem Mine.main.tw4452170602077327944 : True := trivial
theorem Mine.main.tw4458048076830672230 : True := trivial
theorem Mine.main.tw4475767826048309731 : True := trivial
theorem Mine.main.tw4500915450034043215 : True := trivial
theorem Mine.main.tw452746233719593009 : True := trivial
theorem Mine.main.tw4544244032028310869 : True := trivial
theorem Mine.main.tw4573282807186111410 : True := trivial
theorem Mine.main.tw4585930131862741453 : True := trivial
theorem Mine.main.tw4605139254293405059 : True := trivial
theorem Mine.main.tw4637267157515435788 : True := trivial
theorem Mine.main.tw4641405899268526868 : True := trivial
theorem Mine.main.tw4650958065196391918 : True := trivial
theorem Mine.main.tw4651154628705390771 : True := trivial
theorem Mine.main.tw4681395471914393968 : True := trivial
theorem Mine.main.tw4775608329324902142 : True := trivial
theorem Mine.main.tw4812270449578504274 : True := trivial
theorem Mine.main.tw4839478117068044826 : True := trivial
theorem Mine.main.tw4900431672193113347 : True := trivial
theorem Mine.main.tw490501491073077365 : True := trivial
theorem Mine.main.tw4990475226369331113 : True := trivial
theorem Mine.main.tw5061512775090418087 : True := trivial
theorem Mine.main.tw5084117380071580128 : True := trivial
theorem Mine.main.tw5091726699305991454 : True := trivial
theorem Mine.main.tw5102693214775723256 : True := trivial
theorem Mine.main.tw5127751686995613262 : True := trivial
theorem Mine.main.tw5160751907100791332 : True := trivial
theorem Mine.main.tw5240536507193477226 : True := trivial
theorem Mine.main.tw5240779543111244032 : True := trivial
theorem Mine.main.tw5243159528196176124 : True := trivial
theorem Mine.main.tw5372645768047454471 : True := trivial
theorem Mine.main.tw5396188567872606041 : True := trivial
theorem Mine.main.tw5400957986263281647 : True := trivial
theorem Mine.main.tw5401703158475992631 : True := trivial
theorem Mine.main.tw5418533224930618480 : True := trivial
theorem Mine.main.tw5473700226181020891 : True := trivial
theorem Mine.main.tw5518243967957118194 : True := trivial
theorem Mine.main.tw5532463470591059822 : True := trivial
theorem Mine.main.tw5571399437266216444 : True := trivial
theorem Mine.main.tw5613160597433933154 : True := trivial
theorem Mine.main.tw5649967823195072380 : True := trivial
theorem Mine.main.tw5665406974723832613 : True := trivial
theorem Mine.main.tw5665735395497279834 : True := trivial
theorem Mine.main.tw5781596087445459943 : True := trivial
theorem Mine.main.tw587027183488705336 : True := trivial
theorem Mine.main.tw5871769198996169552 : True := trivial
theorem Mine.main.tw6044114016751833949 : True := trivial
theorem Mine.main.tw6075091234017535682 : True := trivial
theorem Mine.main.tw6112859857366181021 : True := trivial
theorem Mine.main.tw6161133996638707016 : True := trivial
theorem Mine.main.tw6162249291895867263 : True := trivial
theorem Mine.main.tw6222487380544312443 : True := trivial
theorem Mine.main.tw6331168011082995333 : True := trivial
theorem Mine.main.tw6334894449686545209 : True := trivial
theorem Mine.main.tw6385024630547198690 : True := trivial
theorem Mine.main.tw6418098437765475518 : True := trivial
theorem Mine.main.tw6449824600675878752 : True := trivial
theorem Mine.main.tw6470571476829816166 : True := trivial
theorem Mine.main.tw6508729118710982530 : True := trivial
theorem Mine.main.tw6511744376749373798 : True := trivial
theorem Mine.main.tw6541472054586571296 : True := trivial
theorem Mine.main.tw6545385358150927430 : True := trivial
theorem Mine.main.tw656089360051881306 : True := trivial
theorem Mine.main.tw66260789543402106 : True := trivial
theorem Mine.main.tw6635558491612396129 : True := trivial
theorem Mine.main.tw6655696309031964122 : True := trivial
theorem Mine.main.tw6660377722381337597 : True := trivial
theorem Mine.main.tw6696893160125735727 : True := trivial
theorem Mine.main.tw6697339332421208802 : True := trivial
theorem Mine.main.tw6741292078354696603 : True := trivial
theorem Mine.main.tw6785657489111691699 : True := trivial
theorem Mine.main.tw6801380410627298636 : True := trivial
theorem Mine.main.tw6862492499505807319 : True := trivial
theorem Mine.main.tw6877560268529008848 : True := trivial
theorem Mine.main.tw6886502059237256666 : True := trivial
theorem Mine.main.tw6910295442248876197 : True := trivial
theorem Mine.main.tw6912675738884088206 : True := trivial
theorem Mine.main.tw7083192437325867461 : True := trivial
theorem Mine.main.tw7113585516715319716 : True := trivial
theorem Mine.main.tw7153082081811710619 : True := trivial
theorem Mine.main.tw7173623326730630234 : True := trivial
theorem Mine.main.tw7186131708394509389 : True := trivial
theorem Mine.main.tw7214478077546791972 : True := trivial
theorem Mine.main.tw7221758910455160077 : True := trivial
theorem Mine.main.tw7235775444256392728 : True := trivial
theorem Mine.main.tw7293298908176781663 : True := trivial
theorem Mine.main.tw7298748307773712898 : True := trivial
theorem Mine.main.tw7308723440029596264 : True := trivial
theorem Mine.main.tw73751810991705359 : True := trivial
theorem Mine.main.tw7380652910202371479 : True := trivial
theorem Mine.main.tw7411558596216406370 : True := trivial
theorem Mine.main.tw7439787175107056256 : True := trivial
theorem Mine.main.tw750237026923860459 : True := trivial
theorem Mine.main.tw7514964652732493775 : True := trivial
theorem Mine.main.tw7590696779544312186 : True := trivial
theorem Mine.main.tw7846812961960373227 : True := trivial
theorem Mine.main.tw7871135400657621354 : True := trivial
theorem Mine.main.tw8079908401900000222 : True := trivial
theorem Mine.main.tw832900586485598795 : True := trivial
theorem Mine.main.tw834873547066669988 : True := trivial
theorem Mine.main.tw8440099810896429113 : True := trivial
theorem Mine.main.tw8467378866343419333 : True := trivial
theorem Mine.main.tw8475525182357872103 : True := trivial
theorem Mine.main.tw8557395850702784662 : True := trivial
theorem Mine.main.tw8627561154394265716 : True := trivial
theorem Mine.main.tw8652556701797213591 : True := trivial
theorem Mine.main.tw8729708805864041840 : True := trivial
theorem Mine.main.tw8905464785575363620 : True := trivial
theorem Mine.main.tw8947760058931562597 : True := trivial
theorem Mine.main.tw9121559901702372667 : True := trivial
theorem Mine.main.tw9155575984036265788 : True := trivial
theorem Mine.main.tw9190990891756207365 : True := trivial
theorem Mine.main.tw9265829497004654079 : True := trivial
theorem Mine.main.tw9268297945177815525 : True := trivial
theorem Mine.main.tw9272984997812220495 : True := trivial
theorem Mine.main.tw9274054859765456524 : True := trivial
theorem Mine.main.tw9302470337196694018 : True := trivial
theorem Mine.main.tw9360745474812902239 : True := trivial
theorem Mine.main.tw9361300454564663673 : True := trivial
theorem Mine.main.tw9376575566392132001 : True := trivial
theorem Mine.main.tw9483120023164983764 : True := trivial
theorem Mine.main.tw9498315638749924794 : True := trivial
theorem Mine.main.tw9508770018378322450 : True := trivial
theorem Mine.main.tw9557352009045844224 : True := trivial
theorem Mine.main.tw9561784451562097942 : True := trivial
theorem Mine.main.tw961187720498965250 : True := trivial
theorem Mine.main.tw9656510801202774680 : True := trivial
theorem Mine.main.tw9658885295015712986 : True := trivial
theorem Mine.main.tw9670510015898674028 : True := trivial
theorem Mine.main.tw9682133043923132273 : True := trivial
theorem Mine.main.tw9730157408454304684 : True := trivial
theorem Mine.main.tw9756827057097773860 : True := trivial
theorem Mine.main.tw979501456738626862 : True := trivial
theorem Mine.main.tw9840939614602229412 : True := trivial
theorem Mine.main.tw9848185148710128376 : True := trivial
theorem Mine.main.tw9897820754763898449 : True := trivial
theorem Mine.main.tw9957550378297406723 : True := trivial
theorem Mine.main.tw17699125900338286826 : True := trivial
set_option Elab.async true in
theorem Mine.main : PySem.Challenge.rw_ov0072_01.Holds := by
  w_on; o_law; o_head Mine.hk; (case hw => w_witness2)
  intro w s₀ s₁ mg mb G Y fa o pm cd doc dV kV ho hd hcd hD hmg hg args vals as hpre hlay hrd hwl hlo
  have KX : (Mine.hk.heap_1 w.params).In s₁.heap := Y
  have X := (Ground.X G).1
  refine Ground.open G ?_
  intro T B D TE TW
  try (refine guard_noD D (by decide +kernel) ?_; clear D)
  have hfa := mg_of KX (Top.g T) (n := Str.ofString "law") (v := .ref 445) (by kernel_rfl)
  rw [hmg] at hfa
  wrow_args hpre hlay hrd hwl hlo
  cases hfa
  dsimp only
  clear ho hd hcd hmg
  refine Mine.law_all _ _ _ _ (by assumption) (by assumption) (by omega) s₁ _ _ rfl KX T ?_
  rintro v h' tk' hk rfl
  refine GoodW.toG ⟨.inl ⟨_, _, _, rfl, raisesW_false (by wrow_none_raised), .bool true, postW_of (by wrow_shape) (by wtm_val) (by str_meet; first | done | w_fin), unshared_nil⟩, hk, rfl, hg⟩
theorem PySem.Challenge.cw_ov0072_01_holds : PySem.Challenge.rw_ov0072_01.Holds := by
  exact Mine.main
