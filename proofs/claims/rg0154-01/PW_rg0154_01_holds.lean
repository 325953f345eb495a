import PyProof.Rows.All
import Wide.All
import OpenK.AllK
import Wide.FinOn
import Lean
import PySem.Challenge.RW_rg0154_01
open PySem PySem.W PyProof.Rows
set_option Elab.async false
set_option linter.unusedVariables false
set_option linter.unusedSimpArgs false
set_option maxRecDepth 100000
set_option maxHeartbeats 4000000
set_option compiler.extract_closed false
set_option bootstrap.genMatcherCode false
namespace GP
theorem KE {n a k c : Nat} (h : n + k <= a + c) : n <= a - k + c := Nat.le_trans (Nat.le_sub_of_add_le h) (Nat.sub_le_of_le_add (by rw [Nat.add_right_comm]; exact Nat.add_le_add_right (Nat.le_add_of_sub_le (Nat.le_refl _)) c))
local macro_rules | `(tactic| omega) => `(tactic| first | assumption | exact Nat.le_trans (by assumption) (by decide) | ((with_reducible refine Nat.le_sub_of_add_le ?_); omega) | ((with_reducible refine KE ?_); omega) | ((with_reducible refine Nat.sub_le_of_le_add ?_); omega) | ((with_reducible refine Nat.lt_sub_of_add_lt ?_); omega) | lia)
theorem Ak {C0 C1 : Prop} {P : Prop} (k : C0 -> C1 -> P) (h : C0 /\ C1) : P := k h.1 h.2
theorem Ap {α0 : Sort _} {C0 : α0 -> Prop} {P : Prop} (k : ∀ x0, C0 x0 -> P) (h : ∃ x0, C0 x0) : P := Exists.elim h fun x0 h => k x0 h
theorem C9 {C0 C1 C2 : Prop} {P : Prop} (k : C0 -> C1 -> C2 -> P) (h : C0 /\ C1 /\ C2) : P := k h.1 h.2.1 h.2.2
theorem Ah {α0 : Sort _} {C0 C1 : α0 -> Prop} {P : Prop} (k : ∀ x0, C0 x0 -> C1 x0 -> P) (h : ∃ x0, C0 x0 /\ C1 x0) : P := Exists.elim h fun x0 h => k x0 h.1 h.2
theorem HM {α0 : Sort _} {α1 : Sort _} {C0 : α0 -> α1 -> Prop} {P : Prop} (k : ∀ x0 x1, C0 x0 x1 -> P) (h : ∃ x0 x1, C0 x0 x1) : P := Exists.elim h fun x0 h => Exists.elim h fun x1 h => k x0 x1 h
theorem I5 {C0 C1 C2 C3 : Prop} {P : Prop} (k : C0 -> C1 -> C2 -> C3 -> P) (h : C0 /\ C1 /\ C2 /\ C3) : P := k h.1 h.2.1 h.2.2.1 h.2.2.2
theorem FR {α0 : Sort _} {C0 C1 C2 : α0 -> Prop} {P : Prop} (k : ∀ x0, C0 x0 -> C1 x0 -> C2 x0 -> P) (h : ∃ x0, C0 x0 /\ C1 x0 /\ C2 x0) : P := Exists.elim h fun x0 h => k x0 h.1 h.2.1 h.2.2
theorem ET {α0 : Sort _} {α1 : Sort _} {C0 C1 : α0 -> α1 -> Prop} {P : Prop} (k : ∀ x0 x1, C0 x0 x1 -> C1 x0 x1 -> P) (h : ∃ x0 x1, C0 x0 x1 /\ C1 x0 x1) : P := Exists.elim h fun x0 h => Exists.elim h fun x1 h => k x0 x1 h.1 h.2
theorem UG {α0 : Sort _} {α1 : Sort _} {α2 : Sort _} {C0 : α0 -> α1 -> α2 -> Prop} {P : Prop} (k : ∀ x0 x1 x2, C0 x0 x1 x2 -> P) (h : ∃ x0 x1 x2, C0 x0 x1 x2) : P := Exists.elim h fun x0 h => Exists.elim h fun x1 h => Exists.elim h fun x2 h => k x0 x1 x2 h
theorem Ju {C0 C1 C2 C3 C4 : Prop} {P : Prop} (k : C0 -> C1 -> C2 -> C3 -> C4 -> P) (h : C0 /\ C1 /\ C2 /\ C3 /\ C4) : P := k h.1 h.2.1 h.2.2.1 h.2.2.2.1 h.2.2.2.2
theorem b9 {α0 : Sort _} {C0 C1 C2 C3 : α0 -> Prop} {P : Prop} (k : ∀ x0, C0 x0 -> C1 x0 -> C2 x0 -> C3 x0 -> P) (h : ∃ x0, C0 x0 /\ C1 x0 /\ C2 x0 /\ C3 x0) : P := Exists.elim h fun x0 h => k x0 h.1 h.2.1 h.2.2.1 h.2.2.2
theorem CY {α0 : Sort _} {α1 : Sort _} {C0 C1 C2 : α0 -> α1 -> Prop} {P : Prop} (k : ∀ x0 x1, C0 x0 x1 -> C1 x0 x1 -> C2 x0 x1 -> P) (h : ∃ x0 x1, C0 x0 x1 /\ C1 x0 x1 /\ C2 x0 x1) : P := Exists.elim h fun x0 h => Exists.elim h fun x1 h => k x0 x1 h.1 h.2.1 h.2.2
theorem Gr {α0 : Sort _} {α1 : Sort _} {α2 : Sort _} {C0 C1 : α0 -> α1 -> α2 -> Prop} {P : Prop} (k : ∀ x0 x1 x2, C0 x0 x1 x2 -> C1 x0 x1 x2 -> P) (h : ∃ x0 x1 x2, C0 x0 x1 x2 /\ C1 x0 x1 x2) : P := Exists.elim h fun x0 h => Exists.elim h fun x1 h => Exists.elim h fun x2 h => k x0 x1 x2 h.1 h.2
theorem ZR {α0 : Sort _} {α1 : Sort _} {α2 : Sort _} {α3 : Sort _} {C0 : α0 -> α1 -> α2 -> α3 -> Prop} {P : Prop} (k : ∀ x0 x1 x2 x3, C0 x0 x1 x2 x3 -> P) (h : ∃ x0 x1 x2 x3, C0 x0 x1 x2 x3) : P := Exists.elim h fun x0 h => Exists.elim h fun x1 h => Exists.elim h fun x2 h => Exists.elim h fun x3 h => k x0 x1 x2 x3 h
theorem Yd {C0 C1 C2 C3 C4 C5 : Prop} {P : Prop} (k : C0 -> C1 -> C2 -> C3 -> C4 -> C5 -> P) (h : C0 /\ C1 /\ C2 /\ C3 /\ C4 /\ C5) : P := k h.1 h.2.1 h.2.2.1 h.2.2.2.1 h.2.2.2.2.1 h.2.2.2.2.2
theorem HS {α0 : Sort _} {C0 C1 C2 C3 C4 : α0 -> Prop} {P : Prop} (k : ∀ x0, C0 x0 -> C1 x0 -> C2 x0 -> C3 x0 -> C4 x0 -> P) (h : ∃ x0, C0 x0 /\ C1 x0 /\ C2 x0 /\ C3 x0 /\ C4 x0) : P := Exists.elim h fun x0 h => k x0 h.1 h.2.1 h.2.2.1 h.2.2.2.1 h.2.2.2.2
theorem Eo {α0 : Sort _} {α1 : Sort _} {C0 C1 C2 C3 : α0 -> α1 -> Prop} {P : Prop} (k : ∀ x0 x1, C0 x0 x1 -> C1 x0 x1 -> C2 x0 x1 -> C3 x0 x1 -> P) (h : ∃ x0 x1, C0 x0 x1 /\ C1 x0 x1 /\ C2 x0 x1 /\ C3 x0 x1) : P := Exists.elim h fun x0 h => Exists.elim h fun x1 h => k x0 x1 h.1 h.2.1 h.2.2.1 h.2.2.2
theorem DK {α0 : Sort _} {α1 : Sort _} {α2 : Sort _} {C0 C1 C2 : α0 -> α1 -> α2 -> Prop} {P : Prop} (k : ∀ x0 x1 x2, C0 x0 x1 x2 -> C1 x0 x1 x2 -> C2 x0 x1 x2 -> P) (h : ∃ x0 x1 x2, C0 x0 x1 x2 /\ C1 x0 x1 x2 /\ C2 x0 x1 x2) : P := Exists.elim h fun x0 h => Exists.elim h fun x1 h => Exists.elim h fun x2 h => k x0 x1 x2 h.1 h.2.1 h.2.2
theorem Mv {α0 : Sort _} {α1 : Sort _} {α2 : Sort _} {α3 : Sort _} {C0 C1 : α0 -> α1 -> α2 -> α3 -> Prop} {P : Prop} (k : ∀ x0 x1 x2 x3, C0 x0 x1 x2 x3 -> C1 x0 x1 x2 x3 -> P) (h : ∃ x0 x1 x2 x3, C0 x0 x1 x2 x3 /\ C1 x0 x1 x2 x3) : P := Exists.elim h fun x0 h => Exists.elim h fun x1 h => Exists.elim h fun x2 h => Exists.elim h fun x3 h => k x0 x1 x2 x3 h.1 h.2
theorem EK {α0 : Sort _} {α1 : Sort _} {α2 : Sort _} {α3 : Sort _} {α4 : Sort _} {C0 : α0 -> α1 -> α2 -> α3 -> α4 -> Prop} {P : Prop} (k : ∀ x0 x1 x2 x3 x4, C0 x0 x1 x2 x3 x4 -> P) (h : ∃ x0 x1 x2 x3 x4, C0 x0 x1 x2 x3 x4) : P := Exists.elim h fun x0 h => Exists.elim h fun x1 h => Exists.elim h fun x2 h => Exists.elim h fun x3 h => Exists.elim h fun x4 h => k x0 x1 x2 x3 x4 h
theorem J6 {C0 C1 C2 : Prop} (h0 : C0) (h1 : C1) (h2 : C2) : C0 /\ C1 /\ C2 := ⟨h0, h1, h2⟩
theorem Dx {α0 : Sort _} {C0 C1 : α0 -> Prop} (x0 : α0) (h0 : C0 x0) (h1 : C1 x0) : ∃ x0, C0 x0 /\ C1 x0 := ⟨x0, h0, h1⟩
theorem bK {α0 : Sort _} {α1 : Sort _} {C0 : α0 -> α1 -> Prop} (x0 : α0) (x1 : α1) (h0 : C0 x0 x1) : ∃ x0 x1, C0 x0 x1 := ⟨x0, x1, h0⟩
theorem az {C0 C1 C2 C3 : Prop} (h0 : C0) (h1 : C1) (h2 : C2) (h3 : C3) : C0 /\ C1 /\ C2 /\ C3 := ⟨h0, h1, h2, h3⟩
theorem bS {α0 : Sort _} {C0 C1 C2 : α0 -> Prop} (x0 : α0) (h0 : C0 x0) (h1 : C1 x0) (h2 : C2 x0) : ∃ x0, C0 x0 /\ C1 x0 /\ C2 x0 := ⟨x0, h0, h1, h2⟩
theorem ML {α0 : Sort _} {α1 : Sort _} {C0 C1 : α0 -> α1 -> Prop} (x0 : α0) (x1 : α1) (h0 : C0 x0 x1) (h1 : C1 x0 x1) : ∃ x0 x1, C0 x0 x1 /\ C1 x0 x1 := ⟨x0, x1, h0, h1⟩
theorem bG {α0 : Sort _} {α1 : Sort _} {α2 : Sort _} {C0 : α0 -> α1 -> α2 -> Prop} (x0 : α0) (x1 : α1) (x2 : α2) (h0 : C0 x0 x1 x2) : ∃ x0 x1 x2, C0 x0 x1 x2 := ⟨x0, x1, x2, h0⟩
theorem bU {C0 C1 C2 C3 C4 : Prop} (h0 : C0) (h1 : C1) (h2 : C2) (h3 : C3) (h4 : C4) : C0 /\ C1 /\ C2 /\ C3 /\ C4 := ⟨h0, h1, h2, h3, h4⟩
theorem Zv {α0 : Sort _} {C0 C1 C2 C3 : α0 -> Prop} (x0 : α0) (h0 : C0 x0) (h1 : C1 x0) (h2 : C2 x0) (h3 : C3 x0) : ∃ x0, C0 x0 /\ C1 x0 /\ C2 x0 /\ C3 x0 := ⟨x0, h0, h1, h2, h3⟩
theorem QC {α0 : Sort _} {α1 : Sort _} {C0 C1 C2 : α0 -> α1 -> Prop} (x0 : α0) (x1 : α1) (h0 : C0 x0 x1) (h1 : C1 x0 x1) (h2 : C2 x0 x1) : ∃ x0 x1, C0 x0 x1 /\ C1 x0 x1 /\ C2 x0 x1 := ⟨x0, x1, h0, h1, h2⟩
theorem ZT {α0 : Sort _} {α1 : Sort _} {α2 : Sort _} {C0 C1 : α0 -> α1 -> α2 -> Prop} (x0 : α0) (x1 : α1) (x2 : α2) (h0 : C0 x0 x1 x2) (h1 : C1 x0 x1 x2) : ∃ x0 x1 x2, C0 x0 x1 x2 /\ C1 x0 x1 x2 := ⟨x0, x1, x2, h0, h1⟩
theorem cR {α0 : Sort _} {α1 : Sort _} {α2 : Sort _} {α3 : Sort _} {C0 : α0 -> α1 -> α2 -> α3 -> Prop} (x0 : α0) (x1 : α1) (x2 : α2) (x3 : α3) (h0 : C0 x0 x1 x2 x3) : ∃ x0 x1 x2 x3, C0 x0 x1 x2 x3 := ⟨x0, x1, x2, x3, h0⟩
theorem ZV {C0 C1 C2 C3 C4 C5 : Prop} (h0 : C0) (h1 : C1) (h2 : C2) (h3 : C3) (h4 : C4) (h5 : C5) : C0 /\ C1 /\ C2 /\ C3 /\ C4 /\ C5 := ⟨h0, h1, h2, h3, h4, h5⟩
theorem bx {α0 : Sort _} {C0 C1 C2 C3 C4 : α0 -> Prop} (x0 : α0) (h0 : C0 x0) (h1 : C1 x0) (h2 : C2 x0) (h3 : C3 x0) (h4 : C4 x0) : ∃ x0, C0 x0 /\ C1 x0 /\ C2 x0 /\ C3 x0 /\ C4 x0 := ⟨x0, h0, h1, h2, h3, h4⟩
theorem V6 {α0 : Sort _} {α1 : Sort _} {C0 C1 C2 C3 : α0 -> α1 -> Prop} (x0 : α0) (x1 : α1) (h0 : C0 x0 x1) (h1 : C1 x0 x1) (h2 : C2 x0 x1) (h3 : C3 x0 x1) : ∃ x0 x1, C0 x0 x1 /\ C1 x0 x1 /\ C2 x0 x1 /\ C3 x0 x1 := ⟨x0, x1, h0, h1, h2, h3⟩
theorem JS {α0 : Sort _} {α1 : Sort _} {α2 : Sort _} {C0 C1 C2 : α0 -> α1 -> α2 -> Prop} (x0 : α0) (x1 : α1) (x2 : α2) (h0 : C0 x0 x1 x2) (h1 : C1 x0 x1 x2) (h2 : C2 x0 x1 x2) : ∃ x0 x1 x2, C0 x0 x1 x2 /\ C1 x0 x1 x2 /\ C2 x0 x1 x2 := ⟨x0, x1, x2, h0, h1, h2⟩
theorem QE {α0 : Sort _} {α1 : Sort _} {α2 : Sort _} {α3 : Sort _} {C0 C1 : α0 -> α1 -> α2 -> α3 -> Prop} (x0 : α0) (x1 : α1) (x2 : α2) (x3 : α3) (h0 : C0 x0 x1 x2 x3) (h1 : C1 x0 x1 x2 x3) : ∃ x0 x1 x2 x3, C0 x0 x1 x2 x3 /\ C1 x0 x1 x2 x3 := ⟨x0, x1, x2, x3, h0, h1⟩
theorem Qs {α0 : Sort _} {α1 : Sort _} {α2 : Sort _} {α3 : Sort _} {α4 : Sort _} {C0 : α0 -> α1 -> α2 -> α3 -> α4 -> Prop} (x0 : α0) (x1 : α1) (x2 : α2) (x3 : α3) (x4 : α4) (h0 : C0 x0 x1 x2 x3 x4) : ∃ x0 x1 x2 x3 x4, C0 x0 x1 x2 x3 x4 := ⟨x0, x1, x2, x3, x4, h0⟩
noncomputable def mk (s : Shared) (h : Heap) (t : Nat) : Shared := { s with heap := h, toks := t }
abbrev A9 := List (Str × Option Value)
noncomputable def lk (l : A9) : Str -> Option Value := fun x => (l.lookup x).join
structure Kw (S D : List Addr) (h h' : Heap) : Prop where
 tup : ∀ b o vs n, h.get? b = some o -> o.cls = .type "tuple" -> o.data = .seq vs n -> h'.get? b = some o
 keep : ∀ b o, h.get? b = some o -> b ∉ S -> (∀ es ep, o.data ≠ .dict es ep) -> h'.get? b = some o
 keepD : ∀ b o es ep, h.get? b = some o -> o.data = .dict es ep -> b ∉ D -> ∃ sl, h'.get? b = some { o with slots := sl }
structure Kp (B : Heap) (S D : List Addr) (h h' : Heap) : Prop extends Kw S D h h' where
 base : B.StaysIn h -> B.StaysIn h'
 kind : ∀ b o, h.get? b = some o -> ∃ o', h'.get? b = some o' /\ ∀ es ep, o.data = .dict es ep -> ∃ es' ep', o'.data = .dict es' ep'
theorem Kp.refl (B : Heap) (S D : List Addr) (h : Heap) : Kp B S D h h :=
 ⟨⟨fun _ _ _ _ e _ _ => e, fun _ _ e _ _ => e, fun _ o _ _ e _ _ => ⟨o.slots, e⟩⟩, id, fun _ o e => ⟨o, e, fun es ep q => ⟨es, ep, q⟩⟩⟩
theorem Kp.alive {B : Heap} {S D : List Addr} {h h' : Heap} (k : Kp B S D h h') {b : Addr} (e : h'.get? b = none) : h.get? b = none := by
 cases q : h.get? b with
 | none => rfl
 | some o => refine Ah (fun o' e' _ => ?_) <| k.kind b o q; rw [e] at e'; cases e'
theorem Kp.trans {B : Heap} {S D S' D' : List Addr} {h h' h'' : Heap} (x : Kp B S D h h') (y : Kp B S' D' h' h'')
  (hS : ∀ b ∈ S', b ∈ S \/ h.get? b = none) (hD : ∀ b ∈ D', b ∈ D \/ h.get? b = none) : Kp B S D h h'' where
 base := fun e => y.base (x.base e)
 tup := fun b o vs n e c d => y.tup b o vs n (x.tup b o vs n e c d) c d
 kind := fun b o e => by
  refine Ah (fun o' e' d' => ?_) <| x.kind b o e
  refine Ah (fun o'' e'' d'' => ?_) <| y.kind b o' e'
  exact Dx o'' e'' (fun es ep q => by refine HM (fun es' ep' q' => ?_) <| d' es ep q; exact d'' es' ep' q')
 keep := fun b o e n nd => y.keep b o (x.keep b o e n nd) (fun m => (hS b m).elim n fun q => by rw [q] at e; cases e) nd
 keepD := fun b o es ep e d n => by
  refine Ap (fun sl e' => ?_) <| x.keepD b o es ep e d n
  refine Ap (fun sl' e'' => ?_) <| y.keepD b _ es ep e' d (fun m => (hD b m).elim n fun q => by rw [q] at e; cases e)
  exact ⟨sl', e''⟩
theorem Kp.tr {B : Heap} {S D S' D' : List Addr} {h h' h'' : Heap} (y : Kp B S' D' h' h'') (hS : ∀ b ∈ S', b ∈ S \/ h.get? b = none) (hD : ∀ b ∈ D', b ∈ D \/ h.get? b = none) (x : Kp B S D h h') : Kp B S D h h'' := x.trans y hS hD
theorem Kp.mono {B : Heap} {S D S' D' : List Addr} {h h' : Heap} (x : Kp B S D h h') (hS : ∀ b ∈ S, b ∈ S') (hD : ∀ b ∈ D, b ∈ D') : Kp B S' D' h h' :=
 ⟨⟨x.tup, fun b o e n nd => x.keep b o e (fun m => n (hS b m)) nd, fun b o es ep e d n => x.keepD b o es ep e d (fun m => n (hD b m))⟩, x.base, x.kind⟩
theorem Kp.of_keeps {B : Heap} {S D : List Addr} {h h' : Heap} (k : ∀ b o, h.get? b = some o -> h'.get? b = some o) : Kp B S D h h' :=
 ⟨⟨fun b o _ _ e _ _ => k b o e, fun b o e _ _ => k b o e, fun b o _ _ e _ _ => ⟨o.slots, k b o e⟩⟩, fun e b o q => k b o (e b o q), fun b o e => ⟨o, k b o e, fun es ep q => ⟨es, ep, q⟩⟩⟩
theorem Kp.push {B : Heap} {S D : List Addr} {h : Heap} (o : Obj) : Kp B S D h (h.push o) := .of_keeps fun _ _ e => Heap.get?_push_of_some o e
theorem Kp.one {B : Heap} {S D : List Addr} {h h' : Heap} {a : Addr} {oa oa' : Obj} (k : ∀ b o, b ≠ a -> h.get? b = some o -> h'.get? b = some o) (ha : h.get? a = some oa) (ha' : h'.get? a = some oa')
  (hB : B.get? a = none) (hm : a ∈ S) (hc : oa.cls ≠ .type "tuple") (hd : ∀ es ep, oa.data ≠ .dict es ep) : Kp B S D h h' where
 base := fun e b o q => k b o (fun z => by rw [z, hB] at q; cases q) (e b o q)
 tup := fun b o _ _ e c _ => k b o (fun z => by rw [z, ha] at e; cases e; exact hc c) e
 kind := fun b o e => by
  by_cases z : b = a
  ·subst z; rw [ha] at e; cases e; exact Dx oa' ha' (fun es ep q => absurd q (hd es ep))
  ·exact Dx o (k b o z e) (fun es ep q => ⟨es, ep, q⟩)
 keep := fun b o e n _ => k b o (fun z => n (z ▸ hm)) e
 keepD := fun b o es ep e d _ => ⟨o.slots, k b o (fun z => by rw [z, ha] at e; cases e; exact hd es ep d) e⟩
theorem Kp.oneD {B : Heap} {S D : List Addr} {h h' : Heap} {a : Addr} {oa oa' : Obj} {es es' ep ep'} (k : ∀ b o, b ≠ a -> h.get? b = some o -> h'.get? b = some o) (ha : h.get? a = some oa) (ha' : h'.get? a = some oa')
  (hd : oa.data = .dict es ep) (hd' : oa'.data = .dict es' ep') (hB : B.get? a = none) (hm : a ∈ D) : Kp B S D h h' where
 base := fun e b o q => k b o (fun z => by rw [z, hB] at q; cases q) (e b o q)
 tup := fun b o vs n e c d => k b o (fun z => by rw [z, ha] at e; cases e; rw [hd] at d; cases d) e
 kind := fun b o e => by
  by_cases z : b = a
  ·subst z; rw [ha] at e; cases e; exact Dx oa' ha' (fun _ _ _ => ⟨es', ep', hd'⟩)
  ·exact Dx o (k b o z e) (fun es ep q => ⟨es, ep, q⟩)
 keep := fun b o e _ nd => k b o (fun z => by rw [z, ha] at e; cases e; exact nd es ep hd) e
 keepD := fun b o _ _ e _ n => ⟨o.slots, k b o (fun z => n (z ▸ hm)) e⟩
def Dn (B : Heap) (outer : List Env) (h : Heap) : Prop :=
 ∀ env ∈ outer, env.scope.kind ≠ .module /\ ∃ L o es ep, env.frame = some L /\ B.get? L = none /\ h.get? L = some o /\ o.data = .dict es ep
structure Nm (sc : Scope) (l : A9) : Prop where
 nd : (l.map (·.1)).Nodup
 loc : ∀ x ∈ l.map (·.1), sc.names.lookup x = some .local
 kind : sc.kind = .function
structure Fx (B h₀ : Heap) (S₀ : List Addr) (outer : List Env) (sc : Scope) (L : Addr) (h : Heap) (l : A9) : Prop where
 ns : h.Ns L (lk l)
 nm : Nm sc l
 fresh : h₀.get? L = none
 kp : Kp B S₀ [] h₀ h
 base₀ : B.StaysIn h₀
 fr : Dn B outer h₀
theorem Fx.base {B h₀ h : Heap} {S₀ : List Addr} {outer : List Env} {sc : Scope} {L : Addr} {l : A9} (F : Fx B h₀ S₀ outer sc L h l) : B.StaysIn h := F.kp.base F.base₀
theorem FY : ∀ {l : A9}, (l.map (·.1)).Nodup -> ∀ {x : Str} {v : Option Value}, (x, v) ∈ l -> lk l x = v
 | [], _, _, _, m => nomatch m
 | (y, w) :: r, nd, x, v, m => by
  have nd' := List.nodup_cons.mp nd
  unfold lk
  rw [List.lookup_cons]
  rcases List.mem_cons.mp m with e | m
  ·cases e; simp
  ·have : (x == y) = false := by
    cases q : x == y with
    | false => rfl
    | true => exact absurd (List.mem_map_of_mem (f := (·.1)) m) (by rw [show x = y from eq_of_beq q]; exact nd'.1)
   rw [this]
   exact FY nd'.2 m
inductive CO (x : Str) (v : Option Value) : A9 -> A9 -> Prop
 | head {w r} : CO x v ((x, w) :: r) ((x, v) :: r)
 | tail {p r r'} : CO x v r r' -> CO x v (p :: r) (p :: r')
theorem CO.names {x : Str} {v : Option Value} {l l' : A9} (h : CO x v l l') : l'.map (·.1) = l.map (·.1) := by
 induction h with
 | head => rfl
 | tail _ ih => simp [ih]
theorem CO.mem {x : Str} {v : Option Value} {l l' : A9} (h : CO x v l l') : x ∈ l.map (·.1) := by
 induction h with
 | head => simp
 | tail _ ih => simp only [List.map_cons]; exact List.mem_cons_of_mem _ ih
theorem CO.lk {x : Str} {v : Option Value} {l l' : A9} (h : CO x v l l') (nd : (l.map (·.1)).Nodup) : lk l' = fun y => if y = x then v else lk l y := by
 funext y
 induction h with
 | head =>
  rename_i w r
  unfold GP.lk
  rw [List.lookup_cons, List.lookup_cons]
  by_cases e : y = x
  ·subst e; simp
  ·have : (y == x) = false := by simpa using e
   simp [this, e]
 | tail h' ih =>
  rename_i p r r'
  obtain ⟨z, w⟩ := p
  have nd' := List.nodup_cons.mp nd
  have ih' := ih nd'.2
  unfold GP.lk at ih' ⊢
  rw [List.lookup_cons, List.lookup_cons]
  by_cases e : y = z
  ·subst e
   have : ¬ y = x := fun q => nd'.1 (by rw [q]; exact h'.mem)
   simp [this]
  ·have : (y == z) = false := by simpa using e
   simp only [this]
   exact ih'
theorem Heap.Ns.isDict {h : Heap} {L : Addr} {m} (n : h.Ns L m) : ∃ o es ep, h.get? L = some o /\ o.data = .dict es ep := DK (fun o es ep a b _ => ⟨o, es, ep, a, b⟩) n
theorem Kw.ns {S D : List Addr} {h h' : Heap} (k : Kw S D h h') {L : Addr} {m} (n : h.Ns L m) (hL : L ∉ D) : h'.Ns L m := by
 revert n; refine DK fun o es ep a b z0 => ?_; revert z0; refine Ak fun c d => ?_
 refine Ap (fun sl e => ?_) <| k.keepD L o es ep a b hL
 exact JS _ es ep e b ⟨c, d⟩
theorem Dn.kp {B : Heap} {S D : List Addr} {outer : List Env} {h h' : Heap} (f : Dn B outer h) (k : Kp B S D h h') (hc : ∀ env ∈ outer, ∀ L, env.frame = some L -> L ∉ D) : Dn B outer h' := fun env m => by
 refine Ak (fun q z0 => ?_) <| f env m; revert z0; refine Mv fun L o es ep a z1 => ?_; revert z1; refine C9 fun b c d => ?_
 refine Ap (fun sl c' => ?_) <| k.keepD L o es ep c d (hc env m L a)
 exact ⟨q, L, _, es, ep, a, b, c', d⟩
theorem Fx.step {B h₀ h h' : Heap} {S₀ S : List Addr} {outer : List Env} {sc : Scope} {L : Addr} {l : A9} (F : Fx B h₀ S₀ outer sc L h l) (k : Kp B S [] h h') (hS : ∀ b ∈ S, b ∈ S₀ \/ h₀.get? b = none) : Fx B h₀ S₀ outer sc L h' l :=
 ⟨k.toKw.ns F.ns (fun m => nomatch m), F.nm, F.fresh, F.kp.trans k hS (fun _ m => nomatch m), F.base₀, F.fr⟩
theorem Fx.grow {B h₀ h h' : Heap} {S₀ : List Addr} {outer : List Env} {sc : Scope} {L : Addr} {l : A9} (F : Fx B h₀ S₀ outer sc L h l) (k : Kp B [] [] h h') : Fx B h₀ S₀ outer sc L h' l := F.step k (fun _ m => nomatch m)
theorem Fx.notB {B h₀ h : Heap} {S₀ : List Addr} {outer : List Env} {sc : Scope} {L : Addr} {l : A9} (F : Fx B h₀ S₀ outer sc L h l) : B.get? L = none := by
 cases q : B.get? L with
 | none => rfl
 | some o => have := F.base₀ L o q; rw [F.fresh] at this; cases this
theorem Reads.kw {S D : List Addr} {h h' : Heap} (k : Kw S D h h') {v : Value} {d : PyData} (r : Reads h v d []) : Reads h' v d [] :=
 Reads.rec (h := h) (motive_1 := fun v d as _ => as = [] -> Reads h' v d []) (motive_2 := fun vs ds as _ => as = [] -> ReadsAll h' vs ds []) (fun _ => .none) (fun b _ => .bool b) (fun i t _ => .int i t) (fun x t _ => .str x t) (fun _ _ _ _ _ e => nomatch e)
  (fun e c d _ ih q => .tuple (k.tup _ _ _ _ e c d) c d (ih q)) (fun _ _ _ _ _ _ _ e => nomatch e) (fun _ => .nil) (fun _ _ i1 i2 e => .cons (i1 (List.append_eq_nil_iff.mp e).1) (i2 (List.append_eq_nil_iff.mp e).2)) r rfl
theorem ReadsAll.kw {S D : List Addr} {h h' : Heap} (k : Kw S D h h') {vs : List Value} {ds : List PyData} (r : ReadsAll h vs ds []) : ReadsAll h' vs ds [] :=
 ReadsAll.rec (h := h) (motive_1 := fun v d as _ => as = [] -> Reads h' v d []) (motive_2 := fun vs ds as _ => as = [] -> ReadsAll h' vs ds []) (fun _ => .none) (fun b _ => .bool b) (fun i t _ => .int i t) (fun x t _ => .str x t) (fun _ _ _ _ _ e => nomatch e)
  (fun e c d _ ih q => .tuple (k.tup _ _ _ _ e c d) c d (ih q)) (fun _ _ _ _ _ _ _ e => nomatch e) (fun _ => .nil) (fun _ _ i1 i2 e => .cons (i1 (List.append_eq_nil_iff.mp e).1) (i2 (List.append_eq_nil_iff.mp e).2)) r rfl
theorem Reads.kp {B : Heap} {S D : List Addr} {h h' : Heap} (k : Kp B S D h h') {v : Value} {d : PyData} (r : Reads h v d []) : Reads h' v d [] := Reads.kw k.toKw r
structure Db (A : Around) (outer : List Env) (n : Nat) : Prop where
 handled : A.handled = none
 frames : A.frames = some outer
 depth : A.depth + 4 * n + 8 < recursionLimit
 units : A.units + 16 * n + 120 < cLine
theorem Db.le {A : Around} {outer : List Env} {n k : Nat} (x : Db A outer n) (hk : k <= n) : Db A outer k :=
 ⟨x.handled, x.frames, by have := x.depth; omega, by have := x.units; omega⟩
theorem Db.deeper {A : Around} {outer : List Env} {n : Nat} (x : Db A outer (n + 1)) (env : Env) : Db (A.deeper env) (env :: outer) n :=
 ⟨x.handled, by show A.frames.map _ = _; rw [x.frames]; rfl, by have := x.depth; show A.depth + 1 + 4 * n + 8 < _; omega, by have := x.units; show A.units + 3 + 16 * n + 120 < _; omega⟩
structure Ax (env : Env) (sc : Scope) (L : Addr) : Prop where
 scope : env.scope = sc
 locals : env.locals = L
 globals : env.globals = mainGlobals
 builtins : env.builtins = builtinsNs
theorem Ax.kindOf {env : Env} {sc : Scope} {L : Addr} (e : Ax env sc L) (x : Str) : env.kindOf x = sc.names.lookup x := by
 rw [<- e.scope]; rfl
structure Gb (B : Heap) (mg mb : Str -> Option Value) : Prop where
 g : B.Ns mainGlobals mg
 b : B.Ns builtinsNs mb
 lim : B.NoLimit
section
variable {prog : Program} {w : World} {A : Around} {E : Value -> Shared -> Prop} {s : Shared} {h : Heap} {t : Nat}
 {B h₀ : Heap} {S₀ : List Addr} {outer : List Env} {sc : Scope} {L : Addr} {l : A9} {env : Env} {mg mb : Str -> Option Value}
theorem AQ {x : Str} {p : Pos} {v : Value} {Q : Value -> Shared -> Prop} (he : Ax env sc L) (F : Fx B h₀ S₀ outer sc L h l) (hm : (x, some v) ∈ l) (k : Q v (mk s h t)) (hd : (x == ("__debug__" : Str)) = false := by decide) :
  wpAny (model prog w) A (eval (.Name x p) env) Q E (mk s h t) :=
 wpAny_Name (wpAny_loadName_local (by rw [he.scope]; exact F.nm.kind) (by rw [he.kindOf]; exact F.nm.loc x (List.mem_map_of_mem (f := (·.1)) hm)) (by rw [he.locals]; exact F.ns) (FY F.nm.nd hm) k) hd
theorem cI {x : Str} {v : Value} {Q : Value -> Shared -> Prop} (he : Ax env sc L) (F : Fx B h₀ S₀ outer sc L h l) (hm : (x, some v) ∈ l) (k : Q v (mk s h t)) :
  wpAny (model prog w) A (loadName env x) Q E (mk s h t) :=
 wpAny_loadName_local (by rw [he.scope]; exact F.nm.kind) (by rw [he.kindOf]; exact F.nm.loc x (List.mem_map_of_mem (f := (·.1)) hm)) (by rw [he.locals]; exact F.ns) (FY F.nm.nd hm) k
theorem B5 {x : Str} {p : Pos} {v : Value} {Q : Value -> Shared -> Prop} (G : Gb B mg mb) (he : Ax env sc L) (F : Fx B h₀ S₀ outer sc L h l) (hx : sc.names.lookup x = some .globalImplicit) (hv : mg x = some v) (k : Q v (mk s h t)) (hd : (x == ("__debug__" : Str)) = false := by decide) :
  wpAny (model prog w) A (eval (.Name x p) env) Q E (mk s h t) :=
 Calls.Name_function_global (by rw [he.scope]; exact F.nm.kind) (by rw [he.kindOf]; exact hx) (Calls.loadGlobal_global (by rw [he.globals]; exact G.g.keeps F.base) hv k) hd
theorem Yv {x : Str} {p : Pos} {v : Value} {Q : Value -> Shared -> Prop} (G : Gb B mg mb) (he : Ax env sc L) (F : Fx B h₀ S₀ outer sc L h l) (hx : sc.names.lookup x = some .globalImplicit) (hg : mg x = none) (hv : mb x = some v) (k : Q v (mk s h t)) (hd : (x == ("__debug__" : Str)) = false := by decide) :
  wpAny (model prog w) A (eval (.Name x p) env) Q E (mk s h t) :=
 Calls.Name_function_global (by rw [he.scope]; exact F.nm.kind) (by rw [he.kindOf]; exact hx) (Calls.loadGlobal_builtin (by rw [he.globals]; exact G.g.keeps F.base) hg (by rw [he.builtins]; exact G.b.keeps F.base) hv k) hd
theorem Kp.sameD {h' : Heap} {L : Addr} {m m'} (n : h.Ns L m) (n' : h'.Ns L m') (hs : Heap.SameBut L h h') (hB : B.get? L = none) : Kp B [] [L] h h' := by
 revert n; refine DK fun o es ep a b _ => ?_
 revert n'; refine DK fun o' es' ep' a' b' _ => ?_
 exact Kp.oneD (fun b o ne e => (hs.2 b ne).trans e) a a' b b' hB (.head _)
theorem Sn {x : Str} {v : Value} {l' : A9} {Q : Unit -> Shared -> Prop} (he : Ax env sc L) (F : Fx B h₀ S₀ outer sc L h l) (hs : CO x (some v) l l')
  (k : ∀ h' t', Fx B h₀ S₀ outer sc L h' l' -> Kp B [] [L] h h' -> Q () (mk s h' t')) :
  wpAny (model prog w) A (storeName env x v) Q E (mk s h t) := by
 refine wpAny_storeName_local (m := lk l) (by rw [he.kindOf]; exact F.nm.loc x hs.mem) (by rw [he.locals]; exact F.ns) (fun h' hn hsb => ?_)
  (by rw [he.scope, F.nm.kind]; rfl)
 rw [he.locals] at hn hsb
 have hn' : h'.Ns L (lk l') := by rw [hs.lk F.nm.nd]; exact hn
 have K := Kp.sameD F.ns hn' hsb F.notB
 refine k h' _ ⟨hn', ⟨by rw [hs.names]; exact F.nm.nd, fun y hy => F.nm.loc y (by rw [<- hs.names]; exact hy), F.nm.kind⟩, F.fresh, F.kp.trans K (fun _ m => nomatch m) (fun b m => ?_), F.base₀, F.fr⟩ K
 cases m with
 | head => exact .inr F.fresh
 | tail _ m => nomatch m
theorem UH {x : Str} {v : Value} {l' : A9} {Q : Unit -> Shared -> Prop} (he : Ax env sc L) (F : Fx B h₀ S₀ outer sc L h l) (hs : CO x (some v) l l')
  (k : ∀ h' t', Fx B h₀ S₀ outer sc L h' l' -> Kp B [] [L] h h' -> Q () (mk s h' t')) :
  wpAny (model prog w) A (bindName env x v) Q E (mk s h t) := wpAny_bindName (Sn he F hs k)
theorem Dj {x : Str} {p : Pos} {v : Value} {l' : A9} {Q : Unit -> Shared -> Prop} (he : Ax env sc L) (F : Fx B h₀ S₀ outer sc L h l) (hs : CO x (some v) l l')
  (k : ∀ h' t', Fx B h₀ S₀ outer sc L h' l' -> Kp B [] [L] h h' -> Q () (mk s h' t')) :
  wpAny (model prog w) A (assign (.Name x p) env v) Q E (mk s h t) :=
 show wpAny _ _ (do standAt p; bindName env x v) Q E _ from wpAny_bind (wpAny_standAt (UH he F hs k))
theorem UD {env : Env} {k : Nat} {p : Pos} {Q : Value -> Shared -> Prop} (hq : Q .none (mk s h t)) : wpAny (model prog w) A (eval (.Constant .none k p) env) Q E (mk s h t) := wpAny_Constant_none hq
theorem Xs {env : Env} {b : Bool} {k : Nat} {p : Pos} {Q : Value -> Shared -> Prop} (hq : Q (.bool b) (mk s h t)) : wpAny (model prog w) A (eval (.Constant (.bool b) k p) env) Q E (mk s h t) := wpAny_Constant_bool hq
theorem Ag {env : Env} {i : Int} {k : Nat} {p : Pos} {Q : Value -> Shared -> Prop} (hq : Q (.int i t) (mk s h (t + 1))) : wpAny (model prog w) A (eval (.Constant (.int i) k p) env) Q E (mk s h t) := wpAny_Constant_int hq
theorem Ph {env : Env} {x : Str} {k : Nat} {p : Pos} {Q : Value -> Shared -> Prop} (hq : Q (.str x t) (mk s h (t + 1))) : wpAny (model prog w) A (eval (.Constant (.str x) k p) env) Q E (mk s h t) := wpAny_Constant_str hq
section
variable {x y : Int} {u v : Tok} {Q : Value -> Shared -> Prop}
theorem Ze (hq : ∀ tk t', Q (.int (x + y) tk) (mk s h t')) : wpAny (model prog w) A (binaryOp .Add (.int x u) (.int y v)) Q E (mk s h t) := wpAny_add_int (hq t (t + 1))
theorem Pz (hq : ∀ tk t', Q (.int (x * y) tk) (mk s h t')) (hm : IntMulOk x y) : wpAny (model prog w) A (binaryOp .Mult (.int x u) (.int y v)) Q E (mk s h t) := PyProof.Rows.mul_int (hq t (t + 1)) hm
theorem L2 (hy : y ≠ 0) (hq : ∀ tk t', Q (.int (Int.fmod x y) tk) (mk s h t')) : wpAny (model prog w) A (binaryOp .Mod (.int x u) (.int y v)) Q E (mk s h t) := mod_int' hy (hq t (t + 1))
theorem XY (hy : y ≠ 0) (hp : Builtin.divisionGoesByPylong x y = false) (hq : ∀ tk t', Q (.int (Int.fdiv x y) tk) (mk s h t')) : wpAny (model prog w) A (binaryOp .FloorDiv (.int x u) (.int y v)) Q E (mk s h t) := floordiv_int hy (hq t (t + 1)) (.inl hp)
theorem Xg (h0 : 0 <= y) (h1 : y <= 1000000) (hx : x.natAbs < 2 ^ 64) (hq : ∀ tk t', Q (.int (x ^ y.toNat) tk) (mk s h t')) : wpAny (model prog w) A (binaryOp .Pow (.int x u) (.int y v)) Q E (mk s h t) := pow_int_small h0 h1 hx (hq t (t + 1))
theorem Gc (hq : Q (.int (x + y) t) (mk s h (t + 1))) : wpAny (model prog w) A (binaryOp .Add (.int x u) (.int y v)) Q E (mk s h t) := wpAny_add_int hq
theorem TZ (hq : Q (.int (x - y) t) (mk s h (t + 1))) : wpAny (model prog w) A (binaryOp .Sub (.int x u) (.int y v)) Q E (mk s h t) := PyProof.Rows.sub_int hq
theorem Wb (hq : Q (.int (x + y) t) (mk s h (t + 1))) : wpAny (model prog w) A (inplaceOp .Add (.int x u) (.int y v)) Q E (mk s h t) := wpAny_iadd_int hq
theorem aD (hq : Q (.bool (decide (x < y))) (mk s h t)) : wpAny (model prog w) A (compareOp .Lt (.int x u) (.int y v)) Q E (mk s h t) := P.lt_int hq
theorem Zp (hq : Q (.bool (decide (x <= y))) (mk s h t)) : wpAny (model prog w) A (compareOp .LtE (.int x u) (.int y v)) Q E (mk s h t) := P.le_int hq
theorem bR (hq : Q (.bool (decide (y < x))) (mk s h t)) : wpAny (model prog w) A (compareOp .Gt (.int x u) (.int y v)) Q E (mk s h t) := P.gt_int hq
theorem ba (hq : Q (.bool (decide (y <= x))) (mk s h t)) : wpAny (model prog w) A (compareOp .GtE (.int x u) (.int y v)) Q E (mk s h t) := P.ge_int hq
theorem Zt (hq : Q (.bool (decide (x = y))) (mk s h t)) : wpAny (model prog w) A (compareOp .Eq (.int x u) (.int y v)) Q E (mk s h t) := P.eq_int hq
theorem bA (hq : Q (.bool (decide (x ≠ y))) (mk s h t)) : wpAny (model prog w) A (compareOp .NotEq (.int x u) (.int y v)) Q E (mk s h t) := P.ne_int (by
 have : (x != y) = decide (x ≠ y) := by by_cases e : x = y <;> simp [e]
 rw [this]; exact hq)
end
theorem cN {va vb : Value} {da db : PyData} {Q : Value -> Shared -> Prop} {n : Nat} {as bs : List Addr} (hA : Db A outer n) (ra : Reads h va da as) (rb : Reads h vb db bs) (ha : SeqAt.shaped da = true) (hb : SeqAt.shaped db = true) (hq : Q (.bool (PyData.eqv da db)) (mk s h t)) :
  wpAny (model prog w) A (compareOp .Eq va vb) Q E (mk s h t) := SeqAt.compareEq_shaped (s := mk s h t) ra rb ha hb (by have := hA.units; omega) hq
theorem bc {va vb : Value} {da db : PyData} {Q : Value -> Shared -> Prop} {n : Nat} {as bs : List Addr} (hA : Db A outer n) (ra : Reads h va da as) (rb : Reads h vb db bs) (ha : SeqAt.shaped da = true) (hb : SeqAt.shaped db = true) (hq : Q (.bool (!PyData.eqv da db)) (mk s h t)) :
  wpAny (model prog w) A (compareOp .NotEq va vb) Q E (mk s h t) := SeqAt.compareNe_shaped (s := mk s h t) ra rb ha hb (by have := hA.units; omega) hq
theorem Bc {b : Bool} {Q : Bool -> Shared -> Prop} (hq : Q b (mk s h t)) : wpAny (model prog w) A (truthy (.bool b)) Q E (mk s h t) := wpAny_truthy_bool hq
end
def Li (h : Heap) (a : Addr) (vs : List Value) : Prop := ∃ n, h.get? a = some { cls := .type "list", data := .seq vs.toArray n }
def Tu (h : Heap) (a : Addr) (vs : List Value) : Prop := ∃ n, h.get? a = some { cls := .type "tuple", data := .seq vs.toArray n }
theorem Li.isList {h : Heap} {a : Addr} {vs : List Value} (x : Li h a vs) : h.IsList a vs.toArray := Ap (fun n e => ⟨_, e, rfl, n, rfl⟩) x
theorem Tu.isTup {h : Heap} {a : Addr} {vs : List Value} (x : Tu h a vs) : IsTup h a vs.toArray := Ap (fun n e => ⟨_, e, rfl, n, rfl⟩) x
theorem Tu.isTuple {h : Heap} {a : Addr} {vs : List Value} (x : Tu h a vs) : h.IsTuple a vs.toArray := Ap (fun n e => ⟨_, e, rfl, n, rfl⟩) x
theorem Li.kw {S D : List Addr} {h h' : Heap} {a : Addr} {vs : List Value} (k : Kw S D h h') (x : Li h a vs) (hn : a ∉ S) : Li h' a vs :=
 Ap (fun n e => ⟨n, k.keep a _ e hn (fun _ _ q => nomatch q)⟩) x
theorem Tu.kw {S D : List Addr} {h h' : Heap} {a : Addr} {vs : List Value} (k : Kw S D h h') (x : Tu h a vs) : Tu h' a vs :=
 Ap (fun n e => ⟨n, k.tup a _ _ _ e rfl rfl⟩) x
theorem ReadsAll.kp {B : Heap} {S D : List Addr} {h h' : Heap} (k : Kp B S D h h') {vs : List Value} {ds : List PyData} (r : ReadsAll h vs ds []) : ReadsAll h' vs ds [] := ReadsAll.kw k.toKw r
theorem Li.kp {B : Heap} {S D : List Addr} {h h' : Heap} {a : Addr} {vs : List Value} (k : Kp B S D h h') (x : Li h a vs) (hn : a ∉ S) : Li h' a vs := x.kw k.toKw hn
theorem Tu.kp {B : Heap} {S D : List Addr} {h h' : Heap} {a : Addr} {vs : List Value} (k : Kp B S D h h') (x : Tu h a vs) : Tu h' a vs := x.kw k.toKw
theorem Tu.reads {h : Heap} {a : Addr} {vs : List Value} {ds : List PyData} (x : Tu h a vs) (r : ReadsAll h vs ds []) : Reads h (.ref a) (.tuple ds) [] := Ap (fun n e => .tuple e rfl rfl r) x
theorem Li.reads {h : Heap} {a : Addr} {vs : List Value} {ds : List PyData} {as : List Addr} (x : Li h a vs) (r : ReadsAll h vs ds as) : Reads h (.ref a) (.list ds) (a :: as) := Ap (fun n e => .list e rfl rfl r) x
theorem Ad {h : Heap} {v : Value} {vs : List Value} {d : PyData} {ds : List PyData} (a : Reads h v d []) (b : ReadsAll h vs ds []) : ReadsAll h (v :: vs) (d :: ds) [] := .cons (as := []) (bs := []) a b
theorem A4 {h : Heap} {vs : List Value} {d : PyData} {ds : List PyData} (r : ReadsAll h vs (d :: ds) []) : ∃ v vs', vs = v :: vs' /\ Reads h v d [] /\ ReadsAll h vs' ds [] := by
 generalize e : ([] : List Addr) = as at r
 cases r with
 | cons a b =>
  refine Ak (fun z0 z1 => ?_) <| List.append_eq_nil_iff.mp e.symm; obtain rfl := z0; obtain rfl := z1
  exact QC _ _ rfl a b
theorem BP {h : Heap} {vs : List Value} (r : ReadsAll h vs [] []) : vs = [] := by cases r; rfl
theorem BE {h : Heap} : ∀ {vs us : List Value} {ds es : List PyData}, ReadsAll h vs ds [] -> ReadsAll h us es [] -> ReadsAll h (vs ++ us) (ds ++ es) []
 | vs, us, [], es, r, q => by rw [BP r]; exact q
 | vs, us, d :: ds, es, r, q => by
  refine CY (fun v vs' z0 a b => ?_) <| A4 r; obtain rfl := z0
  exact Ad a (BE b q)
theorem BB {h : Heap} : ∀ {vs : List Value} {ds : List PyData}, ReadsAll h vs ds [] -> vs.length = ds.length
 | vs, [], r => by rw [BP r]; rfl
 | vs, d :: ds, r => by
  refine CY (fun v vs' z0 a b => ?_) <| A4 r; obtain rfl := z0
  simp [BB b]
theorem Bi {h : Heap} : ∀ {vs : List Value} {ds : List PyData} {i : Nat} {d : PyData}, ReadsAll h vs ds [] -> ds[i]? = some d -> ∃ v, vs[i]? = some v /\ Reads h v d []
 | _, [], _, _, _, e => by simp at e
 | vs, d :: ds, 0, d', r, e => by
  refine CY (fun v vs' z0 a b => ?_) <| A4 r; obtain rfl := z0
  simp at e; subst e
  exact Dx v rfl a
 | vs, d :: ds, i + 1, d', r, e => by
  refine CY (fun v vs' z0 a b => ?_) <| A4 r; obtain rfl := z0
  simp at e
  simpa using Bi b e
theorem EV {h : Heap} (n : Nat) : ∀ {vs : List Value} {ds : List PyData}, ReadsAll h vs ds [] -> ReadsAll h (vs.take n) (ds.take n) [] := by
 induction n with
 | zero => intro vs ds _; simpa using ReadsAll.nil
 | succ n ih =>
  intro vs ds r
  cases ds with
  | nil => rw [BP r]; simpa using ReadsAll.nil
  | cons d ds =>
   refine CY (fun v vs' z0 a b => ?_) <| A4 r; obtain rfl := z0
   exact Ad a (ih b)
theorem DE {h : Heap} (n : Nat) : ∀ {vs : List Value} {ds : List PyData}, ReadsAll h vs ds [] -> ReadsAll h (vs.drop n) (ds.drop n) [] := by
 induction n with
 | zero => intro vs ds r; simpa using r
 | succ n ih =>
  intro vs ds r
  cases ds with
  | nil => rw [BP r]; simpa using ReadsAll.nil
  | cons d ds =>
   refine CY (fun v vs' z0 a b => ?_) <| A4 r; obtain rfl := z0
   exact ih b
theorem B6 {h : Heap} : ∀ {vs : List Value} {ds : List PyData}, ReadsAll h vs ds [] -> ReadsAll h vs.reverse ds.reverse []
 | vs, [], r => by rw [BP r]; simpa using ReadsAll.nil
 | vs, d :: ds, r => by
  refine CY (fun v vs' z0 a b => ?_) <| A4 r; obtain rfl := z0
  rw [List.reverse_cons, List.reverse_cons]
  exact BE (B6 b) (Ad a .nil)
section
variable {prog : Program} {w : World} {A : Around} {E : Value -> Shared -> Prop} {s : Shared} {h : Heap} {t : Nat}
 {B h₀ : Heap} {S₀ : List Addr} {outer : List Env} {sc : Scope} {L : Addr} {l : A9} {env : Env} {mg mb : Str -> Option Value} {n : Nat}
theorem Ca {k : Nat} (h : k <= 1000000) : k <= sizeLine := by rw [sizeLine_eq]; omega
theorem O6 {vs : List Value} {Q : Value -> Shared -> Prop} (F : Fx B h₀ S₀ outer sc L h l)
  (k : ∀ d h', Fx B h₀ S₀ outer sc L h' l -> Kp B [] [] h h' -> h.get? d = none -> Tu h' d vs -> Q (.ref d) (mk s h' t)) (hz : vs.length <= 1000000) :
  wpAny (model prog w) A (newTuple vs) Q E (mk s h t) :=
 wpAny_newObj_type (s := mk s h t) (k _ _ (F.grow (Kp.push _)) (Kp.push _) (Heap.get?_none_of_le (Nat.le_refl _)) ⟨0, Heap.get?_push_size _ rfl⟩)
  (by show vs.toArray.size <= sizeLine; rw [List.size_toArray]; exact Ca hz)
theorem HT {vs : List Value} {Q : Value -> Shared -> Prop} (F : Fx B h₀ S₀ outer sc L h l)
  (k : ∀ d h', Fx B h₀ S₀ outer sc L h' l -> Kp B [] [] h h' -> h.get? d = none -> Li h' d vs -> Q (.ref d) (mk s h' t)) (hz : vs.length <= 1000000) :
  wpAny (model prog w) A (newList vs) Q E (mk s h t) :=
 wpAny_newObj_type (s := mk s h t) (k _ _ (F.grow (Kp.push _)) (Kp.push _) (Heap.get?_none_of_le (Nat.le_refl _)) ⟨0, Heap.get?_push_size _ rfl⟩)
  (by show vs.toArray.size <= sizeLine; rw [List.size_toArray]; exact Ca hz)
theorem Jx {d : Addr} {vs : List Value} {Q : Value -> Shared -> Prop} (x : Li h d vs) (hz : vs.length <= 1000000) (k : ∀ tk t', Q (.int vs.length tk) (mk s h t')) :
  wpAny (model prog w) A (call (.builtin "len") [.ref d]) Q E (mk s h t) := by
 refine PyProof.Rows.len_list (s := mk s h t) x.isList (by rw [List.size_toArray]; omega) ?_
 rw [List.size_toArray]; exact k _ _
theorem Zc {d : Addr} {vs : List Value} {Q : Value -> Shared -> Prop} (x : Tu h d vs) (hz : vs.length <= 1000000) (k : ∀ tk t', Q (.int vs.length tk) (mk s h t')) :
  wpAny (model prog w) A (call (.builtin "len") [.ref d]) Q E (mk s h t) := by
 refine PyProof.Rows.len_tuple (s := mk s h t) x.isTup (by rw [List.size_toArray]; omega) ?_
 rw [List.size_toArray]; exact k _ _
noncomputable def AK (k : Int) (n : Nat) : Nat := if k < 0 then (k + n).toNat else k.toNat
theorem Wy {value slice : Expr} {d : Addr} {vs : List Value} {k : Int} {u : Tok} {v : Value} {Q : Value -> Shared -> Prop} (x : Tu h d vs) (hz : vs.length <= 1000000) (lo : -(vs.length : Int) <= k) (hi : k < vs.length) (hv : vs[AK k vs.length]? = some v) (c : Q v (mk s h t))
  (hs : subscripted slice false (.ref d) (.int k u) = operate [.ref d, .int k u] (getItem (.ref d) (.int k u)) := by with_unfolding_all rfl) :
  wpAny (model prog w) A (subscriptTail value slice (.ref d) (.int k u)) Q E (mk s h t) := by
 refine tail_any x.isTup.typeIs slot_tuple_getitem.lookup (PyProof.Rows.getItem_tuple (s := mk s h t) (j := AK k vs.length) x.isTup (by omega) (by omega) ?_ (by simpa using hv) c) hs
 rw [List.size_toArray]
 unfold seqIndex? AK
 by_cases hk : k < 0
 ·simp only [hk, if_true]; first | (rw [if_pos (by omega)]) | (simp; omega)
 ·simp only [hk, if_false]; first | (rw [if_pos (by omega)]) | (simp; omega)
theorem GO {value slice : Expr} {d : Addr} {vs : List Value} {k : Int} {u : Tok} {v : Value} {Q : Value -> Shared -> Prop} (x : Li h d vs) (hz : vs.length <= 1000000) (lo : -(vs.length : Int) <= k) (hi : k < vs.length) (hv : vs[AK k vs.length]? = some v) (c : Q v (mk s h t))
  (hs : subscripted slice false (.ref d) (.int k u) = operate [.ref d, .int k u] (getItem (.ref d) (.int k u)) := by with_unfolding_all rfl) :
  wpAny (model prog w) A (subscriptTail value slice (.ref d) (.int k u)) Q E (mk s h t) := by
 unfold AK at hv
 by_cases hk : k < 0
 ·rw [if_pos hk] at hv
  exact tail_any x.isList.typeIs slot_list_getitem.lookup (wpAny_getItem_list_neg (s := mk s h t) x.isList hk (by rw [List.size_toArray]; omega) (by omega) (by simpa using hv) c) hs
 ·rw [if_neg hk] at hv
  exact tail_any x.isList.typeIs slot_list_getitem.lookup (wpAny_getItem_list (s := mk s h t) x.isList (by omega) (by omega) (by simpa using hv) c) hs
structure Wr (B h₀ : Heap) (S₀ : List Addr) (d : Addr) : Prop where
 mine : d ∈ S₀ \/ h₀.get? d = none
 notB : B.get? d = none
theorem Fx.wr {d : Addr} (F : Fx B h₀ S₀ outer sc L h l) (e : h.get? d = none) : Wr B h₀ S₀ d := by
 refine ⟨.inr (F.kp.alive e), ?_⟩
 cases q : B.get? d with
 | none => rfl
 | some o => have := F.base d o q; rw [e] at this; cases this
theorem Kp.li {h' : Heap} {d : Addr} {vs us : List Value} (x : Li h d vs) (y : Li h' d us) (hk : ∀ b o, b ≠ d -> h.get? b = some o -> h'.get? b = some o) (hB : B.get? d = none) : Kp B [d] [] h h' := by
 revert x; refine Ap fun n e => ?_
 revert y; refine Ap fun n' e' => ?_
 exact Kp.one hk e e' hB (.head _) (by show Value.type "list" ≠ Value.type "tuple"; decide) (fun _ _ q => nomatch q)
theorem Fx.turn {h' : Heap} {d : Addr} (F : Fx B h₀ S₀ outer sc L h l) (K : Kp B [d] [] h h') (W : Wr B h₀ S₀ d) : Fx B h₀ S₀ outer sc L h' l :=
 F.step K (fun b m => by cases m with | head => exact W.mine | tail _ m => nomatch m)
theorem Li.noDict {d : Addr} {vs : List Value} (x : Li h d vs) : h.NoDictAt (.ref d) := by
 revert x; refine Ap fun n e => ?_
 first
  | exact fun b q => by cases q; exact ⟨_, e, rfl⟩
  | exact Dx _ e rfl
  | (unfold Heap.NoDictAt; simp [e])
theorem FL {d : Addr} {vs : List Value} {pl : Sem Bool} {Q : Value × List Value -> Shared -> Prop} (x : Li h d vs) (k : Q (.builtin "list.append", [.ref d]) (mk s h t)) :
  wpAny (model prog w) A (getMethod (.ref d) "append" pl) Q E (mk s h t) := Ap (fun _ e => Calls.getMethod_list_append (s := mk s h t) e rfl rfl k) x
theorem Pp {d : Addr} {vs : List Value} {pl : Sem Bool} {Q : Value × List Value -> Shared -> Prop} (x : Li h d vs) (k : Q (.builtin "list.extend", [.ref d]) (mk s h t)) :
  wpAny (model prog w) A (getMethod (.ref d) "extend" pl) Q E (mk s h t) := getMethod_list_of (s := mk s h t) F.slot_list_extend PySem.F.type_list_extend x.isList x.noDict k
theorem X0 {d : Addr} {vs : List Value} {pl : Sem Bool} {Q : Value × List Value -> Shared -> Prop} (x : Li h d vs) (k : Q (.builtin "list.pop", [.ref d]) (mk s h t)) :
  wpAny (model prog w) A (getMethod (.ref d) "pop" pl) Q E (mk s h t) := getMethod_list_of (s := mk s h t) F.slot_list_pop PySem.F.type_list_pop x.isList x.noDict k
theorem Nu {d : Addr} {vs : List Value} {v : Value} {Q : Value -> Shared -> Prop} (F : Fx B h₀ S₀ outer sc L h l) (W : Wr B h₀ S₀ d) (x : Li h d vs) (hz : vs.length <= 1000000)
  (k : ∀ h', Fx B h₀ S₀ outer sc L h' l -> Kp B [d] [] h h' -> Li h' d (vs ++ [v]) -> Q .none (mk s h' t)) :
  wpAny (model prog w) A (call (.builtin "list.append") [.ref d, v]) Q E (mk s h t) := by
 refine Ap (fun n e => ?_) <| id x
 refine append_at (s := mk s h t) e (fun h' hs e' => ?_) (by rw [List.size_toArray]; exact Ca hz)
 have x' : Li h' d (vs ++ [v]) := ⟨n + 1, by rw [e', List.push_toArray]⟩
 have K := Kp.li x x' (fun b o ne q => (hs.2 b ne).trans q) W.notB
 exact k h' (F.turn K W) K x'
theorem Gx {m : Nat} (h : m <= 1000000) : Builtin.List.listTooLong m = false := by
 unfold Builtin.List.listTooLong
 simp only [decide_eq_false_iff_not, sizeLine_eq]
 omega
theorem JZ {h : Heap} {d : Addr} {vs us : List Value} (x : Li h d vs) : Li (h.update d (Obj.mapSeq fun z => z ++ us.toArray)) d (vs ++ us) /\ ∀ b o, b ≠ d -> h.get? b = some o -> (h.update d (Obj.mapSeq fun z => z ++ us.toArray)).get? b = some o := by
 revert x; refine Ap fun n e => ?_
 refine ⟨⟨if (vs.toArray ++ us.toArray).size == vs.toArray.size then n else n + 1, ?_⟩, fun b o ne q => (Heap.get?_update_other h _ (Ne.symm ne)).trans q⟩
 rw [Heap.get?_update_self _ e rfl]
 simp only [Obj.mapSeq, List.append_toArray]
theorem ZF {d b : Addr} {vs us : List Value} {Q : Value -> Shared -> Prop} (F : Fx B h₀ S₀ outer sc L h l) (W : Wr B h₀ S₀ d) (x : Li h d vs) (y : Li h b us) (hz : vs.length + us.length <= 1000000)
  (k : ∀ h', Fx B h₀ S₀ outer sc L h' l -> Kp B [d] [] h h' -> Li h' d (vs ++ us) -> Q .none (mk s h' t)) :
  wpAny (model prog w) A (call (.builtin "list.extend") [.ref d, .ref b]) Q E (mk s h t) := by
 refine Ap (fun n e => ?_) <| id x
 refine Ap (fun n2 e2 => ?_) <| id y
 have hr := JZ (us := us) x
 have K := Kp.li (B := B) x hr.1 hr.2 W.notB
 exact call_meets (s := mk s h t) PySem.F.slot_list_extend ⟨_, e, rfl⟩ PySem.F.entry_list_extend (PySem.F.args_list_extend_2 _ _)
  (PySem.AutoSeq1.list_extend_list_list_0 d vs.toArray n b us.toArray n2 (by rw [List.size_toArray, List.size_toArray, Gx hz]; simp) (by rw [List.size_toArray]; exact Ca (by omega)) (by rw [List.size_toArray, List.size_toArray]; have := Ca hz; omega)) ⟨e, e2, k _ (F.turn K W) K hr.1⟩
theorem YC {d b : Addr} {vs us : List Value} {Q : Value -> Shared -> Prop} (F : Fx B h₀ S₀ outer sc L h l) (W : Wr B h₀ S₀ d) (x : Li h d vs) (y : Tu h b us) (hz : vs.length + us.length <= 1000000)
  (k : ∀ h', Fx B h₀ S₀ outer sc L h' l -> Kp B [d] [] h h' -> Li h' d (vs ++ us) -> Q .none (mk s h' t)) :
  wpAny (model prog w) A (call (.builtin "list.extend") [.ref d, .ref b]) Q E (mk s h t) := by
 refine Ap (fun n e => ?_) <| id x
 refine Ap (fun n2 e2 => ?_) <| id y
 have hr := JZ (us := us) x
 have K := Kp.li (B := B) x hr.1 hr.2 W.notB
 exact call_meets (s := mk s h t) PySem.F.slot_list_extend ⟨_, e, rfl⟩ PySem.F.entry_list_extend (PySem.F.args_list_extend_2 _ _)
  (PySem.AutoSeq1.list_extend_list_tuple_0 d vs.toArray n b us.toArray n2 (by rw [List.size_toArray, List.size_toArray, Gx hz]; simp) (by rw [List.size_toArray]; exact Ca (by omega)) (by rw [List.size_toArray, List.size_toArray]; have := Ca hz; omega)) ⟨e, e2, k _ (F.turn K W) K hr.1⟩
theorem Zw {d : Addr} {vs : List Value} {v : Value} {Q : Value -> Shared -> Prop} (F : Fx B h₀ S₀ outer sc L h l) (W : Wr B h₀ S₀ d) (x : Li h d (vs ++ [v])) (hz : vs.length + 1 <= 1000000)
  (k : ∀ h', Fx B h₀ S₀ outer sc L h' l -> Kp B [d] [] h h' -> Li h' d vs -> Q v (mk s h' t)) :
  wpAny (model prog w) A (call (.builtin "list.pop") [.ref d]) Q E (mk s h t) := by
 refine Ap (fun n e => ?_) <| id x
 have x' : Li (h.update d (Obj.mapSeq fun xs => Array.eraseIdxIfInBounds xs ((vs ++ [v]).toArray.size - 1))) d vs := by
  refine ⟨if vs.toArray.size == (vs ++ [v]).toArray.size then n else n + 1, ?_⟩
  rw [Heap.get?_update_self _ e rfl]
  have : Array.eraseIdxIfInBounds (vs ++ [v]).toArray ((vs ++ [v]).toArray.size - 1) = vs.toArray := by
   apply Array.toList_inj.mp
   simp [Array.eraseIdxIfInBounds, List.eraseIdx_append_of_length_le]
  show some (⟨_, _, .seq (Array.eraseIdxIfInBounds (vs ++ [v]).toArray ((vs ++ [v]).toArray.size - 1)) (if ((Array.eraseIdxIfInBounds (vs ++ [v]).toArray ((vs ++ [v]).toArray.size - 1)).size == (vs ++ [v]).toArray.size) then n else n + 1), _⟩ : Obj) = _
  rw [this]
 have K := Kp.li (B := B) x x' (fun b o ne q => (Heap.get?_update_other h _ (Ne.symm ne)).trans q) W.notB
 exact call_meets (s := mk s h t) PySem.F.slot_list_pop ⟨_, e, rfl⟩ PySem.F.entry_list_pop (PySem.F.args_list_pop_1 _)
  (MeetsSeq.list_pop_last d (vs ++ [v]).toArray n v (by simp) (by rw [List.size_toArray]; exact Ca (by simp; omega))) ⟨e, k _ (F.turn K W) K x'⟩
end
noncomputable def AY {α : Type} (lo hi : Option Int) (xs : List α) : List α :=
 (xs.drop (lo.elim 0 (clipAt xs.length))).take (hi.elim xs.length (clipAt xs.length) - lo.elim 0 (clipAt xs.length))
theorem CN {α : Type} (lo hi : Option Int) (xs : List α) : (AY lo hi xs).length <= xs.length := by
 unfold AY; rw [List.length_take, List.length_drop]; omega
theorem DF {h : Heap} {vs : List Value} {ds : List PyData} (lo hi : Option Int) (r : ReadsAll h vs ds []) : ReadsAll h (AY lo hi vs) (AY lo hi ds) [] := by
 unfold AY
 rw [BB r]
 exact EV _ (DE _ r)
theorem GL (lo hi : Option Int) (n : Nat) : Builtin.Slice.sliceAdjust lo hi 1 (n : Int) = (((lo.elim 0 (clipAt n) : Nat) : Int), ((hi.elim n (clipAt n) : Nat) : Int)) := by
 unfold Builtin.Slice.sliceAdjust
 have h1 : ¬ ((1 : Int) < 0) := by omega
 simp only [h1, if_false]
 congr 1
 ·cases lo with
  | none => rfl
  | some v => simp only [Option.elim_some, clipAt_cast]; split <;> omega
 ·cases hi with
  | none => rfl
  | some v => simp only [Option.elim_some, clipAt_cast]; split <;> omega
theorem GJ (a b : Nat) : Builtin.Slice.slicePlaces (a : Int) (b : Int) 1 = b - a := by
 unfold Builtin.Slice.slicePlaces
 have h1 : (1 : Int) > 0 := by omega
 simp only [h1, if_true, Int.ediv_one]
 split <;> omega
theorem Mz (xs : Array Value) (a c : Nat) : ((List.range c).filterMap fun (k : Nat) => xs[((a : Int) + (k : Int) * 1).toNat]?).toArray = ((xs.toList.drop a).take c).toArray := by
 have e : (fun (k : Nat) => xs[((a : Int) + (k : Int) * 1).toNat]?) = fun k => xs[a + k]? := by
  funext k
  have : ((a : Int) + (k : Int) * 1).toNat = a + k := by omega
  rw [this]
 rw [e]
 have := pick_run xs a c
 rw [List.filterMap_map] at this
 have e2 : ((fun x => xs[x]?) ∘ fun x => a + x) = fun k => xs[a + k]? := rfl
 rw [e2] at this
 rw [this]
section
variable {prog : Program} {w : World} {A : Around} {E : Value -> Shared -> Prop} {s : Shared} {h : Heap} {t : Nat}
 {B h₀ : Heap} {S₀ : List Addr} {outer : List Env} {sc : Scope} {L : Addr} {l : A9} {env : Env} {mg mb : Str -> Option Value} {n : Nat}
theorem KD {M : Model} {s : Shared} {env : Env} {lower upper step : Option Expr} {p : Pos} {Q : Value -> Shared -> Prop}
  (h : wpAny M A (evalPart lower env) (fun l s₁ => wpAny M A (evalPart upper env) (fun u s₂ => wpAny M A (evalPart step env) (fun st s₃ => wpAny M A (newFields "slice" [l, u, st]) Q E s₃) E s₂) E s₁) E s) :
  wpAny M A (eval (.Slice lower upper step p) env) Q E s := by
 show wpAny M A (do
  let l <- valueOrNone (evalOpt lower env)
  let u <- holding [l] (valueOrNone (evalOpt upper env))
  let s <- holding [l, u] (valueOrNone (evalOpt step env))
  newFields "slice" [l, u, s]) Q E s
 have e : ∀ x, valueOrNone (evalOpt x env) = evalPart x env := fun x => by cases x <;> rfl
 simp only [e]
 exact wpAny_bind (wpAny_mono h (fun l s₁ h₁ => wpAny_bind (wpAny_holding (wpAny_mono h₁ (fun u s₂ h₂ => wpAny_bind (wpAny_holding (wpAny_mono h₂ (fun st s₃ h₃ => h₃) fun _ _ x => x))) fun _ _ x => x))) fun _ _ x => x)
theorem H2 {x y z : Value} {Q : Value -> Shared -> Prop} (F : Fx B h₀ S₀ outer sc L h l)
  (k : ∀ d h', Fx B h₀ S₀ outer sc L h' l -> Kp B [] [] h h' -> h'.IsSliceOf d x y z -> Q (.ref d) (mk s h' t)) :
  wpAny (model prog w) A (newFields "slice" [x, y, z]) Q E (mk s h t) := by
 unfold newFields
 exact wpAny_newObj_type (s := mk s h t) (k _ _ (F.grow (Kp.push _)) (Kp.push _) (Heap.IsSliceOf.new ..)) (by show (#[x, y, z] : Array Value).size <= sizeLine + 2; rw [sizeLine_eq]; simp)
theorem Zr {value slice : Expr} {d sl : Addr} {vs : List Value} {vl vu : Value} {lo hi : Option Int} {ops : List Value} {Q : Value -> Shared -> Prop} (F : Fx B h₀ S₀ outer sc L h l) (x : Li h d vs) (hz : vs.length <= 1000000)
  (hs : h.IsSliceOf sl vl vu .none) (pl : IsPart vl lo) (pu : IsPart vu hi)
  (k : ∀ e h', Fx B h₀ S₀ outer sc L h' l -> Kp B [] [] h h' -> h.get? e = none -> Li h' e (AY lo hi vs) -> Q (.ref e) (mk s h' t))
  (ho : subscripted slice false (.ref d) (.ref sl) = operate ops (getItem (.ref d) (.ref sl)) := by with_unfolding_all rfl) :
  wpAny (model prog w) A (subscriptTail value slice (.ref d) (.ref sl)) Q E (mk s h t) := by
 refine tail_any x.isList.typeIs slot_list_getitem.lookup (wpAny_getItem_list_slice (s := mk s h t) x.isList hs pl pu .none (by simp) (k _ _ (F.grow (Kp.push _)) (Kp.push _) (Heap.get?_none_of_le (Nat.le_refl _)) ⟨0, ?_⟩) (by rw [List.size_toArray]; exact Ca hz)) ho
 rw [slicePick_plain, List.size_toArray]
 exact Heap.get?_push_size _ rfl
theorem TC {value slice : Expr} {d sl : Addr} {vs : List Value} {u : Tok} {ops : List Value} {Q : Value -> Shared -> Prop} (F : Fx B h₀ S₀ outer sc L h l) (x : Li h d vs) (hz : vs.length <= 1000000)
  (hs : h.IsSliceOf sl .none .none (.int (-1) u))
  (k : ∀ e h', Fx B h₀ S₀ outer sc L h' l -> Kp B [] [] h h' -> h.get? e = none -> Li h' e vs.reverse -> Q (.ref e) (mk s h' t))
  (ho : subscripted slice false (.ref d) (.ref sl) = operate ops (getItem (.ref d) (.ref sl)) := by with_unfolding_all rfl) :
  wpAny (model prog w) A (subscriptTail value slice (.ref d) (.ref sl)) Q E (mk s h t) := by
 refine tail_any x.isList.typeIs slot_list_getitem.lookup (wpAny_getItem_list_slice (s := mk s h t) x.isList hs .none .none (.int _ _) (by simp) (k _ _ (F.grow (Kp.push _)) (Kp.push _) (Heap.get?_none_of_le (Nat.le_refl _)) ⟨0, ?_⟩) (by rw [List.size_toArray]; exact Ca hz)) ho
 rw [krv_pick]
 exact Heap.get?_push_size _ rfl
theorem HI {v : Value} {k : Option Int} {Q : Option Int -> Shared -> Prop} {s : Shared} (hv : IsPart v k) (hq : Q k s) : wpAny (model prog w) A (Builtin.Slice.slicePartIndex v) Q E s := by
 cases hv with
 | none => exact slicePart_none hq
 | int i u => exact slicePart_int hq
theorem HW {s : Shared} {sl : Addr} {vl vu : Value} {lo hi : Option Int} {n : Nat} {Q : Int × Int × Nat -> Shared -> Prop} (hs : s.heap.IsSliceOf sl vl vu .none) (pl : IsPart vl lo) (pu : IsPart vu hi)
  (hq : Q (((lo.elim 0 (clipAt n) : Nat) : Int), 1, hi.elim n (clipAt n) - lo.elim 0 (clipAt n)) s) :
  wpAny (model prog w) A (Builtin.Slice.sliceApplied (.ref sl) (pure (n : Int))) Q E s := by
 refine FR (fun os hos hcs hds => ?_) <| id hs
 unfold Builtin.Slice.sliceApplied Builtin.Slice.sliceFields
 refine wpAny_bind (wpAny_bind (wpAny_field hos hds (x := vl) rfl (wpAny_bind (wpAny_field hos hds (x := vu) rfl (wpAny_bind (wpAny_field hos hds (x := .none) rfl (wpAny_pure ?_)))))))
 refine wpAny_bind (slicePart_none ?_)
 show wpAny _ _ (if ((1 : Int) == 0) = true then _ else _) _ _ s
 rw [if_neg (by decide)]
 refine wpAny_bind (HI pl (wpAny_bind (HI pu (wpAny_bind (wpAny_pure ?_)))))
 show wpAny _ _ (match Builtin.Slice.sliceAdjust lo hi 1 (n : Int) with | (lo, hi) => pure (lo, (1 : Int), Builtin.Slice.slicePlaces lo hi 1)) _ _ s
 rw [GL]
 show wpAny _ _ (pure (_, (1 : Int), Builtin.Slice.slicePlaces ((lo.elim 0 (clipAt n) : Nat) : Int) ((hi.elim n (clipAt n) : Nat) : Int) 1)) _ _ s
 rw [GJ]
 exact wpAny_pure hq
theorem Ke {s : Shared} {d : Addr} {vs : List Value} {Q : Bool -> Shared -> Prop} (x : Tu s.heap d vs) (hq : Q true s) : wpAny (model prog w) A (Builtin.Tuple.tupleIsExact (.ref d)) Q E s := by
 unfold Builtin.Tuple.tupleIsExact
 first
  | exact wpAny_bind (wpAny_typeOf x.isTup.typeIs (wpAny_pure hq))
  | exact wpAny_bind (wpAny_pure (wpAny_bind (wpAny_typeOf x.isTup.typeIs (wpAny_pure hq))))
theorem bw {value slice : Expr} {d sl : Addr} {vs : List Value} {vl vu : Value} {lo hi : Option Int} {ops : List Value} {Q : Value -> Shared -> Prop} (F : Fx B h₀ S₀ outer sc L h l) (x : Tu h d vs) (hz : vs.length <= 1000000)
  (hs : h.IsSliceOf sl vl vu .none) (pl : IsPart vl lo) (pu : IsPart vu hi)
  (k : ∀ e h', Fx B h₀ S₀ outer sc L h' l -> Kp B [] [] h h' -> Tu h' e (AY lo hi vs) -> Q (.ref e) (mk s h' t))
  (ho : subscripted slice false (.ref d) (.ref sl) = operate ops (getItem (.ref d) (.ref sl)) := by with_unfolding_all rfl) :
  wpAny (model prog w) A (subscriptTail value slice (.ref d) (.ref sl)) Q E (mk s h t) := by
 refine tail_any x.isTup.typeIs slot_tuple_getitem.lookup ?_ ho
 refine FR (fun os hos hcs hds => ?_) <| id hs
 have hTs : (mk s h t).TypeIs (.ref sl) "slice" := ⟨os, hos, hcs⟩
 unfold getItem
 try with_reducible refine wpAny_holding ?_
 first | refine wpAny_bind (wpAny_pure ?_) | skip
 refine wpAny_bind (wpAny_sequenceKey x.isTup.typeIs (by decide) ?_)
 refine wpAny_bind (wpAny_callSpecial?_slot (name := Str.ofString "__getitem__") x.isTup.typeIs slot_tuple_getitem
  (wpAny_call_entry slot_tuple_getitem x.isTup.typeIs entry_tuple_getitem ?_ (args_tuple_getitem _ _)))
 show wpAny _ _ (Builtin.Tuple.tupleItemsOf (.ref d) >>= _) _ _ (mk s h t)
 refine wpAny_bind (tupleItemsOf_ x.isTup ?_)
 refine wpAny_bind (wpAny_typeOf hTs ?_)
 rw [if_pos (by decide)]
 refine wpAny_bind (HW (n := vs.toArray.size) hs pl pu ?_)
 rw [List.size_toArray]
 show wpAny _ _ (if (((lo.elim 0 (clipAt vs.length) : Nat) : Int) == 0 && (1 : Int) == 1 && (hi.elim vs.length (clipAt vs.length) - lo.elim 0 (clipAt vs.length)) == vs.length) = true then _ else _) _ _ (mk s h t)
 by_cases hc : (((lo.elim 0 (clipAt vs.length) : Nat) : Int) == 0 && (1 : Int) == 1 && (hi.elim vs.length (clipAt vs.length) - lo.elim 0 (clipAt vs.length)) == vs.length) = true
 ·rw [if_pos hc]
  refine wpAny_bind (Ke x ?_)
  rw [if_pos rfl]
  have hx : AY lo hi vs = vs := by
   simp only [Bool.and_eq_true, beq_iff_eq] at hc
   revert hc; refine Ak fun z0 h2 => ?_; revert z0; refine Ak fun h1 _ => ?_
   unfold AY
   have h1' : lo.elim 0 (clipAt vs.length) = 0 := by omega
   rw [h2, h1']
   simp
  exact wpAny_bind (wpAny_rule (wpAny_pure ⟨_, rfl, wpAny_pure (k d h F (Kp.refl ..) (hx.symm ▸ x))⟩))
 ·rw [if_neg hc]
  have hsz : sizeOk (.seq (AY lo hi vs).toArray) := by
   show (AY lo hi vs).toArray.size <= sizeLine
   rw [List.size_toArray]
   have := Ca hz
   have := CN lo hi vs
   omega
  have fin := k _ _ (F.grow (Kp.push _)) (Kp.push { cls := .type "tuple", data := .seq (AY lo hi vs).toArray }) ⟨0, Heap.get?_push_size _ rfl⟩
  have hp : ((List.range (hi.elim vs.length (clipAt vs.length) - lo.elim 0 (clipAt vs.length))).filterMap fun (k : Nat) => vs.toArray[(((lo.elim 0 (clipAt vs.length) : Nat) : Int) + (k : Int) * 1).toNat]?).toArray = (AY lo hi vs).toArray := by
   rw [Mz]; rfl
  dsimp only
  rw [hp]
  exact wpAny_bind (m := Builtin.Tuple.tupleExact _) (wpAny_newObj_type (s := mk s h t) (wpAny_pure ⟨_, rfl, wpAny_pure fin⟩) hsz)
theorem ak {d b : Addr} {vs us : List Value} {Q : Value -> Shared -> Prop} (F : Fx B h₀ S₀ outer sc L h l) (x : Li h d vs) (y : Li h b us) (hz : vs.length + us.length <= 1000000)
  (k : ∀ e h', Fx B h₀ S₀ outer sc L h' l -> Kp B [] [] h h' -> h.get? e = none -> Li h' e (vs ++ us) -> Q (.ref e) (mk s h' t)) :
  wpAny (model prog w) A (binaryOp .Add (.ref d) (.ref b)) Q E (mk s h t) := by
 revert x; refine Ap fun n e => ?_
 revert y; refine Ap fun n2 e2 => ?_
 refine P.add_list (s := mk s h t) e e2 (k _ _ (F.grow (Kp.push _)) (Kp.push _) (Heap.get?_none_of_le (Nat.le_refl _)) ⟨0, ?_⟩) (by rw [List.size_toArray, List.size_toArray]; exact Ca hz)
 rw [<- List.append_toArray]
 exact Heap.get?_push_size _ rfl
theorem Z8 {d b : Addr} {vs us : List Value} {Q : Value -> Shared -> Prop} (F : Fx B h₀ S₀ outer sc L h l) (x : Tu h d vs) (y : Tu h b us) (hz : vs.length + us.length <= 1000000) (hn : us ≠ [])
  (k : ∀ e h', Fx B h₀ S₀ outer sc L h' l -> Kp B [] [] h h' -> Tu h' e (vs ++ us) -> Q (.ref e) (mk s h' t)) :
  wpAny (model prog w) A (binaryOp .Add (.ref d) (.ref b)) Q E (mk s h t) := by
 by_cases hv : vs = []
 ·subst hv
  refine Ap (fun n e => ?_) <| id x
  refine Ap (fun n2 e2 => ?_) <| id y
  exact concat_meets (s := mk s h t) ⟨_, e, rfl⟩ ⟨_, e2, rfl⟩ noFill_tuple_add seq_tuple_add PySem.F.slot_tuple_add PySem.F.entry_tuple_add (PySem.F.args_tuple_add_2 _ _)
   (tuple_addW0 d b [].toArray us.toArray n n2 none none #[] #[] (by simp)) ⟨e, e2, k b h F (Kp.refl ..) y⟩
 ·refine Ap (fun n e => ?_) <| id x
  refine Ap (fun n2 e2 => ?_) <| id y
  refine P.add_tuple (s := mk s h t) e e2 (by simpa using hv) (by simpa using hn) (k _ _ (F.grow (Kp.push _)) (Kp.push _) ⟨0, ?_⟩) (by rw [List.size_toArray, List.size_toArray]; exact Ca hz)
  rw [<- List.append_toArray]
  exact Heap.get?_push_size _ rfl
end
section
variable {prog : Program} {w : World} {A : Around} {E : Value -> Shared -> Prop} {s : Shared} {h : Heap} {t : Nat}
 {B h₀ : Heap} {S₀ : List Addr} {outer : List Env} {sc : Scope} {L : Addr} {l : A9} {env : Env} {mg mb : Str -> Option Value} {n : Nat}
theorem aG {d : Addr} {vs : List Value} {x : Int} {u : Tok} {Q : Value -> Shared -> Prop} (F : Fx B h₀ S₀ outer sc L h l) (y : Li h d vs) (h0 : 0 <= x) (h1 : x <= 1000) (hz : vs.length <= 1000)
  (k : ∀ e h', Fx B h₀ S₀ outer sc L h' l -> Kp B [] [] h h' -> h.get? e = none -> Li h' e (List.replicate x.toNat vs).flatten -> Q (.ref e) (mk s h' t)) :
  wpAny (model prog w) A (binaryOp .Mult (.ref d) (.int x u)) Q E (mk s h t) := by
 refine Ap (fun n e => ?_) <| id y
 have hm : vs.length * x.toNat <= 1000 * 1000 := Nat.mul_le_mul hz (by omega)
 have hr : List.foldl (fun x1 x2 => x1 ++ x2) #[] (List.replicate (if vs.toArray.isEmpty = true then 0 else x.toNat) vs.toArray) = (List.replicate x.toNat vs).flatten.toArray := by
  have g : ∀ (m : Nat) (acc : Array Value), List.foldl (fun x1 x2 => x1 ++ x2) acc (List.replicate m vs.toArray) = acc ++ (List.replicate m vs).flatten.toArray := by
   intro m
   induction m with
   | zero => intro acc; simp
   | succ m ih => intro acc; rw [List.replicate_succ, List.foldl_cons, ih, List.replicate_succ, List.flatten_cons]; simp
  rw [g]
  by_cases hv : vs = []
  ·subst hv; simp
  ·rw [if_neg (by simpa using hv)]; simp
 exact wpAny_binaryOp_repeat_ref (s := mk s h t) (T := "list") (U := "int") (by decide) ⟨_, e, rfl⟩ (fun s' => typeIs_int s' x u) noFill_list_mul PySem.F.fills_int_mul PySem.F.slot_int_rmul repeat_list PySem.F.slot_int_index.lookup
  (call_meets PySem.F.slot_int_rmul (typeIs_int (mk s h t) x u) PySem.F.entry_int_rmul (PySem.F.args_int_rmul_2 _ _) (int___rmul___int_list x u d vs.toArray n)
   ⟨e, rfl, ⟨_, e, rfl⟩, call_meets PySem.F.slot_list_mul ⟨_, e, rfl⟩ PySem.F.entry_list_mul (PySem.F.args_list_mul_2 _ _)
    (AutoListH.list___mul___list_int_3 d vs.toArray n x u (by simp [Builtin.List.listFitsIndex]; omega) (by rw [show vs.toArray.size = vs.length from List.size_toArray]; omega) (by rw [show vs.toArray.size = vs.length from List.size_toArray]; simp [Builtin.List.listTooLong, sizeLine]; omega))
    ⟨e, k _ _ (F.grow (Kp.push _)) (Kp.push _) (Heap.get?_none_of_le (Nat.le_refl _)) ⟨0, by rw [hr]; exact Heap.get?_push_size _ rfl⟩⟩⟩)
theorem Hq {d : Addr} {vs : List Value} {Q : Value -> Shared -> Prop} (x : Tu h d vs) (k : Q (.bool true) (mk s h t)) :
  wpAny (model prog w) A (call (.builtin "isinstance") [.ref d, .type "tuple"]) Q E (mk s h t) :=
 PyProof.Rows.call_isinstance_yes (s := mk s h t) x.isTup.typeIs meta_tuple AutoSeq1.sub_tuple_tuple k
theorem PD {v : Value} {ds : List PyData} {Q : Value -> Shared -> Prop} (x : Reads h v (.tuple ds) []) (k : Q (.bool true) (mk s h t)) :
  wpAny (model prog w) A (call (.builtin "isinstance") [v, .type "tuple"]) Q E (mk s h t) := by
 cases x with
 | tuple e c d r => exact PyProof.Rows.call_isinstance_yes (s := mk s h t) ⟨_, e, c⟩ meta_tuple AutoSeq1.sub_tuple_tuple k
theorem MA {i : Int} {u : Tok} {Q : Value -> Shared -> Prop} (k : Q (.bool true) (mk s h t)) :
  wpAny (model prog w) A (call (.builtin "isinstance") [.int i u, .type "int"]) Q E (mk s h t) :=
 PyProof.Rows.call_isinstance_yes (s := mk s h t) (typeIs_int _ i u) meta_int PyProof.Rows.sub_int_int k
theorem KB {i : Int} {u : Tok} {Q : Value -> Shared -> Prop} (k : ∀ t', Q (.bool false) (mk s h t')) :
  wpAny (model prog w) A (call (.builtin "isinstance") [.int i u, .type "bool"]) Q E (mk s h t) :=
 call_isinstance (s := mk s h t) (isinstance_false_int (by decide) meta_bool PyProof.Rows.sub_int_bool) (k _)
theorem L7 {x : Str} {u : Tok} {Q : Value -> Shared -> Prop} (k : Q (.bool true) (mk s h t)) :
  wpAny (model prog w) A (call (.builtin "isinstance") [.str x u, .type "str"]) Q E (mk s h t) :=
 PyProof.Rows.call_isinstance_yes (s := mk s h t) (typeIs_str _ x u) meta_str PyProof.Rows.sub_str_str k
theorem MC {d : Addr} {vs : List Value} {Q : Value -> Shared -> Prop} (x : Tu h d vs) (k : ∀ t', Q (.bool false) (mk s h t')) :
  wpAny (model prog w) A (call (.builtin "isinstance") [.ref d, .type "str"]) Q E (mk s h t) :=
 Ap (fun _ e => call_isinstance (s := mk s h t) (isinstance_false_tuple (by decide) meta_str (by rw [isSubtype_type]; kernel_rfl)) ⟨⟨_, e, rfl⟩, k _⟩) x
theorem Y7 {i : Int} {u : Tok} {Q : Value -> Shared -> Prop} (k : ∀ tk t', Q (.int (if i < 0 then -i else i) tk) (mk s h t')) :
  wpAny (model prog w) A (call (.builtin "abs") [.int i u]) Q E (mk s h t) := PyProof.Rows.call_abs_int (s := mk s h t) fun u tk => k u tk
theorem au {b : Bool} {Q : Value -> Shared -> Prop} (k : ∀ tk t', Q (.int (if b then 1 else 0) tk) (mk s h t')) :
  wpAny (model prog w) A (call (.type "int") [.bool b]) Q E (mk s h t) := call_int_bool (s := mk s h t) (k _ _)
theorem Vw {d : Addr} {vs : List Value} {Q : Value -> Shared -> Prop} (F : Fx B h₀ S₀ outer sc L h l) (x : Li h d vs) (hz : vs.length <= 1000000)
  (k : ∀ e h', Fx B h₀ S₀ outer sc L h' l -> Kp B [] [] h h' -> Tu h' e vs -> Q (.ref e) (mk s h' t)) :
  wpAny (model prog w) A (call (.type "tuple") [.ref d]) Q E (mk s h t) := by
 refine call_tuple_list (s := mk s h t) x.isList (fun h' hk => ?_) (by rw [List.size_toArray]; exact Ca hz)
 have K : Kp B [] [] h (h'.push { cls := .type "tuple", data := .seq vs.toArray }) := .of_keeps fun b o e => Heap.get?_push_of_some _ (hk b o e)
 exact k _ _ (F.grow K) K ⟨0, Heap.get?_push_size _ rfl⟩
theorem ZG {d : Addr} {vs : List Value} {Q : Value -> Shared -> Prop} (x : Tu h d vs) (k : Q (.ref d) (mk s h t)) :
  wpAny (model prog w) A (call (.type "tuple") [.ref d]) Q E (mk s h t) := call_tuple_tup (s := mk s h t) x.isTup k
theorem YQ {d : Addr} {vs : List Value} {Q : Value -> Shared -> Prop} (F : Fx B h₀ S₀ outer sc L h l) (x : Li h d vs) (hz : vs.length <= 1000000)
  (k : ∀ e h', Fx B h₀ S₀ outer sc L h' l -> Kp B [] [] h h' -> h.get? e = none -> Li h' e vs -> Q (.ref e) (mk s h' t)) :
  wpAny (model prog w) A (call (.type "list") [.ref d]) Q E (mk s h t) := by
 revert x; refine Ap fun n e => ?_
 exact call_list_seq (s := mk s h t) d (.inl rfl) e rfl rfl (fun h' c' hk he => k _ _ (F.grow (.of_keeps hk)) (.of_keeps hk) (Heap.get?_none_of_le (Nat.le_refl _)) ⟨c', he⟩) (by rw [List.size_toArray]; exact Ca hz)
theorem aZ {d : Addr} {vs : List Value} {Q : Value -> Shared -> Prop} (F : Fx B h₀ S₀ outer sc L h l) (x : Tu h d vs) (hz : vs.length <= 1000000)
  (k : ∀ e h', Fx B h₀ S₀ outer sc L h' l -> Kp B [] [] h h' -> h.get? e = none -> Li h' e vs -> Q (.ref e) (mk s h' t)) :
  wpAny (model prog w) A (call (.type "list") [.ref d]) Q E (mk s h t) := by
 revert x; refine Ap fun n e => ?_
 exact call_list_seq (s := mk s h t) d (.inr rfl) e rfl rfl (fun h' c' hk he => k _ _ (F.grow (.of_keeps hk)) (.of_keeps hk) (Heap.get?_none_of_le (Nat.le_refl _)) ⟨c', he⟩) (by rw [List.size_toArray]; exact Ca hz)
theorem Vy {d : Addr} {vs : List Value} {k : Int} {u : Tok} {v : Value} {Q : Unit -> Shared -> Prop} (F : Fx B h₀ S₀ outer sc L h l) (W : Wr B h₀ S₀ d) (x : Li h d vs) (hz : vs.length <= 1000000) (lo : -(vs.length : Int) <= k) (hi : k < vs.length)
  (c : ∀ h', Fx B h₀ S₀ outer sc L h' l -> Kp B [d] [] h h' -> Li h' d (vs.set (AK k vs.length) v) -> Q () (mk s h' t)) :
  wpAny (model prog w) A (setItem (.ref d) (.int k u) v) Q E (mk s h t) := by
 refine Ap (fun n ho => ?_) <| id x
 have hP : AK k vs.length < vs.length := by unfold AK; split <;> omega
 obtain ⟨y, hx'⟩ : ∃ y, vs.toArray[AK k vs.length]? = some y := ⟨vs[AK k vs.length], by simp [hP]⟩
 have xs : (Obj.mapSeq (·.setIfInBounds (AK k vs.length) v) { cls := .type "list", data := .seq vs.toArray n } : Obj) = { cls := .type "list", data := .seq (vs.set (AK k vs.length) v).toArray n } := by
  simp [Obj.mapSeq]
 have x' : Li (h.update d (Obj.mapSeq (·.setIfInBounds (AK k vs.length) v))) d (vs.set (AK k vs.length) v) :=
  ⟨n, by rw [Heap.get?_update_self _ ho (by rw [xs]; rfl), xs]⟩
 have K := Kp.li (B := B) x x' (fun b o ne q => (Heap.get?_update_other h _ (Ne.symm ne)).trans q) W.notB
 have fin := c _ (F.turn K W) K x'
 unfold setItem
 try with_reducible refine wpAny_holding ?_
 first | refine wpAny_bind (wpAny_pure ?_) | skip
 refine wpAny_bind (wpAny_sequenceKey x.isList.typeIs (by decide) ?_)
 refine wpAny_bind (wpAny_callSpecial?_slot (name := Str.ofString "__setitem__") x.isList.typeIs slot_list_setitem
  (wpAny_call_entry slot_list_setitem x.isList.typeIs entry_list_setitem ?_ (args_list_setitem _ _ _)))
 show wpAny _ _ (Builtin.List.listSubscript? (.int k u) >>= _) _ _ (mk s h t)
 refine wpAny_bind (wpAny_listSubscript_int (by simp [Builtin.List.listFitsIndex]; omega) ?_)
 have step : ∀ A' : Around, wpAny (model prog w) A' (setSeqItemAt d (AK k vs.length) v >>= fun _ => ret .none) (fun fin s' => ∃ r, fin = .done (.ret r) /\ Q () s') E (mk s h t) := fun A' =>
  wpAny_bind (wpAny_setSeqItemAt (s := mk s h t) ho rfl (wpAny_pure ⟨.none, rfl, fin⟩))
 by_cases hk : k < 0
 ·obtain ⟨j, rfl⟩ : ∃ j : Nat, k = Int.negSucc j := by
   cases k with
   | ofNat n => exact absurd hk (Int.not_lt.mpr (Int.natCast_nonneg n))
   | negSucc n => exact ⟨n, rfl⟩
  show wpAny _ _ ((Builtin.List.listItems (.ref d) >>= fun xs => pure ((seqIndex? (Int.negSucc j) xs.size).bind fun i => xs[i]?.map (i, ·))) >>= _) _ _ (mk s h t)
  refine wpAny_bind (wpAny_bind ?_)
  show wpAny _ _ (seqItems? (.ref d) >>= _) _ _ (mk s h t)
  refine wpAny_bind (wpAny_seqItems (s := mk s h t) ho rfl (wpAny_pure (wpAny_pure ?_)))
  have hidx : seqIndex? (Int.negSucc j) vs.toArray.size = some (AK (Int.negSucc j) vs.length) := by
   rw [List.size_toArray]
   unfold AK
   rw [if_pos hk]
   have := seqIndex_neg (n := vs.length) hk lo
   exact this
  rw [hidx]
  simp only [Option.bind_some, hx', Option.map_some]
  exact wpAny_mono (step _) (fun r s' y => by revert y; refine Ah fun r' a b => ?_; exact Dx r' a (wpAny_pure b)) fun _ _ y => y
 ·have h0 : 0 <= k := by omega
  refine Ap (fun j z0 => ?_) <| Int.eq_ofNat_of_zero_le h0; obtain rfl := z0
  have hj : AK (j : Int) vs.length = j := by unfold AK; rw [if_neg hk]; simp
  rw [hj] at hx' step
  show wpAny _ _ ((seqItemAt d j >>= fun r => pure (r.map (j, ·))) >>= _) _ _ (mk s h t)
  refine wpAny_bind (wpAny_bind (wpAny_seqItemAt (s := mk s h t) ho rfl (wpAny_pure ?_)))
  rw [hx']
  exact wpAny_mono (step _) (fun r s' y => by revert y; refine Ah fun r' a b => ?_; exact Dx r' a (wpAny_pure b)) fun _ _ y => y
end
def bJ (h₀ : Heap) (Cs : Value -> Prop) (h : Heap) (x : Addr) (tb : Bool) : Prop :=
 ∃ o vs, h.get? x = some o /\ Cs o.cls /\ o.data = .fields vs /\ 1 < vs.size /\
  ((tb = false /\ vs[1]? = some .none) \/ ∃ T oT ts, vs[1]? = some (.ref T) /\ h₀.get? T = none /\ T ≠ x /\ h.get? T = some oT /\ oT.cls ≠ .type "tuple" /\ oT.data = .fields ts /\ 3 < ts.size)
structure Fe (B h₀ : Heap) (outer : List Env) (sc : Scope) (L : Addr) : Prop where
 notB : B.get? L = none
 base₀ : B.StaysIn h₀
 fr : Dn B outer h₀
 kind : sc.kind = .function
theorem Fx.fe {B h₀ h : Heap} {S₀ : List Addr} {outer : List Env} {sc : Scope} {L : Addr} {l : A9} (F : Fx B h₀ S₀ outer sc L h l) : Fe B h₀ outer sc L where
 notB := by
  cases z : B.get? L with
  | none => rfl
  | some o => have := F.base₀ L o z; rw [F.fresh] at this; cases this
 base₀ := F.base₀
 fr := F.fr
 kind := F.nm.kind
def D0 (B h₀ : Heap) (S₀ : List Addr) (L : Addr) (s : Shared) (Cs : Value -> Prop) (tb : Bool) : Value -> Shared -> Prop := fun e s' =>
 ∃ x h' t', e = .ref x /\ s' = mk s h' t' /\ Kp B S₀ [] h₀ h' /\ h₀.get? x = none /\ (∃ o es ep, h'.get? L = some o /\ o.data = .dict es ep) /\ (∀ o, h'.get? x = some o -> o.cls ≠ .type "tuple") /\ bJ h₀ Cs h' x tb
def NV (B h₀ : Heap) (S₀ : List Addr) (s : Shared) (Cs : Value -> Prop) : Value -> Shared -> Prop := fun e s' =>
 ∃ x h' t', e = .ref x /\ s' = mk s h' t' /\ Kp B S₀ [] h₀ h' /\ h₀.get? x = none /\ (∀ o, h'.get? x = some o -> o.cls ≠ .type "tuple") /\ bJ h₀ Cs h' x true
theorem D0.out {B h₀ : Heap} {S₀ : List Addr} {L : Addr} {s : Shared} {Cs : Value -> Prop} {e : Value} {s' : Shared} (x : D0 B h₀ S₀ L s Cs true e s') : NV B h₀ S₀ s Cs e s' :=
 DK (fun x h' t' a b => Ju fun c d _ f g => ⟨x, h', t', a, b, c, d, f, g⟩) x
theorem D0.any {B h₀ : Heap} {S₀ : List Addr} {L : Addr} {s : Shared} {Cs : Value -> Prop} {e : Value} {s' : Shared} (x : D0 B h₀ S₀ L s Cs true e s') : D0 B h₀ S₀ L s Cs false e s' := by
 revert x; refine DK fun x h' t' a b z0 => ?_; revert z0; refine Ju fun c d e f z1 => ?_; revert z1; refine Eo fun o vs g1 g2 g3 z2 => ?_; revert z2; refine Ak fun g4 g5 => ?_
 exact JS x h' t' a b ⟨c, d, e, f, o, vs, g1, g2, g3, g4, g5.elim (fun q => nomatch q.1) .inr⟩
theorem Er {B h : Heap} : ∀ {l : List Env}, Dn B l h -> h.FunFrames B l
 | [], _ => trivial
 | env :: r, f => by
  refine Ak (fun hk z0 => ?_) <| f env (.head _); revert z0; refine Mv fun L o es ep a z1 => ?_; revert z1; refine C9 fun b c d => ?_
  exact J6 hk ⟨L, o, a, b, c, fun vs q => by rw [d] at q; cases q⟩ (Er fun e m => f e (.tail _ m))
theorem Pt {B h h' : Heap} {S : List Addr} (x : Heap.SlotsOnly S h h') (hS : ∀ b ∈ S, B.get? b = none /\ ∃ o es ep, h.get? b = some o /\ o.data = .dict es ep) : Kp B [] [] h h' where
 base := fun e b o q => (x.2.1 b fun m => by rw [(hS b m).1] at q; cases q).trans (e b o q)
 tup := fun b o vs n e c d => (x.2.1 b fun m => by
  refine Ak (fun _ z0 => ?_) <| hS b m; revert z0; refine Gr fun o' es ep a b => ?_
  rw [e] at a; cases a; rw [d] at b; cases b).trans e
 kind := fun b o e => (x.2.2 b o e).elim fun sl e' => ⟨_, e', fun es ep q => ⟨es, ep, q⟩⟩
 keep := fun b o e _ nd => (x.2.1 b fun m => by
  refine Ak (fun _ z0 => ?_) <| hS b m; revert z0; refine Gr fun o' es ep a b => ?_
  rw [e] at a; cases a; exact nd es ep b).trans e
 keepD := fun b o _ _ e _ _ => x.2.2 b o e
section
variable {prog : Program} {w : World} {A : Around} {E : Value -> Shared -> Prop} {s : Shared} {h : Heap} {t : Nat}
 {B h₀ : Heap} {S₀ : List Addr} {outer : List Env} {sc : Scope} {L : Addr} {l : A9} {env : Env} {mg mb : Str -> Option Value} {n : Nat} {Cs : Value -> Prop}
theorem Lg {o : Obj} {es ep} (hs : env.scope = sc) (hf : env.frame = some L) (F : Fe B h₀ outer sc L) (K : Kp B S₀ [] h₀ h) (hL : h.get? L = some o) (hd : o.data = .dict es ep) : Dn B (env :: outer) h := by
 intro env m
 rcases List.mem_cons.mp m with rfl | m
 ·refine ⟨by rw [hs, F.kind]; decide, L, o, es, ep, hf, ?_, hL, hd⟩
  exact F.notB
 ·exact F.fr.kp K (fun _ _ _ _ m => nomatch m) env m
theorem Tc {outer : List Env} (f : Dn B outer h) : ∀ b ∈ outer.filterMap (·.frame), B.get? b = none /\ ∃ o es ep, h.get? b = some o /\ o.data = .dict es ep := by
 intro b m
 refine Ah (fun env me e => ?_) <| List.mem_filterMap.mp m
 refine Ak (fun _ z0 => ?_) <| f env me; revert z0; refine Mv fun L o es ep a z1 => ?_; revert z1; refine C9 fun b' c d => ?_
 rw [a] at e; cases e
 exact ⟨b', o, es, ep, c, d⟩
theorem Kp.fields {B h : Heap} {x : Addr} {o : Obj} {vs : Array Value} (f : Array Value -> Array Value) (e : h.get? x = some o) (hd : o.data = .fields vs) (hc : o.cls ≠ .type "tuple") (hB : B.get? x = none) : Kp B [x] [] h (h.update x (Obj.mapFields f)) := by
 have hf : (Obj.mapFields f o).data = .fields (f vs) := Obj.data_mapFields hd f
 exact Kp.one (fun b o' ne q => (Heap.get?_update_other h _ (Ne.symm ne)).trans q) e (Heap.get?_update_self _ e (Obj.isFreed_of_fields hf)) hB (.head _) hc (fun es ep q => by rw [hd] at q; cases q)
theorem Ia (F : Fe B h₀ outer sc L) {x : Addr} (e : h₀.get? x = none) : B.get? x = none := by
 cases z : B.get? x with
 | none => rfl
 | some o => have := F.base₀ x o z; rw [e] at this; cases this
theorem El {M : Model} {x : Addr} {o : Obj} {vs : Array Value} {i : Nat} {v : Value} {Q : Unit -> Shared -> Prop} (e : h.get? x = some o) (hd : o.data = .fields vs) (hi : i < vs.size)
  (k : Q () (mk s (h.update x (Obj.mapFields (·.setIfInBounds i v))) t)) : wpAny M A (setField (.ref x) i v) Q E (mk s h t) := wpAny_setField (s := mk s h t) e hd hi k
theorem Jk (hs : env.scope = sc) (hf : env.frame = some L) {x : Addr} {o : Obj} {vs : Array Value} {head : Value} {b : Bool} {oL : Obj} {es ep} (hA : Db A (env :: outer) n) (F : Fe B h₀ outer sc L) (K : Kp B S₀ [] h₀ h) (hx : h₀.get? x = none)
  (hL : h.get? L = some oL) (hLd : oL.data = .dict es ep) (e : h.get? x = some o) (hc : Cs o.cls) (hct : o.cls ≠ .type "tuple") (hd : o.data = .fields vs) (hi : 1 < vs.size) (E : Value -> Shared -> Prop) :
  wpAny (model prog w) A (do setField (.ref x) 1 (<- EntryCells.newEntry head (<- frameOf env) .none (rawInt L) .none (<- entryPlaceOf L b))) (fun _ s' => D0 B h₀ S₀ L s Cs true (.ref x) s') E (mk s h t) := by
 have hfr := Lg hs hf F K hL hLd
 have hxL : ∀ m : x ∈ (env :: outer).filterMap (·.frame), False := fun m => by
  refine Ak (fun _ z0 => ?_) <| Tc hfr x m; revert z0; refine Gr fun o' es' ep' a' b' => ?_
  rw [e] at a'; cases a'; rw [hd] at b'; cases b'
 refine wpAny_bind (wpAny_frameOf_fun hA.frames (Er hfr) hf fun h₁ hs₁ => ?_)
 refine wpAny_bind (wpAny_entryPlaceOf fun pl hpl => ?_)
 have K1 : Kp B [] [] h h₁ := Pt hs₁ (Tc hfr)
 have e1 : h₁.get? x = some o := (hs₁.2.1 x hxL).trans e
 refine Ap (fun Zr eL1 => ?_) <| hs₁.2.2 L oL hL
 unfold EntryCells.newEntry newFields
 refine wpAny_bind (wpAny_newObj_type ?_ (hpl.sizeOk5 _ _ _ _ _))
 have hTx : h₁.objs.size ≠ x := Nat.ne_of_gt (Heap.lt_size e1)
 have hTL : h₁.objs.size ≠ L := Nat.ne_of_gt (Heap.lt_size eL1)
 have hxL' : x ≠ L := fun z => by subst z; rw [e] at hL; cases hL; rw [hd] at hLd; cases hLd
 generalize hT : ({ cls := .type "traceback", dict := none, data := .fields ([head, .ref L, .none, rawInt L, .none] ++ (if pl.isEmpty then List.replicate 6 Value.none else pl)).toArray } : Obj) = oT
 have e2 := Heap.get?_push_of_some (h := h₁) oT e1
 refine El (t := t) e2 hd hi ?_
 have hd3 := Obj.data_mapFields hd (·.setIfInBounds 1 (Value.ref h₁.objs.size))
 have K2 : Kp B [] [] h₁ (h₁.push oT) := Kp.push _
 have K3 := Kp.fields (B := B) (·.setIfInBounds 1 (Value.ref h₁.objs.size)) e2 hd hct (Ia F hx)
 have K123 : Kp B S₀ [] h₀ ((h₁.push oT).update x (Obj.mapFields (·.setIfInBounds 1 (Value.ref h₁.objs.size)))) :=
  ((K.trans K1 (fun _ m => nomatch m) (fun _ m => nomatch m)).trans K2 (fun _ m => nomatch m) (fun _ m => nomatch m)).trans K3 (fun b m => by cases m with | head => exact .inr hx | tail _ m => nomatch m) (fun _ m => nomatch m)
 have hTf : oT.isFreed = false := by subst hT; rfl
 refine JS x _ t rfl rfl ⟨K123, hx, ⟨_, es, ep, (Heap.get?_update_other _ _ hxL').trans (Heap.get?_push_of_some _ eL1), hLd⟩, ?_, _, _, Heap.get?_update_self _ e2 (Obj.isFreed_of_fields hd3), by rw [Obj.cls_mapFields]; exact hc, hd3, by simpa using hi, .inr ⟨h₁.objs.size, oT, _, by simp [hi], ?_, hTx, (Heap.get?_update_other _ _ (Ne.symm hTx)).trans (Heap.get?_push_size _ hTf), by subst hT; show Value.type "traceback" ≠ Value.type "tuple"; decide, by subst hT; rfl, ?_⟩⟩
 ·intro o' e'
  rw [Heap.get?_update_self _ e2 (Obj.isFreed_of_fields hd3)] at e'
  cases e'
  rw [Obj.cls_mapFields]; exact hct
 ·exact (K.trans K1 (fun _ m => nomatch m) (fun _ m => nomatch m)).alive (Heap.get?_none_of_le (Nat.le_refl _))
 ·simp only [List.size_toArray, List.length_append, List.length_cons, List.length_nil]; omega
theorem UV (hs : env.scope = sc) (hf : env.frame = some L) {e : Value} {s' : Shared} {tb : Bool} (hA : Db A (env :: outer) n) (F : Fe B h₀ outer sc L) (x : D0 B h₀ S₀ L s Cs tb e s') (E : Value -> Shared -> Prop) :
  wpAny (model prog w) A (noteFrame e env) (fun _ s'' => D0 B h₀ S₀ L s Cs true e s'') E s' := by
 revert x; refine DK fun x h' t' z0 z1 z2 => ?_; obtain rfl := z0; obtain rfl := z1; revert z2; refine Ju fun K hx z3 hct z4 => ?_; revert z3; refine Gr fun oL es ep hL hLd => ?_; revert z4; refine Eo fun o vs g1 g2 g3 z5 => ?_; revert z5; refine Ak fun g4 g5 => ?_
 unfold noteFrame
 rw [hf]
 show wpAny (model prog w) A (do
  let head <- field (.ref x) 1
  if head != .none then
   if (<- field head 3) == rawInt L then return
   setField head 3 .none
  setField (.ref x) 1 (<- EntryCells.newEntry head (<- frameOf env) .none (rawInt L) .none (<- entryPlaceOf L (head != .none)))) _ E _
 rcases g5 with ⟨_, g5⟩ | ⟨T, oT, ts, g5, hT, hTx, eT, cT, dT, sT⟩
 ·refine wpAny_bind (wpAny_field (s := mk s h' t') g1 g3 g5 ?_)
  rw [if_neg (by decide)]
  exact Jk hs hf (n := n) hA F K hx hL hLd g1 g2 (hct _ g1) g3 g4 E
 ·refine wpAny_bind (wpAny_field (s := mk s h' t') g1 g3 g5 ?_)
  rw [if_pos (show (Value.ref T != Value.none) = true from by simp)]
  obtain ⟨v3, e3⟩ : ∃ v, ts[3]? = some v := ⟨ts[3], Array.getElem?_eq_getElem sT⟩
  refine wpAny_bind (wpAny_field (s := mk s h' t') eT dT e3 ?_)
  by_cases hv : (v3 == rawInt L) = true
  ·rw [if_pos hv]
   exact wpAny_pure ⟨x, h', t', rfl, rfl, K, hx, ⟨oL, es, ep, hL, hLd⟩, hct, o, vs, g1, g2, g3, g4, .inr ⟨T, oT, ts, g5, hT, hTx, eT, cT, dT, sT⟩⟩
  ·rw [if_neg hv]
   refine wpAny_bind (El eT dT sT ?_)
   have KT := Kp.fields (B := B) (·.setIfInBounds 3 Value.none) eT dT cT (Ia F hT)
   have hLT : L ≠ T := fun z => by subst z; rw [eT] at hL; cases hL; rw [dT] at hLd; cases hLd
   exact Jk hs hf (n := n) hA F (K.trans KT (fun b m => by cases m with | head => exact .inr hT | tail _ m => nomatch m) (fun _ m => nomatch m)) hx ((Heap.get?_update_other _ _ (Ne.symm hLT)).trans hL) hLd ((Heap.get?_update_other _ _ hTx).trans g1) g2 (hct _ g1) g3 g4 E
theorem IP {M : Model} {e : Value} {s' : Shared} {fr : Option Addr} (F : Fe B h₀ outer sc L) (x : D0 B h₀ S₀ L s Cs true e s') (E : Value -> Shared -> Prop) :
  wpAny M A (setFlight e fr) (fun _ s'' => D0 B h₀ S₀ L s Cs true e s'') E s' := by
 revert x; refine DK fun x h' t' z0 z1 z2 => ?_; obtain rfl := z0; obtain rfl := z1; revert z2; refine Ju fun K hx z3 hct z4 => ?_; revert z3; refine Gr fun oL es ep hL hLd => ?_; revert z4; refine Eo fun o vs g1 g2 g3 z5 => ?_; revert z5; refine Ak fun g4 g5 => ?_
 rcases g5 with ⟨q, _⟩ | ⟨T, oT, ts, g5, hT, hTx, eT, cT, dT, sT⟩
 ·cases q
 ·unfold setFlight
  refine wpAny_bind (wpAny_field (s := mk s h' t') g1 g3 g5 ?_)
  rw [if_pos (show (Value.ref T != Value.none) = true from by simp)]
  refine El eT dT sT ?_
  generalize (fr.elim Value.none fun f => rawInt f) = v
  have KT := Kp.fields (B := B) (·.setIfInBounds 3 v) eT dT cT (Ia F hT)
  have hLT : L ≠ T := fun z => by subst z; rw [eT] at hL; cases hL; rw [dT] at hLd; cases hLd
  have dT' := Obj.data_mapFields dT (·.setIfInBounds 3 v)
  refine ⟨x, _, t', rfl, rfl, K.trans KT (fun b m => by cases m with | head => exact .inr hT | tail _ m => nomatch m) (fun _ m => nomatch m), hx, ⟨oL, es, ep, (Heap.get?_update_other _ _ (Ne.symm hLT)).trans hL, hLd⟩, fun o' e' => ?_, o, vs, (Heap.get?_update_other _ _ hTx).trans g1, g2, g3, g4,
   .inr ⟨T, _, _, g5, hT, hTx, Heap.get?_update_self _ eT (Obj.isFreed_of_fields dT'), by rw [Obj.cls_mapFields]; exact cT, dT', by simpa using sT⟩⟩
  exact hct o' (by rw [<- e']; exact (Heap.get?_update_other _ _ hTx).symm)
theorem Pl (hs : env.scope = sc) (hf : env.frame = some L) {e : Value} {s' : Shared} {tb : Bool} (hA : Db A (env :: outer) n) (F : Fe B h₀ outer sc L) (x : D0 B h₀ S₀ L s Cs tb e s') (E : Value -> Shared -> Prop) :
  wpAny (model prog w) A (leaving env e) (fun _ s'' => NV B h₀ S₀ s Cs e s'') E s' := by
 unfold leaving
 exact wpAny_bind (wpAny_mono (UV hs hf hA F x E) (fun _ s'' y => wpAny_mono (IP F y E) (fun _ _ z => z.out) fun _ _ z => z) fun _ _ z => z)
theorem W9 {e : Value} {s' : Shared} (F : Fe B h₀ outer sc L) (x : D0 B h₀ S₀ L s Cs true e s') :
  cameBackBy (model prog w) A env (D0 B h₀ S₀ L s Cs false) e s' := by
 have y := x
 revert x; refine DK fun x h' t' z0 z1 z2 => ?_; obtain rfl := z0; obtain rfl := z1; revert z2; refine Ju fun K hx _ hct z3 => ?_; revert z3; refine Eo fun o vs g1 g2 g3 z4 => ?_; revert z4; refine Ak fun g4 g5 => ?_
 rcases g5 with ⟨q, _⟩ | ⟨T, oT, ts, g5, _⟩
 ·cases q
 ·unfold cameBackBy
  show wpAny (model prog w) A (do
   if (<- field (.ref x) 1) == .none then unsupported "frame.own-activation:exception-without-traceback"
   setFlight (.ref x) env.frame) _ _ _
  refine wpAny_bind (wpAny_field (s := mk s h' t') g1 g3 g5 ?_)
  rw [if_neg (show ¬ ((Value.ref T == Value.none) = true) from by simp)]
  exact wpAny_mono (IP F y _) (fun _ _ z => z.any) fun _ _ z => z
theorem Jf (hs : env.scope = sc) (hf : env.frame = some L) {e : Value} {s' : Shared} {tb : Bool} (hA : Db A (env :: outer) n) (F : Fe B h₀ outer sc L) (x : D0 B h₀ S₀ L s Cs tb e s') :
  notedBy (model prog w) A env (cameBackBy (model prog w) A env (D0 B h₀ S₀ L s Cs false)) e s' :=
 wpAny_mono (UV hs hf hA F x _) (fun _ _ y => W9 F y) fun _ _ z => z
end
def Fn (B : Heap) (f : Addr) (name qual : Str) (params : Arguments) (body : List Stmt) (scope : Scope) (dV : Value) : Prop :=
 ∃ oc od osl kV doc pm an cdv ct, B.get? f = some ⟨oc, od, .func (fnOf name qual params body scope dV kV doc pm an cdv ct), osl⟩ /\ B.CodeRec cdv qual
noncomputable def A6 (binds : List (Str × Value)) (rest : List Str) : A9 := binds.map (fun p => (p.1, some p.2)) ++ rest.map (·, none)
theorem LO (p : Str × Option Value) (l : A9) (x : Str) : lk (p :: l) x = if x = p.1 then p.2 else lk l x := by
 unfold lk
 obtain ⟨y, v⟩ := p
 rw [List.lookup_cons]
 by_cases e : x = y
 ·subst e; simp
 ·have : (x == y) = false := by simpa using e
  simp [this, e]
theorem Ix (rest : List Str) (x : Str) : lk (rest.map (·, none)) x = none := by
 induction rest with
 | nil => rfl
 | cons y r ih => rw [List.map_cons, LO, ih]; simp
theorem HJ (rest : List Str) (x : Str) : ∀ binds : List (Str × Value), lk (A6 binds rest) x = binds.lookup x
 | [] => Ix rest x
 | (y, v) :: r => by
  show lk ((y, some v) :: A6 r rest) x = _
  rw [LO, HJ rest x r, List.lookup_cons]
  by_cases e : x = y
  ·subst e; simp
  ·have : (x == y) = false := by simpa using e
   simp [this, e]
theorem HA (x : Str) : ∀ binds : List (Str × Value), (binds.map (·.1)).Nodup -> binds.reverse.lookup x = binds.lookup x
 | [], _ => rfl
 | (y, v) :: r, nd => by
  have nd' := List.nodup_cons.mp nd
  rw [List.reverse_cons, List.lookup_append, HA x r nd'.2, List.lookup_cons, List.lookup_cons]
  by_cases e : x = y
  ·subst e
   have : r.lookup x = none := by
    cases q : r.lookup x with
    | none => rfl
    | some v' =>
     exfalso
     apply nd'.1
     have := List.lookup_eq_some_iff.mp q
     revert this; refine ET fun l₁ l₂ e _ => ?_
     rw [e]; simp
   simp [this]
  ·have : (x == y) = false := by simpa using e
   simp [this]
section
variable {prog : Program} {w : World} {A : Around} {E : Value -> Shared -> Prop} {s : Shared} {h : Heap} {t : Nat}
 {B h₀ : Heap} {S₀ : List Addr} {outer : List Env} {sc : Scope} {L : Addr} {l : A9} {env : Env} {mg mb : Str -> Option Value} {n : Nat}
noncomputable def FK : Flow -> Value
 | .ret v => v
 | _ => .none
theorem Wm (hs : env.scope = sc) (hf : env.frame = some L) {test : Expr} {body : List Stmt} {pos : Pos} {Q : Flow -> Shared -> Prop} {Cs : Value -> Prop} {tb : Bool} (hA : Db A (env :: outer) n) (F : Fe B h₀ outer sc L) (I : Nat -> Shared -> Prop)
  (turn : ∀ m s₁, I m s₁ -> wpAny (model prog w) A (isTrue test env (eval test env)) (fun b s₂ =>
    if b then wpAny (model prog w) A (execs body env) (fun f s₃ => match f with
      | .next | .cont => ∃ m', m' < m /\ I m' s₃
      | .brk => Q .next s₃
      | .ret v => Q (.ret v) s₃) (D0 B h₀ S₀ L s Cs false) s₂
    else Q .next s₂) (D0 B h₀ S₀ L s Cs false) s₁)
  (m : Nat) {s₀ : Shared} (h0 : I m s₀) :
  wpAny (model prog w) A (exec (.While test body [] pos) env) Q (D0 B h₀ S₀ L s Cs false) s₀ := by
 refine wpAny_While (codeAny_whileLoop (R := fun r s' => match r with | .ok f => Q f s' | .error e => cameBackBy (model prog w) A env (D0 B h₀ S₀ L s Cs false) e s') I (fun m s₁ hI => ?_) m h0)
 refine wpAny_mono (turn m s₁ hI) (fun b s₂ h₂ => ?_) (fun e s' x => Jf hs hf hA F x)
 cases b with
 | false => exact wpAny_execs_nil h₂
 | true =>
  refine wpAny_mono h₂ (fun f s₃ h₃ => ?_) (fun e s' x => Jf hs hf hA F x)
  cases f <;> exact h₃
theorem HH (hs : env.scope = sc) (hf : env.frame = some L) {target : Expr} {it : Value} {body : List Stmt} {Q : Flow -> Shared -> Prop} {Cs : Value -> Prop} (hA : Db A (env :: outer) n) (F : Fe B h₀ outer sc L) (N : Nat) (I : Nat -> Shared -> Prop)
  (turn : ∀ i s₁, i < N -> I i s₁ -> wpAny (model prog w) A (pyNext it) (fun ov s₂ => ∃ v, ov = some v /\ wpAny (model prog w) A (letOwnedTupleGo target it v) (fun _ s₃ => wpAny (model prog w) A (assign target env v)
    (fun _ s₄ => wpAny (model prog w) A (execs body env) (fun f s₅ => match f with
      | .next | .cont => I (i + 1) s₅
      | .brk => Q .next s₅
      | .ret v => Q (.ret v) s₅) (D0 B h₀ S₀ L s Cs false) s₄) (D0 B h₀ S₀ L s Cs false) s₃) (D0 B h₀ S₀ L s Cs false) s₂) (fun _ _ => False) s₁)
  (fin : ∀ s₁, I N s₁ -> wpAny (model prog w) A (pyNext it) (fun ov s₂ => ov = none /\ Q .next s₂) (fun _ _ => False) s₁)
  {s₀ : Shared} (h0 : I 0 s₀) :
  wpAny (model prog w) A (runOwn (.forLoop target it body [] env) env) Q (D0 B h₀ S₀ L s Cs false) s₀ := by
 refine wpAny_runOwn (codeAny_loop' (c := .forLoop target it body [] env) rfl (fun m s' => ∃ i, i <= N /\ m = N - i /\ I i s') (fun m s₁ hI => ?_) N ⟨0, Nat.zero_le _, rfl, h0⟩)
 revert hI; refine FR fun i hi z0 hI => ?_; obtain rfl := z0
 show wpAny _ A ((forTurn target it body [] env).onRaise (fun x => do noteFrame x env; theTreesLotGoes x)) _ _ s₁
 refine wpAny_noted ?_
 unfold forTurn
 refine wpAny_bind (wpAny_standAt (wpAny_bind (wpAny_onRaise ?_)))
 by_cases hN : i = N
 ·subst hN
  refine wpAny_mono (fin s₁ hI) (fun ov s₂ h₂ => ?_) (fun _ _ x => x.elim)
  revert h₂; refine Ak fun z0 h₂ => ?_; obtain rfl := z0
  exact wpAny_pure (.inr ⟨rfl, codeAny_block (wpAny_execs_nil h₂)⟩)
 ·refine wpAny_mono (turn i s₁ (by omega) hI) (fun ov s₂ h₂ => ?_) (fun _ _ x => x.elim)
  revert h₂; refine Ah fun v z0 h₂ => ?_; obtain rfl := z0
  refine wpAny_bind (wpAny_mono h₂ (fun _ s₃ h₃ => ?_) (fun e s' x => Jf hs hf hA F x))
  refine wpAny_bind (wpAny_mono h₃ (fun _ s₄ h₄ => ?_) (fun e s' x => Jf hs hf hA F x))
  refine wpAny_bind (wpAny_mono h₄ (fun f s₅ h₅ => ?_) (fun e s' x => Jf hs hf hA F x))
  cases f with
  | next => exact wpAny_pure (.inl ⟨rfl, N - (i + 1), by omega, i + 1, by omega, rfl, h₅⟩)
  | cont => exact wpAny_pure (.inl ⟨rfl, N - (i + 1), by omega, i + 1, by omega, rfl, h₅⟩)
  | brk => exact wpAny_pure h₅
  | ret v => exact wpAny_pure h₅
theorem aO {target iter : Expr} {body : List Stmt} {pos : Pos} {Q : Flow -> Shared -> Prop} {E : Value -> Shared -> Prop} {M : Model} {s : Shared}
  (hs : ∀ x, foldedSetIterable iter env x = pure x)
  (k : wpAny M A (eval iter env) (fun x s₁ => wpAny M A (pyIter x) (fun it s₂ => wpAny M A (runOwn (.forLoop target it body [] env) env) Q E s₂) E s₁) E s) :
  wpAny M A (exec (.For target iter body [] pos) env) Q E s := by
 show wpAny M A (do
  standAt pos
  let x <- foldedSetIterable iter env (<- eval iter env)
  standAt iter.pos
  runOwn (.forLoop target (<- holding [x] (pyIter x)) body [] env) env) Q E s
 refine wpAny_bind (wpAny_standAt (wpAny_bind (wpAny_mono k (fun x s₁ h₁ => ?_) fun _ _ x => x)))
 rw [hs x]
 exact wpAny_bind (wpAny_pure (wpAny_bind (wpAny_standAt (wpAny_bind (wpAny_holding h₁)))))
end
theorem AH {P : Addr -> Prop} : ∀ b ∈ ([] : List Addr), P b := fun _ m => nomatch m
theorem Ac {P : Addr -> Prop} {a : Addr} (h : P a) : ∀ b ∈ [a], P b := fun b m => by cases m with | head => exact h | tail _ m => nomatch m
theorem Ei {P : Addr -> Prop} {a c : Addr} (h : P a) (k : P c) : ∀ b ∈ [a, c], P b := fun b m => by
 cases m with
 | head => exact h
 | tail _ m => cases m with | head => exact k | tail _ m => nomatch m
theorem AD {a : Addr} : a ∉ ([] : List Addr) := fun m => nomatch m
theorem Ar {a b : Addr} (h : a ≠ b) : a ∉ [b] := fun m => by cases m with | head => exact h rfl | tail _ m => nomatch m
theorem Ef {a b c : Addr} (h : a ≠ b) (k : a ≠ c) : a ∉ [b, c] := fun m => by
 cases m with
 | head => exact h rfl
 | tail _ m => cases m with | head => exact k rfl | tail _ m => nomatch m
section
variable {prog : Program} {w : World} {A : Around} {E : Value -> Shared -> Prop} {s : Shared} {h : Heap} {t : Nat}
 {B h₀ : Heap} {S₀ : List Addr} {outer : List Env} {sc : Scope} {L : Addr} {l : A9} {env : Env} {mg mb : Str -> Option Value} {n : Nat} {Cs : Value -> Prop}
theorem Kp.thenBut {S D : List Addr} {h₁ h₂ : Heap} {ias : List Addr} (x : Kp B S D h h₁) (hk : ∀ b o, b ∉ ias -> h₁.get? b = some o -> h₂.get? b = some o) (hn : ∀ b ∈ ias, h.get? b = none /\ B.get? b = none) : Kp B S D h h₂ where
 base := fun e b o q => hk b o (fun m => by rw [(hn b m).2] at q; cases q) (x.base e b o q)
 tup := fun b o vs n e c d => hk b o (fun m => by rw [(hn b m).1] at e; cases e) (x.tup b o vs n e c d)
 kind := fun b o e => Ah (fun o' e' d' => ⟨o', hk b o' (fun m => by rw [(hn b m).1] at e; cases e) e', d'⟩) (x.kind b o e)
 keep := fun b o e n nd => hk b o (fun m => by rw [(hn b m).1] at e; cases e) (x.keep b o e n nd)
 keepD := fun b o es ep e d n => Ap (fun sl e' => ⟨sl, hk b _ (fun m => by rw [(hn b m).1] at e; cases e) e'⟩) (x.keepD b o es ep e d n)
theorem Fx.thenBut {h' : Heap} {ias : List Addr} (F : Fx B h₀ S₀ outer sc L h l) (hk : ∀ b o, b ∉ ias -> h.get? b = some o -> h'.get? b = some o) (hn : ∀ b ∈ ias, h₀.get? b = none /\ B.get? b = none /\ b ≠ L) : Fx B h₀ S₀ outer sc L h' l := by
 refine ⟨?_, F.nm, F.fresh, F.kp.thenBut hk fun b m => ⟨(hn b m).1, (hn b m).2.1⟩, F.base₀, F.fr⟩
 refine Gr (fun o es ep a r => ?_) F.ns
 exact ZT o es ep (hk L o (fun m => (hn L m).2.2 rfl) a) r
structure Wp (prog : Program) (w : World) (A : Around) (s : Shared) (it : Value) (ias fp : List Addr) (N : Nat) (V : Nat -> Value -> Prop) (It : Nat -> Heap -> Prop) : Prop where
 next : ∀ i h t, i < N -> It i h -> wpAny (model prog w) A (pyNext it) (fun ov s₂ => ∃ v h' t', ov = some v /\ s₂ = mk s h' t' /\ V i v /\ It (i + 1) h' /\ ∀ b o, b ∉ ias -> h.get? b = some o -> h'.get? b = some o) (fun _ _ => False) (mk s h t)
 fin : ∀ h t, It N h -> wpAny (model prog w) A (pyNext it) (fun ov s₂ => ∃ h' t', ov = none /\ s₂ = mk s h' t' /\ ∀ b o, b ∉ ias -> h.get? b = some o -> h'.get? b = some o) (fun _ _ => False) (mk s h t)
 keep : ∀ i h h' B S D, It i h -> Kp B S D h h' -> (∀ b ∈ ias, b ∉ S) -> (∀ b ∈ fp, b ∉ S) -> It i h'
theorem EN {h h' : Heap} {it : Addr} {S D : List Addr} {o : Obj} {vs : Array Value} (k : Kp B S D h h') (e : h.get? it = some o) (hd : o.data = .fields vs) (hn : it ∉ S) : h'.get? it = some o :=
 k.keep it o e hn (fun es ep q => by rw [hd] at q; cases q)
theorem U5 {d : Addr} {vs : List Value} {Q : Value -> Shared -> Prop} (hA : A.handled = none) (F : Fx B h₀ S₀ outer sc L h l) (x : Tu h d vs)
  (k : ∀ ia h', Fx B h₀ S₀ outer sc L h' l -> Kp B [] [] h h' -> h.get? ia = none -> (∀ s, Wp prog w A s (.ref ia) [ia] [] vs.length (fun i v => vs[i]? = some v) (fun i h => h.IsTupleIter ia d i /\ Tu h d vs)) -> h'.IsTupleIter ia d 0 /\ Tu h' d vs -> Q (.ref ia) (mk s h' t)) :
  wpAny (model prog w) A (pyIter (.ref d)) Q E (mk s h t) := by
 refine wpAny_pyIter_tuple (s := mk s h t) x.isTuple ?_
 refine k _ _ (F.grow (Kp.push _)) (Kp.push _) (Heap.get?_none_of_le (Nat.le_refl _)) (fun s => ⟨fun i h₁ t₁ hi hI => ?_, fun h₁ t₁ hI => ?_, fun i h₁ h₂ B S D hI K hn _ => ?_⟩) ⟨⟨_, Heap.get?_push_size _ rfl, rfl, rfl⟩, x.kp (B := B) (S := []) (D := []) (Kp.push _)⟩
 ·revert hI; refine Ak fun hit hd => ?_
  have hx : vs.toArray[i]? = some vs[i] := by simp [hi]
  refine wpAny_pyNext_tuple_item (s := mk s h₁ t₁) hit hd.isTuple hx fun h' hit' hs => ?_
  refine JS _ h' t₁ rfl rfl ⟨by simp [hi], ⟨hit', ?_⟩, fun b o hb e => (hs.2 b fun q => hb (q ▸ .head _)).trans e⟩
  refine Ap (fun n e => ?_) <| id hd
  revert hit; refine FR fun o e' c' _ => ?_
  have e2 : h₁.get? h.objs.size = some o := e'
  have hne : d ≠ h.objs.size := fun q => by rw [q, e2] at e; cases e; exact absurd (show Value.type "tuple" = Value.type "tuple_iterator" from c') (by decide)
  exact ⟨n, (hs.2 d hne).trans e⟩
 ·revert hI; refine Ak fun hit hd => ?_
  exact wpAny_pyNext_tuple_end (s := mk s h₁ t₁) hA hit hd.isTuple (by simp) fun h' hs => ⟨h', t₁, rfl, rfl, fun b o hb e => hs b o (fun q => hb (q ▸ .head _)) e⟩
 ·revert hI; refine Ak fun z0 hd => ?_; revert z0; refine FR fun o e c dd => ?_
  exact ⟨⟨o, EN K e dd (hn _ (.head _)), c, dd⟩, hd.kp K⟩
theorem V2 {d : Addr} {vs : List Value} {Q : Value -> Shared -> Prop} (hA : A.handled = none) (F : Fx B h₀ S₀ outer sc L h l) (x : Li h d vs)
  (k : ∀ ia h', Fx B h₀ S₀ outer sc L h' l -> Kp B [] [] h h' -> h.get? ia = none -> (∀ s, Wp prog w A s (.ref ia) [ia] [d] vs.length (fun i v => vs[i]? = some v) (fun i h => h.IsListIter ia d i /\ Li h d vs)) -> h'.IsListIter ia d 0 /\ Li h' d vs -> Q (.ref ia) (mk s h' t)) :
  wpAny (model prog w) A (pyIter (.ref d)) Q E (mk s h t) := by
 refine wpAny_pyIter_list (s := mk s h t) x.isList ?_
 refine k _ _ (F.grow (Kp.push _)) (Kp.push _) (Heap.get?_none_of_le (Nat.le_refl _)) (fun s => ⟨fun i h₁ t₁ hi hI => ?_, fun h₁ t₁ hI => ?_, fun i h₁ h₂ B S D hI K hn hf => ?_⟩) ⟨⟨_, Heap.get?_push_size _ rfl, rfl, rfl⟩, x.kp (B := B) (S := []) (D := []) (Kp.push _) AD⟩
 ·revert hI; refine Ak fun hit hd => ?_
  have hx : vs.toArray[i]? = some vs[i] := by simp [hi]
  refine wpAny_pyNext_list_item (s := mk s h₁ t₁) hit hd.isList hx fun h' hit' hs => ?_
  refine JS _ h' t₁ rfl rfl ⟨by simp [hi], ⟨hit', ?_⟩, fun b o hb e => (hs.2 b fun q => hb (q ▸ .head _)).trans e⟩
  refine Ap (fun n e => ?_) <| id hd
  revert hit; refine FR fun o e' c' _ => ?_
  have e2 : h₁.get? h.objs.size = some o := e'
  have hne : d ≠ h.objs.size := fun q => by rw [q, e2] at e; cases e; exact absurd (show Value.type "list" = Value.type "list_iterator" from c') (by decide)
  exact ⟨n, (hs.2 d hne).trans e⟩
 ·revert hI; refine Ak fun hit hd => ?_
  exact wpAny_pyNext_list_end (s := mk s h₁ t₁) hA hit hd.isList (by simp) fun h' hs => ⟨h', t₁, rfl, rfl, fun b o hb e => hs b o (fun q => hb (q ▸ .head _)) e⟩
 ·revert hI; refine Ak fun z0 hd => ?_; revert z0; refine FR fun o e c dd => ?_
  exact ⟨⟨o, EN K e dd (hn _ (.head _)), c, dd⟩, hd.kp K (hf _ (.head _))⟩
def L9 (h : Heap) (r : Addr) (a b : Int) : Prop := ∃ t u v, IsRange h r a b 1 t u v
theorem Zl {x : Int} {u : Tok} {Q : Value -> Shared -> Prop} (F : Fx B h₀ S₀ outer sc L h l)
  (k : ∀ d h' t', Fx B h₀ S₀ outer sc L h' l -> Kp B [] [] h h' -> L9 h' d 0 x -> Q (.ref d) (mk s h' t')) :
  wpAny (model prog w) A (call (.type "range") [.int x u]) Q E (mk s h t) :=
 call_range_1 (s := mk s h t) (k _ _ _ (F.grow (Kp.push _)) (Kp.push _) ⟨_, _, _, Heap.get?_push_size _ rfl⟩)
theorem bp {x y : Int} {u v : Tok} {Q : Value -> Shared -> Prop} (F : Fx B h₀ S₀ outer sc L h l)
  (k : ∀ d h' t', Fx B h₀ S₀ outer sc L h' l -> Kp B [] [] h h' -> L9 h' d x y -> Q (.ref d) (mk s h' t')) :
  wpAny (model prog w) A (call (.type "range") [.int x u, .int y v]) Q E (mk s h t) :=
 call_range_2 (s := mk s h t) (k _ _ _ (F.grow (Kp.push _)) (Kp.push _) ⟨_, _, _, Heap.get?_push_size _ rfl⟩)
theorem U0 {d : Addr} {x y : Int} {Q : Value -> Shared -> Prop} (hA : A.handled = none) (F : Fx B h₀ S₀ outer sc L h l) (r : L9 h d x y) (hx : -1000000 <= x /\ x <= 1000000) (hy : -1000000 <= y /\ y <= 1000000)
  (k : ∀ ia h', Fx B h₀ S₀ outer sc L h' l -> Kp B [] [] h h' -> h.get? ia = none -> (∀ s, Wp prog w A s (.ref ia) [ia] [] (y - x).toNat (fun i v => ∃ tk, v = .int (x + i) tk) (fun i h => IsRangeIter h ia (x + i) ((y - x).toNat - i) 1)) -> IsRangeIter h' ia (x + (0 : Nat)) ((y - x).toNat - (0 : Nat)) 1 -> Q (.ref ia) (mk s h' t)) :
  wpAny (model prog w) A (pyIter (.ref d)) Q E (mk s h t) := by
 revert r; refine UG fun t1 t2 t3 r => ?_
 have hsz : Builtin.Range.rangeSize x y 1 = ((y - x).toNat : Int) := by
  rw [rangeSize_one]
  split <;> omega
 refine wpAny_pyIter_range (s := mk s h t) r ?_ ?_
 ·exact small_one (by omega) (by omega) (by omega) (by omega)
 refine k _ _ (F.grow (Kp.push _)) (Kp.push _) (Heap.get?_none_of_le (Nat.le_refl _)) (fun s => ⟨fun i h₁ t₁ hi hI => ?_, fun h₁ t₁ hI => ?_, fun i h₁ h₂ B S D hI K hn hf => ?_⟩) ?_
 ·refine wpAny_pyNext_range_item (s := mk s h₁ t₁) hI (by omega) fun h' hit' hs => ?_
  refine JS _ h' _ rfl rfl ⟨⟨_, rfl⟩, ?_, fun b o hb e => (hs.2 b fun q => hb (q ▸ .head _)).trans e⟩
  have e1 : x + ((i + 1 : Nat) : Int) = x + i + 1 := by omega
  have e2 : (((y - x).toNat : Int) - ((i + 1 : Nat) : Int)) = (y - x).toNat - i - 1 := by omega
  rw [e1, e2]; exact hit'
 ·exact wpAny_pyNext_range_end (s := mk s h₁ t₁) hA hI (by omega) fun h' hs => ⟨h', t₁, rfl, rfl, fun b o hb e => hs b o (fun q => hb (q ▸ .head _)) e⟩
 ·exact EN K hI rfl (hn _ (.head _))
 ·have e := Heap.get?_push_size h (o := { cls := .type "range_iterator", data := .fields #[rawInt x, rawInt (Builtin.Range.rangeSize x y 1), rawInt 1] }) rfl
  rw [hsz] at e ⊢
  have e1 : x + ((0 : Nat) : Int) = x := by omega
  have e2 : (((y - x).toNat : Int) - ((0 : Nat) : Int)) = (y - x).toNat := by omega
  rw [e1, e2]
  exact e
end
def Ct (prog : Program) (w : World) (B : Heap) (n : Nat) (f : Value) (args : List Value) (S : List Addr) (h : Heap) (R : Value -> Heap -> Prop) (Cs : Value -> Prop) : Prop :=
 ∀ (A : Around) (outer : List Env) (s : Shared) (t : Nat), Db A outer n -> B.StaysIn h -> Dn B outer h ->
  wpAny (model prog w) A (call f args) (fun v s' => ∃ h' t', s' = mk s h' t' /\ Kp B S [] h h' /\ R v h') (NV B h S s Cs) (mk s h t)
def BW : Value -> Prop := fun _ => False
def Vx (B : Heap) (S : List Addr) (h : Heap) (s : Shared) (R : Value -> Heap -> Prop) (v : Value) (s' : Shared) : Prop := ∃ h' t', s' = mk s h' t' /\ Kp B S [] h h' /\ R v h'
section
variable {prog : Program} {w : World} {A : Around} {E : Value -> Shared -> Prop} {s : Shared} {h : Heap} {t : Nat}
 {B h₀ : Heap} {S₀ : List Addr} {outer : List Env} {sc : Scope} {L : Addr} {l : A9} {env : Env} {mg mb : Str -> Option Value} {n : Nat} {Cs : Value -> Prop}
theorem Fx.fin {S : List Addr} {R : Value -> Heap -> Prop} {v : Value} (F : Fx B h S outer sc L h₀ l) (r : R v h₀) : Vx B S h s R v (GP.mk s h₀ t) := ⟨_, _, rfl, F.kp, r⟩
theorem Kp.dictOk {B h h' : Heap} {S D : List Addr} (K : Kp B S D h h') {L : Addr} (x : ∃ o es ep, h.get? L = some o /\ o.data = .dict es ep) : ∃ o es ep, h'.get? L = some o /\ o.data = .dict es ep := by
 revert x; refine Gr fun o es ep a b => ?_
 refine Ah (fun o' a' b' => ?_) <| K.kind L o a
 refine HM (fun es' ep' c => ?_) <| b' es ep b
 exact ZT o' es' ep' a' c
theorem YO {S : List Addr} {Cs Cs' : Value -> Prop} {e : Value} {s' : Shared} (F : Fx B h₀ S₀ outer sc L h l) (hS : ∀ b ∈ S, b ∈ S₀ \/ h₀.get? b = none) (kE : ∀ c, Cs c -> Cs' c) (x : NV B h S s Cs e s') : D0 B h₀ S₀ L s Cs' false e s' := by
 revert x; refine DK fun x h' t' z0 z1 z2 => ?_; obtain rfl := z0; obtain rfl := z1; revert z2; refine I5 fun K hx hct z3 => ?_; revert z3; refine Eo fun o vs g1 g2 g3 z4 => ?_; revert z4; refine Ak fun g4 g5 => ?_
 refine JS x h' t' rfl rfl ⟨F.kp.trans K hS (fun _ m => nomatch m), F.kp.alive hx, ?_, hct, o, vs, g1, kE _ g2, g3, g4, ?_⟩
 ·refine Gr (fun o es ep a b => ?_) <| Heap.Ns.isDict F.ns
  exact K.dictOk ⟨o, es, ep, a, b⟩
 ·rcases g5 with ⟨q, _⟩ | ⟨T, oT, ts, a, b, c⟩
  ·cases q
  ·exact .inr ⟨T, oT, ts, a, F.kp.alive b, c⟩
theorem Gg {α : Type} {M : Model} {x : Sem α} {Q : α -> Shared -> Prop} {s : Shared} (k : ∀ Q' E', Q = Q' -> E = E' -> wpAny M A x Q' E' s) : wpAny M A x Q E s := k Q E rfl rfl
theorem Ii {S : List Addr} {R : Value -> Heap -> Prop} {v : Value} {Q1 : Flow -> Shared -> Prop} (hQ : (fun fl s' => Vx B S h₀ s R (FK fl) s') = Q1) (F : Fx B h₀ S outer sc L h l) (r : R v h) : Q1 (.ret v) (mk s h t) := hQ ▸ Fx.fin F r
theorem YJ {S : List Addr} {R : Value -> Heap -> Prop} {Q1 : Flow -> Shared -> Prop} (hQ : (fun fl s' => Vx B S h₀ s R (FK fl) s') = Q1) (F : Fx B h₀ S outer sc L h l) (r : R .none h) : Q1 .next (mk s h t) := hQ ▸ Fx.fin F r
theorem I9 {f : Value} {args : List Value} {S : List Addr} {R : Value -> Heap -> Prop} {Cs Cs' : Value -> Prop} {Q : Value -> Shared -> Prop} {m : Nat} (c : Ct prog w B m f args S h R Cs) (he : Ax env sc L) (hf : env.frame = some L) (hA : Db A (env :: outer) n) (F : Fx B h₀ S₀ outer sc L h l)
  (hn : m <= n) (hS : ∀ b ∈ S, b ∈ S₀ \/ h₀.get? b = none) (kE : ∀ c, Cs c -> Cs' c)
  (k : ∀ v h' t', Fx B h₀ S₀ outer sc L h' l -> Kp B S [] h h' -> R v h' -> Q v (mk s h' t')) (hE : D0 B h₀ S₀ L s Cs' false = E := by first | rfl | assumption) :
  wpAny (model prog w) A (call f args) Q E (mk s h t) := by
 subst hE
 refine Gr (fun o es ep a b => ?_) <| Heap.Ns.isDict F.ns
 refine wpAny_mono (c A (env :: outer) s t (hA.le hn) F.base (Lg he.scope hf F.fe F.kp a b)) (fun v s' x => ?_) (fun e s' x => YO F hS kE x)
 revert x; refine CY fun h' t' z0 K r => ?_; obtain rfl := z0
 exact k v h' t' (F.step K hS) K r
theorem Ky {f : Value} {args : List Value} {S : List Addr} {R : Value -> Heap -> Prop} {Cs Cs' : Value -> Prop} {Q : Value -> Shared -> Prop} {m : Nat} (c : Ct prog w B m f args S h R Cs) (he : Ax env sc L) (hf : env.frame = some L) (hA : Db A (env :: outer) n) (F : Fx B h₀ S₀ outer sc L h l)
  (hn : m <= n) (hS : ∀ b ∈ S, b ∈ S₀ \/ h₀.get? b = none) (kE : ∀ c, Cs c -> Cs' c)
  (k : ∀ Q', Q = Q' -> ∀ v h' t', Fx B h₀ S₀ outer sc L h' l -> Kp B S [] h h' -> R v h' -> Q' v (mk s h' t')) (hE : D0 B h₀ S₀ L s Cs' false = E := by first | rfl | assumption) :
  wpAny (model prog w) A (call f args) Q E (mk s h t) := I9 c he hf hA F hn hS kE (k Q rfl) hE
theorem Ct.mono {f : Value} {args : List Value} {S : List Addr} {R R' : Value -> Heap -> Prop} {Cs Cs' : Value -> Prop} {m : Nat} (c : Ct prog w B n f args S h R Cs) (hn : n <= m) (hR : ∀ v h', R v h' -> R' v h') (hC : ∀ c, Cs c -> Cs' c) : Ct prog w B m f args S h R' Cs' := fun A outer s t hA b fr =>
 wpAny_mono (c A outer s t (hA.le hn) b fr) (fun v s' x => CY (fun h' t' a b c => ⟨h', t', a, b, hR v h' c⟩) x) fun e s' x => by
  revert x; refine DK fun x h' t' a b z0 => ?_; revert z0; refine I5 fun c d e z1 => ?_; revert z1; refine CY fun o vs g1 g2 g3 => ?_
  exact JS x h' t' a b ⟨c, d, e, o, vs, g1, hC _ g2, g3⟩
theorem FF (names : List Str) (h : l.map (·.1) = names) (hk : (decide names.Nodup && names.all (fun x => sc.names.lookup x == some .local)) = true) (kd : sc.kind = .function) : Nm sc l := by
 subst h
 rw [Bool.and_eq_true] at hk
 refine ⟨of_decide_eq_true hk.1, fun x hx => ?_, kd⟩
 have := List.all_eq_true.mp hk.2 x hx
 revert this
 cases sc.names.lookup x with
 | none => intro q; cases q
 | some k => cases k <;> intro q <;> first | rfl | exact absurd q (by decide)
def QD (M : Model) (A : Around) (env : Env) (rest : List Stmt) (Q : Flow -> Shared -> Prop) (E : Value -> Shared -> Prop) : Flow -> Shared -> Prop
 | .next, s => wpAny M A (execs rest env) Q E s
 | f, s => Q f s
section
variable {M : Model} {Q : Flow -> Shared -> Prop} {s : Shared} {rest : List Stmt} {pos p : Pos}
theorem Fg (h : wpAny M A (execs rest env) Q E s) : QD M A env rest Q E .next s := h
theorem Y8 {v : Value} (h : Q (.ret v) s) : QD M A env rest Q E (.ret v) s := h
theorem Dm (h : Q .next s) : wpAny M A (execs [] env) Q E s := wpAny_execs_nil h
theorem SK {x : Str} {value : Expr} (h : wpAny M A (eval value env) (fun v s₁ => wpAny M A (storeName env x v) (fun _ s₂ => wpAny M A (execs rest env) Q E s₂) E s₁) E s)
  (hs : swapsWith value (some (.Name x p)) pos.line env = pure false := by rfl) : wpAny M A (execs (.Assign [.Name x p] value pos :: rest) env) Q E s :=
 wpAny_execs_cons (wpAny_Assign_Name h hs)
theorem aR {x : Str} {op : Operator} {value : Expr} (h : wpAny M A (loadName env x) (fun old s₁ => wpAny M A (eval value env) (fun v s₂ => wpAny M A (inplaceOp op old v)
   (fun r s₃ => wpAny M A (storeName env x r) (fun _ s₄ => wpAny M A (execs rest env) Q E s₄) E s₃) E s₂) E s₁) E s) : wpAny M A (execs (.AugAssign (.Name x p) op value pos :: rest) env) Q E s :=
 wpAny_execs_cons (wpAny_AugAssign_Name h)
theorem GI {e : Expr} (h : wpAny M A (eval e env) (fun v s₁ => Q (.ret v) s₁) E s) : wpAny M A (execs (.Return (some e) pos :: rest) env) Q E s := wpAny_execs_cons (wpAny_Return_some h)
theorem QZ {test : Expr} {body orelse : List Stmt} (h : wpAny M A (isTrue test env (eval test env)) (fun b s₁ => wpAny M A (execs (if b then body else orelse) env) (QD M A env rest Q E) E s₁) E s) :
  wpAny M A (execs (.If test body orelse pos :: rest) env) Q E s := by
 refine wpAny_execs_cons (wpAny_If (wpAny_mono h (fun b s₁ h₁ => ?_) fun _ _ x => x))
 cases b
 ·refine wpAny_mono h₁ (fun f s₂ h₂ => ?_) fun _ _ x => x
  cases f <;> exact h₂
 ·refine wpAny_mono h₁ (fun f s₂ h₂ => ?_) fun _ _ x => x
  cases f <;> exact h₂
theorem ZN {e : Expr} (h : wpAny (model prog w) A (eval e env) (fun _ s₁ => wpAny (model prog w) A (execs rest env) Q E s₁) E s)
  (hi : interactive env = false := by rfl) (hs : swapsWith e none pos.line env = pure false := by rfl) : wpAny (model prog w) A (execs (.Expr e pos :: rest) env) Q E s :=
 wpAny_execs_cons (wpAny_Expr_any h hi hs)
theorem TK {st : Stmt} (h : wpAny M A (exec st env) (fun f s₁ => f = .next /\ wpAny M A (execs rest env) Q E s₁) E s) : wpAny M A (execs (st :: rest) env) Q E s := by
 refine wpAny_execs_cons (wpAny_mono h (fun f s₁ h₁ => ?_) fun _ _ x => x)
 revert h₁; refine Ak fun z0 h₁ => ?_; obtain rfl := z0
 exact h₁
theorem Qz {st : Stmt} (h : wpAny M A (exec st env) (QD M A env rest Q E) E s) : wpAny M A (execs (st :: rest) env) Q E s := by
 refine wpAny_execs_cons (wpAny_mono h (fun f s₁ h₁ => ?_) fun _ _ x => x)
 cases f <;> exact h₁
end
theorem Yq {K : Frag} {pos : Pos} {f : Value} {e : Expr} {rest : List Expr} {M : Model} {Q : Value -> Shared -> Prop} {s : Shared} (X : K.In B) (hk : keepIn K f = true)
  (h : wpAny M A (spliced (backTo pos (starEach (e :: rest) env))) (fun vs s₁ => B.StaysIn s₁.heap /\ wpAny M A (call f vs) Q E s₁) E s)
  (he : starEach (e :: rest) env = (false, eval e env) :: starEach rest env := by rfl) (hplain : (backTo pos (starEach rest env)).any (·.1) = false := by rfl) :
  wpAny M A (callWith pos f [] (backTo pos (starEach (e :: rest) env)) []) Q E s :=
 callWith_K X hk (wpAny_mono h (fun vs s₁ x => ⟨X.keeps x.1, x.2⟩) fun _ _ x => x) he hplain
theorem PV {p : Prop} [Decidable p] {X Y : Prop} (a : p -> X) (b : ¬ p -> Y) : if decide p = true then X else Y := by
 by_cases h : p
 ·rw [if_pos (by simpa using h)]; exact a h
 ·rw [if_neg (by simpa using h)]; exact b h
end
noncomputable def Bl : List Stmt -> Nat -> Stmt
 | a :: _, 0 => a
 | _ :: l, n + 1 => Bl l n
 | [], _ => .Pass ⟨0, 0, 0, 0⟩
noncomputable def AB : Stmt -> List Stmt
 | .FunctionDef _ _ b _ _ _ _ _ _ _ => b
 | .ClassDef _ _ _ b _ _ _ _ _ _ _ => b
 | _ => []
noncomputable def Be : Stmt -> Arguments
 | .FunctionDef _ a _ _ _ _ _ _ _ _ => a
 | _ => { posonlyargs := [], args := [], vararg := none, kwonlyargs := [], kw_defaults := [], kwarg := none, defaults := [] }
noncomputable def AM : Stmt -> Scope
 | .FunctionDef _ _ _ _ _ _ s _ _ _ => s
 | _ => { kind := .module, names := [], isGenerator := false, isCoroutine := false }
noncomputable def st (i : Nat) : Stmt := Bl PySem.Challenge.pw_rg0154_01.main.body i
noncomputable def Bh (i j : Nat) : Stmt := Bl (AB (st i)) j
section
variable {prog : Program} {w : World} {A : Around} {E : Value -> Shared -> Prop} {s : Shared} {h : Heap} {t : Nat}
 {B h₀ : Heap} {S₀ : List Addr} {outer : List Env} {sc : Scope} {L : Addr} {l : A9} {env : Env} {mg mb : Str -> Option Value} {n : Nat}
theorem Aq {x : Str} {p : Pos} {v : Value} {Q : Value -> Shared -> Prop} (G : Gb B mg mb) (he : Ax env sc L) (F : Fx B h₀ S₀ outer sc L h l) (hx : sc.names.lookup x = some .globalImplicit) (hv : mg x = none /\ mb x = some v) (k : Q v (mk s h t)) (hd : (x == ("__debug__" : Str)) = false := by decide +kernel) :
  wpAny (model prog w) A (eval (.Name x p) env) Q E (mk s h t) := Yv G he F hx hv.1 hv.2 k hd
theorem XJ {e : Expr} {pos : Pos} {M : Model} {Q : Value -> Shared -> Prop} {s : Shared} (h : wpAny M A (eval e env) (fun v s₁ => wpAny M A (truthy v) (fun b s₂ => Q (.bool (!b)) s₂) E s₁) E s) : wpAny M A (eval (.UnaryOp .Not e pos) env) Q E s :=
 UnaryOp_ (wpAny_mono h (fun v s₁ x => not_value x) fun _ _ x => x)
theorem Zu {x y z : Expr} {pos : Pos} {M : Model} {Q : Value -> Shared -> Prop} {s : Shared}
  (h : wpAny M A (eval x env) (fun v s₁ => wpAny M A (truthy v) (fun t s₂ => if t then wpAny M A (eval y env) (fun v s₃ => wpAny M A (truthy v) (fun t s₄ => if t then wpAny M A (eval z env) Q E s₄ else Q v s₄) E s₃) E s₂ else Q v s₂) E s₁) E s) :
  wpAny M A (eval (.BoolOp .And [x, y, z] pos) env) Q E s := by
 show wpAny M A (do
  let v <- eval x env
  standAt pos
  let t <- holding [v] (truthy v)
  match BoolOp.And, t with
  | .And, false | .Or, true => pure v
  | _, _ => boolOp pos .And [eval y env, eval z env]) Q E s
 refine wpAny_bind (wpAny_mono h (fun v s₁ h₁ => wpAny_bind (wpAny_standAt (wpAny_bind (wpAny_holding (wpAny_mono h₁ (fun t s₂ h₂ => ?_) fun _ _ x => x))))) fun _ _ x => x)
 cases t with
 | false => exact wpAny_pure h₂
 | true =>
  show wpAny M A (do
   let v <- eval y env
   standAt pos
   let t <- holding [v] (truthy v)
   match BoolOp.And, t with
   | .And, false | .Or, true => pure v
   | _, _ => boolOp pos .And [eval z env]) Q E s₂
  refine wpAny_bind (wpAny_mono h₂ (fun v s₁ h₁ => wpAny_bind (wpAny_standAt (wpAny_bind (wpAny_holding (wpAny_mono h₁ (fun t s₂ h₂ => ?_) fun _ _ x => x))))) fun _ _ x => x)
  cases t with
  | false => exact wpAny_pure h₂
  | true => exact h₂
theorem Ay {func : Expr} {args : List Expr} {pos : Pos} {M : Model} {s : Shared} {Q : Value -> Shared -> Prop}
  (he : eval (.Call func args [] pos) env = (do callWith pos (<- eval func env) [] (backTo pos (starEach args env)) (backToKw pos (keywordEach [] env))))
  (h : wpAny M A (eval func env) (fun f s₁ => wpAny M A (callWith pos f [] (backTo pos (starEach args env)) []) Q E s₁) E s) : wpAny M A (eval (.Call func args [] pos) env) Q E s := Call_ h he
theorem AW {e : Expr} {rest : List Expr} {pos : Pos} {M : Model} {s : Shared} {Q : List Value -> Shared -> Prop} (he : starEach (e :: rest) env = (false, eval e env) :: starEach rest env)
  (h : wpAny M A (eval e env) (fun v s₁ => wpAny M A (spliced (backTo pos (starEach rest env))) (fun vs s₂ => Q (v :: vs) s₂) E s₁) E s) : wpAny M A (spliced (backTo pos (starEach (e :: rest) env))) Q E s := args_cons h he
theorem jK {K : Frag} {pos : Pos} {f : Value} {e : Expr} {rest : List Expr} {M : Model} {Q : Value -> Shared -> Prop} {s : Shared} (X : K.In B) (hk : keepIn K f = true)
  (he : starEach (e :: rest) env = (false, eval e env) :: starEach rest env) (hplain : (backTo pos (starEach rest env)).any (·.1) = false)
  (h : wpAny M A (spliced (backTo pos (starEach (e :: rest) env))) (fun vs s₁ => B.StaysIn s₁.heap /\ wpAny M A (call f vs) Q E s₁) E s) :
  wpAny M A (callWith pos f [] (backTo pos (starEach (e :: rest) env)) []) Q E s := Yq X hk h he hplain
theorem IQ {pos : Pos} {id : String} {a : Value} {e : Expr} {rest : List Expr} {M : Model} {s : Shared} {Q : Value -> Shared -> Prop}
  (he : starEach (e :: rest) env = (false, eval e env) :: starEach rest env) (hplain : (backTo pos (starEach rest env)).any (·.1) = false)
  (h : wpAny M A (spliced (backTo pos (starEach (e :: rest) env))) (fun vs s₁ => wpAny M A (call (.builtin id) (a :: vs)) Q E s₁) E s) :
  wpAny M A (callWith pos (.builtin id) [a] (backTo pos (starEach (e :: rest) env)) []) Q E s := callWith_method1 h he hplain
theorem WP {pos : Pos} {id : String} {a : Value} {M : Model} {s : Shared} {Q : Value -> Shared -> Prop} (h : wpAny M A (call (.builtin id) [a]) Q E s) :
  wpAny M A (callWith pos (.builtin id) [a] (backTo pos (starEach [] env)) []) Q E s := callWith_method0 h
theorem I4 {pos : Pos} {id : String} {e : Expr} {rest : List Expr} {M : Model} {s : Shared} {Q : Value -> Shared -> Prop}
  (he : starEach (e :: rest) env = (false, eval e env) :: starEach rest env) (hplain : (backTo pos (starEach rest env)).any (·.1) = false)
  (h : wpAny M A (spliced (backTo pos (starEach (e :: rest) env))) (fun vs s₁ => wpAny M A (call (.builtin id) vs) Q E s₁) E s) :
  wpAny M A (callWith pos (.builtin id) [] (backTo pos (starEach (e :: rest) env)) []) Q E s := PyProof.Rows.callWith_builtin1 h he hplain
theorem Mw {pos : Pos} {T : String} {e : Expr} {rest : List Expr} {M : Model} {s : Shared} {Q : Value -> Shared -> Prop}
  (he : starEach (e :: rest) env = (false, eval e env) :: starEach rest env) (hplain : (backTo pos (starEach rest env)).any (·.1) = false)
  (h : wpAny M A (spliced (backTo pos (starEach (e :: rest) env))) (fun vs s₁ => wpAny M A (call (.type T) vs) Q E s₁) E s) :
  wpAny M A (callWith pos (.type T) [] (backTo pos (starEach (e :: rest) env)) []) Q E s := PySem.Pv.callWith_type1 h he hplain
theorem Y1 {o : Expr} {name : Str} {apos pos : Pos} {args : List Expr} {pl : Sem Bool} {M : Model} {s : Shared} {Q : Value -> Shared -> Prop}
  (he : eval (.Call (.Attribute o name apos) args [] pos) env = (do
   let ov <- eval o env
   standAt apos.atName
   let (f, first) <- holding [ov] (getMethod ov name pl)
   callWith pos f first (backTo pos (starEach args env)) []))
  (h : wpAny M A (eval o env) (fun ov s₁ => wpAny M A (getMethod ov name pl) (fun fx s₂ => match fx with | (f, first) => wpAny M A (callWith pos f first (backTo pos (starEach args env)) []) Q E s₂) E s₁) E s) :
  wpAny M A (eval (.Call (.Attribute o name apos) args [] pos) env) Q E s := MethodCall_ h he
theorem Ce {x : Str} {value : Expr} {rest : List Stmt} {pos p : Pos} {M : Model} {s : Shared} {Q : Flow -> Shared -> Prop} (hs : swapsWith value (some (.Name x p)) pos.line env = pure false)
  (h : wpAny M A (eval value env) (fun v s₁ => wpAny M A (storeName env x v) (fun _ s₂ => wpAny M A (execs rest env) Q E s₂) E s₁) E s) : wpAny M A (execs (.Assign [.Name x p] value pos :: rest) env) Q E s := SK h hs
theorem G9 {e : Expr} {whole : Sem Value} {M : Model} {s : Shared} {Q : Bool -> Shared -> Prop} (he : isTrue e env whole = (do let v <- whole; standAt e.pos; holding [v] (truthy v)))
  (h : wpAny M A whole (fun v s₁ => wpAny M A (truthy v) Q E s₁) E s) : wpAny M A (isTrue e env whole) Q E s := isTrue_plain h he
theorem YX {pos : Pos} {a : Value} {op : CmpOp} {r : Sem Value} {M : Model} {s : Shared} {Q : Value -> Shared -> Prop}
  (h : wpAny M A r (fun b s₁ => wpAny M A (compareOp op a b) Q E s₁) E s) : wpAny M A (compareChain pos a [op] (r :: evalEach [] env)) Q E s := chain_last h
theorem XQ {pos : Pos} {a : Value} {op : CmpOp} {r : Sem Value} {M : Model} {s : Shared} {Q : Bool -> Shared -> Prop}
  (h : wpAny M A r (fun b s₁ => wpAny M A (compareOp op a b) (fun c s₂ => wpAny M A (truthy c) Q E s₂) E s₁) E s) : wpAny M A (testChain pos a [op] (r :: evalEach [] env)) Q E s := test_last h
theorem bg {X Y : Prop} (x : X) : if true = true then X else Y := x
theorem be {X Y : Prop} (y : Y) : if false = true then X else Y := y
theorem Rh {X Y : Prop} (y : Y) : if (!true) = true then X else Y := y
theorem ah {X Y : Prop} (x : X) : if (!false) = true then X else Y := x
theorem Li.neF {a b : Addr} {vs : List Value} (x : Li h a vs) (e : ∃ o vs, h.get? b = some o /\ o.data = .fields vs) : a ≠ b := fun q => by
 revert x; refine Ap fun n e' => ?_
 revert e; refine ET fun o us c d => ?_
 rw [q, c] at e'; cases e'; cases d
end
section
variable {prog : Program} {w : World} {A : Around} {E : Value -> Shared -> Prop} {s : Shared} {h : Heap} {t : Nat}
 {B h₀ : Heap} {S₀ : List Addr} {outer : List Env} {sc : Scope} {L : Addr} {l : A9} {env : Env} {mg mb : Str -> Option Value} {n : Nat} {Cs : Value -> Prop}
def GH (h : Heap) (b : Addr) : Prop := ∃ o vs, h.get? b = some o /\ o.data = .fields vs
theorem C7 {ia : Addr} {h h' : Heap} (f : GH h ia) (hk : ∀ b o, b ∉ [ia] -> h.get? b = some o -> h'.get? b = some o) : Kw [ia] [] h h' := by
 revert f; refine ET fun oi vi ei di => ?_
 have ne : ∀ {b o}, h.get? b = some o -> (∀ vs, o.data ≠ .fields vs) -> b ∉ [ia] := fun {b o} e q m => by
  cases m with
  | head => rw [ei] at e; cases e; exact q _ di
  | tail _ m => nomatch m
 exact ⟨fun b o vs n e _ d => hk b o (ne e fun vs q => by rw [d] at q; cases q) e, fun b o e n _ => hk b o n e, fun b o es ep e d _ => ⟨o.slots, hk b o (ne e fun vs q => by rw [d] at q; cases q) e⟩⟩
theorem Kw.trans {S D S' D' : List Addr} {h h' h'' : Heap} (x : Kw S D h h') (y : Kw S' D' h' h'') (hS : ∀ b ∈ S', b ∈ S) (hS' : ∀ b ∈ S, b ∈ S' \/ True) (hD : ∀ b ∈ D', b ∈ D) : Kw S D h h'' where
 tup := fun b o vs n e c d => y.tup b o vs n (x.tup b o vs n e c d) c d
 keep := fun b o e n nd => y.keep b o (x.keep b o e n nd) (fun m => n (hS b m)) nd
 keepD := fun b o es ep e d n => by
  refine Ap (fun sl e' => ?_) <| x.keepD b o es ep e d n
  refine Ap (fun sl' e'' => ?_) <| y.keepD b _ es ep e' d (fun m => n (hD b m))
  exact ⟨sl', e''⟩
theorem Kw.mono {S D S' D' : List Addr} {h h' : Heap} (x : Kw S D h h') (hS : ∀ b ∈ S, b ∈ S') (hD : ∀ b ∈ D, b ∈ D') : Kw S' D' h h' :=
 ⟨x.tup, fun b o e n nd => x.keep b o e (fun m => n (hS b m)) nd, fun b o es ep e d n => x.keepD b o es ep e d (fun m => n (hD b m))⟩
theorem Xr {α : Type} {x : Str} {tp : Pos} {body : List Stmt} {Q : Flow -> Shared -> Prop} (he : Ax env sc L) (hf : env.frame = some L) (hA : Db A (env :: outer) n)
  {ia : Addr} {fp : List Addr} {N : Nat} {V : Nat -> Value -> Prop} {It : Nat -> Heap -> Prop} (hI : Wp prog w A s (.ref ia) [ia] fp N V It) (hF : ∀ i h, It i h -> GH h ia)
  (loc : α -> A9) (loc' : α -> Value -> A9) (hset : ∀ a v, CO x (some v) (loc a) (loc' a v)) (J : Nat -> α -> Heap -> Prop) (Tw : List Addr) (a₀ : α) {hp : Heap}
  (hnew : hp.get? ia = none) (hiaB : B.get? ia = none) (hia₀ : h₀.get? ia = none) (hTw : ∀ b ∈ Tw, b ≠ ia /\ b ∉ fp) (hfp : ∀ b ∈ fp, ∃ o, hp.get? b = some o)
  (F : Fx B h₀ S₀ outer sc L h (loc a₀)) (K0 : Kp B Tw [L] hp h) (i0 : It 0 h) (j0 : J 0 a₀ h)
  (turn : ∀ i a h₁ h₂ t₂ v, i < N -> J i a h₁ -> Kp B Tw [L] hp h₁ -> GH h₁ ia -> Kw [ia] [L] h₁ h₂ -> Fx B h₀ S₀ outer sc L h₂ (loc' a v) -> Kp B Tw [L] hp h₂ -> V i v ->
   wpAny (model prog w) A (execs body env) (fun f s₃ => match f with
    | .next | .cont => ∃ a' h' t' S, s₃ = mk s h' t' /\ Fx B h₀ S₀ outer sc L h' (loc a') /\ Kp B S [L] h₂ h' /\ (∀ b ∈ S, b ∈ Tw \/ (hp.get? b = none /\ b ≠ ia)) /\ J (i + 1) a' h'
    | .brk => Q .next s₃
    | .ret v => Q (.ret v) s₃) (D0 B h₀ S₀ L s Cs false) (mk s h₂ t₂))
  (fin : ∀ a h₁ h₂ t₂, J N a h₁ -> GH h₁ ia -> Kw [ia] [L] h₁ h₂ -> Fx B h₀ S₀ outer sc L h₂ (loc a) -> Kp B Tw [L] hp h₂ -> Q .next (mk s h₂ t₂))
  (hlt : ∀ v, letOwnedTupleGo (.Name x tp) (.ref ia) v = pure ()) :
  wpAny (model prog w) A (runOwn (.forLoop (.Name x tp) (.ref ia) body [] env) env) Q (D0 B h₀ S₀ L s Cs false) (mk s h t) := by
 have hn1 : ∀ b ∈ [ia], hp.get? b = none /\ B.get? b = none := Ac ⟨hnew, hiaB⟩
 have LF : ∀ {h l i}, Fx B h₀ S₀ outer sc L h l -> It i h -> ∀ b ∈ [ia], h₀.get? b = none /\ B.get? b = none /\ b ≠ L := fun {h l i} F I => Ac ⟨hia₀, hiaB, fun q => by
  refine ET (fun o vs e d => ?_) <| hF _ _ I
  refine Gr (fun o' es ep e' d' => ?_) <| Heap.Ns.isDict F.ns
  rw [q, e'] at e; cases e; rw [d'] at d; cases d⟩
 refine HH (n := n) he.scope hf hA F.fe N (fun i s₁ => ∃ a h₁ t₁, s₁ = mk s h₁ t₁ /\ Fx B h₀ S₀ outer sc L h₁ (loc a) /\ Kp B Tw [L] hp h₁ /\ It i h₁ /\ J i a h₁) (fun i s₁ hi hI' => ?_) (fun s₁ hI' => ?_) ⟨a₀, h, t, rfl, F, K0, i0, j0⟩
 ·revert hI'; refine DK fun a h₁ t₁ z0 F₁ z1 => ?_; obtain rfl := z0; revert z1; refine C9 fun K₁ I₁ J₁ => ?_
  refine wpAny_mono (hI.next i h₁ t₁ hi I₁) (fun ov s₂ hx => ?_) fun _ _ x => x
  revert hx; refine DK fun v h₂ t₂ z0 z1 z2 => ?_; obtain rfl := z0; obtain rfl := z1; revert z2; refine C9 fun hv I₂ hk => ?_
  refine Dx v rfl ?_
  rw [hlt v]
  refine wpAny_pure ?_
  have F₂ := F₁.thenBut hk (LF F₁ I₁)
  have K₂ := K₁.thenBut hk hn1
  have KN := C7 (hF _ _ I₁) hk
  refine Dj he F₂ (hset a v) fun h₃ t₃ F₃ K₃ => ?_
  have K₃' : Kp B Tw [L] hp h₃ := K₂.trans K₃ AH (fun b m => .inl m)
  have KN' : Kw [ia] [L] h₁ h₃ := (KN.mono (fun b m => m) AH : Kw [ia] [L] h₁ h₂).trans K₃.toKw AH (fun _ _ => .inr trivial) (fun b m => m)
  have I₃ := hI.keep _ _ _ _ _ _ I₂ K₃ (fun _ _ => AD) (fun _ _ => AD)
  refine wpAny_mono (turn i a h₁ h₃ t₃ v hi J₁ K₁ (hF _ _ I₁) KN' F₃ K₃' hv) (fun f s₃ z => ?_) fun _ _ x => x
  have done : (∃ a' h' t' S, s₃ = mk s h' t' /\ Fx B h₀ S₀ outer sc L h' (loc a') /\ Kp B S [L] h₃ h' /\ (∀ b ∈ S, b ∈ Tw \/ (hp.get? b = none /\ b ≠ ia)) /\ J (i + 1) a' h') -> ∃ a h₁ t₁, s₃ = mk s h₁ t₁ /\ Fx B h₀ S₀ outer sc L h₁ (loc a) /\ Kp B Tw [L] hp h₁ /\ It (i + 1) h₁ /\ J (i + 1) a h₁ := by
   rintro ⟨a', h', t', S, rfl, F', K', hS, J'⟩
   refine JS a' h' t' rfl F' ⟨K₃'.trans K' (fun b m => (hS b m).imp id (·.1)) (fun b m => .inl m), ?_, J'⟩
   refine hI.keep _ _ _ _ _ _ I₃ K' (Ac fun m => ?_) (fun b m m' => ?_)
   ·rcases hS _ m with q | q
    ·exact (hTw _ q).1 rfl
    ·exact q.2 rfl
   ·rcases hS _ m' with q | q
    ·exact (hTw _ q).2 m
    ·refine Ap (fun o e => ?_) <| hfp b m
     rw [q.1] at e; cases e
  cases f with
  | next => exact done z
  | cont => exact done z
  | brk => exact z
  | ret v => exact z
 ·revert hI'; refine DK fun a h₁ t₁ z0 F₁ z1 => ?_; obtain rfl := z0; revert z1; refine C9 fun K₁ I₁ J₁ => ?_
  refine wpAny_mono (hI.fin h₁ t₁ I₁) (fun ov s₂ hx => ?_) fun _ _ x => x
  revert hx; refine CY fun h₂ t₂ z0 z1 hk => ?_; obtain rfl := z0; obtain rfl := z1
  exact ⟨rfl, fin a h₁ h₂ t₂ J₁ (hF _ _ I₁) ((C7 (hF _ _ I₁) hk).mono (fun b m => m) AH) (F₁.thenBut hk (LF F₁ I₁)) (K₁.thenBut hk hn1)⟩
theorem Es {h : Heap} {ia d : Addr} {i : Nat} (x : h.IsTupleIter ia d i) : GH h ia := by
 revert x; refine FR fun o a b c => ?_; exact ML o _ a c
theorem DV {h : Heap} {ia d : Addr} {i : Nat} (x : h.IsListIter ia d i) : GH h ia := by
 revert x; refine FR fun o a b c => ?_; exact ML o _ a c
theorem Gi {h : Heap} {ia : Addr} {i k c : Int} (x : IsRangeIter h ia i k c) : GH h ia := ⟨_, _, x, rfl⟩
theorem BT (F : Fx B h₀ S₀ outer sc L h l) {ia : Addr} (e : h.get? ia = none) : B.get? ia = none := by
 cases q : B.get? ia with
 | none => rfl
 | some o => have := F.base ia o q; rw [e] at this; cases this
def Kl (B h₀ : Heap) (S₀ : List Addr) (outer : List Env) (sc : Scope) (L : Addr) (s : Shared) {α : Type} (loc : α -> A9) (J : Nat -> α -> Heap -> Prop) (Tw : List Addr) (hp h₂ : Heap) (ia : Addr) (i : Nat) (Q : Flow -> Shared -> Prop) : Flow -> Shared -> Prop := fun f s₃ => match f with
 | .next | .cont => ∃ a' h' t' S, s₃ = mk s h' t' /\ Fx B h₀ S₀ outer sc L h' (loc a') /\ Kp B S [L] h₂ h' /\ (∀ b ∈ S, b ∈ Tw \/ (hp.get? b = none /\ b ≠ ia)) /\ J (i + 1) a' h'
 | .brk => Q .next s₃
 | .ret v => Q (.ret v) s₃
theorem Ni {α : Type} {loc : α -> A9} {J : Nat -> α -> Heap -> Prop} {Tw : List Addr} {hp h₂ h' : Heap} {ia : Addr} {i t' : Nat} {Q : Flow -> Shared -> Prop} {s : Shared} (a' : α) (S : List Addr) (F : Fx B h₀ S₀ outer sc L h' (loc a')) (K : Kp B S [L] h₂ h') (hS : ∀ b ∈ S, b ∈ Tw \/ (hp.get? b = none /\ b ≠ ia)) (j : J (i + 1) a' h') :
  Kl B h₀ S₀ outer sc L s loc J Tw hp h₂ ia i Q .next (mk s h' t') := ⟨a', h', t', S, rfl, F, K, hS, j⟩
theorem Zy {α : Type} {x : Str} {tp : Pos} {body : List Stmt} {Q : Flow -> Shared -> Prop} {d : Addr} {vs : List Value} (he : Ax env sc L) (hf : env.frame = some L) (hA : Db A (env :: outer) n) (y : Tu h d vs)
  (loc : α -> A9) (loc' : α -> Value -> A9) (hset : ∀ a v, CO x (some v) (loc a) (loc' a v)) (J : Nat -> α -> Heap -> Prop) (Tw : List Addr) (a₀ : α)
  (hTw : ∀ b ∈ Tw, ∃ o, h.get? b = some o) (hl : l = loc a₀) (F : Fx B h₀ S₀ outer sc L h l) (j0 : ∀ h', Kp B [] [] h h' -> J 0 a₀ h')
  (turn : ∀ i a ia h₁ h₂ t₂ v, i < vs.length -> J i a h₁ -> h.get? ia = none -> Kp B Tw [L] h h₁ -> GH h₁ ia -> Kw [ia] [L] h₁ h₂ -> Fx B h₀ S₀ outer sc L h₂ (loc' a v) -> Kp B Tw [L] h h₂ -> vs[i]? = some v ->
   wpAny (model prog w) A (execs body env) (Kl B h₀ S₀ outer sc L s loc J Tw h h₂ ia i Q) E (mk s h₂ t₂))
  (fin : ∀ a ia h₁ h₂ t₂, J vs.length a h₁ -> h.get? ia = none -> GH h₁ ia -> Kw [ia] [L] h₁ h₂ -> Fx B h₀ S₀ outer sc L h₂ (loc a) -> Kp B Tw [L] h h₂ -> Q .next (mk s h₂ t₂)) (hE : D0 B h₀ S₀ L s Cs false = E := by first | rfl | assumption) :
  wpAny (model prog w) A (pyIter (.ref d)) (fun it s₂ => wpAny (model prog w) A (runOwn (.forLoop (.Name x tp) it body [] env) env) Q E s₂) E (mk s h t) := by
 subst hl hE
 refine U5 hA.handled F y fun ia h' F' K' hia hI i0 => ?_
 refine Xr (Cs := Cs) he hf hA (hI s) (fun i h x => Es x.1) loc loc' hset J Tw a₀ hia (BT F hia) (F.kp.alive hia) (fun b m => ⟨fun q => ?_, AD⟩) AH F' (K'.mono AH AH) i0 (j0 _ K')
  (fun i a h₁ h₂ t₂ v hi j k1 f kw F2 k2 hv => turn i a ia h₁ h₂ t₂ v hi j hia k1 f kw F2 k2 hv) (fun a h₁ h₂ t₂ j f kw F2 k2 => fin a ia h₁ h₂ t₂ j hia f kw F2 k2) (fun v => rfl)
 refine Ap (fun o e => ?_) <| hTw b m
 rw [q, hia] at e; cases e
theorem Z0 {α : Type} {x : Str} {tp : Pos} {body : List Stmt} {Q : Flow -> Shared -> Prop} {d : Addr} {vs : List Value} (he : Ax env sc L) (hf : env.frame = some L) (hA : Db A (env :: outer) n) (y : Li h d vs)
  (loc : α -> A9) (loc' : α -> Value -> A9) (hset : ∀ a v, CO x (some v) (loc a) (loc' a v)) (J : Nat -> α -> Heap -> Prop) (Tw : List Addr) (a₀ : α)
  (hTw : ∀ b ∈ Tw, (∃ o, h.get? b = some o) /\ b ≠ d) (hl : l = loc a₀) (F : Fx B h₀ S₀ outer sc L h l) (j0 : ∀ h', Kp B [] [] h h' -> J 0 a₀ h')
  (turn : ∀ i a ia h₁ h₂ t₂ v, i < vs.length -> J i a h₁ -> h.get? ia = none -> Kp B Tw [L] h h₁ -> GH h₁ ia -> Kw [ia] [L] h₁ h₂ -> Fx B h₀ S₀ outer sc L h₂ (loc' a v) -> Kp B Tw [L] h h₂ -> vs[i]? = some v ->
   wpAny (model prog w) A (execs body env) (Kl B h₀ S₀ outer sc L s loc J Tw h h₂ ia i Q) E (mk s h₂ t₂))
  (fin : ∀ a ia h₁ h₂ t₂, J vs.length a h₁ -> h.get? ia = none -> GH h₁ ia -> Kw [ia] [L] h₁ h₂ -> Fx B h₀ S₀ outer sc L h₂ (loc a) -> Kp B Tw [L] h h₂ -> Q .next (mk s h₂ t₂)) (hE : D0 B h₀ S₀ L s Cs false = E := by first | rfl | assumption) :
  wpAny (model prog w) A (pyIter (.ref d)) (fun it s₂ => wpAny (model prog w) A (runOwn (.forLoop (.Name x tp) it body [] env) env) Q E s₂) E (mk s h t) := by
 subst hl hE
 refine V2 hA.handled F y fun ia h' F' K' hia hI i0 => ?_
 refine Xr (Cs := Cs) he hf hA (hI s) (fun i h x => DV x.1) loc loc' hset J Tw a₀ hia (BT F hia) (F.kp.alive hia) (fun b m => ⟨fun q => ?_, Ar (hTw b m).2⟩) (Ac (let ⟨_, e⟩ := y; ⟨_, e⟩)) F' (K'.mono AH AH) i0 (j0 _ K')
  (fun i a h₁ h₂ t₂ v hi j k1 f kw F2 k2 hv => turn i a ia h₁ h₂ t₂ v hi j hia k1 f kw F2 k2 hv) (fun a h₁ h₂ t₂ j f kw F2 k2 => fin a ia h₁ h₂ t₂ j hia f kw F2 k2) (fun v => rfl)
 refine Ap (fun o e => ?_) <| (hTw b m).1
 rw [q, hia] at e; cases e
theorem PJ {target iter : Expr} {body rest : List Stmt} {pos : Pos} {Q : Flow -> Shared -> Prop} {E : Value -> Shared -> Prop} {M : Model} {s : Shared}
  (hs : ∀ x, foldedSetIterable iter env x = pure x)
  (k : wpAny M A (eval iter env) (fun x s₁ => wpAny M A (pyIter x) (fun it s₂ => wpAny M A (runOwn (.forLoop target it body [] env) env) (QD M A env rest Q E) E s₂) E s₁) E s) :
  wpAny M A (execs (.For target iter body [] pos :: rest) env) Q E s := Qz (aO hs k)
end
section
open PySem.Builtin PySem.Builtin.ObjectAttr
structure Ob (h : Heap) (x dx C : Addr) (m : Str -> Option Value) : Prop where
 obj : h.get? x = some { cls := .ref C, dict := some dx, data := .plain }
 dic : h.Ns1 dx m
theorem Kw.ns1 {S D : List Addr} {h h' : Heap} (k : Kw S D h h') {L : Addr} {m} (n : h.Ns1 L m) (hL : L ∉ D) : h'.Ns1 L m := by
 revert n; refine DK fun o es ep a b z0 => ?_; revert z0; refine Ak fun c d => ?_
 refine Ap (fun sl e => ?_) <| k.keepD L o es ep a b hL
 exact JS _ es ep e b ⟨c, d⟩
theorem Ob.kw {S D : List Addr} {h h' : Heap} {x dx C : Addr} {m : Str -> Option Value} (k : Kw S D h h') (o : Ob h x dx C m) (hx : x ∉ S) (hd : dx ∉ D) : Ob h' x dx C m :=
 ⟨k.keep x _ o.obj hx (fun _ _ q => nomatch q), k.ns1 o.dic hd⟩
theorem Ob.kp {B : Heap} {S D : List Addr} {h h' : Heap} {x dx C : Addr} {m : Str -> Option Value} (k : Kp B S D h h') (o : Ob h x dx C m) (hx : x ∉ S) (hd : dx ∉ D) : Ob h' x dx C m := o.kw k.toKw hx hd
theorem Ob.neLi {h : Heap} {x dx C b : Addr} {m : Str -> Option Value} {vs : List Value} (o : Ob h x dx C m) (y : Li h b vs) : x ≠ b := fun q => by
 revert y; refine Ap fun n e => ?_; have e' := o.obj; rw [q, e] at e'; cases e'
theorem Ob.neF {h : Heap} {x dx C b : Addr} {m : Str -> Option Value} (o : Ob h x dx C m) (y : GH h b) : x ≠ b := fun q => by
 revert y; refine ET fun _ vs e d => ?_; have e' := o.obj; rw [q, e] at e'; cases e'; cases d
theorem MO {h : Heap} {dx : Addr} {m : Str -> Option Value} (n : h.Ns1 dx m) : ∃ od, h.get? dx = some od /\ ∀ name, lookIn name od = some (m name) := by
 revert n; refine DK fun o es ep a b z0 => ?_; revert z0; refine C9 fun c _ d => ?_
 refine Dx o a (fun name => ?_)
 unfold lookIn
 rw [b]
 dsimp only
 have hf := d name
 unfold nsFind findBy at hf
 rw [<- Array.find?_toList] at hf
 cases q : es.toList.find? (fun x => x.key.isStr name) with
 | some e => rw [q] at hf; rw [<- hf]; rfl
 | none =>
  rw [q] at hf
  rw [<- hf]
  dsimp only
  rw [if_neg]
  ·rfl
  ·rw [Bool.not_eq_true, List.any_eq_false]
   intro e he
   refine HM (fun n t hk => ?_) <| c e (Array.mem_toList_iff.mp he)
   simp [DictEntry.refKey, hk]
theorem Ob.at {h : Heap} {x dx C : Addr} {m : Str -> Option Value} (o : Ob h x dx C m) : ∃ od, InstAt h x { cls := .ref C, dict := some dx, data := .plain } C (some od) /\ ∀ name, lookIn name od = some (m name) := by
 refine Ah (fun od a b => ?_) <| MO o.dic
 exact Dx od ⟨o.obj, rfl, rfl, a⟩ b
section
variable {prog : Program} {w : World} {A : Around} {E : Value -> Shared -> Prop} {s : Shared} {h : Heap} {t : Nat}
 {B h₀ : Heap} {S₀ : List Addr} {outer : List Env} {sc : Scope} {L : Addr} {l : A9} {env : Env} {mg mb : Str -> Option Value} {n : Nat} {Cs : Value -> Prop} {K : Frag} {x dx C : Addr} {m : Str -> Option Value} {name : Str}
theorem OM {v : Value} {expr : Bool} {Q : Value -> Shared -> Prop} (X : K.In B) (F : Fx B h₀ S₀ outer sc L h l) (O : Ob h x dx C m) (hg : plainGet K C name = true) (hh : hasDictIn K C = true) (ha : findIn K (.ref C) name = some none)
  (hm : m name = some v) (hv : handedIn v = true) (k : ∀ t', Q v (mk s h t')) : wpAny (model prog w) A (getAttr (.ref x) name expr) Q E (mk s h t) := by
 refine Ah (fun od I hl => ?_) O.at
 have hl' := hl name
 rw [hm] at hl'
 refine get_value (s := mk s h t) (X.keeps F.base) I (plainGet_of hg).1 ?_ hv (k _)
 refine Ah (fun cd hc hd => ?_) <| any_some hh
 unfold findObj
 have ho : PySem.W.ownOf cd (some od) name = some (some v) := by unfold PySem.W.ownOf; rw [if_pos hd]; exact hl'
 rw [hc, Option.bind_some, ha, Option.bind_some]
 simp [ho]
theorem HG {pl : Sem Bool} {f : Addr} {Q : Value × List Value -> Shared -> Prop} (X : K.In B) (F : Fx B h₀ S₀ outer sc L h l) (O : Ob h x dx C m) (hg : plainGet K C name = true) (hf : findIn K (.ref C) name = some (some (.ref f))) (ht : isFn K (.ref f) = true)
  (hm : m name = none) (k : Q (.ref f, [.ref x]) (mk s h t)) : wpAny (model prog w) A (getMethod (.ref x) name pl) Q E (mk s h t) := by
 refine Ah (fun od I hl => ?_) O.at
 exact method_fn (s := mk s h t) (X.keeps F.base) I (plainGet_of hg).1 (plainGet_of hg).2 hf (beq_iff_eq.mp ht) (by show (lookIn name od).map _ = _; rw [hl, hm]; rfl) k
structure BR (K : Frag) (C : Addr) (name : Str) : Prop where
 set : findIn K (.ref C) "__setattr__" = some (some (.builtin "object.__setattr__"))
 cls : ∃ cd, clsIn K C = some cd /\ cd.hasDict = true /\ cd.mro.isEmpty = false /\ cd.mro.contains (.type "object") = true /\ ∀ self, refuseLoop self "__setattr__" cd.mro = pure ()
 taker : takerIn K C name = some none
theorem Ln {ox : Obj} {od : Option Obj} {v : Value} {Q : Unit -> Shared -> Prop} (X : K.In h) (I : InstAt h x ox C od) (S : BR K C name)
  (k : ∀ b tk t', wpAny (model prog w) A.in1 (storeInOwnDict (.ref x) (.ref C) (.str name tk) name v b) (fun fin s' => fin = .done (.ret .none) /\ Q () s') (fun _ _ => False) (mk s h t')) :
  wpAny (model prog w) A (setAttr (.ref x) name v) Q E (mk s h t) := by
 have SF := PySem.F.store_object
 refine HS (fun cd hc hd ne ho hp => ?_) S.cls
 unfold setAttr
 refine wpAny_bind (wpAny_mkText ?_)
 have key : wpAny (model prog w) A (call (.builtin "object.__setattr__") ([.ref x] ++ [.str name t, v])) (fun _ s' => Q () s') E (mk s h (t + 1)) := by
  refine wpAny_call ?_
  have sub : Looks (model prog w) h (isInstance (.ref x) (.type "object")) true := I.type.andThen (looks_mroIn X (by unfold mroIn; rw [hc, Option.bind_some, if_neg (by rw [ne]; decide), ho]))
  refine codeAny_call_builtin SF.slot.plain SF.entry (@check_slot (model prog w) _ _ (mk s h (t + 1)) "object.__setattr__" "object" "__setattr__" (.ref x) [.str name t, v] [] _ SF.kind SF.split sub (SF.args (.ref x) (.str name t) v) ?_)
  refine Ah (fun attr ha hr => ?_) <| Option.bind_eq_some_iff.mp S.taker
  have hm : Looks (model prog w) h (mroOf (.ref C)) cd.mro := (looks_clsIn X hc).andThen .now
  have L3 : Looks (model prog w) h (storeTaker? attr) none := by
   cases attr with
   | none => exact .now
   | some a =>
    refine Ah (fun b hb hb' => ?_) <| Option.map_eq_some_iff.mp hr
    cases b with
    | true => simp at hb'
    | false => exact (looks_takesIn X hb).andThen .now
  rw [show [Value.ref x] ++ [Value.str name t, v] = [Value.ref x, Value.str name t, v] from rfl, osa_eq, refuse_eq]
  refine wpAny_bind (wpAny_bind (I.type.here (wpAny_bind (hm.here ?_))))
  rw [hp]
  refine wpAny_pure (wpAny_bind (I.type.here (wpAny_bind ((looks_findIn X ha).here (wpAny_bind (L3.here ?_))))))
  refine wpAny_mono (k _ _ _) (fun fin s' z => ?_) fun _ _ z => z.elim
  revert z; refine Ak fun z0 z => ?_; obtain rfl := z0
  exact z
 unfold callSpecial? specialOf
 refine wpAny_bind (wpAny_bind (wpAny_bind (I.type.here ((looks_findIn X S.set).here (wpAny_holding (wpAny_bind ?_))))))
 rw [SF.slot.bind]
 refine wpAny_pure (wpAny_bind (wpAny_mono key (fun _ _ z => wpAny_pure (wpAny_pure z)) fun _ _ z => z))
theorem Fx.stepD {h' : Heap} {S D : List Addr} (F : Fx B h₀ S₀ outer sc L h l) (k : Kp B S D h h') (hS : ∀ b ∈ S, b ∈ S₀ \/ h₀.get? b = none) (hD : ∀ b ∈ D, h₀.get? b = none) (hL : L ∉ D) : Fx B h₀ S₀ outer sc L h' l :=
 ⟨k.toKw.ns F.ns hL, F.nm, F.fresh, F.kp.trans k hS (fun b m => .inr (hD b m)), F.base₀, F.fr⟩
theorem FM (F : Fx B h₀ S₀ outer sc L h l) {x : Addr} (e : h₀.get? x = none) : B.get? x = none := by
 cases z : B.get? x with
 | none => rfl
 | some o => have := F.base₀ x o z; rw [e] at this; cases this
theorem Cz {v : Value} {ns : List Str} {Q : Unit -> Shared -> Prop} (X : K.In B) (F : Fx B h₀ S₀ outer sc L h l) (O : Ob h x dx C m) (S : BR K C name) (hf : h₀.get? dx = none) (hdL : dx ≠ L) (hw : PySem.Within m ns) (hn : ns.length <= 1000)
  (k : ∀ h' t', Fx B h₀ S₀ outer sc L h' l -> Kp B [] [dx] h h' -> Ob h' x dx C (fun y => if y = name then some v else m y) -> Q () (mk s h' t')) :
  wpAny (model prog w) A (setAttr (.ref x) name v) Q E (mk s h t) := by
 refine Ah (fun od I hl => ?_) O.at
 refine Ln (X.keeps F.base) I S fun b tk t' => ?_
 refine HS (fun cd hc hd ne ho hp => ?_) S.cls
 have hx : (mk s h t').heap.get? x = _ := O.obj
 refine wpAny_bind (wpAny_pure (wpAny_bind (wpAny_bind (wpAny_loadPart hx (wpAny_bind ((looks_clsIn (X.keeps F.base) hc).here ?_))))))
 rw [hd]
 refine wpAny_pure (a := some dx) ?_
 show wpAny _ _ (storeInDict dx (.str name tk) name v) _ _ _
 unfold storeInDict newKeyGuard
 refine wpAny_bind (wpAny_pure (wpAny_bind (wpAny_nsSet1 (s := mk s h t') O.dic fun h' hn' hs => ?_)))
 refine DK (fun oD esD epD hoD hdD hcD => ?_) <| hn'.count (PySem.Within.cons name v hw)
 refine wpAny_bind (wpAny_lookBehind hoD (by rw [hdD]; exact pastItsLine_dict (by rw [List.length_cons] at hcD; have := sizeLine_eq; omega)) ?_)
 have hs' : Heap.SameBut dx h h' := hs
 have K' : Kp B [] [dx] h h' := by
  refine DK (fun o es ep a b _ => ?_) O.dic
  exact Kp.oneD (fun b o ne e => (hs'.2 b ne).trans e) a hoD b hdD (FM F hf) (.head _)
 have hxd : x ≠ dx := fun q => by
  refine DK (fun o es ep a b _ => ?_) O.dic
  have := O.obj; rw [q, a] at this; cases this; cases b
 exact wpAny_pure ⟨rfl, k h' _ (F.stepD K' AH (Ac hf) (Ar hdL.symm)) K' ⟨(hs'.2 x hxd).trans O.obj, hn'⟩⟩
def Zj (B h₀ : Heap) (S : List Addr) (s : Shared) (R : Value -> Heap -> Prop) (Cs : Value -> Prop) : Result -> Shared -> Prop := fun r s' => match r with
 | .ok (.ret v) => ∃ h' t', s' = mk s h' t' /\ Kp B S [] h₀ h' /\ R v h'
 | .ok _ => False
 | .error e => NV B h₀ S s Cs e s'
def IY (prog : Program) (w : World) (B : Heap) (n : Nat) (f : Value) (args : List Value) (S : List Addr) (h₀ h : Heap) (R : Value -> Heap -> Prop) (Cs : Value -> Prop) : Prop :=
 ∀ (A : Around) (outer : List Env) (s : Shared) (t : Nat), Db A outer n -> B.StaysIn h₀ -> Dn B outer h₀ -> Kp B S [] h₀ h -> codeAny (model prog w) A (.call f ⟨args, []⟩) (Zj B h₀ S s R Cs) (mk s h t)
theorem IY.ct {f : Value} {args : List Value} {S : List Addr} {R : Value -> Heap -> Prop} (c : IY prog w B n f args S h h R Cs) : Ct prog w B n f args S h R Cs := fun A outer s t hA b fr => wpAny_call (c A outer s t hA b fr (Kp.refl ..))
theorem CQ {f : Addr} {name qual : Str} {params : Arguments} {body : List Stmt} {scope : Scope} {dV : Value} {args : List Value} {binds : List (Str × Value)} {rest : List Str} {S : List Addr} {R : Value -> Heap -> Prop} (l : A9)
  (hf : Fn B f name qual params body scope dV) (lim : B.NoLimit)
  (hbind : ∀ kV doc pm an cdv ct s t, B.StaysIn h -> BindsTo (mk s h t) (fnOf name qual params body scope dV kV doc pm an cdv ct) ⟨args, []⟩ binds) (hl : A6 binds rest = l)
  (nm : Nm scope l)
  (hbody : ∀ A outer s L env h₁ t₁, Ax env scope L -> env.frame = some L -> h.get? L = none -> Fx B h₀ S outer scope L h₁ l -> Kp B [] [] h h₁ -> Db A (env :: outer) n ->
   wpAny (model prog w) A (execs body env) (fun fl s' => Vx B S h₀ s R (FK fl) s') (D0 B h₀ S L s Cs false) (mk s h₁ t₁))
  (hco : scope.isCoroutine = false := by rfl) (hgen : scope.isGenerator = false := by rfl) (hcell : ∀ x ∈ scope.names, x.2 ≠ .cell := by decide +kernel) :
  IY prog w B (n + 1) (.ref f) args S h₀ h R Cs := by
 subst hl
 intro A outer s t hA base₀ fr K0
 revert hf; refine EK fun oc od osl kV doc z0 => ?_; revert z0; refine Mv fun pm an cdv ct ho hcd => ?_
 have base := K0.base base₀
 have ndb : (binds.map (·.1)).Nodup := by
  have := nm.nd
  unfold A6 at this
  rw [List.map_append, List.map_map] at this
  exact (List.nodup_append.mp this).1
 have hloc : ∀ x ∈ binds, scope.names.lookup x.1 = some .local := fun x hx => nm.loc x.1 (by
  unfold A6
  rw [List.map_append, List.map_map]
  exact List.mem_append_left _ (List.mem_map.mpr ⟨x, hx, rfl⟩))
 refine codeAny_call_def (fd := fnOf name qual params body scope dV kV doc pm an cdv ct) (body := body) (by have := hA.depth; omega) (base _ _ ho) rfl (lim.keeps base) (hcd.keeps base) rfl (hbind kV doc pm an cdv ct s t base) hcell hloc
  (fun h₁ hns hk => ?_) hco hgen nm.kind
 have K : Kp B [] [] h h₁ := .of_keeps hk
 have hfresh : h.get? h.objs.size = none := Heap.get?_none_of_le (Nat.le_refl _)
 have F : Fx B h₀ S outer scope h.objs.size h₁ (A6 binds rest) := by
  refine ⟨?_, nm, K0.alive hfresh, K0.trans K AH AH, base₀, fr⟩
  have e : lk (A6 binds rest) = fun x => binds.reverse.lookup x := by
   funext x; rw [HJ, HA x binds ndb]
  rw [e]; exact hns
 have hA' := hA.deeper (envOf qual scope h.objs.size f cdv)
 refine wpAny_mono (hbody _ _ s h.objs.size (envOf qual scope h.objs.size f cdv) h₁ (t + binds.length) ⟨rfl, rfl, rfl, rfl⟩ rfl hfresh F K hA') (fun fl s' x => ?_) (fun e s' x => ?_)
 ·cases fl <;> exact x
 ·exact wpAny_mono (Pl (env := envOf qual scope h.objs.size f cdv) rfl rfl hA' F.fe x _) (fun _ s'' y => y) fun _ _ y => y
end
end
section
open PySem.Builtin PySem.Builtin.ObjectAttr
section
variable {prog : Program} {w : World} {A : Around} {E : Value -> Shared -> Prop} {s : Shared} {h : Heap} {t : Nat}
 {B h₀ : Heap} {S₀ : List Addr} {outer : List Env} {sc : Scope} {L : Addr} {l : A9} {env : Env} {mg mb : Str -> Option Value} {n : Nat} {Cs : Value -> Prop} {K : Frag} {x dx C : Addr} {m : Str -> Option Value} {name : Str}
theorem Db.made {rest : List Value} (x : Db A outer (n + 1)) : Db (A.under (.builtin "type.__call__" ⟨.ref C :: rest, []⟩)) outer n := by
 have hd : (A.under (.builtin "type.__call__" ⟨.ref C :: rest, []⟩)).depth = A.depth + 1 := rfl
 have hu : (A.under (.builtin "type.__call__" ⟨.ref C :: rest, []⟩)).units = A.units + 1 := rfl
 refine ⟨x.handled, ?_, ?_, ?_⟩
 ·show pushEnvs [] A.frames = _
  exact x.frames
 ·rw [hd]; have := x.depth; omega
 ·rw [hu]; have := x.units; omega
theorem Il {fI : Addr} {args : List Value} {S : List Addr} {R : Addr -> Addr -> Heap -> Prop} (X : K.In B) (hm : makesIn K C = true) (hi : findIn K (.ref C) "__init__" = some (some (.ref fI))) (hfn : typeIn K (.ref fI) = some (.type "function"))
  (init : ∀ x dx h₂, h.get? x = none -> h.get? dx = none -> Kp B S [] h h₂ -> Ob h₂ x dx C (fun _ => none) -> IY prog w B n (.ref fI) (.ref x :: args) S h h₂ (fun v h' => v = .none /\ R x dx h') Cs) :
  Ct prog w B (n + 1) (.ref C) args S h (fun v h' => ∃ x dx, v = .ref x /\ h.get? x = none /\ h.get? dx = none /\ R x dx h') Cs := by
 intro A outer s t hA base fr
 have Xh := X.keeps base
 have hx0 : h.get? (h.objs.size + 1) = none := Heap.get?_none_of_le (Nat.le_succ _)
 have hd0 : h.get? h.objs.size = none := Heap.get?_none_of_le (Nat.le_refl _)
 have Y := makes_of (M := model prog w) Xh hm
 refine wpAny_call (make_core (h := h) (t := t) (g := s.gens) (d := s.drawn) (os := s.os) Y (looks_findIn Xh hi) (fun self => bind_fn Xh self hfn) (.inl rfl) ?_)
 have K2 : Kp B S [] h ((h.push emptyDict).push (instObj C h.objs.size)) := .of_keeps fun b o e => Heap.get?_push_of_some _ (Heap.get?_push_of_some _ e)
 have O : Ob ((h.push emptyDict).push (instObj C h.objs.size)) (h.objs.size + 1) h.objs.size C (fun _ => none) := by
  refine ⟨?_, Heap.Ns1.of_empty ⟨emptyDict, #[], _, Heap.get?_push_of_some _ (Heap.get?_push_size _ rfl), rfl, fun e he => absurd he (by simp), fun _ => rfl⟩⟩
  have := Heap.get?_push_size (h.push emptyDict) (o := instObj C h.objs.size) rfl
  rwa [Heap.size_push] at this
 have c := init (h.objs.size + 1) h.objs.size _ hx0 hd0 K2 O _ outer s t (hA.made (C := C) (rest := args)) base fr K2
 refine codeAny_mono c fun r s' z => ?_
 rcases r with e | (v | _ | _ | _) <;> first | exact z | exact z.elim | skip
 revert z; refine Eo fun h' t' z0 k z1 r => ?_; obtain rfl := z0; obtain rfl := z1
 exact ⟨rfl, h', t', rfl, k, _, _, rfl, hx0, hd0, r⟩
end
end
section
open PySem.Builtin PySem.Builtin.ObjectAttr
def Uq (K : Frag) (h : Heap) (C fI : Addr) : Prop :=
 ∃ nm q N bs bm hdct sn sub ab col dd k0 k1 k2 k3 k5, h.get? C = some (excClassObj nm q C N bs bm hdct sn sub ab col dd k0 k1 k2 k3 k5 "ValueError.__new__") /\ bm.contains (.type "ValueError") = true /\ bm.contains (.type "BaseException") = true /\ bm.contains (.type "AttributeError") = false /\ bm.contains (.type "NameError") = false /\
 findIn K (.ref C) "__init__" = some (some (.ref fI)) /\ typeIn K (.ref fI) = some (.type "function")
theorem Uq.keeps {K : Frag} {h h' : Heap} {C fI : Addr} (x : Uq K h C fI) (k : h.StaysIn h') : Uq K h' C fI := by
 revert x; refine EK fun nm q N bs bm z0 => ?_; revert z0; refine EK fun hdct sn sub ab col z1 => ?_; revert z1; refine EK fun dd k0 k1 k2 k3 z2 => ?_; revert z2; refine Ah fun k5 a r => ?_
 exact Qs nm q N bs bm ⟨hdct, sn, sub, ab, col, dd, k0, k1, k2, k3, k5, k _ _ a, r⟩
abbrev Cq (C T : Addr) : Obj := { cls := .ref C, data := .fields #[.ref T, .none, .none, .none, .bool false, .none] }
section
variable {prog : Program} {w : World} {A : Around} {E : Value -> Shared -> Prop} {s : Shared} {h : Heap} {t : Nat}
 {B h₀ : Heap} {S₀ : List Addr} {outer : List Env} {sc : Scope} {L : Addr} {l : A9} {env : Env} {mg mb : Str -> Option Value} {n : Nat} {Cs : Value -> Prop} {K : Frag} {C : Addr}
theorem Um {R : Result -> Shared -> Prop} {g : Array GenState} {d : Drawn} {os : OsState} {rest : List Value} {nm q : Str} {N : Addr} {bs bm : List Value} {hdct : Bool} {sn : List Str} {sub : List Value} {ab : Bool} {col : Option Bool} {dd : Option Addr} {k0 k1 k2 k3 k5 : Option Value}
  (hC : h.get? C = some (excClassObj nm q C N bs bm hdct sn sub ab col dd k0 k1 k2 k3 k5 "ValueError.__new__")) (c1 : bm.contains (.type "ValueError") = true) (c3 : bm.contains (.type "AttributeError") = false) (c4 : bm.contains (.type "NameError") = false)
  (hq : R (.ok (.ret (.ref (h.objs.size + 1)))) ⟨(h.push { cls := .type "tuple", data := .seq rest.toArray }).push (Cq C h.objs.size), g, d, t, os⟩) (hrest : rest.length <= sizeLine) :
  codeAny (model prog w) A (.call (.builtin "ValueError.__new__") ⟨.ref C :: rest, []⟩) R ⟨h, g, d, t, os⟩ := by
 have Fn := PySem.F.excBase_ValueError
 have hends := Fn.ends
 have e1 : (Value.ref C :: bm).contains (.type "ValueError") = true := by rw [List.contains_cons, c1, Bool.or_true]
 have e3 : (Value.ref C :: bm).contains (.type "AttributeError") = false := by rw [List.contains_cons, c3]; rfl
 have e4 : (Value.ref C :: bm).contains (.type "NameError") = false := by rw [List.contains_cons, c4]; rfl
 refine codeAny_call_builtin_code (Code.quiet_builtin _ Fn.quiet) ?_
 have chk : ∀ {M : Model} {A : Around} {Q : Unit -> Shared -> Prop} {E : Value -> Shared -> Prop}, Q () ⟨h, g, d, t, os⟩ -> wpAny M A (checkBuiltinCall "ValueError.__new__" ⟨.ref C :: rest, []⟩) Q E ⟨h, g, d, t, os⟩ := by
  intro M A Q E hq
  have hstar := Fn.noStar
  simp only [checkBuiltinCall, Fn.newKind, Fn.newSplit, Fn.newRow]
  repeat (first | refine wpAny_loadPart_at hC ?_ | (refine wpAny_isSubtype_exc hC ?_; rw [e1]) | refine wpAny_staticBase_exc hC ?_ | refine wpAny_madeBy_exc hC ?_ | simp only [bne_self_eq_false, Bool.false_eq_true, if_false] | wp_step)
  exact hq
 refine chk ?_
 refine codeAny_builtinAt Fn.entry ?_
 unfold Builtin.«BaseException.__new__»
 refine PySem.wpAt_bind ?_
 show PySem.wpAt _ _ _ (stack >>= _) _ _ _
 refine PySem.wpAt_bind (PySem.wpAt_stack fun p below => PySem.wpAt_of_wpAny ?_)
 wp_walk
 refine PySem.wpAt_of_wpAny ?_
 rw [Fn.owner]
 repeat (first | with_reducible refine wpAny_madeHere_exc Fn.canon hC ?_ | with_reducible refine wpAny_loadPart_at hC ?_ | (with_reducible refine wpAny_isSubtype_exc hC ?_; first | rw [e1] | rw [e3] | rw [e4]) | wp_step)
 show R _ _
 rw [Heap.size_push]
 exact hq
theorem JB {fI : Addr} {rest : List Value} {Q : PySem.Fin -> Shared -> Prop} {g : Array GenState} {d : Drawn} {os : OsState} {nm q : Str} {N : Addr} {bs bm : List Value} {hdct : Bool} {sn : List Str} {sub : List Value} {ab : Bool} {col : Option Bool} {dd : Option Addr} {k0 k1 k2 k3 k5 : Option Value}
  (X : K.In h) (hi : findIn K (.ref C) "__init__" = some (some (.ref fI))) (hfn : typeIn K (.ref fI) = some (.type "function"))
  (hC : h.get? C = some (excClassObj nm q C N bs bm hdct sn sub ab col dd k0 k1 k2 k3 k5 "ValueError.__new__")) (c1 : bm.contains (.type "ValueError") = true) (c3 : bm.contains (.type "AttributeError") = false) (c4 : bm.contains (.type "NameError") = false) (hrest : rest.length <= sizeLine)
  (hq : wpAny (model prog w) A (call (.ref fI) (.ref (h.objs.size + 1) :: rest)) (fun r s' => r = .none /\ Q (.done (.ret (.ref (h.objs.size + 1)))) s') E ⟨(h.push { cls := .type "tuple", data := .seq rest.toArray }).push (Cq C h.objs.size), g, d, t, os⟩) :
  wpAny (model prog w) A (Builtin.«type.__call__» ⟨.ref C :: rest, []⟩) Q E ⟨h, g, d, t, os⟩ := by
 repeat (first | with_reducible refine wpAny_loadPart_at hC ?_ | with_reducible refine wpAny_madeBy_exc hC ?_ | wp_step)
 refine Um hC c1 c3 c4 ?_ hrest
 show wpAny _ _ _ _ _ _
 have hk : h.StaysIn ((h.push { cls := .type "tuple", data := .seq rest.toArray }).push (Cq C h.objs.size)) := fun b o e => Heap.get?_push_of_some _ (Heap.get?_push_of_some _ e)
 have hC₁ := hk _ _ hC
 have X2 := X.keeps hk
 have hget : ((h.push { cls := .type "tuple", data := .seq rest.toArray }).push (Cq C h.objs.size)).get? (h.objs.size + 1) = some (Cq C h.objs.size) := by heap_get
 have hcC : (Value.ref C :: bm).contains (.ref C) = true := by simp
 unfold isInstance
 repeat (first | with_reducible refine wpAny_loadPart_at hget ?_ | (with_reducible refine wpAny_isSubtype_exc hC₁ ?_; rw [hcC]) | wp_step)
 show wpAny _ _ (typeLookup (.ref C) _) _ _ _
 refine (looks_findIn X2 hi).here ?_
 refine wpAny_holding (wpAny_bind ((bind_fn X2 (.ref (h.objs.size + 1)) hfn).here (wpAny_bind (wpAny_mono hq (fun r s' hr => ?_) fun _ _ x => x))))
 revert hr; refine Ak fun z0 hQ => ?_; obtain rfl := z0
 wp_walk
 exact hQ
theorem QI {fI : Addr} {args : List Value} (X : K.In B) (Y : Uq K B C fI) (hargs : args.length <= 1000000)
  (init : ∀ e T h₂, h.get? e = none -> h.get? T = none -> Kp B [] [] h h₂ -> h₂.get? e = some (Cq C T) -> IY prog w B n (.ref fI) (.ref e :: args) [] h h₂ (fun v h' => v = .none /\ ∃ o vs, h'.get? e = some o /\ o.cls = .ref C /\ o.data = .fields vs /\ 1 < vs.size /\ vs[1]? = some .none) BW) :
  Ct prog w B (n + 1) (.ref C) args [] h (fun v h' => ∃ e, v = .ref e /\ h.get? e = none /\ ∃ o vs, h'.get? e = some o /\ o.cls = .ref C /\ o.data = .fields vs /\ 1 < vs.size /\ vs[1]? = some .none) BW := by
 intro A outer s t hA base fr
 have Xh := X.keeps base
 refine EK (fun nm q N bs bm z0 => ?_) <| Y.keeps base; revert z0; refine EK fun hdct sn sub ab col z1 => ?_; revert z1; refine EK fun dd k0 k1 k2 k3 z2 => ?_; revert z2; refine HS fun k5 hC c1 c2 c3 z3 => ?_; revert z3; refine C9 fun c4 hi hfn => ?_
 have hsz : args.length <= sizeLine := by rw [sizeLine_eq]; omega
 have f1 := tc_lookup
 have f2 := tc_bind (.ref C)
 refine wpAny_call (codeAny_of_tree ?_)
 show wpAny _ _ (callAny (.ref C) _) _ _ ⟨h, s.gens, s.drawn, t, s.os⟩
 repeat (any_goals (first | assumption | with_reducible refine wpAny_loadPart_at hC ?_ | wp_step))
 refine ⟨rfl, ?_⟩
 have K2 : Kp B [] [] h ((h.push { cls := .type "tuple", data := .seq args.toArray }).push (Cq C h.objs.size)) := .of_keeps fun b o e => Heap.get?_push_of_some _ (Heap.get?_push_of_some _ e)
 have hget : ((h.push { cls := .type "tuple", data := .seq args.toArray }).push (Cq C h.objs.size)).get? (h.objs.size + 1) = some (Cq C h.objs.size) := by heap_get
 refine codeAny_call_builtin_at (Code.quiet_builtin _ (by decide +kernel)) entry_typeCall (wpAny_check_type_call_sub hC (JB Xh hi hfn hC c1 c3 c4 hsz ?_))
 refine wpAny_call (codeAny_mono (init (h.objs.size + 1) h.objs.size _ (Heap.get?_none_of_le (Nat.le_succ _)) (Heap.get?_none_of_le (Nat.le_refl _)) K2 hget _ outer s t (hA.made (C := C) (rest := args)) base fr K2) fun r s' z => ?_)
 rcases r with e | (v | _ | _ | _) <;> first | exact z | exact z.elim | skip
 revert z; refine Eo fun h' t' z0 k z1 r => ?_; obtain rfl := z0; obtain rfl := z1
 exact ⟨rfl, h', t', rfl, k, _, rfl, Heap.get?_none_of_le (Nat.le_succ _), r⟩
theorem WE {e : Expr} {pos : Pos} {rest : List Stmt} {Q : Flow -> Shared -> Prop} {fI : Addr} (hh : A.handled = none)
  (k : wpAny (model prog w) A (eval e env) (fun v s₁ => ∃ x o vs, v = .ref x /\ Uq K s₁.heap C fI /\ s₁.heap.get? x = some o /\ o.cls = .ref C /\ o.data = .fields vs /\ vs[1]? = some .none /\ E (.ref x) s₁) E s) :
  wpAny (model prog w) A (execs (.Raise (some e) none pos :: rest) env) Q E s := by
 refine TK ?_
 rw [arm_exec_Raise]
 refine wpAny_bind (wpAny_standAt ?_)
 show wpAny _ A (raiseStmt env (some (do let v <- eval e env; standAt pos; pure v)) none) _ _ _
 unfold raiseStmt
 refine wpAny_bind (wpAny_bind (wpAny_mono k (fun v s₁ h₁ => ?_) fun _ _ x => x))
 refine wpAny_bind (wpAny_standAt (wpAny_pure ?_))
 revert h₁; refine DK fun x o vs z0 z1 z2 => ?_; obtain rfl := z0; revert z1; refine EK fun nm q N bs bm z3 => ?_; revert z3; refine EK fun hdct sn sub ab col z4 => ?_; revert z4; refine EK fun dd k0 k1 k2 k3 z5 => ?_; revert z5; refine HS fun k5 hC c1 c2 c3 z6 => ?_; revert z6; refine C9 fun c4 hi hfn => ?_; revert z2; refine Ju fun he hc hd h1 hE => ?_
 have hcB : (Value.ref C :: bm).contains (.type "BaseException") = true := by rw [List.contains_cons, c2, Bool.or_true]
 obtain ⟨oc, od, odt, osl⟩ := o
 dsimp only at hc hd
 subst hc hd
 obtain ⟨hp, g, d, tk, os⟩ := s₁
 repeat (first | with_reducible refine wpAny_loadPart_at he ?_ | with_reducible refine wpAny_loadPart_at hC ?_ | (with_reducible refine wpAny_isSubtype_exc hC ?_; rw [hcB]) | wp_step)
 rw [h1]
 refine wpAny_pure ?_
 rw [if_neg (by decide)]
 exact wpAny_pure (wpAny_raiseNew_none hh hE)
end
end
noncomputable def bX : List (Str × Nat) := [(("is_whole" : Str), 8), (("is_token" : Str), 16), (("token_wanted" : Str), 24), (("read_parameters" : Str), 25), (("parameter_mark" : Str), 26), (("read_body" : Str), 27), (("slid" : Str), 29), (("check_par" : Str), 30), (("group_tokens" : Str), 31), (("argument" : Str), 32), (("arguments" : Str), 33), (("filled" : Str), 34), (("call" : Str), 35), (("_law_cell" : Str), 43), (("_law_take" : Str), 44), (("_law_pieces" : Str), 45), (("_law_row" : Str), 46), (("_law_body" : Str), 47), (("_law_parameters" : Str), 48), (("_law_written" : Str), 49), (("_law_text" : Str), 50), (("_law_event" : Str), 51), (("_law_deeper" : Str), 52), (("_law_argument" : Str), 53), (("_law_bare" : Str), 54), (("_law_wanted" : Str), 55), (("_law_told" : Str), 56), (("_law_filled" : Str), 57), (("_law_macro_right" : Str), 58), (("_law_overlap_right" : Str), 59), (("_law_definition" : Str), 60), (("_law_refused_right" : Str), 61)]
noncomputable def Oc : List (Str × Int) := [(("BEGIN" : Str), 1), (("END" : Str), 2), (("PARAMETER" : Str), 6), (("SPACE" : Str), 10), (("OTHER" : Str), 12), (("OUT" : Str), 5), (("MATCH" : Str), 9), (("NOT_EXPANDED" : Str), 15), (("MOST_PARAMETERS" : Str), 9), (("DIGIT_NOUGHT" : Str), 48)]
noncomputable def WY : List (Str × Value) := [(("len" : Str), .builtin "len"), (("isinstance" : Str), .builtin "isinstance"), (("abs" : Str), .builtin "abs"), (("sum" : Str), .builtin "sum"), (("min" : Str), .builtin "min"), (("range" : Str), .type "range"), (("int" : Str), .type "int"), (("bool" : Str), .type "bool"), (("tuple" : Str), .type "tuple"), (("list" : Str), .type "list"), (("str" : Str), .type "str"), (("enumerate" : Str), .type "enumerate")]
noncomputable def OL : List (Str × PyData) := [(("BLANK" : Str), .tuple [.int 10, .int 32]), (("MARKS" : Str), .tuple [.int 5, .int 9, .int 15]), (("LEAST_CODES" : Str), .tuple ([0, 0, 0, 0, 0, 1, 0, 0, 0, 1, 0, 0, 0, 0, 0, 0].map .int)), (("GREATEST_CODES" : Str), .tuple ([1048575, 255, 255, 255, 255, 9, 255, 255, 255, 9, 255, 255, 255, 255, 255, 0].map .int)), (("_law_par" : Str), .tuple [.int 0, .int 1]), (("_law_out" : Str), .tuple [.int 0, .int 9]), (("_law_blank" : Str), .tuple [.int 10, .int 32]), (("_law_begin" : Str), .tuple [.int 1, .int 123]), (("_law_end" : Str), .tuple [.int 2, .int 125]), (("_law_mark" : Str), .tuple [.int 6, .int 35])]
noncomputable def TI : List (Str × Str × Str × Nat × Nat) := [(("TokenFeed" : Str), ("next" : Str), ("TokenFeed.next" : Str), 17, 1), (("TokenFeed" : Str), ("back" : Str), ("TokenFeed.back" : Str), 17, 2), (("TokenFeed" : Str), ("left" : Str), ("TokenFeed.left" : Str), 17, 3), (("TokenFeed" : Str), ("is_outer" : Str), ("TokenFeed.is_outer" : Str), 17, 4), (("Macro" : Str), ("has_brace" : Str), ("Macro.has_brace" : Str), 23, 1), (("Macro" : Str), ("same" : Str), ("Macro.same" : Str), 23, 2)]
noncomputable def Jc : List (Str × Str) := [(("TokenFeed" : Str), ("rest" : Str)), (("TokenFeed" : Str), ("outers" : Str)), (("Macro" : Str), ("parameters" : Str)), (("Macro" : Str), ("body" : Str)), (("Macro" : Str), ("is_long" : Str)), (("Macro" : Str), ("is_outer" : Str)), (("Macro" : Str), ("count" : Str)), (("Macro" : Str), ("delimiters" : Str))]
noncomputable def Pn : List Str := [("BadArgument" : Str), ("Runaway" : Str), ("OuterRefused" : Str), ("BadUse" : Str), ("BadDefinition" : Str)]
structure NZ (K : Frag) (mg : Str -> Option Value) (ad : Str -> Addr) (x i : Str) : Prop where
 g : mg x = some (.ref (ad x))
 k : keepIn K (.ref (ad x)) = true
 c1 : makesIn K (ad x) = true
 pl : plainGet K (ad x) "" = true
 hd : hasDictIn K (ad x) = true
 f1 : findIn K (.ref (ad x)) "__init__" = some (some (.ref (ad i)))
 f2 : typeIn K (.ref (ad i)) = some (.type "function")
theorem mi {α : Type} {a : α} {l : List α} (i : Nat) (h : l[i]? = some a) : a ∈ l := List.mem_of_getElem? h
abbrev EP (K : Frag) (B : Heap) (mg : Str -> Option Value) (ad : Str -> Addr) (x : Str) (i : Nat) : Prop := mg x = some (.ref (ad x)) /\ keepIn K (.ref (ad x)) = true /\ Fn B (ad x) x x (Be (st i)) (AB (st i)) (AM (st i)) .none
abbrev WO (K : Frag) (B : Heap) (ad : Str -> Addr) (c m q : Str) (i j : Nat) : Prop := findIn K (.ref (ad c)) m = some (some (.ref (ad q))) /\ isFn K (.ref (ad q)) = true /\ keepIn K (.ref (ad q)) = true /\ Fn B (ad q) m q (Be (Bh i j)) (AB (Bh i j)) (AM (Bh i j)) .none
structure Wd (K : Frag) (B : Heap) (mg mb : Str -> Option Value) (ad : Str -> Addr) (tk : Str -> Tok) : Prop where
 gb : Gb B mg mb
 X : K.In B
 fn : ∀ p ∈ bX, EP K B mg ad p.1 p.2
 nums : ∀ p ∈ Oc, mg p.1 = some (.int p.2 (tk p.1))
 bi : ∀ p ∈ WY, mg p.1 = none /\ mb p.1 = some p.2
 tups : ∀ p ∈ OL, mg p.1 = some (.ref (ad p.1)) /\ Reads B (.ref (ad p.1)) p.2 []
 me : ∀ p ∈ TI, WO K B ad p.1 p.2.1 p.2.2.1 p.2.2.2.1 p.2.2.2.2
 att : ∀ p ∈ Jc, findIn K (.ref (ad p.1)) p.2 = some none /\ BR K (ad p.1) p.2
 ex : ∀ x ∈ Pn, mg x = some (.ref (ad x)) /\ keepIn K (.ref (ad x)) = true /\ Uq K B (ad x) (ad "PageError.__init__") /\ BR K (ad x) "reason"
 exm : ∀ x ∈ Pn, ∀ y ∈ Pn, exmOne K (.ref (ad x)) (.ref (ad y)) = some (x == y)
 cTF : NZ K mg ad "TokenFeed" "TokenFeed.__init__"
 cMa : NZ K mg ad "Macro" "Macro.__init__"
 iPE : Fn B (ad "PageError.__init__") "__init__" "PageError.__init__" (Be (Bh 1 0)) (AB (Bh 1 0)) (AM (Bh 1 0)) (.ref (ad "PE.d")) /\ Tu B (ad "PE.d") [.str "" (tk "PE.d")]
 iTF : Fn B (ad "TokenFeed.__init__") "__init__" "TokenFeed.__init__" (Be (Bh 17 0)) (AB (Bh 17 0)) (AM (Bh 17 0)) (.ref (ad "TF.d")) /\ Tu B (ad "TF.d") [.ref (ad "TF.e")] /\ Tu B (ad "TF.e") []
 iMa : Fn B (ad "Macro.__init__") "__init__" "Macro.__init__" (Be (Bh 23 0)) (AB (Bh 23 0)) (AM (Bh 23 0)) (.ref (ad "Ma.d")) /\ Tu B (ad "Ma.d") [.bool false, .bool false]
 fDf : mg "definition" = some (.ref (ad "definition")) /\ keepIn K (.ref (ad "definition")) = true /\ Fn B (ad "definition") "definition" "definition" (Be (st 28)) (AB (st 28)) (AM (st 28)) (.ref (ad "df.d")) /\ Tu B (ad "df.d") [.bool false, .bool false]
section
variable {K : Frag} {B : Heap} {mg mb : Str -> Option Value} {ad : Str -> Addr} {tk : Str -> Tok} (W : Wd K B mg mb ad tk)
include W
theorem Wd.f_is_whole : EP K B mg ad "is_whole" 8 := W.fn ("is_whole", 8) (mi 0 rfl)
theorem Wd.f_is_token : EP K B mg ad "is_token" 16 := W.fn ("is_token", 16) (mi 1 rfl)
theorem Wd.f_token_wanted : EP K B mg ad "token_wanted" 24 := W.fn ("token_wanted", 24) (mi 2 rfl)
theorem Wd.f_read_parameters : EP K B mg ad "read_parameters" 25 := W.fn ("read_parameters", 25) (mi 3 rfl)
theorem Wd.f_parameter_mark : EP K B mg ad "parameter_mark" 26 := W.fn ("parameter_mark", 26) (mi 4 rfl)
theorem Wd.f_read_body : EP K B mg ad "read_body" 27 := W.fn ("read_body", 27) (mi 5 rfl)
theorem Wd.f_slid : EP K B mg ad "slid" 29 := W.fn ("slid", 29) (mi 6 rfl)
theorem Wd.f_check_par : EP K B mg ad "check_par" 30 := W.fn ("check_par", 30) (mi 7 rfl)
theorem Wd.f_group_tokens : EP K B mg ad "group_tokens" 31 := W.fn ("group_tokens", 31) (mi 8 rfl)
theorem Wd.f_argument : EP K B mg ad "argument" 32 := W.fn ("argument", 32) (mi 9 rfl)
theorem Wd.f_arguments : EP K B mg ad "arguments" 33 := W.fn ("arguments", 33) (mi 10 rfl)
theorem Wd.f_filled : EP K B mg ad "filled" 34 := W.fn ("filled", 34) (mi 11 rfl)
theorem Wd.f_call : EP K B mg ad "call" 35 := W.fn ("call", 35) (mi 12 rfl)
theorem Wd.f_law_cell : EP K B mg ad "_law_cell" 43 := W.fn ("_law_cell", 43) (mi 13 rfl)
theorem Wd.f_law_take : EP K B mg ad "_law_take" 44 := W.fn ("_law_take", 44) (mi 14 rfl)
theorem Wd.f_law_pieces : EP K B mg ad "_law_pieces" 45 := W.fn ("_law_pieces", 45) (mi 15 rfl)
theorem Wd.f_law_row : EP K B mg ad "_law_row" 46 := W.fn ("_law_row", 46) (mi 16 rfl)
theorem Wd.f_law_body : EP K B mg ad "_law_body" 47 := W.fn ("_law_body", 47) (mi 17 rfl)
theorem Wd.f_law_parameters : EP K B mg ad "_law_parameters" 48 := W.fn ("_law_parameters", 48) (mi 18 rfl)
theorem Wd.f_law_written : EP K B mg ad "_law_written" 49 := W.fn ("_law_written", 49) (mi 19 rfl)
theorem Wd.f_law_text : EP K B mg ad "_law_text" 50 := W.fn ("_law_text", 50) (mi 20 rfl)
theorem Wd.f_law_event : EP K B mg ad "_law_event" 51 := W.fn ("_law_event", 51) (mi 21 rfl)
theorem Wd.f_law_deeper : EP K B mg ad "_law_deeper" 52 := W.fn ("_law_deeper", 52) (mi 22 rfl)
theorem Wd.f_law_argument : EP K B mg ad "_law_argument" 53 := W.fn ("_law_argument", 53) (mi 23 rfl)
theorem Wd.f_law_bare : EP K B mg ad "_law_bare" 54 := W.fn ("_law_bare", 54) (mi 24 rfl)
theorem Wd.f_law_wanted : EP K B mg ad "_law_wanted" 55 := W.fn ("_law_wanted", 55) (mi 25 rfl)
theorem Wd.f_law_told : EP K B mg ad "_law_told" 56 := W.fn ("_law_told", 56) (mi 26 rfl)
theorem Wd.f_law_filled : EP K B mg ad "_law_filled" 57 := W.fn ("_law_filled", 57) (mi 27 rfl)
theorem Wd.f_law_macro_right : EP K B mg ad "_law_macro_right" 58 := W.fn ("_law_macro_right", 58) (mi 28 rfl)
theorem Wd.f_law_overlap_right : EP K B mg ad "_law_overlap_right" 59 := W.fn ("_law_overlap_right", 59) (mi 29 rfl)
theorem Wd.f_law_definition : EP K B mg ad "_law_definition" 60 := W.fn ("_law_definition", 60) (mi 30 rfl)
theorem Wd.f_law_refused_right : EP K B mg ad "_law_refused_right" 61 := W.fn ("_law_refused_right", 61) (mi 31 rfl)
theorem Wd.i_MATCH : mg "MATCH" = some (.int 9 (tk "MATCH")) := W.nums ("MATCH", 9) (mi 6 rfl)
theorem Wd.i_MOST_PARAMETERS : mg "MOST_PARAMETERS" = some (.int 9 (tk "MOST_PARAMETERS")) := W.nums ("MOST_PARAMETERS", 9) (mi 8 rfl)
theorem Wd.b_len : mg "len" = none /\ mb "len" = some (.builtin "len") := W.bi ("len", .builtin "len") (mi 0 rfl)
theorem Wd.b_isinstance : mg "isinstance" = none /\ mb "isinstance" = some (.builtin "isinstance") := W.bi ("isinstance", .builtin "isinstance") (mi 1 rfl)
theorem Wd.b_abs : mg "abs" = none /\ mb "abs" = some (.builtin "abs") := W.bi ("abs", .builtin "abs") (mi 2 rfl)
theorem Wd.b_sum : mg "sum" = none /\ mb "sum" = some (.builtin "sum") := W.bi ("sum", .builtin "sum") (mi 3 rfl)
theorem Wd.b_min : mg "min" = none /\ mb "min" = some (.builtin "min") := W.bi ("min", .builtin "min") (mi 4 rfl)
theorem Wd.b_range : mg "range" = none /\ mb "range" = some (.type "range") := W.bi ("range", .type "range") (mi 5 rfl)
theorem Wd.b_int : mg "int" = none /\ mb "int" = some (.type "int") := W.bi ("int", .type "int") (mi 6 rfl)
theorem Wd.b_bool : mg "bool" = none /\ mb "bool" = some (.type "bool") := W.bi ("bool", .type "bool") (mi 7 rfl)
theorem Wd.b_tuple : mg "tuple" = none /\ mb "tuple" = some (.type "tuple") := W.bi ("tuple", .type "tuple") (mi 8 rfl)
theorem Wd.b_list : mg "list" = none /\ mb "list" = some (.type "list") := W.bi ("list", .type "list") (mi 9 rfl)
theorem Wd.b_str : mg "str" = none /\ mb "str" = some (.type "str") := W.bi ("str", .type "str") (mi 10 rfl)
theorem Wd.b_enumerate : mg "enumerate" = none /\ mb "enumerate" = some (.type "enumerate") := W.bi ("enumerate", .type "enumerate") (mi 11 rfl)
theorem Wd.t_MARKS : mg "MARKS" = some (.ref (ad "MARKS")) /\ Reads B (.ref (ad "MARKS")) (.tuple [.int 5, .int 9, .int 15]) [] := W.tups ("MARKS", .tuple [.int 5, .int 9, .int 15]) (mi 1 rfl)
theorem Wd.t_LEAST_CODES : mg "LEAST_CODES" = some (.ref (ad "LEAST_CODES")) /\ Reads B (.ref (ad "LEAST_CODES")) (.tuple ([0, 0, 0, 0, 0, 1, 0, 0, 0, 1, 0, 0, 0, 0, 0, 0].map .int)) [] := W.tups ("LEAST_CODES", .tuple ([0, 0, 0, 0, 0, 1, 0, 0, 0, 1, 0, 0, 0, 0, 0, 0].map .int)) (mi 2 rfl)
theorem Wd.t_GREATEST_CODES : mg "GREATEST_CODES" = some (.ref (ad "GREATEST_CODES")) /\ Reads B (.ref (ad "GREATEST_CODES")) (.tuple ([1048575, 255, 255, 255, 255, 9, 255, 255, 255, 9, 255, 255, 255, 255, 255, 0].map .int)) [] := W.tups ("GREATEST_CODES", .tuple ([1048575, 255, 255, 255, 255, 9, 255, 255, 255, 9, 255, 255, 255, 255, 255, 0].map .int)) (mi 3 rfl)
theorem Wd.t_law_par : mg "_law_par" = some (.ref (ad "_law_par")) /\ Reads B (.ref (ad "_law_par")) (.tuple [.int 0, .int 1]) [] := W.tups ("_law_par", .tuple [.int 0, .int 1]) (mi 4 rfl)
theorem Wd.t_law_out : mg "_law_out" = some (.ref (ad "_law_out")) /\ Reads B (.ref (ad "_law_out")) (.tuple [.int 0, .int 9]) [] := W.tups ("_law_out", .tuple [.int 0, .int 9]) (mi 5 rfl)
theorem Wd.t_law_blank : mg "_law_blank" = some (.ref (ad "_law_blank")) /\ Reads B (.ref (ad "_law_blank")) (.tuple [.int 10, .int 32]) [] := W.tups ("_law_blank", .tuple [.int 10, .int 32]) (mi 6 rfl)
theorem Wd.t_law_begin : mg "_law_begin" = some (.ref (ad "_law_begin")) /\ Reads B (.ref (ad "_law_begin")) (.tuple [.int 1, .int 123]) [] := W.tups ("_law_begin", .tuple [.int 1, .int 123]) (mi 7 rfl)
theorem Wd.t_law_end : mg "_law_end" = some (.ref (ad "_law_end")) /\ Reads B (.ref (ad "_law_end")) (.tuple [.int 2, .int 125]) [] := W.tups ("_law_end", .tuple [.int 2, .int 125]) (mi 8 rfl)
theorem Wd.t_law_mark : mg "_law_mark" = some (.ref (ad "_law_mark")) /\ Reads B (.ref (ad "_law_mark")) (.tuple [.int 6, .int 35]) [] := W.tups ("_law_mark", .tuple [.int 6, .int 35]) (mi 9 rfl)
theorem Wd.m_next : WO K B ad "TokenFeed" "next" "TokenFeed.next" 17 1 := W.me ("TokenFeed", "next", "TokenFeed.next", 17, 1) (mi 0 rfl)
theorem Wd.m_back : WO K B ad "TokenFeed" "back" "TokenFeed.back" 17 2 := W.me ("TokenFeed", "back", "TokenFeed.back", 17, 2) (mi 1 rfl)
theorem Wd.m_left : WO K B ad "TokenFeed" "left" "TokenFeed.left" 17 3 := W.me ("TokenFeed", "left", "TokenFeed.left", 17, 3) (mi 2 rfl)
theorem Wd.m_is_outer : WO K B ad "TokenFeed" "is_outer" "TokenFeed.is_outer" 17 4 := W.me ("TokenFeed", "is_outer", "TokenFeed.is_outer", 17, 4) (mi 3 rfl)
theorem Wd.m_has_brace : WO K B ad "Macro" "has_brace" "Macro.has_brace" 23 1 := W.me ("Macro", "has_brace", "Macro.has_brace", 23, 1) (mi 4 rfl)
theorem Wd.m_same : WO K B ad "Macro" "same" "Macro.same" 23 2 := W.me ("Macro", "same", "Macro.same", 23, 2) (mi 5 rfl)
theorem Wd.a_T_rest : findIn K (.ref (ad "TokenFeed")) "rest" = some none /\ BR K (ad "TokenFeed") "rest" := W.att (("TokenFeed" : Str), ("rest" : Str)) (mi 0 rfl)
theorem Wd.a_T_outers : findIn K (.ref (ad "TokenFeed")) "outers" = some none /\ BR K (ad "TokenFeed") "outers" := W.att (("TokenFeed" : Str), ("outers" : Str)) (mi 1 rfl)
theorem Wd.a_M_parameters : findIn K (.ref (ad "Macro")) "parameters" = some none /\ BR K (ad "Macro") "parameters" := W.att (("Macro" : Str), ("parameters" : Str)) (mi 2 rfl)
theorem Wd.a_M_body : findIn K (.ref (ad "Macro")) "body" = some none /\ BR K (ad "Macro") "body" := W.att (("Macro" : Str), ("body" : Str)) (mi 3 rfl)
theorem Wd.a_M_is_long : findIn K (.ref (ad "Macro")) "is_long" = some none /\ BR K (ad "Macro") "is_long" := W.att (("Macro" : Str), ("is_long" : Str)) (mi 4 rfl)
theorem Wd.a_M_is_outer : findIn K (.ref (ad "Macro")) "is_outer" = some none /\ BR K (ad "Macro") "is_outer" := W.att (("Macro" : Str), ("is_outer" : Str)) (mi 5 rfl)
theorem Wd.a_M_count : findIn K (.ref (ad "Macro")) "count" = some none /\ BR K (ad "Macro") "count" := W.att (("Macro" : Str), ("count" : Str)) (mi 6 rfl)
theorem Wd.a_M_delimiters : findIn K (.ref (ad "Macro")) "delimiters" = some none /\ BR K (ad "Macro") "delimiters" := W.att (("Macro" : Str), ("delimiters" : Str)) (mi 7 rfl)
end
section
open PySem.Builtin PySem.Builtin.ObjectAttr
section
variable {prog : Program} {w : World} {A : Around} {E : Value -> Shared -> Prop} {s : Shared} {h : Heap} {t : Nat}
 {B h₀ : Heap} {S₀ : List Addr} {outer : List Env} {sc : Scope} {L : Addr} {l : A9} {env : Env} {mg mb : Str -> Option Value} {n : Nat} {Cs : Value -> Prop} {K : Frag} {C : Addr} {name : Str} {ad : Str -> Addr} {tk : Str -> Tok}
theorem cJ {pos : Pos} {f : Value} {a : Value} {e : Expr} {rest : List Expr} {M : Model} {Q : Value -> Shared -> Prop} {s : Shared} (X : K.In B) (hk : keepIn K f = true)
  (he : starEach (e :: rest) env = (false, eval e env) :: starEach rest env) (hplain : (backTo pos (starEach rest env)).any (·.1) = false)
  (h : wpAny M A (spliced (backTo pos (starEach (e :: rest) env))) (fun vs s₁ => B.StaysIn s₁.heap /\ wpAny M A (call f (a :: vs)) Q E s₁) E s) :
  wpAny M A (callWith pos f [a] (backTo pos (starEach (e :: rest) env)) []) Q E s :=
 callWith_K X hk (wpAny_mono h (fun vs s₁ x => ⟨X.keeps x.1, x.2⟩) fun _ _ x => x) he hplain
theorem aq {pos : Pos} {f : Value} {a : Value} {M : Model} {Q : Value -> Shared -> Prop} (X : K.In B) (F : Fx B h₀ S₀ outer sc L h l) (hk : keepIn K f = true)
  (k : wpAny M A (call f [a]) Q E (mk s h t)) : wpAny M A (callWith pos f [a] (backTo pos (starEach [] env)) []) Q E (mk s h t) :=
 callWith_K0 (X.keeps F.base) hk k
theorem Ov {e : Addr} {vs : Array Value} {sl : Array (Option Value)} {v : Value} {Q : Unit -> Shared -> Prop} (X : K.In B) (F : Fx B h₀ S₀ outer sc L h l) (hx : h.get? e = some { cls := .ref C, data := .fields vs, slots := sl }) (S : BR K C name) (hf : h₀.get? e = none)
  (k : ∀ h' t' d, Fx B h₀ S₀ outer sc L h' l -> h'.get? e = some { cls := .ref C, dict := some d, data := .fields vs, slots := sl } -> Q () (mk s h' t')) :
  wpAny (model prog w) A (setAttr (.ref e) name v) Q E (mk s h t) := by
 have I : InstAt h e { cls := .ref C, data := .fields vs, slots := sl } C none := ⟨hx, rfl, rfl, trivial⟩
 refine Ln (X.keeps F.base) I S fun b tk t' => ?_
 refine HS (fun cd hc hd ne ho hp => ?_) S.cls
 have hx1 : (mk s h t').heap.get? e = _ := hx
 refine wpAny_bind (wpAny_pure (wpAny_bind (wpAny_bind (wpAny_loadPart hx1 (wpAny_bind ((looks_clsIn (X.keeps F.base) hc).here ?_))))))
 rw [hd]
 have hes : e ≠ h.objs.size := Nat.ne_of_lt (Heap.lt_size hx)
 have hx2 : (h.push { cls := .type "dict", data := .dict #[] }).get? e = _ := Heap.get?_push_of_some _ hx
 show wpAny (model prog w) A.in1 (do
   let d <- alloc { cls := Value.type "dict", data := Data.dict #[] }
   update e fun o => { cls := o.cls, dict := some d, data := o.data, slots := o.slots }
   dictMade (Value.ref C) e d) _ _ (mk s h t')
 refine wpAny_bind (wpAny_alloc (s := mk s h t') (wpAny_bind (wpAny_update (s := mk s (h.push emptyDict) t') hx2 (wpAny_pure ?_))))
 have hcs : (h.push emptyDict).get? h.objs.size = some emptyDict := Heap.get?_push_size _ rfl
 have hgd : ((h.push emptyDict).update e fun o => { cls := o.cls, dict := some h.objs.size, data := o.data, slots := o.slots }).get? h.objs.size = some emptyDict := (Heap.get?_update_ne _ _ _ _ hes.symm).trans hcs
 have hge : ((h.push emptyDict).update e fun o => { cls := o.cls, dict := some h.objs.size, data := o.data, slots := o.slots }).get? e = some { cls := .ref C, dict := some h.objs.size, data := .fields vs, slots := sl } := Heap.get?_update_self _ hx2 rfl
 have hnd : ((h.push emptyDict).update e fun o => { cls := o.cls, dict := some h.objs.size, data := o.data, slots := o.slots }).Ns h.objs.size (fun _ => none) := ⟨_, #[], _, hgd, rfl, fun e he => absurd he (by simp), fun _ => rfl⟩
 have K1 : Kp B [] [] h (h.push emptyDict) := Kp.push _
 have K2 : Kp B [e] [] (h.push emptyDict) ((h.push emptyDict).update e fun o => { cls := o.cls, dict := some h.objs.size, data := o.data, slots := o.slots }) :=
  Kp.one (fun b o ne q => (Heap.get?_update_ne _ _ _ _ ne).trans q) hx2 hge (FM F hf) (.head _) (by show Value.ref C ≠ _; simp) (fun _ _ q => nomatch q)
 have F2 := (F.grow K1).step K2 (Ac (.inr hf))
 have hdL : h.objs.size ≠ L := by
  refine Gr (fun o _ _ a _ => ?_) F.ns
  exact (Nat.ne_of_lt (Heap.lt_size a)).symm
 have hd0 : h₀.get? h.objs.size = none := F.kp.alive (Heap.get?_none_of_le (Nat.le_refl _))
 show wpAny _ _ (storeInDict h.objs.size (.str name tk) name v) _ _ _
 unfold storeInDict newKeyGuard
 refine wpAny_bind (wpAny_pure (wpAny_bind (wpAny_nsSet1 (s := mk s _ t') (Heap.Ns1.of_empty hnd) fun h' hn' hs => ?_)))
 refine DK (fun oD esD epD hoD hdD hcD => ?_) <| hn'.count (PySem.Within.cons name v PySem.Within.nil)
 refine wpAny_bind (wpAny_lookBehind hoD (by rw [hdD]; exact pastItsLine_dict (by rw [List.length_cons, List.length_nil] at hcD; have := sizeLine_eq; omega)) ?_)
 have K3 : Kp B [] [h.objs.size] ((h.push emptyDict).update e fun o => { cls := o.cls, dict := some h.objs.size, data := o.data, slots := o.slots }) h' :=
  Kp.oneD (fun b o ne e => (hs.2 b ne).trans e) hgd hoD rfl hdD (FM F hd0) (.head _)
 have F3 := F2.stepD K3 AH (Ac hd0) (Ar hdL.symm)
 exact wpAny_pure ⟨rfl, k h' _ _ F3 ((hs.2 e hes).trans hge)⟩
end
end
section
variable {prog : Program} {w : World} {A : Around} {E : Value -> Shared -> Prop} {s : Shared} {h : Heap} {t : Nat}
 {B h₀ : Heap} {S₀ : List Addr} {outer : List Env} {sc : Scope} {L : Addr} {l : A9} {env : Env} {mg mb : Str -> Option Value} {n : Nat} {Cs : Value -> Prop} {K : Frag} {C : Addr} {name : Str} {ad : Str -> Addr} {tk : Str -> Tok}
theorem E9 {o value : Expr} {attr : Str} {rest : List Stmt} {pos p : Pos} {M : Model} {s : Shared} {Q : Flow -> Shared -> Prop} (hs : swapsWith value (some (.Attribute o attr p)) pos.line env = pure false)
  (h : wpAny M A (eval value env) (fun v s₁ => wpAny M A (eval o env) (fun ov s₂ => wpAny M A (setAttr ov attr v) (fun _ s₃ => wpAny M A (execs rest env) Q E s₃) E s₂) E s₁) E s) : wpAny M A (execs (.Assign [.Attribute o attr p] value pos :: rest) env) Q E s :=
 wpAny_execs_cons (plainObj_wpAny_Assign_Attribute h hs)
theorem Cj {P : Prop} {s : Shared} {t : Nat} (F : Fx B h₀ S₀ outer sc L h l) (k : P) : B.StaysIn (mk s h t).heap /\ P := ⟨F.base, k⟩
theorem XR {rest : List Stmt} {pos : Pos} {M : Model} {s : Shared} {Q : Flow -> Shared -> Prop} (h : wpAny M A (execs rest env) Q E s) : wpAny M A (execs (.Pass pos :: rest) env) Q E s := TK (wpAny_Pass ⟨rfl, h⟩)
end
section
variable {prog : Program} {w : World} {A : Around} {E : Value -> Shared -> Prop} {s : Shared} {h : Heap} {t : Nat}
 {B h₀ : Heap} {S₀ : List Addr} {outer : List Env} {sc : Scope} {L : Addr} {l : A9} {env : Env} {mg mb : Str -> Option Value} {n : Nat} {Cs : Value -> Prop} {K : Frag} {C : Addr} {name : Str} {ad : Str -> Addr} {tk : Str -> Tok}
theorem ME (W : Wd K B mg mb ad tk) {e T : Addr} {h₂ : Heap} {v : Value} (S : BR K C "reason") (he0 : h.get? e = none) (K2 : Kp B [] [] h h₂) (hx : h₂.get? e = some (Cq C T)) :
  IY prog w B 1 (.ref (ad "PageError.__init__")) [.ref e, v] [] h h₂ (fun v h' => v = .none /\ ∃ o vs, h'.get? e = some o /\ o.cls = .ref C /\ o.data = .fields vs /\ 1 < vs.size /\ vs[1]? = some .none) BW := by
 refine CQ [("self", some (.ref e)), ("reason", some v)] W.iPE.1 W.gb.lim (binds := [("self", .ref e), ("reason", v)]) (rest := []) (fun _ _ _ _ _ _ s t base => ?_) rfl (FF ["self", "reason"] rfl (by decide +kernel) rfl) ?_
 ·refine Ap (fun n e2 => ?_) W.iPE.2
  exact BindsTo.of_defaults rfl (base _ _ e2) rfl rfl rfl
 intro A outer s L env h₁ t₁ he hf hL F K1 hA
 refine E9 rfl (AQ he F (.tail _ (.head _)) (AQ he F (.head _) ?_ (by decide +kernel)) (by decide +kernel))
 have hx1 : h₁.get? e = some (Cq C T) := K1.keep e _ hx AD (fun _ _ q => nomatch q)
 refine Ov W.X F hx1 S he0 fun h' t' d F' hx' => Dm ?_
 refine F'.fin ⟨rfl, _, _, hx', rfl, rfl, by simp, rfl⟩
theorem Ub (W : Wd K B mg mb ad tk) {X : Str} {m : Str} {np cp pos p : Pos} {k : Nat} {rest : List Stmt} {Q : Flow -> Shared -> Prop} (he : Ax env sc L) (hf : env.frame = some L) (hA : Db A (env :: outer) n) (F : Fx B h₀ S₀ outer sc L h l) (hn : 2 <= n)
  (hX : X ∈ Pn) (hsc : sc.names.lookup X = some .globalImplicit) (hd : (X == ("__debug__" : Str)) = false) (hC : Cs (.ref (ad X))) (hE : D0 B h₀ S₀ L s Cs false = E := by first | rfl | assumption) :
  wpAny (model prog w) A (execs (.Raise (some (.Call (.Name X np) [.Constant (.str m) k p] [] cp)) none pos :: rest) env) Q E (mk s h t) := by
 subst hE
 refine I5 (fun hv hk Y S => ?_) <| W.ex X hX
 refine WE (K := K) (C := ad X) (fI := ad "PageError.__init__") hA.handled ?_
 refine Ay rfl ?_
 refine B5 W.gb he F hsc hv ?_ hd
 refine jK W.X hk rfl rfl (AW rfl (Ph (args_nil (Cj F ?_))))
 refine I9 (QI W.X Y (by simp) fun e T h₂ h1 h2 k h3 => ME W S h1 k h3) he hf hA F hn AH (fun c (x : BW c) => x.elim) fun v h' t' F' K' r => ?_
 revert r; refine FR fun e z0 hnew z1 => ?_; obtain rfl := z0; revert z1; refine Eo fun o vs ho hc hdd z2 => ?_; revert z2; refine Ak fun hsz h1 => ?_
 refine JS e o vs rfl (Y.keeps F'.base) ⟨ho, hc, hdd, h1, e, h', t', rfl, rfl, F'.kp, F.kp.alive hnew, ?_, fun o' q => ?_, o, vs, ho, ?_, hdd, hsz, .inl ⟨rfl, h1⟩⟩
 ·refine DK (fun o es ep a b _ => ?_) F'.ns
  exact ZT o es ep a b
 ·rw [ho] at q; cases q; rw [hc]; simp
 ·rw [hc]; exact hC
end
abbrev AN := Int × Int
abbrev AC := List (Int × Int)
noncomputable def Dk (p : Int × Int) : PyData := .tuple [.int p.1, .int p.2]
noncomputable def An (l : AC) : List PyData := l.map Dk
abbrev Tk (h : Heap) (v : Value) (p : Int × Int) : Prop := Reads h v (Dk p) []
abbrev Ts (h : Heap) (vs : List Value) (l : AC) : Prop := ReadsAll h vs (An l) []
theorem Gd (p q : Int × Int) : PyData.eqv (Dk p) (Dk q) = decide (p = q) := by
 obtain ⟨a, b⟩ := p
 obtain ⟨c, d⟩ := q
 by_cases e1 : a = c <;> by_cases e2 : b = d <;> simp [Dk, PyData.eqv, PyData.eqvAll, e1, e2]
theorem FS : ∀ (l m : AC), PyData.eqvAll (An l) (An m) = decide (l = m)
 | [], [] => by simp [An, PyData.eqvAll]
 | [], _ :: _ => by simp [An, PyData.eqvAll]
 | _ :: _, [] => by simp [An, PyData.eqvAll]
 | p :: l, q :: m => by
  have := FS l m
  show PyData.eqvAll (Dk p :: An l) (Dk q :: An m) = _
  rw [PyData.eqvAll, Gd, this]
  simp [Bool.decide_and]
theorem N6 (l m : AC) : PyData.eqv (.tuple (An l)) (.tuple (An m)) = decide (l = m) := by rw [<- FS]; rfl
theorem Gj (p : Int × Int) : (Dk p).canLay0 = true := by simp [Dk, PyData.canLay0, PyData.canLayAll0]
theorem EH : ∀ l : AC, PyData.canLayAll0 (An l) = true
 | [] => by simp [An, PyData.canLayAll0]
 | p :: l => by
  show PyData.canLayAll0 (Dk p :: An l) = true
  rw [PyData.canLayAll0, Gj, EH l]; rfl
theorem Ej (p : Int × Int) : (Dk p).depth <= 3 := by simp [Dk, PyData.depth, PyData.depthAll]
theorem D5 : ∀ l : AC, PyData.depthAll (An l) <= 3
 | [] => by simp [An, PyData.depthAll]
 | p :: l => by
  show PyData.depthAll (Dk p :: An l) <= 3
  rw [PyData.depthAll]
  exact Nat.max_le.mpr ⟨Ej p, D5 l⟩
def Al (h : Heap) (a : Addr) : Prop := ∃ o, h.get? a = some o
theorem Al.kp {B : Heap} {S D : List Addr} {h h' : Heap} {a : Addr} (k : Kp B S D h h') (x : Al h a) : Al h' a := Ap (fun o e => Ah (fun o' e' _ => ⟨o', e'⟩) (k.kind a o e)) x
theorem Li.al {h : Heap} {a : Addr} {vs : List Value} (x : Li h a vs) : Al h a := Ap (fun _ e => ⟨_, e⟩) x
theorem EW {h : Heap} {a b : Addr} (e : h.get? b = none) (x : Al h a) : a ≠ b := fun q => by revert x; refine Ap fun o e' => ?_; rw [q, e] at e'; cases e'
theorem Ob.al {h : Heap} {x dx C : Addr} {m : Str -> Option Value} (o : Ob h x dx C m) : Al h x := ⟨_, o.obj⟩
theorem Ob.alD {h : Heap} {x dx C : Addr} {m : Str -> Option Value} (o : Ob h x dx C m) : Al h dx := Gr (fun _ _ _ e _ => ⟨_, e⟩) o.dic
structure Fd (B h : Heap) (C f dx r : Addr) (ps outs : AC) : Prop where
 ob : ∃ m o, Ob h f dx C m /\ m "rest" = some (.ref r) /\ m "outers" = some (.ref o) /\ m "next" = none /\ m "back" = none /\ m "left" = none /\ m "is_outer" = none /\ Reads h (.ref o) (.tuple (An outs)) []
 li : ∃ vs, Li h r vs /\ Ts h vs ps.reverse
 len : ps.length <= 100000
 notB : B.get? r = none
theorem Fd.kw {B h h' : Heap} {S D : List Addr} {C f dx r : Addr} {ps outs : AC} (k : Kw S D h h') (x : Fd B h C f dx r ps outs) (h1 : f ∉ S) (h2 : r ∉ S) (h3 : dx ∉ D) : Fd B h' C f dx r ps outs :=
 ⟨ET (fun m o a b => ⟨m, o, a.kw k h1 h3, b.1, b.2.1, b.2.2.1, b.2.2.2.1, b.2.2.2.2.1, b.2.2.2.2.2.1, Reads.kw k b.2.2.2.2.2.2⟩) x.ob, Ah (fun vs a b => ⟨vs, a.kw k h2, ReadsAll.kw k b⟩) x.li, x.len, x.notB⟩
theorem Fd.kp {B B' h h' : Heap} {S D : List Addr} {C f dx r : Addr} {ps outs : AC} (k : Kp B' S D h h') (x : Fd B h C f dx r ps outs) (h1 : f ∉ S) (h2 : r ∉ S) (h3 : dx ∉ D) : Fd B h' C f dx r ps outs := x.kw k.toKw h1 h2 h3
theorem Fd.al1 {B h : Heap} {C f dx r : Addr} {ps outs : AC} (x : Fd B h C f dx r ps outs) : Al h f := ET (fun _ _ a _ => a.al) x.ob
theorem Fd.al2 {B h : Heap} {C f dx r : Addr} {ps outs : AC} (x : Fd B h C f dx r ps outs) : Al h dx := ET (fun _ _ a _ => a.alD) x.ob
theorem Fd.al3 {B h : Heap} {C f dx r : Addr} {ps outs : AC} (x : Fd B h C f dx r ps outs) : Al h r := Ah (fun _ a _ => a.al) x.li
theorem Fd.ne {B h : Heap} {C f dx r : Addr} {ps outs : AC} (x : Fd B h C f dx r ps outs) : f ≠ r := ET (fun _ _ a _ => Ah (fun _ b _ => a.neLi b) x.li) x.ob
section
variable {prog : Program} {w : World} {A : Around} {E : Value -> Shared -> Prop} {s : Shared} {h : Heap} {t : Nat}
 {B h₀ : Heap} {S₀ : List Addr} {outer : List Env} {sc : Scope} {L : Addr} {l : A9} {env : Env} {mg mb : Str -> Option Value} {n : Nat} {Cs : Value -> Prop} {K : Frag} {C : Addr} {name : Str} {ad : Str -> Addr} {tk : Str -> Tok}
theorem LA {v : Value} {p : Int × Int} (r : Tk h v p) : ∃ d u1 u2, v = .ref d /\ IsTup h d #[.int p.1 u1, .int p.2 u2] := by
 unfold Tk Dk at r
 generalize ha : ([] : List Addr) = as at r
 cases r with
 | tuple e c d rs =>
  rename_i a o vs n
  subst ha
  refine CY (fun v1 r1 e1 x1 y1 => ?_) <| A4 rs
  refine CY (fun v2 r2 z0 x2 y2 => ?_) <| A4 y1; obtain rfl := z0
  have := BP y2
  subst this
  cases x1; cases x2
  rename_i u1 u2
  refine ZT a u1 u2 rfl ⟨o, e, c, n, ?_⟩
  rw [d]
  congr 1
  exact Array.toList_inj.mp e1
theorem ZE {value slice : Expr} {v : Value} {p : Int × Int} {k : Int} {u : Tok} {Q : Value -> Shared -> Prop} (r : Tk h v p) (hk : k = 0 \/ k = 1) (c : ∀ tk, Q (.int (if k = 0 then p.1 else p.2) tk) (mk s h t))
  (hs : ∀ d, subscripted slice false (.ref d) (.int k u) = operate [.ref d, .int k u] (getItem (.ref d) (.int k u))) :
  wpAny (model prog w) A (subscriptTail value slice v (.int k u)) Q E (mk s h t) := by
 refine Gr (fun d u1 u2 z0 hT => ?_) <| LA r; obtain rfl := z0
 rcases hk with rfl | rfl
 ·exact tail_any hT.typeIs slot_tuple_getitem.lookup (PyProof.Rows.getItem_tuple (s := mk s h t) (j := 0) hT (by omega) (by omega) rfl rfl (c u1)) (hs d)
 ·exact tail_any hT.typeIs slot_tuple_getitem.lookup (PyProof.Rows.getItem_tuple (s := mk s h t) (j := 1) hT (by omega) (by omega) rfl rfl (c u2)) (hs d)
theorem Mp {value slice : Expr} {v : Value} {p : Int × Int} {u : Tok} {Q : Value -> Shared -> Prop} (hs : ∀ d, subscripted slice false (.ref d) (.int 0 u) = operate [.ref d, .int 0 u] (getItem (.ref d) (.int 0 u))) (r : Tk h v p) (c : ∀ tk, Q (.int p.1 tk) (mk s h t)) :
  wpAny (model prog w) A (subscriptTail value slice v (.int 0 u)) Q E (mk s h t) := ZE r (.inl rfl) (fun tk => by rw [if_pos rfl]; exact c tk) hs
theorem Up {value slice : Expr} {v : Value} {p : Int × Int} {u : Tok} {Q : Value -> Shared -> Prop} (hs : ∀ d, subscripted slice false (.ref d) (.int 1 u) = operate [.ref d, .int 1 u] (getItem (.ref d) (.int 1 u))) (r : Tk h v p) (c : ∀ tk, Q (.int p.2 tk) (mk s h t)) :
  wpAny (model prog w) A (subscriptTail value slice v (.int 1 u)) Q E (mk s h t) := ZE r (.inr rfl) (fun tk => by rw [if_neg (by decide)]; exact c tk) hs
theorem Rf {Q : Value -> Shared -> Prop} (k : Q (.bool true) (mk s h t)) : wpAny (model prog w) A (compareOp .Is .none .none) Q E (mk s h t) := is_none k
theorem QV {v : Value} {p : Int × Int} {Q : Value -> Shared -> Prop} (r : Tk h v p) (k : Q (.bool false) (mk s h t)) : wpAny (model prog w) A (compareOp .Is v .none) Q E (mk s h t) := by
 refine Gr (fun d u1 u2 z0 hT => ?_) <| LA r; obtain rfl := z0
 exact is_none k
theorem UL {v : Value} {p : Int × Int} {Q : Value -> Shared -> Prop} (r : Tk h v p) (k : ∀ tk t', Q (.int 2 tk) (mk s h t')) : wpAny (model prog w) A (call (.builtin "len") [v]) Q E (mk s h t) := by
 refine Gr (fun d u1 u2 z0 hT => ?_) <| LA r; obtain rfl := z0
 exact PyProof.Rows.len_tuple (s := mk s h t) hT (by simp) (k _ _)
theorem Wg {v : Value} {p : Int × Int} {Q : Value -> Shared -> Prop} (r : Tk h v p) (k : Q (.bool true) (mk s h t)) : wpAny (model prog w) A (call (.builtin "isinstance") [v, .type "tuple"]) Q E (mk s h t) := PD r k
theorem US {v : Value} {q : List Int} (r : Reads h v (.tuple (q.map .int)) []) : ∃ d vs, v = .ref d /\ IsTup h d vs /\ ReadsAll h vs.toList (q.map .int) [] := by
 generalize ha : ([] : List Addr) = as at r
 cases r with
 | tuple e c d rs => exact QC _ _ rfl ⟨_, e, c, _, d⟩ (ha ▸ rs)
theorem LI {value slice : Expr} {v : Value} {q : List Int} {k x : Int} {u : Tok} {Q : Value -> Shared -> Prop} (hs : ∀ d, subscripted slice false (.ref d) (.int k u) = operate [.ref d, .int k u] (getItem (.ref d) (.int k u))) (r : Reads h v (.tuple (q.map .int)) []) (h0 : 0 <= k) (hv : q[k.toNat]? = some x) (hq : q.length <= 1000) (c : ∀ tk, Q (.int x tk) (mk s h t)) :
  wpAny (model prog w) A (subscriptTail value slice v (.int k u)) Q E (mk s h t) := by
 refine CY (fun d vs z0 hT rs => ?_) <| US r; obtain rfl := z0
 have hlt : k.toNat < q.length := (List.getElem?_eq_some_iff.mp hv).1
 have hl := BB rs
 simp only [List.length_map, Array.length_toList] at hl
 refine Ah (fun v ev rv => ?_) <| Bi (d := .int x) rs (by rw [List.getElem?_map, hv]; rfl)
 rw [Array.getElem?_toList] at ev
 cases rv
 refine tail_any hT.typeIs slot_tuple_getitem.lookup (PyProof.Rows.getItem_tuple (s := mk s h t) (j := k.toNat) hT (by omega) (by omega) ?_ ev (c _)) (hs d)
 unfold seqIndex?
 have hk : ¬ k < 0 := by omega
 simp only [hk, if_false]
 first | (rw [if_pos (by omega)]) | (simp; omega)
theorem cA {va vb : Value} {p : Int × Int} {q : AC} {Q : Value -> Shared -> Prop} (hA : Db A outer n) (ra : Tk h va p) (rb : Reads h vb (.tuple (An q)) []) (hq : Q (.bool (decide (p ∈ q))) (mk s h t)) : wpAny (model prog w) A (compareOp .In va vb) Q E (mk s h t) := by
 refine SeqAt.in_tuple_reads (s := mk s h t) rb ra (EH q) (Gj p) (by have := hA.units; have := Ej p; omega) ?_
 have : ((An q).any fun y => PyData.eqv y (Dk p)) = decide (p ∈ q) := by
  unfold An
  rw [List.any_map, Bool.eq_iff_iff, List.any_eq_true]
  simp only [Function.comp, Gd, decide_eq_true_eq]
  exact ⟨Ah fun x a b => b ▸ a, fun a => ⟨p, a, rfl⟩⟩
 rw [this]; exact hq
theorem cO {va vb : Value} {x : Int} {q : List Int} {u : Tok} {Q : Value -> Shared -> Prop} (hA : Db A outer n) (rb : Reads h vb (.tuple (q.map .int)) []) (hq : Q (.bool (decide (x ∈ q))) (mk s h t)) : wpAny (model prog w) A (compareOp .In (.int x u) vb) Q E (mk s h t) := by
 have hc : ∀ q : List Int, PyData.canLayAll0 (q.map .int) = true := fun q => by
  induction q with
  | nil => simp [PyData.canLayAll0]
  | cons a r ih => simp [PyData.canLayAll0, PyData.canLay0, ih]
 refine SeqAt.in_tuple_reads (s := mk s h t) rb (.int x u) (hc q) (by simp [PyData.canLay0]) (by have := hA.units; simp [PyData.depth]; omega) ?_
 have : ((q.map PyData.int).any fun y => PyData.eqv y (.int x)) = decide (x ∈ q) := by
  rw [List.any_map, Bool.eq_iff_iff, List.any_eq_true]
  simp only [Function.comp, PyData.eqv, decide_eq_true_eq, beq_iff_eq]
  exact ⟨Ah fun y a b => b ▸ a, fun a => ⟨x, a, rfl⟩⟩
 rw [this]; exact hq
theorem Fx.old {d : Addr} (e : h.get? d = none) (F : Fx B h₀ S₀ outer sc L h l) : h₀.get? d = none := F.kp.alive e
theorem Ib {e : Expr} {rest : List Stmt} {pos : Pos} {s : Shared} {Q : Flow -> Shared -> Prop} (hs : swapsWith e none pos.line env = pure false) (he : Ax env sc L) (F : Fx B h₀ S₀ outer sc L h l)
  (k : wpAny (model prog w) A (eval e env) (fun _ s₁ => wpAny (model prog w) A (execs rest env) Q E s₁) E s) : wpAny (model prog w) A (execs (.Expr e pos :: rest) env) Q E s :=
 ZN k (by unfold interactive; rw [he.scope, F.nm.kind]; rfl) hs
theorem Wo {x y : Int} {u v : Tok} {Q : Value -> Shared -> Prop} (hq : Q (.int (x - y) t) (mk s h (t + 1))) : wpAny (model prog w) A (inplaceOp .Sub (.int x u) (.int y v)) Q E (mk s h t) := PyProof.Rows.isub_int hq
theorem Lq {i : Int} {u : Tok} {Q : Value -> Shared -> Prop} (k : Q (.int (-i) t) (mk s h (t + 1))) : wpAny (model prog w) A (unaryOp .USub (.int i u)) Q E (mk s h t) := PyProof.Rows.neg_int k
theorem Hr {M : Model} {s : Shared} {Q : Value -> Shared -> Prop} (k : Q .none s) : wpAny M A (evalPart none env) Q E s := wpAny_pure k
theorem N8 {M : Model} {s : Shared} {e : Expr} {Q : Value -> Shared -> Prop} (k : wpAny M A (eval e env) Q E s) : wpAny M A (evalPart (some e) env) Q E s := k
theorem am {elts : List Expr} {k} {tpos pos : Pos} {value : Expr} {rest : List Stmt} {M : Model} {s : Shared} {Q : Flow -> Shared -> Prop} (hs : swapsWithSole [.Tuple elts k tpos] value pos.line env = pure false) (hw : swappedStores [.Tuple elts k tpos] value env = pure none)
  (h : wpAny M A (eval value env) (fun v s₁ => wpAny M A (assign (.Tuple elts k tpos) env v) (fun _ s₂ => wpAny M A (execs rest env) Q E s₂) E s₁) E s) : wpAny M A (execs (.Assign [.Tuple elts k tpos] value pos :: rest) env) Q E s :=
 wpAny_execs_cons (Assign_Tuple h hs hw)
theorem Gs {h' : Heap} (e : Heap.ExtBut h.objs.size h h') : Kp B [] [] h h' := .of_keeps fun b o q => e b o (Nat.ne_of_lt (Heap.lt_size q)) q
theorem Z3 {x y : Str} {p q tpos : Pos} {k} {d : Addr} {a b : Value} {Q : Unit -> Shared -> Prop} (hA : A.handled = none) (F : Fx B h₀ S₀ outer sc L h l) (z : Tu h d [a, b])
  (c : ∀ h', Fx B h₀ S₀ outer sc L h' l -> Kp B [] [] h h' -> wpAny (model prog w) A (assign (.Name x p) env a) (fun _ s₁ => wpAny (model prog w) A (assign (.Name y q) env b) Q E s₁) E (mk s h' t)) :
  wpAny (model prog w) A (assign (.Tuple [.Name x p, .Name y q] k tpos) env (.ref d)) Q E (mk s h t) :=
 assign_Tuple_tuple (s := mk s h t) hA z.isTup rfl rfl fun h' e => assignInOrder_cons (wpAny_mono (c h' (F.grow (Gs e)) (Gs e)) (fun _ s₁ z => assignInOrder_cons (wpAny_mono z (fun _ s₂ z => assignInOrder_nil z) fun _ _ x => x)) fun _ _ x => x)
theorem Ys {elts : List Expr} {k} {tpos pos : Pos} {value : Expr} {rest : List Stmt} {M : Model} {s : Shared} {names : List Str} {Q : Flow -> Shared -> Prop} (he : Ax env sc L) (hs : swapsWithSole [.Tuple elts k tpos] value pos.line env = pure false)
  (hw : ∀ env : Env, env.scope = sc -> swappedStores [.Tuple elts k tpos] value env = pure (some names))
  (h : wpAny M A (eval value env) (fun v s₁ => wpAny M A (unpackItems v names.length none) (fun items s₂ =>
   wpAny M A (assignInOrder (names.reverse.map fun n => bindName env n) items.reverse) (fun _ s₃ => wpAny M A (execs rest env) Q E s₃) E s₂) E s₁) E s) : wpAny M A (execs (.Assign [.Tuple elts k tpos] value pos :: rest) env) Q E s :=
 wpAny_execs_cons (Assign_Tuple_swapped h hs (hw env he.scope))
section
variable {M : Model} {s : Shared} {X Y : List Stmt} {Q : Flow -> Shared -> Prop}
theorem aC {p : Prop} [Decidable p] (a : p -> wpAny M A (execs X env) Q E s) (b : ¬ p -> wpAny M A (execs Y env) Q E s) : wpAny M A (execs (if decide p = true then X else Y) env) Q E s := by
 by_cases h : p
 ·rw [if_pos (by simpa using h)]; exact a h
 ·rw [if_neg (by simpa using h)]; exact b h
theorem Z2 (b : wpAny M A (execs Y env) Q E s) : wpAny M A (execs (if false = true then X else Y) env) Q E s := b
theorem ZD (b : wpAny M A (execs Y env) Q E s) : wpAny M A (execs (if (!true) = true then X else Y) env) Q E s := b
end
section
variable {f dx r : Addr} {ps outs : AC}
theorem IO {expr : Bool} {Q : Value -> Shared -> Prop} (W : Wd K B mg mb ad tk) (F : Fx B h₀ S₀ outer sc L h l) (x : Fd B h (ad "TokenFeed") f dx r ps outs) (k : ∀ t', Q (.ref r) (mk s h t')) : wpAny (model prog w) A (getAttr (.ref f) "rest" expr) Q E (mk s h t) := by
 refine CY (fun m o O a _ => ?_) x.ob
 exact OM W.X F O W.cTF.pl W.cTF.hd W.a_T_rest.1 a rfl k
theorem Nc {expr : Bool} {Q : Value -> Shared -> Prop} (W : Wd K B mg mb ad tk) (F : Fx B h₀ S₀ outer sc L h l) (x : Fd B h (ad "TokenFeed") f dx r ps outs) (k : ∀ o t', Reads h (.ref o) (.tuple (An outs)) [] -> Q (.ref o) (mk s h t')) : wpAny (model prog w) A (getAttr (.ref f) "outers" expr) Q E (mk s h t) := by
 refine Eo (fun m o O a b z0 => ?_) x.ob; revert z0; refine Ju fun _ _ _ _ c => ?_
 exact OM W.X F O W.cTF.pl W.cTF.hd W.a_T_outers.1 b rfl fun t' => k o t' c
theorem Vq {pl : Sem Bool} {Q : Value × List Value -> Shared -> Prop} (W : Wd K B mg mb ad tk) (F : Fx B h₀ S₀ outer sc L h l) (x : Fd B h (ad "TokenFeed") f dx r ps outs) (k : Q (.ref (ad "TokenFeed.next"), [.ref f]) (mk s h t)) : wpAny (model prog w) A (getMethod (.ref f) "next" pl) Q E (mk s h t) := by
 refine Eo (fun m o O _ _ z0 => ?_) x.ob; revert z0; refine Ak fun a _ => ?_
 exact HG W.X F O W.cTF.pl W.m_next.1 W.m_next.2.1 a k
theorem Uy {pl : Sem Bool} {Q : Value × List Value -> Shared -> Prop} (W : Wd K B mg mb ad tk) (F : Fx B h₀ S₀ outer sc L h l) (x : Fd B h (ad "TokenFeed") f dx r ps outs) (k : Q (.ref (ad "TokenFeed.back"), [.ref f]) (mk s h t)) : wpAny (model prog w) A (getMethod (.ref f) "back" pl) Q E (mk s h t) := by
 refine Eo (fun m o O _ _ z0 => ?_) x.ob; revert z0; refine C9 fun _ a _ => ?_
 exact HG W.X F O W.cTF.pl W.m_back.1 W.m_back.2.1 a k
theorem VQ {pl : Sem Bool} {Q : Value × List Value -> Shared -> Prop} (W : Wd K B mg mb ad tk) (F : Fx B h₀ S₀ outer sc L h l) (x : Fd B h (ad "TokenFeed") f dx r ps outs) (k : Q (.ref (ad "TokenFeed.left"), [.ref f]) (mk s h t)) : wpAny (model prog w) A (getMethod (.ref f) "left" pl) Q E (mk s h t) := by
 refine Eo (fun m o O _ _ z0 => ?_) x.ob; revert z0; refine I5 fun _ _ a _ => ?_
 exact HG W.X F O W.cTF.pl W.m_left.1 W.m_left.2.1 a k
theorem Mi {pl : Sem Bool} {Q : Value × List Value -> Shared -> Prop} (W : Wd K B mg mb ad tk) (F : Fx B h₀ S₀ outer sc L h l) (x : Fd B h (ad "TokenFeed") f dx r ps outs) (k : Q (.ref (ad "TokenFeed.is_outer"), [.ref f]) (mk s h t)) : wpAny (model prog w) A (getMethod (.ref f) "is_outer" pl) Q E (mk s h t) := by
 refine Eo (fun m o O _ _ z0 => ?_) x.ob; revert z0; refine Ju fun _ _ _ a _ => ?_
 exact HG W.X F O W.cTF.pl W.m_is_outer.1 W.m_is_outer.2.1 a k
end
end
section
variable {prog : Program} {w : World} {A : Around} {E : Value -> Shared -> Prop} {s : Shared} {h : Heap} {t : Nat}
 {B h₀ : Heap} {S₀ : List Addr} {outer : List Env} {sc : Scope} {L : Addr} {l : A9} {env : Env} {mg mb : Str -> Option Value} {n : Nat} {Cs : Value -> Prop} {K : Frag} {C : Addr} {name : Str} {ad : Str -> Addr} {tk : Str -> Tok}
end
section
variable {K : Frag} {B : Heap} {mg mb : Str -> Option Value} {ad : Str -> Addr} {tk : Str -> Tok} {prog : Program} {w : World} {h : Heap}
theorem Reads.keeps2 {h' : Heap} (k : h.StaysIn h') {v : Value} {d : PyData} (r : Reads h v d []) : Reads h' v d [] := Reads.kp (B := {}) (S := []) (D := []) (.of_keeps k) r
theorem Fd.set {h' : Heap} {C f dx r : Addr} {ps qs outs : AC} {us : List Value} {S D : List Addr} (x : Fd B h C f dx r ps outs) (k : Kp B S D h h') (h1 : f ∉ S) (h3 : dx ∉ D) (y : Li h' r us) (z : Ts h' us qs.reverse) (hq : qs.length <= 100000) : Fd B h' C f dx r qs outs :=
 ⟨ET (fun m o a b => ⟨m, o, a.kp k h1 h3, b.1, b.2.1, b.2.2.1, b.2.2.2.1, b.2.2.2.2.1, b.2.2.2.2.2.1, Reads.kp k b.2.2.2.2.2.2⟩) x.ob, ⟨us, y, z⟩, hq, x.notB⟩
theorem SR {vs : List Value} {ps : AC} {p : Int × Int} (z : Ts h vs (ps ++ [p])) : ∃ us v, vs = us ++ [v] /\ Ts h us ps /\ Tk h v p := by
 unfold Ts at z
 have hl := BB z
 simp only [An, List.map_append, List.map_cons, List.map_nil, List.length_append, List.length_map, List.length_cons, List.length_nil] at hl
 have z1 := EV ps.length z
 have z2 := DE ps.length z
 have e1 : (An (ps ++ [p])).take ps.length = An ps := by simp [An]
 have e2 : (An (ps ++ [p])).drop ps.length = [Dk p] := by simp [An]
 rw [e1] at z1
 rw [e2] at z2
 refine CY (fun v r e a b => ?_) <| A4 z2
 obtain rfl := BP b
 exact QC (vs.take ps.length) v (by rw [<- e, List.take_append_drop]) z1 a
noncomputable def M9 : List Int := [0, 0, 0, 0, 0, 1, 0, 0, 0, 1, 0, 0, 0, 0, 0, 0]
noncomputable def Nk : List Int := [1048575, 255, 255, 255, 255, 9, 255, 255, 255, 9, 255, 255, 255, 255, 255, 0]
noncomputable def A8 (p : Int × Int) : Bool := decide (0 <= p.1) && decide (p.1 <= 15) && match M9[p.1.toNat]?, Nk[p.1.toNat]? with
 | some a, some b => decide (a <= p.2) && decide (p.2 <= b)
 | _, _ => false
end
inductive Aa | bad | run | out | use | defn
 deriving DecidableEq
noncomputable def Aa.cls : Aa -> Str
 | .bad => "BadArgument"
 | .run => "Runaway"
 | .out => "OuterRefused"
 | .use => "BadUse"
 | .defn => "BadDefinition"
noncomputable def A7 (outs : AC) : AC -> Except Aa (AN × AC)
 | [] => .error .run
 | p :: qs => if p ∈ outs then .error .out else .ok (p, qs)
noncomputable def DU (p par : AN) (long : Bool) : Except Aa Unit := if p = par /\ long = false then .error .run else .ok ()
noncomputable def B7 (p : AN) (count : Int) : Except Aa AN :=
 if p.1 = 6 then .ok p else if p.1 = 12 /\ 48 < p.2 /\ p.2 <= 48 + count then .ok (5, p.2 - 48) else .error .defn
section
variable {K : Frag} {B : Heap} {mg mb : Str -> Option Value} {ad : Str -> Addr} {tk : Str -> Tok} {prog : Program} {w : World} {h : Heap}
end
noncomputable def BS (D : AC) (m : Nat) (p : AN) (shift : Nat) : Bool := decide ((D.take m).drop shift = D.take (m - shift)) && decide (D[m - shift]? = some p)
noncomputable def Eg (D : AC) (m : Nat) (p : AN) (i k : Nat) : Nat × Nat := k.rec (fun _ => (m, 0)) (fun _ ih i => if BS D m p (i + 1) then (i + 1, m - (i + 1) + 1) else ih (i + 1)) i
theorem Ew {D : AC} {m : Nat} {p : AN} {i k : Nat} : Eg D m p i (k + 1) = if BS D m p (i + 1) then (i + 1, m - (i + 1) + 1) else Eg D m p (i + 1) k := rfl
noncomputable def BH (D : AC) (m : Nat) (p : AN) : Nat × Nat := Eg D m p 0 m
def TT (h : Heap) (d : Addr) (ps : AC) : Prop := ∃ vs, Tu h d vs /\ Ts h vs ps
theorem TT.kp {B : Heap} {S D : List Addr} {h h' : Heap} {d : Addr} {ps : AC} (k : Kp B S D h h') (x : TT h d ps) : TT h' d ps := Ah (fun vs a b => ⟨vs, a.kp k, ReadsAll.kp k b⟩) x
theorem TT.kw {S D : List Addr} {h h' : Heap} {d : Addr} {ps : AC} (k : Kw S D h h') (x : TT h d ps) : TT h' d ps := Ah (fun vs a b => ⟨vs, a.kw k, ReadsAll.kw k b⟩) x
theorem TT.rd {h : Heap} {d : Addr} {ps : AC} (x : TT h d ps) : Reads h (.ref d) (.tuple (An ps)) [] := Ah (fun vs a b => a.reads b) x
theorem Cr {h : Heap} {vs : List Value} {ps : AC} (z : Ts h vs ps) : vs.length = ps.length := by
 have := BB z
 rwa [An, List.length_map] at this
theorem J8 {h : Heap} {vs : List Value} {ps : AC} {i : Nat} {p : AN} (z : Ts h vs ps) (e : ps[i]? = some p) : ∃ v, vs[i]? = some v /\ Tk h v p :=
 Bi z (by rw [An, List.getElem?_map, e]; rfl)
theorem H4 {h : Heap} {vs : List Value} {ps : AC} {i : Nat} {v : Value} (z : Ts h vs ps) (e : vs[i]? = some v) : ∃ p, ps[i]? = some p /\ Tk h v p := by
 have hl := Cr z
 have hi : i < ps.length := by rw [<- hl]; exact (List.getElem?_eq_some_iff.mp e).1
 refine Ah (fun v' e' t => ?_) <| J8 z (List.getElem?_eq_getElem hi)
 rw [e] at e'; cases e'
 exact Dx _ (List.getElem?_eq_getElem hi) t
theorem MJ (lo hi : Option Int) (ps : AC) : AY lo hi (An ps) = An (AY lo hi ps) := by
 unfold AY An
 simp [List.map_take, List.map_drop]
theorem SX {h : Heap} {vs : List Value} {ps : AC} (lo hi : Option Int) (z : Ts h vs ps) : Ts h (AY lo hi vs) (AY lo hi ps) := by
 unfold Ts; rw [<- MJ]; exact DF lo hi z
section
variable {K : Frag} {B : Heap} {mg mb : Str -> Option Value} {ad : Str -> Addr} {tk : Str -> Tok} {prog : Program} {w : World} {A : Around} {E : Value -> Shared -> Prop} {s : Shared} {h : Heap} {t : Nat}
 {h₀ : Heap} {S₀ : List Addr} {outer : List Env} {sc : Scope} {L : Addr} {l : A9} {env : Env} {n : Nat}
theorem Xv (n : Nat) : (-1 + (n : Int)).toNat = n - 1 := by rw [Int.add_comm]; exact Int.toNat_sub n 1
theorem DM (n k : Nat) : clipAt n (k : Int) = min k n := by
 unfold clipAt
 rw [if_neg (Int.not_lt.mpr (Int.natCast_nonneg k))]
 rcases Nat.le_total k n with h | h
 ·rw [Int.min_eq_left (Int.ofNat_le.mpr h), Nat.min_eq_left h, Int.max_eq_right (Int.natCast_nonneg _)]; rfl
 ·rw [Int.min_eq_right (Int.ofNat_le.mpr h), Nat.min_eq_right h, Int.max_eq_right (Int.natCast_nonneg _)]; rfl
theorem Mt : ∀ n : Nat, clipAt n (-1) = n - 1
 | 0 => rfl
 | n + 1 => by
  unfold clipAt
  rw [if_pos (by decide), show (-1 + ((n + 1 : Nat) : Int)) = (n : Int) by omega, Int.min_eq_left (Int.ofNat_le.mpr (Nat.le_succ n)), Int.max_eq_right (Int.natCast_nonneg _)]; rfl
theorem DY {α : Type} (a : Nat) (x : List α) : AY (some (a : Int)) none x = x.drop a := by
 unfold AY
 simp only [Option.elim, DM]
 rw [List.take_of_length_le (by rw [List.length_drop]; omega)]
 by_cases h : a <= x.length
 ·rw [Nat.min_eq_left h]
 ·rw [Nat.min_eq_right (by omega), List.drop_eq_nil_of_le (Nat.le_refl _), List.drop_eq_nil_of_le (by omega)]
theorem GS {α : Type} (a b : Nat) (x : List α) : AY (some (a : Int)) (some (b : Int)) x = (x.take b).drop a := by
 unfold AY
 simp only [Option.elim, DM]
 by_cases h : a <= x.length
 ·rw [Nat.min_eq_left h, List.drop_take]
  by_cases h2 : b <= x.length
  ·rw [Nat.min_eq_left h2]
  ·rw [Nat.min_eq_right (by omega), List.take_of_length_le (by rw [List.length_drop]; omega), List.take_of_length_le (by rw [List.length_drop]; omega)]
 ·rw [Nat.min_eq_right (a := a) (by omega), List.drop_eq_nil_of_le (Nat.le_refl _), List.drop_eq_nil_of_le (by rw [List.length_take]; omega), List.take_nil]
theorem IR {α : Type} (l : List α) : AY (some 1) none l = l.drop 1 := DY 1 l
theorem Hx {α : Type} (k : Nat) (xs : List α) (h : k <= xs.length) : AY none (some (k : Int)) xs = xs.take k := by
 unfold AY
 simp only [Option.elim, DM, Nat.min_eq_left h, List.drop_zero, Nat.sub_zero]
theorem SB {α : Type} {s : Int} (xs : List α) (h : 0 <= s) : (AY (some s) none xs).length = xs.length - s.toNat := by
 rw [<- Int.toNat_of_nonneg h, DY, List.length_drop, Int.toNat_natCast]
theorem Qk {α : Type} {s : Int} (xs : List α) (h : 0 <= s) : (AY none (some s) xs).length <= s.toNat := by
 rw [<- Int.toNat_of_nonneg h, Int.toNat_natCast]
 unfold AY
 simp only [Option.elim, DM, List.drop_zero, Nat.sub_zero, List.length_take]
 exact Nat.le_trans (Nat.min_le_left ..) (Nat.min_le_left ..)
theorem Lh {α : Type} (g : List α) : AY (some 1) (some (-1)) g = (g.drop 1).dropLast := by
 unfold AY
 simp only [Option.elim]
 rw [Mt, show clipAt g.length 1 = _ from DM _ 1]
 cases g with
 | nil => rfl
 | cons p x => rw [show min 1 (p :: x).length = 1 from Nat.min_eq_left (Nat.succ_le_succ (Nat.zero_le _)), List.dropLast_eq_take, List.length_drop]
end
def LT (h : Heap) (d : Addr) (ps : AC) : Prop := ∃ vs, Li h d vs /\ Ts h vs ps
theorem LT.kp {B : Heap} {S D : List Addr} {h h' : Heap} {d : Addr} {ps : AC} (k : Kp B S D h h') (x : LT h d ps) (hn : d ∉ S) : LT h' d ps := Ah (fun vs a b => ⟨vs, a.kp k hn, ReadsAll.kp k b⟩) x
theorem LT.kw {S D : List Addr} {h h' : Heap} {d : Addr} {ps : AC} (k : Kw S D h h') (x : LT h d ps) (hn : d ∉ S) : LT h' d ps := Ah (fun vs a b => ⟨vs, a.kw k hn, ReadsAll.kw k b⟩) x
theorem LT.al {h : Heap} {d : Addr} {ps : AC} (x : LT h d ps) : Al h d := Ah (fun _ a _ => a.al) x
theorem LT.neF {h : Heap} {a b : Addr} {ps : AC} (x : LT h a ps) (e : GH h b) : a ≠ b := Ah (fun _ y _ => Li.neF y e) x
theorem Gv {h : Heap} {vs us : List Value} {ps qs : AC} (x : Ts h vs ps) (y : Ts h us qs) : Ts h (vs ++ us) (ps ++ qs) := by
 unfold Ts; rw [An, List.map_append]; exact BE x y
theorem Iw {h : Heap} {v : Value} {p : AN} (x : Tk h v p) : Ts h [v] [p] := Ad x .nil
section
variable {K : Frag} {B : Heap} {mg mb : Str -> Option Value} {ad : Str -> Addr} {tk : Str -> Tok} {prog : Program} {w : World} {A : Around} {E : Value -> Shared -> Prop} {s : Shared} {h : Heap} {t : Nat}
 {h₀ : Heap} {S₀ : List Addr} {outer : List Env} {sc : Scope} {L : Addr} {l : A9} {env : Env} {n : Nat}
theorem XI {d : Addr} {ps : AC} {v : Value} {p : AN} {Q : Value -> Shared -> Prop} (F : Fx B h₀ S₀ outer sc L h l) (W : Wr B h₀ S₀ d) (x : LT h d ps) (y : Tk h v p) (hz : ps.length <= 1000000)
  (k : ∀ h', Fx B h₀ S₀ outer sc L h' l -> Kp B [d] [] h h' -> LT h' d (ps ++ [p]) -> Q .none (mk s h' t)) :
  wpAny (model prog w) A (call (.builtin "list.append") [.ref d, v]) Q E (mk s h t) := by
 revert x; refine Ah fun vs a b => ?_
 have hl := Cr b
 exact Nu F W a (by omega) fun h' F' K' hv => k h' F' K' ⟨_, hv, ReadsAll.kp K' (Gv b (Iw y))⟩
theorem Tp {d : Addr} {ps : AC} {Q : Value -> Shared -> Prop} (F : Fx B h₀ S₀ outer sc L h l) (x : LT h d ps) (hz : ps.length <= 1000000)
  (k : ∀ e h', Fx B h₀ S₀ outer sc L h' l -> Kp B [] [] h h' -> TT h' e ps -> Q (.ref e) (mk s h' t)) :
  wpAny (model prog w) A (call (.type "tuple") [.ref d]) Q E (mk s h t) := by
 revert x; refine Ah fun vs a b => ?_
 have hl := Cr b
 exact Vw F a (by omega) fun e h' F' K' hT => k e h' F' K' ⟨_, hT, ReadsAll.kp K' b⟩
theorem Yg {value slice : Expr} {d : Addr} {ps : AC} {k : Int} {u : Tok} {p : AN} {Q : Value -> Shared -> Prop} (x : LT h d ps) (hz : ps.length <= 1000000) (lo : -(ps.length : Int) <= k) (hi : k < ps.length) (hv : ps[AK k ps.length]? = some p) (c : ∀ v, Tk h v p -> Q v (mk s h t))
  (hs : subscripted slice false (.ref d) (.int k u) = operate [.ref d, .int k u] (getItem (.ref d) (.int k u)) := by with_unfolding_all rfl) :
  wpAny (model prog w) A (subscriptTail value slice (.ref d) (.int k u)) Q E (mk s h t) := by
 revert x; refine Ah fun vs a b => ?_
 have hl := Cr b
 refine Ah (fun v e r => ?_) <| J8 b hv
 exact GO a (by omega) (by omega) (by omega) (by rw [hl]; exact e) (c v r) hs
theorem UF {Q : Value -> Shared -> Prop} (F : Fx B h₀ S₀ outer sc L h l) (k : ∀ d h', Fx B h₀ S₀ outer sc L h' l -> Kp B [] [] h h' -> h.get? d = none -> LT h' d [] -> Q (.ref d) (mk s h' t)) : wpAny (model prog w) A (newList []) Q E (mk s h t) :=
 HT F (fun d h' F' K' hn hv => k d h' F' K' hn ⟨[], hv, .nil⟩) (by simp)
theorem Ri {d : Addr} {ps : AC} {pl : Sem Bool} {Q : Value × List Value -> Shared -> Prop} (x : LT h d ps) (k : Q (.builtin "list.append", [.ref d]) (mk s h t)) : wpAny (model prog w) A (getMethod (.ref d) "append" pl) Q E (mk s h t) := Ah (fun _ a _ => FL a k) x
end
section
variable {prog : Program} {w : World} {A : Around} {E : Value -> Shared -> Prop} {s : Shared} {h : Heap} {t : Nat}
 {B h₀ : Heap} {S₀ : List Addr} {outer : List Env} {sc : Scope} {L : Addr} {l : A9} {env : Env} {mg mb : Str -> Option Value} {n : Nat} {Cs : Value -> Prop}
def EC (M : Model) (A : Around) (ifs : List Expr) (env : Env) (P : Bool -> Shared -> Prop) (s : Shared) : Prop := match ifs with
 | [] => P true s
 | c :: _ => wpAny M A (isTrue c env (eval c env)) P (fun _ _ => False) s
theorem Me {R : Result -> Shared -> Prop} {elt target iter : Expr} {ifs : List Expr} {scope : Scope} {pos : Pos} {it acc : Value} {env : Env} (I : Nat -> Shared -> Prop) (hifs : ifs = [] \/ ∃ c, ifs = [c])
  (turn : ∀ n s, I n s -> wpAny (model prog w) A (pyNext it) (fun r s₁ => match r with
   | none => R (.ok .next) s₁
   | some v => wpAny (model prog w) A (assign target env v) (fun _ s₂ => EC (model prog w) A ifs env (fun ok s₂ => if ok then wpAny (model prog w) A (eval elt env) (fun x s₃ =>
     wpAny (model prog w) A (call (.builtin "list.append") [acc, x]) (fun _ s₄ => ∃ m, m < n /\ I m s₄) (fun _ _ => False) s₃) (fun _ _ => False) s₂ else ∃ m, m < n /\ I m s₂) s₂)
     (fun _ _ => False) s₁) (fun _ _ => False) s)
  (n : Nat) {s : Shared} (h : I n s) (ht : ∀ v, letOwnedTupleGo target it v = pure ()) :
  codeAny (model prog w) A (.compLoop (.ListComp elt [⟨target, iter, ifs, 0⟩] scope pos) 0 it acc env) R s := by
 refine codeAny_loop rfl I (fun n s hI => ?_) n h
 show wpAny _ _ ((compTurn (.ListComp elt [⟨target, iter, ifs, 0⟩] scope pos) 0 it acc env).onRaise (fun x => do noteFrame x env; theTreesLotGoes x)) _ _ s
 refine wpAny_noted ?_
 unfold compTurn
 refine wpAny_bind (wpAny_standAt (wpAny_bind (wpAny_mono (turn n s hI) (fun r s₁ h₁ => ?_) fun _ _ x => x.elim)))
 cases r with
 | none => exact wpAny_pure h₁
 | some v =>
  refine wpAny_bind (wpAny_of_eq (ht v) ?_)
  refine wpAny_bind (wpAny_mono h₁ (fun _ s₂ h₂ => ?_) fun _ _ x => x.elim)
  rcases hifs with rfl | ⟨c, rfl⟩
  ·refine wpAny_bind (wpAny_pure ?_)
   have h₃ := h₂
   unfold EC at h₃
   dsimp only at h₃
   rw [if_pos rfl] at h₃
   rw [if_pos rfl]
   exact wpAny_bind (wpAny_bind (wpAny_mono h₃ (fun x s₃ h₃ => wpAny_bind (wpAny_mono h₃ (fun _ s₄ h₄ => wpAny_pure (wpAny_pure ⟨rfl, h₄⟩)) fun _ _ x => x.elim)) fun _ _ x => x.elim))
  ·refine wpAny_bind ?_
   rw [List.forIn_cons]
   refine wpAny_bind ?_
   rw [if_pos rfl]
   refine wpAny_bind (wpAny_mono h₂ (fun ok s₃ h₃ => wpAny_pure ?_) fun _ _ x => x.elim)
   dsimp only
   rw [List.forIn_nil]
   refine wpAny_pure ?_
   cases ok with
   | true =>
    rw [if_pos rfl] at h₃
    rw [if_pos rfl]
    exact wpAny_bind (wpAny_bind (wpAny_mono h₃ (fun x s₃ h₃ => wpAny_bind (wpAny_mono h₃ (fun _ s₄ h₄ => wpAny_pure (wpAny_pure ⟨rfl, h₄⟩)) fun _ _ x => x.elim)) fun _ _ x => x.elim))
   | false =>
    rw [if_neg (by decide)] at h₃
    rw [if_neg (by decide)]
    exact wpAny_bind (wpAny_pure (wpAny_pure ⟨rfl, h₃⟩))
def DH (prog : Program) (w : World) (A : Around) (E : Value -> Shared -> Prop) (env : Env) (elt : Expr) (x : Str) (xp : Pos) (iter : Expr) (ifs : List Expr) (cscope : Scope) (pos : Pos) (cl : List (Str × Addr)) (use : Option (Value -> Sem Unit)) (Q : Value -> Shared -> Prop) (it : Value) (s : Shared) : Prop :=
 wpAny (model prog w) A (newList []) (fun acc s₃ => wpAny (model prog w) A (newFunctionEnv cscope env.globals cl [] env.qual none .none (some env)) (fun cenv s₄ =>
  codeAny (model prog w) A (.compStart (.ListComp elt [⟨.Name x xp, iter, ifs, 0⟩] cscope pos) 0 it acc { cenv with scope := relabel cscope env }) (compPost (model prog w) A E use Q acc cenv.locals) s₄) E s₃) E s
theorem FO {elt iter : Expr} {x : Str} {xp pos : Pos} {ifs : List Expr} {cscope : Scope} {cl : List (Str × Addr)} {Q : Value -> Shared -> Prop} {s : Shared}
  (hclos : closureFor cscope env = pure cl) (hkind : cscope.kind = .function) (hnames : ∀ x ∈ cscope.names, x.2 = .local -> cscope.names.lookup x.1 = some .local) (hs : ∀ x, foldedSetIterable iter env x = pure x)
  (h : wpAny (model prog w) A (eval iter env) (fun v s₁ => wpAny (model prog w) A (pyIter v) (fun it s₂ => DH prog w A E env elt x xp iter ifs cscope pos cl none Q it s₂) E s₁) E s) :
  wpAny (model prog w) A (eval (.ListComp elt [⟨.Name x xp, iter, ifs, 0⟩] cscope pos) env) Q E s := by
 rw [arm_eval_ListComp]
 exact wpAny_comprehension_free (g := ⟨.Name x xp, iter, ifs, 0⟩) (gs := []) (use := none) rfl hs hclos hkind hnames h
theorem IM {C : Addr} {m} {h h' : Heap} (n : h.Ns C m) (hk : ∀ b o, b ∉ [C] -> h.get? b = some o -> h'.get? b = some o) : Kw [] [C] h h' := by
 revert n; refine DK fun oC es ep e d _ => ?_
 have ne : ∀ {b o}, h.get? b = some o -> (∀ es ep, o.data ≠ .dict es ep) -> b ∉ [C] := fun {b o} q nd m => by
  cases m with
  | head => rw [e] at q; cases q; exact nd _ _ d
  | tail _ m => nomatch m
 exact ⟨fun b o vs n q c dd => hk b o (ne q fun es ep z => by rw [dd] at z; cases z) q, fun b o q _ nd => hk b o (ne q nd) q, fun b o es ep q d' hb => ⟨o.slots, hk b o hb q⟩⟩
theorem Kw.andThen {S D S' D' : List Addr} {h h' h'' : Heap} (x : Kw S D h h') (y : Kw S' D' h' h'') (hS : ∀ b ∈ S', b ∈ S) (hD : ∀ b ∈ D', b ∈ D) : Kw S D h h'' := x.trans y hS (fun _ _ => .inr trivial) hD
theorem Kw.refl (S D : List Addr) (h : Heap) : Kw S D h h := ⟨fun _ _ _ _ e _ _ => e, fun _ _ e _ _ => e, fun _ o _ _ e _ _ => ⟨o.slots, e⟩⟩
def Ch (B : Heap) (s : Shared) (Tw : List Addr) (h₃ : Heap) (J : List Value -> Heap -> Prop) (ys : List Value) (s₃ : Shared) : Prop := ∃ h' t' S, s₃ = mk s h' t' /\ Kp B S [] h₃ h' /\ (∀ b ∈ S, b ∈ Tw) /\ J ys h'
theorem Kv {M : Model} {ifs : List Expr} {env : Env} {P P' : Bool -> Shared -> Prop} {s : Shared} (x : EC M A ifs env P s) (k : ∀ ok s, P ok s -> P' ok s) : EC M A ifs env P' s := by
 cases ifs with
 | nil => exact k _ _ x
 | cons c r => exact wpAny_mono x (fun ok s z => k ok s z) fun _ _ z => z
theorem Fr {elt iter : Expr} {x : Str} {xp pos : Pos} {ifs : List Expr} {cscope : Scope} {cl : List (Str × Addr)} (hifs : ifs = [] \/ ∃ c, ifs = [c])
  (he : Ax env sc L) (hf : env.frame = some L) (hA : Db A (env :: outer) n) (hx : cscope.names.lookup x = some .local)
  {ia : Addr} {fp : List Addr} {N : Nat} {V : Nat -> Value -> Prop} {It : Nat -> Heap -> Prop} (hI : Wp prog w A s (.ref ia) [ia] fp N V It) (hF : ∀ i h, It i h -> GH h ia)
  (J : Nat -> List Value -> Heap -> Prop) (Tw : List Addr) {hp : Heap} (hnew : hp.get? ia = none) (hTw : ∀ b ∈ Tw, Al hp b /\ (b ∈ S₀ \/ h₀.get? b = none) /\ b ∉ fp) (hfp : ∀ b ∈ fp, Al hp b) (hN : N <= 1000)
  (Fp : Fx B h₀ S₀ outer sc L hp l) {C ac : Addr} {cenv : Env} {R : Result -> Shared -> Prop} (hac0 : hp.get? ac = none) (hC0 : hp.get? C = none) (hec : Ax cenv (relabel cscope env) C) (hcl : cenv.cells = cl) (hLC : L ≠ C) (WA : Wr B h₀ S₀ ac)
  {h2 hq₀ : Heap} (j0 : J 0 [] hq₀) (kw0 : Kw [ac, ia] [C] hq₀ h2) (kp0 : Kp B Tw [] hp h2) (I2 : It 0 h2) (La0 : Li h2 ac []) (FC2 : Fx B h₀ S₀ outer (relabel cscope env) C h2 [(x, none)]) (F2 : Fx B h₀ S₀ outer sc L h2 l)
  (turn : ∀ i ys hq h₃ t₃ v, i < N -> ys.length <= i -> J i ys hq -> Kw [ac, ia] [C] hq h₃ -> Kp B Tw [] hp h₃ -> Fx B h₀ S₀ outer (relabel cscope env) C h₃ [(x, some v)] -> Dn B (env :: outer) h₃ -> V i v ->
   EC (model prog w) A ifs cenv (fun ok s₂ => if ok then wpAny (model prog w) A (eval elt cenv) (fun y s₃ => Ch B s Tw h₃ (J (i + 1)) (ys ++ [y]) s₃) (fun _ _ => False) s₂ else Ch B s Tw h₃ (J (i + 1)) ys s₂) (mk s h₃ t₃))
  (fin : ∀ ys hq h₂ t₂, ys.length <= N -> J N ys hq -> Kw [ac, ia] [C] hq h₂ -> Kp B Tw [] hp h₂ -> Fx B h₀ S₀ outer sc L h₂ l -> Li h₂ ac ys -> ∀ m, h₂.Ns C m -> R (.ok .next) (mk s h₂ t₂)) (t2 : Nat) :
  codeAny (model prog w) A (.compLoop (.ListComp elt [⟨.Name x xp, iter, ifs, 0⟩] cscope pos) 0 (.ref ia) (.ref ac) cenv) R (mk s h2 t2) := by
 have hCh : h₀.get? C = none := Fp.kp.alive hC0
 have hiaB := BT Fp hnew
 have hia₀ := Fp.kp.alive hnew
 refine Me (fun m s' => ∃ i ys hq h₁ t₁ ov, i <= N /\ ys.length <= i /\ m = N - i /\ s' = mk s h₁ t₁ /\ J i ys hq /\ Kw [ac, ia] [C] hq h₁ /\ Kp B Tw [] hp h₁ /\ It i h₁ /\ Li h₁ ac ys /\ Fx B h₀ S₀ outer (relabel cscope env) C h₁ [(x, ov)] /\ Fx B h₀ S₀ outer sc L h₁ l) hifs (fun m s' hm => ?_) N ⟨0, [], hq₀, h2, t2, none, Nat.zero_le _, Nat.le_refl _, rfl, rfl, j0, kw0, kp0, I2, La0, FC2, F2⟩ (fun v => rfl)
 revert hm; refine EK fun i ys hq h₁ t₁ z0 => ?_; revert z0; refine HS fun ov hi hys z1 z2 z3 => ?_; obtain rfl := z1; obtain rfl := z2; revert z3; refine Yd fun Ji kw kp It1 La z4 => ?_; revert z4; refine Ak fun FC1 F1' => ?_
 have hcia : C ≠ ia := fun q => by
  refine ET (fun o vs e d => ?_) <| hF _ _ It1
  refine Gr (fun o' es ep e' d' => ?_) <| Heap.Ns.isDict FC1.ns
  rw [q, e] at e'; cases e'; rw [d] at d'; cases d'
 have hlia : L ≠ ia := fun q => by
  refine ET (fun o vs e d => ?_) <| hF _ _ It1
  refine Gr (fun o' es ep e' d' => ?_) <| Heap.Ns.isDict F1'.ns
  rw [q, e] at e'; cases e'; rw [d] at d'; cases d'
 have hacia : ac ≠ ia := Li.neF La (hF _ _ It1)
 by_cases hN' : i = N
 ·subst hN'
  refine wpAny_mono (hI.fin h₁ t₁ It1) (fun r s₁ hr => ?_) fun _ _ x => x
  revert hr; refine CY fun h₂ t₂ z0 z1 hk => ?_; obtain rfl := z0; obtain rfl := z1
  have FC2' := FC1.thenBut hk (Ac ⟨hia₀, hiaB, hcia.symm⟩)
  have F2' := F1'.thenBut hk (Ac ⟨hia₀, hiaB, hlia.symm⟩)
  have kp' := kp.thenBut hk (Ac ⟨hnew, hiaB⟩)
  have kw1 := (C7 (hF _ _ It1) hk).mono (S' := [ac, ia]) (D' := [C]) (Ac (.tail _ (.head _))) AH
  exact fin ys hq h₂ t₂ hys Ji (kw.andThen kw1 (fun b m => m) (fun b m => m)) kp' F2' (La.kw (C7 (hF _ _ It1) hk) (Ar hacia)) _ FC2'.ns
 ·refine wpAny_mono (hI.next i h₁ t₁ (by omega) It1) (fun r s₁ hr => ?_) fun _ _ x => x
  revert hr; refine DK fun v h₂ t₂ z0 z1 z2 => ?_; obtain rfl := z0; obtain rfl := z1; revert z2; refine C9 fun hv It2 hk => ?_
  have FC2' := FC1.thenBut hk (Ac ⟨hia₀, hiaB, hcia.symm⟩)
  have F2' := F1'.thenBut hk (Ac ⟨hia₀, hiaB, hlia.symm⟩)
  have kp2 := kp.thenBut hk (Ac ⟨hnew, hiaB⟩)
  have kw1 := (C7 (hF _ _ It1) hk).mono (S' := [ac, ia]) (D' := [C]) (Ac (.tail _ (.head _))) AH
  refine Dj hec FC2' .head fun h₃ t₃ FC3 K3 => ?_
  have F3 := F2'.stepD K3 AH (Ac hCh) (Ar hLC)
  have kp3 : Kp B Tw [] hp h₃ := kp2.trans K3 AH (Ac (.inr hC0))
  have kw3 : Kw [ac, ia] [C] hq h₃ := (kw.andThen kw1 (fun b m => m) (fun b m => m)).andThen (K3.toKw.mono (S' := [ac, ia]) AH (fun b m => m)) (fun b m => m) (fun b m => m)
  have It3 := hI.keep _ _ _ _ _ _ It2 K3 (fun _ _ => AD) (fun _ _ => AD)
  have La3 : Li h₃ ac ys := (La.kw (C7 (hF _ _ It1) hk) (Ar hacia)).kp K3 AD
  refine Gr (fun oL es ep eL dL => ?_) <| Heap.Ns.isDict F3.ns
  have fr3 := Lg he.scope hf F3.fe F3.kp eL dL
  have step : ∀ {ys' s₃}, Ch B s Tw h₃ (J (i + 1)) ys' s₃ -> ∃ h' t', s₃ = mk s h' t' /\ Kp B Tw [] hp h' /\ It (i + 1) h' /\ Li h' ac ys /\ Fx B h₀ S₀ outer (relabel cscope env) C h' [(x, some v)] /\ Fx B h₀ S₀ outer sc L h' l /\ J (i + 1) ys' h' := by
   rintro ys' s₃ ⟨h', t', S, rfl, K', hS, J'⟩
   have hS' : ∀ b ∈ S, b ∈ S₀ \/ h₀.get? b = none := fun b m => (hTw b (hS b m)).2.1
   refine V6 h' t' rfl (kp3.trans K' (fun b m => .inl (hS b m)) AH) (hI.keep _ _ _ _ _ _ It3 K' (Ac fun m => ?_) (fun b m m' => (hTw b (hS b m')).2.2 m)) ⟨La3.kp K' (fun m => ?_), FC3.step K' hS', F3.step K' hS', J'⟩
   ·exact (EW hnew (hTw _ (hS _ m)).1) rfl
   ·exact (EW hac0 (hTw _ (hS _ m)).1) rfl
  refine Kv (turn i ys hq h₃ t₃ v (by omega) hys Ji kw3 kp3 FC3 fr3 hv) fun ok s₂ hh => ?_
  cases ok with
  | true =>
   rw [if_pos rfl] at hh ⊢
   refine wpAny_mono hh (fun y s₃ cs => ?_) fun _ _ z => z
   refine Eo (fun h' t' z0 kp4 It4 z1 => ?_) <| step cs; obtain rfl := z0; revert z1; refine I5 fun La4 FC4 F4 J4 => ?_
   refine Nu F4 WA La4 (by omega) fun h'' F5 K5 La5 => ?_
   refine Dx (N - (i + 1)) (by omega) ⟨i + 1, ys ++ [y], h', h'', t', some v, by omega, by simp; omega, rfl, rfl, J4, K5.toKw.mono (Ac (.head _)) AH, kp4.trans K5 (Ac (.inr hac0)) AH, ?_, La5, FC4.turn K5 WA, F5⟩
   exact hI.keep _ _ _ _ _ _ It4 K5 (Ac (Ar hacia.symm)) (fun b m => Ar fun q => EW hac0 (hfp b m) q)
  | false =>
   rw [if_neg (by decide)] at hh ⊢
   refine Eo (fun h' t' z0 kp4 It4 z1 => ?_) <| step hh; obtain rfl := z0; revert z1; refine I5 fun La4 FC4 F4 J4 => ?_
   exact Dx (N - (i + 1)) (by omega) ⟨i + 1, ys, h', h', t', some v, by omega, by omega, rfl, rfl, J4, Kw.refl .., kp4, It4, La4, FC4, F4⟩
theorem Im {elt iter : Expr} {x : Str} {xp pos : Pos} {ifs : List Expr} {cscope : Scope} {cl : List (Str × Addr)} (hifs : ifs = [] \/ ∃ c, ifs = [c])
  (he : Ax env sc L) (hf : env.frame = some L) (hA : Db A (env :: outer) n) (hx : cscope.names.lookup x = some .local)
  {ia : Addr} {fp : List Addr} {N : Nat} {V : Nat -> Value -> Prop} {It : Nat -> Heap -> Prop} (hI : Wp prog w A s (.ref ia) [ia] fp N V It) (hF : ∀ i h, It i h -> GH h ia)
  (J : Nat -> List Value -> Heap -> Prop) (Tw : List Addr) {hp : Heap} (hnew : hp.get? ia = none) (hTw : ∀ b ∈ Tw, Al hp b /\ (b ∈ S₀ \/ h₀.get? b = none) /\ b ∉ fp) (hfp : ∀ b ∈ fp, Al hp b) (hN : N <= 1000)
  (Fp : Fx B h₀ S₀ outer sc L hp l) {Q : Value -> Shared -> Prop} (hkind : cscope.kind = .function) (hcell : ∀ x ∈ cscope.names, x.2 ≠ .cell) (hself : ∀ h t Q E, It 0 h -> Q (.ref ia) (mk s h t) -> wpAny (model prog w) A (pyIter (.ref ia)) Q E (mk s h t))
  (F : Fx B h₀ S₀ outer sc L h l) (K0 : Kp B Tw [] hp h) (i0 : It 0 h) (j0 : J 0 [] h)
  (turn : ∀ i ys ac C cenv hq h₃ t₃ v, i < N -> ys.length <= i -> J i ys hq -> hp.get? ac = none -> hp.get? ia = none -> hp.get? C = none -> Kw [ac, ia] [C] hq h₃ -> Kp B Tw [] hp h₃ -> Ax cenv (relabel cscope env) C -> cenv.cells = cl -> Fx B h₀ S₀ outer (relabel cscope env) C h₃ [(x, some v)] -> Dn B (env :: outer) h₃ -> V i v ->
   EC (model prog w) A ifs cenv (fun ok s₂ => if ok then wpAny (model prog w) A (eval elt cenv) (fun y s₃ => Ch B s Tw h₃ (J (i + 1)) (ys ++ [y]) s₃) (fun _ _ => False) s₂ else Ch B s Tw h₃ (J (i + 1)) ys s₂) (mk s h₃ t₃))
  (fin : ∀ ys ac C hq h₂ t₂, ys.length <= N -> J N ys hq -> hp.get? ac = none -> hp.get? ia = none -> hp.get? C = none -> Kw [ac, ia] [C] hq h₂ -> Kp B Tw [] hp h₂ -> Fx B h₀ S₀ outer sc L h₂ l -> Li h₂ ac ys -> Q (.ref ac) (mk s h₂ t₂)) :
  DH prog w A E env elt x xp iter ifs cscope pos cl none Q (.ref ia) (mk s h t) := by
 unfold DH
 refine HT F (fun ac h1 F1 K1 hnac hac => ?_) (by simp)
 have hac0 : hp.get? ac = none := K0.alive hnac
 have hC1 : h1.get? h1.objs.size = none := Heap.get?_none_of_le (Nat.le_refl _)
 refine wpAny_newFunctionEnv (s := mk s h1 t) hcell (fun _ m => nomatch m) (fun h2 hns hsb => ?_) hkind
 have hns : h2.Ns h1.objs.size (lk [(x, none)]) := by
  have e : lk [(x, none)] = fun y => ([] : List (Str × Value)).reverse.lookup y := by
   funext y
   exact Ix [x] y
  rw [e]; exact hns
 have hk12 : ∀ b o, h1.get? b = some o -> h2.get? b = some o := fun b o e => (hsb.2 b (Nat.ne_of_lt (Heap.lt_size e))).trans (Heap.get?_push_of_some _ e)
 have K2 : Kp B [] [] h1 h2 := .of_keeps hk12
 have hC0 : hp.get? h1.objs.size = none := K0.alive (K1.alive hC1)
 have hCh : h₀.get? h1.objs.size = none := Fp.kp.alive hC0
 have F2 := F1.grow K2
 have hLC : L ≠ h1.objs.size := fun q => by
  refine Gr (fun o es ep e _ => ?_) F1.ns
  rw [q, hC1] at e; cases e
 have nmC : Nm (relabel cscope env) [(x, (none : Option Value))] := ⟨by simp, fun y hy => by
  simp only [List.map_cons, List.map_nil, List.mem_singleton] at hy
  subst hy
  exact lookup_relabel_local hx, hkind⟩
 have FC2 : Fx B h₀ S₀ outer (relabel cscope env) h1.objs.size h2 [(x, none)] := ⟨hns, nmC, hCh, F2.kp, F2.base₀, F2.fr⟩
 have I2 : It 0 h2 := hI.keep _ _ _ _ _ _ (hI.keep _ _ _ _ _ _ i0 K1 (fun _ _ => AD) (fun _ _ => AD)) K2 (fun _ _ => AD) (fun _ _ => AD)
 have Kp2 : Kp B Tw [] hp h2 := (K0.trans K1 AH AH).trans K2 AH AH
 have WA : Wr B h₀ S₀ ac := F.wr hnac
 have hCB := BT Fp hC0
 have loop := fun (R : Result -> Shared -> Prop) (cenv : Env) (hec : Ax cenv (relabel cscope env) h1.objs.size) (hcl : cenv.cells = cl) => Fr (xp := xp) (pos := pos) (elt := elt) (iter := iter) (R := R) hifs he hf hA hx hI hF J Tw hnew hTw hfp hN Fp hac0 hC0 hec hcl hLC WA (h2 := h2) j0 (((K1.toKw.andThen K2.toKw AH AH).mono AH AH)) Kp2 I2 (hac.kp K2 AD) FC2 F2 (fun i ys hq h₃ t₃ v a b c d e f g hv => turn i ys ac h1.objs.size cenv hq h₃ t₃ v a b c hac0 hnew hC0 d e hec hcl f g hv)
 have done := fun cenv hec hcl => loop (compPost (model prog w) A E none Q (.ref ac) h1.objs.size) cenv hec hcl (fun ys hq h₂ t₂ hys Ji kw kp F2' La m hm => by
  refine Dx _ hm (fun h₃ hs₃ => ?_)
  have hk3 : ∀ b o, b ∉ [h1.objs.size] -> h₂.get? b = some o -> h₃.get? b = some o := fun b o hb e => (hs₃.2 b fun q => hb (q ▸ .head _)).trans e
  have F3 := F2'.thenBut hk3 (Ac ⟨hCh, hCB, hLC.symm⟩)
  have kp' := kp.thenBut hk3 (Ac ⟨hC0, hCB⟩)
  have kw2 := (IM hm hk3).mono (S' := [ac, ia]) (D' := [h1.objs.size]) AH (fun b m => m)
  exact fin ys ac _ hq h₃ t₂ hys Ji hac0 hnew hC0 (kw.andThen kw2 (fun b m => m) (fun b m => m)) kp' F3 (La.kw (IM hm hk3) AD))
 refine codeAny_compStart_list ?_ (hself h2 _ _ _ I2 ?_) <;> exact done _ (by exact ⟨rfl, rfl, he.globals, he.builtins⟩) rfl _
end
section
variable {prog : Program} {w : World} {A : Around} {E : Value -> Shared -> Prop} {s : Shared} {h : Heap} {t : Nat}
 {B h₀ : Heap} {S₀ : List Addr} {outer : List Env} {sc : Scope} {L : Addr} {l : A9} {env : Env} {mg mb : Str -> Option Value} {n : Nat} {Cs : Value -> Prop}
theorem Xd {d : Addr} {vs : List Value} {elt iter : Expr} {x : Str} {xp pos : Pos} {ifs : List Expr} {cscope : Scope} {cl : List (Str × Addr)} {Q : Value -> Shared -> Prop} (hifs : ifs = [] \/ ∃ c, ifs = [c])
  (he : Ax env sc L) (hf : env.frame = some L) (hA : Db A (env :: outer) n) (hx : cscope.names.lookup x = some .local) (hkind : cscope.kind = .function) (hcell : ∀ x ∈ cscope.names, x.2 ≠ .cell)
  (y : Tu h d vs) (J : Nat -> List Value -> Heap -> Prop) (Tw : List Addr) (hTw : ∀ b ∈ Tw, Al h b /\ (b ∈ S₀ \/ h₀.get? b = none)) (hN : vs.length <= 1000) (F : Fx B h₀ S₀ outer sc L h l) (j0 : ∀ h', Kp B [] [] h h' -> J 0 [] h')
  (turn : ∀ i ys ac ia C cenv hq h₃ t₃ v, i < vs.length -> ys.length <= i -> J i ys hq -> h.get? ac = none -> h.get? ia = none -> h.get? C = none -> Kw [ac, ia] [C] hq h₃ -> Kp B Tw [] h h₃ -> Ax cenv (relabel cscope env) C -> cenv.cells = cl -> Fx B h₀ S₀ outer (relabel cscope env) C h₃ [(x, some v)] -> Dn B (env :: outer) h₃ -> vs[i]? = some v ->
   EC (model prog w) A ifs cenv (fun ok s₂ => if ok then wpAny (model prog w) A (eval elt cenv) (fun y s₃ => Ch B s Tw h₃ (J (i + 1)) (ys ++ [y]) s₃) (fun _ _ => False) s₂ else Ch B s Tw h₃ (J (i + 1)) ys s₂) (mk s h₃ t₃))
  (fin : ∀ ys ac ia C hq h₂ t₂, ys.length <= vs.length -> J vs.length ys hq -> h.get? ac = none -> h.get? ia = none -> h.get? C = none -> Kw [ac, ia] [C] hq h₂ -> Kp B Tw [] h h₂ -> Fx B h₀ S₀ outer sc L h₂ l -> Li h₂ ac ys -> Q (.ref ac) (mk s h₂ t₂)) :
  wpAny (model prog w) A (pyIter (.ref d)) (fun it s₂ => DH prog w A E env elt x xp iter ifs cscope pos cl none Q it s₂) E (mk s h t) :=
 U5 hA.handled F y fun ia h' F' K' hia hI i0 => Im hifs he hf hA hx (hI s) (fun i h x => Es x.1) J Tw hia (fun b m => ⟨(hTw b m).1, (hTw b m).2, AD⟩) AH hN F hkind hcell (fun h t Q E I q => wpAny_pyIter_tupleiter (s := mk s h t) I.1 q) F' (K'.mono AH AH) i0 (j0 _ K')
  (fun i ys ac C cenv hq h₃ t₃ v a b c d e f => turn i ys ac ia C cenv hq h₃ t₃ v a b c d e f) (fun ys ac C hq h₂ t₂ a b c d e => fin ys ac ia C hq h₂ t₂ a b c d e)
theorem TR {d : Addr} {vs : List Value} {elt iter : Expr} {x : Str} {xp pos : Pos} {ifs : List Expr} {cscope : Scope} {cl : List (Str × Addr)} {Q : Value -> Shared -> Prop} (hifs : ifs = [] \/ ∃ c, ifs = [c])
  (he : Ax env sc L) (hf : env.frame = some L) (hA : Db A (env :: outer) n) (hx : cscope.names.lookup x = some .local) (hkind : cscope.kind = .function) (hcell : ∀ x ∈ cscope.names, x.2 ≠ .cell)
  (y : Li h d vs) (J : Nat -> List Value -> Heap -> Prop) (Tw : List Addr) (hTw : ∀ b ∈ Tw, Al h b /\ (b ∈ S₀ \/ h₀.get? b = none) /\ b ≠ d) (hN : vs.length <= 1000) (F : Fx B h₀ S₀ outer sc L h l) (j0 : ∀ h', Kp B [] [] h h' -> J 0 [] h')
  (turn : ∀ i ys ac ia C cenv hq h₃ t₃ v, i < vs.length -> ys.length <= i -> J i ys hq -> h.get? ac = none -> h.get? ia = none -> h.get? C = none -> Kw [ac, ia] [C] hq h₃ -> Kp B Tw [] h h₃ -> Ax cenv (relabel cscope env) C -> cenv.cells = cl -> Fx B h₀ S₀ outer (relabel cscope env) C h₃ [(x, some v)] -> Dn B (env :: outer) h₃ -> vs[i]? = some v ->
   EC (model prog w) A ifs cenv (fun ok s₂ => if ok then wpAny (model prog w) A (eval elt cenv) (fun y s₃ => Ch B s Tw h₃ (J (i + 1)) (ys ++ [y]) s₃) (fun _ _ => False) s₂ else Ch B s Tw h₃ (J (i + 1)) ys s₂) (mk s h₃ t₃))
  (fin : ∀ ys ac ia C hq h₂ t₂, ys.length <= vs.length -> J vs.length ys hq -> h.get? ac = none -> h.get? ia = none -> h.get? C = none -> Kw [ac, ia] [C] hq h₂ -> Kp B Tw [] h h₂ -> Fx B h₀ S₀ outer sc L h₂ l -> Li h₂ ac ys -> Q (.ref ac) (mk s h₂ t₂)) :
  wpAny (model prog w) A (pyIter (.ref d)) (fun it s₂ => DH prog w A E env elt x xp iter ifs cscope pos cl none Q it s₂) E (mk s h t) :=
 V2 hA.handled F y fun ia h' F' K' hia hI i0 => Im hifs he hf hA hx (hI s) (fun i h x => DV x.1) J Tw hia (fun b m => ⟨(hTw b m).1, (hTw b m).2.1, Ar (hTw b m).2.2⟩) (Ac y.al) hN F hkind hcell (fun h t Q E I q => wpAny_pyIter_listiter (s := mk s h t) I.1 q) F' (K'.mono AH AH) i0 (j0 _ K')
  (fun i ys ac C cenv hq h₃ t₃ v a b c d e f => turn i ys ac ia C cenv hq h₃ t₃ v a b c d e f) (fun ys ac C hq h₂ t₂ a b c d e => fin ys ac ia C hq h₂ t₂ a b c d e)
theorem X7 {d : Addr} {a b : Int} {elt iter : Expr} {x : Str} {xp pos : Pos} {ifs : List Expr} {cscope : Scope} {cl : List (Str × Addr)} {Q : Value -> Shared -> Prop} (hifs : ifs = [] \/ ∃ c, ifs = [c])
  (he : Ax env sc L) (hf : env.frame = some L) (hA : Db A (env :: outer) n) (hx : cscope.names.lookup x = some .local) (hkind : cscope.kind = .function) (hcell : ∀ x ∈ cscope.names, x.2 ≠ .cell)
  (y : L9 h d a b) (ha : -1000 <= a /\ a <= 1000) (hb : -1000 <= b /\ b <= 1000) (hN : (b - a).toNat <= 1000) (J : Nat -> List Value -> Heap -> Prop) (Tw : List Addr) (hTw : ∀ b ∈ Tw, Al h b /\ (b ∈ S₀ \/ h₀.get? b = none)) (F : Fx B h₀ S₀ outer sc L h l) (j0 : ∀ h', Kp B [] [] h h' -> J 0 [] h')
  (turn : ∀ i ys ac ia C cenv hq h₃ t₃ v, i < (b - a).toNat -> ys.length <= i -> J i ys hq -> h.get? ac = none -> h.get? ia = none -> h.get? C = none -> Kw [ac, ia] [C] hq h₃ -> Kp B Tw [] h h₃ -> Ax cenv (relabel cscope env) C -> cenv.cells = cl -> Fx B h₀ S₀ outer (relabel cscope env) C h₃ [(x, some v)] -> Dn B (env :: outer) h₃ -> (∃ tk, v = .int (a + i) tk) ->
   EC (model prog w) A ifs cenv (fun ok s₂ => if ok then wpAny (model prog w) A (eval elt cenv) (fun y s₃ => Ch B s Tw h₃ (J (i + 1)) (ys ++ [y]) s₃) (fun _ _ => False) s₂ else Ch B s Tw h₃ (J (i + 1)) ys s₂) (mk s h₃ t₃))
  (fin : ∀ ys ac ia C hq h₂ t₂, ys.length <= (b - a).toNat -> J (b - a).toNat ys hq -> h.get? ac = none -> h.get? ia = none -> h.get? C = none -> Kw [ac, ia] [C] hq h₂ -> Kp B Tw [] h h₂ -> Fx B h₀ S₀ outer sc L h₂ l -> Li h₂ ac ys -> Q (.ref ac) (mk s h₂ t₂)) :
  wpAny (model prog w) A (pyIter (.ref d)) (fun it s₂ => DH prog w A E env elt x xp iter ifs cscope pos cl none Q it s₂) E (mk s h t) :=
 U0 hA.handled F y (by omega) (by omega) fun ia h' F' K' hia hI i0 => Im hifs he hf hA hx (hI s) (fun i h x => Gi x) J Tw hia (fun b m => ⟨(hTw b m).1, (hTw b m).2, AD⟩) AH hN F hkind hcell (fun h t Q E I q => wpAny_pyIter_rangeiter (s := mk s h t) I q) F' (K'.mono AH AH) i0 (j0 _ K')
  (fun i ys ac C cenv hq h₃ t₃ v a b c d e f => turn i ys ac ia C cenv hq h₃ t₃ v a b c d e f) (fun ys ac C hq h₂ t₂ a b c d e => fin ys ac ia C hq h₂ t₂ a b c d e)
end
def Cf (h : Heap) : List Value -> List AC -> Prop
 | [], [] => True
 | v :: vs, r :: rs => (∃ d, v = .ref d /\ TT h d r) /\ Cf h vs rs
 | _, _ => False
theorem Cf.kw {S D : List Addr} {h h' : Heap} (k : Kw S D h h') : ∀ {vs : List Value} {rs : List AC}, Cf h vs rs -> Cf h' vs rs
 | [], [], _ => trivial
 | v :: vs, r :: rs, ⟨⟨d, e, x⟩, y⟩ => ⟨⟨d, e, x.kw k⟩, Cf.kw k y⟩
theorem Cf.kp {B : Heap} {S D : List Addr} {h h' : Heap} (k : Kp B S D h h') {vs : List Value} {rs : List AC} (x : Cf h vs rs) : Cf h' vs rs := x.kw k.toKw
theorem Cf.len {h : Heap} : ∀ {vs : List Value} {rs : List AC}, Cf h vs rs -> vs.length = rs.length
 | [], [], _ => rfl
 | v :: vs, r :: rs, ⟨_, y⟩ => by simp [Cf.len y]
theorem Cf.get {h : Heap} : ∀ {vs : List Value} {rs : List AC} {i : Nat} {r : AC}, Cf h vs rs -> rs[i]? = some r -> ∃ d, vs[i]? = some (.ref d) /\ TT h d r
 | [], [], _, _, _, e => by simp at e
 | v :: vs, r :: rs, 0, r', ⟨⟨d, e, x⟩, y⟩, q => by simp at q; subst q; exact Dx d (by simp [e]) x
 | v :: vs, r :: rs, i + 1, r', ⟨_, y⟩, q => by simp at q; simpa using Cf.get y q
theorem Cf.snoc {h : Heap} {d : Addr} {r : AC} (z : TT h d r) : ∀ {vs : List Value} {rs : List AC}, Cf h vs rs -> Cf h (vs ++ [.ref d]) (rs ++ [r])
 | [], [], _ => ⟨⟨d, rfl, z⟩, trivial⟩
 | v :: vs, r :: rs, ⟨x, y⟩ => ⟨x, Cf.snoc z y⟩
noncomputable def Cp (rs : List AC) : List PyData := rs.map fun r => .tuple (An r)
theorem Cf.rd {h : Heap} : ∀ {vs : List Value} {rs : List AC}, Cf h vs rs -> ReadsAll h vs (Cp rs) []
 | [], [], _ => .nil
 | v :: vs, r :: rs, ⟨⟨d, e, x⟩, y⟩ => by subst e; exact Ad x.rd (Cf.rd y)
def RT (h : Heap) (d : Addr) (rs : List AC) : Prop := ∃ vs, Tu h d vs /\ Cf h vs rs
def RL (h : Heap) (d : Addr) (rs : List AC) : Prop := ∃ vs, Li h d vs /\ Cf h vs rs
theorem RT.kw {S D : List Addr} {h h' : Heap} {d : Addr} {rs : List AC} (k : Kw S D h h') (x : RT h d rs) : RT h' d rs := Ah (fun vs a b => ⟨vs, a.kw k, b.kw k⟩) x
theorem RT.kp {B : Heap} {S D : List Addr} {h h' : Heap} {d : Addr} {rs : List AC} (k : Kp B S D h h') (x : RT h d rs) : RT h' d rs := x.kw k.toKw
theorem Hj : ∀ (l m : List AC), PyData.eqvAll (Cp l) (Cp m) = decide (l = m)
 | [], [] => by simp [Cp, PyData.eqvAll]
 | [], _ :: _ => by simp [Cp, PyData.eqvAll]
 | _ :: _, [] => by simp [Cp, PyData.eqvAll]
 | p :: l, q :: m => by
  have := Hj l m
  show PyData.eqvAll (.tuple (An p) :: Cp l) (.tuple (An q) :: Cp m) = _
  rw [PyData.eqvAll, N6, this]
  simp [Bool.decide_and]
theorem Hs : ∀ l : List AC, PyData.canLayAll0 (Cp l) = true
 | [] => by simp [Cp, PyData.canLayAll0]
 | p :: l => by
  show PyData.canLayAll0 (.tuple (An p) :: Cp l) = true
  rw [PyData.canLayAll0, Hs l]; simp [PyData.canLay0, EH]
theorem Fu : ∀ l : List AC, PyData.depthAll (Cp l) <= 4
 | [] => by simp [Cp, PyData.depthAll]
 | p :: l => by
  show PyData.depthAll (.tuple (An p) :: Cp l) <= 4
  rw [PyData.depthAll]
  have := D5 p
  exact Nat.max_le.mpr ⟨by simp [PyData.depth]; omega, Fu l⟩
section
variable {prog : Program} {w : World} {A : Around} {E : Value -> Shared -> Prop} {s : Shared} {h : Heap} {t : Nat}
 {B h₀ : Heap} {S₀ : List Addr} {outer : List Env} {sc : Scope} {L : Addr} {l : A9} {env : Env} {n : Nat}
theorem YF {d : Addr} {rs : List AC} {Q : Value -> Shared -> Prop} (F : Fx B h₀ S₀ outer sc L h l) (x : RL h d rs) (hz : rs.length <= 1000000)
  (k : ∀ e h', Fx B h₀ S₀ outer sc L h' l -> Kp B [] [] h h' -> RT h' e rs -> Q (.ref e) (mk s h' t)) :
  wpAny (model prog w) A (call (.type "tuple") [.ref d]) Q E (mk s h t) := by
 revert x; refine Ah fun vs a b => ?_
 have hl := b.len
 exact Vw F a (by omega) fun e h' F' K' hT => k e h' F' K' ⟨_, hT, b.kp K'⟩
end
theorem Cf.drop {h : Heap} : ∀ {vs : List Value} {rs : List AC} (n : Nat), Cf h vs rs -> Cf h (vs.drop n) (rs.drop n)
 | vs, rs, 0, x => x
 | [], [], n + 1, x => x
 | v :: vs, r :: rs, n + 1, x => Cf.drop (vs := vs) (rs := rs) n x.2
theorem E4 {α : Type} {lo hi : Option Int} {xs : List α} {p : α} (h : p ∈ AY lo hi xs) : p ∈ xs := by
 unfold AY at h
 exact List.mem_of_mem_drop (List.mem_of_mem_take h)
theorem Nl {h : Heap} {vs : List Value} {ps : AC} (x : Ts h vs ps) : ∀ k, Ts h (List.replicate k vs).flatten (List.replicate k ps).flatten
 | 0 => .nil
 | k + 1 => by
  rw [List.replicate_succ, List.replicate_succ, List.flatten_cons, List.flatten_cons]
  exact Gv x (Nl x k)
section
variable {K : Frag} {B : Heap} {mg mb : Str -> Option Value} {ad : Str -> Addr} {tk : Str -> Tok} {prog : Program} {w : World} {h : Heap}
variable {A : Around} {E : Value -> Shared -> Prop} {s : Shared} {t : Nat} {h₀ : Heap} {S₀ : List Addr} {outer : List Env} {sc : Scope} {L : Addr} {l : A9}
theorem Jj {a b : Int} {u v : Tok} {Q : Value -> Shared -> Prop} (F : Fx B h₀ S₀ outer sc L h l) (k : ∀ d h', Fx B h₀ S₀ outer sc L h' l -> Kp B [] [] h h' -> Tk h' (.ref d) (a, b) -> Q (.ref d) (mk s h' t)) : wpAny (model prog w) A (newTuple [.int a u, .int b v]) Q E (mk s h t) :=
 O6 F (fun d h' F' K' hn hv => k d h' F' K' (hv.reads (Ad (.int _ _) (Ad (.int _ _) .nil)))) (by simp)
theorem Ya {vs : List Value} {Q : Value -> Shared -> Prop} (ps : AC) (F : Fx B h₀ S₀ outer sc L h l) (y : Ts h vs ps) (hz : ps.length <= 1000000) (k : ∀ d h', Fx B h₀ S₀ outer sc L h' l -> Kp B [] [] h h' -> h.get? d = none -> LT h' d ps -> Q (.ref d) (mk s h' t)) : wpAny (model prog w) A (newList vs) Q E (mk s h t) :=
 HT F (fun d h' F' K' hn hv => k d h' F' K' hn ⟨vs, hv, ReadsAll.kp K' y⟩) (by rw [Cr y]; exact hz)
theorem UY {d : Addr} {vs : Array Value} {m : Nat} {Q : List Value -> Shared -> Prop} (hA : A.handled = none) (F : Fx B h₀ S₀ outer sc L h l) (z : IsTup h d vs) (hm : m = vs.size)
  (c : ∀ h', Fx B h₀ S₀ outer sc L h' l -> Kp B [] [] h h' -> Q vs.toList (mk s h' t)) : wpAny (model prog w) A (unpackItems (.ref d) m none) Q E (mk s h t) := by
 subst hm
 exact PyProof.Rows.unpackItems_tuple (s := mk s h t) hA z fun h' e => c h' (F.grow (Gs e)) (Gs e)
end
theorem IsCell.kw {S D : List Addr} {h h' : Heap} {c : Addr} {v : Option Value} (k : Kw S D h h') (x : h.IsCell c v) (hn : c ∉ S) : h'.IsCell c v := by
 revert x; refine Ah fun o a b => ?_
 exact Dx o (k.keep c o a hn (fun es ep q => by rw [b] at q; cases q)) b
theorem IsCell.kp {B : Heap} {S D : List Addr} {h h' : Heap} {c : Addr} {v : Option Value} (k : Kp B S D h h') (x : h.IsCell c v) (hn : c ∉ S) : h'.IsCell c v := IsCell.kw k.toKw x hn
theorem IsCell.al {h : Heap} {c : Addr} {v : Option Value} (x : h.IsCell c v) : Al h c := Ah (fun o a _ => ⟨o, a⟩) x
section
variable {prog : Program} {w : World} {A : Around} {E : Value -> Shared -> Prop} {s : Shared} {h : Heap} {t : Nat}
 {B h₀ : Heap} {S₀ : List Addr} {outer : List Env} {sc : Scope} {L : Addr} {l : A9} {env : Env} {mg mb : Str -> Option Value} {n : Nat} {Cs : Value -> Prop}
theorem Lw {x : Str} {p : Pos} {v : Value} {c : Addr} {Q : Value -> Shared -> Prop} (he : Ax env sc L) (hk : sc.kind = .function) (hx : sc.names.lookup x = some .cell) (hc : env.cells.lookup x = some c) (y : h.IsCell c (some v)) (k : Q v (mk s h t)) (hd : (x == ("__debug__" : Str)) = false := by decide) :
  wpAny (model prog w) A (eval (.Name x p) env) Q E (mk s h t) :=
 wpAny_Name (wpAny_loadName_cell (s := mk s h t) (by rw [he.scope]; exact hk) (by rw [he.kindOf]; exact hx) hc y k) hd
theorem UE {f : Addr} {name qual x : Str} {params : Arguments} {body : List Stmt} {scope : Scope} {dV v : Value} {rest : List Str} {S : List Addr} {R : Value -> Heap -> Prop} (l : A9)
  (hf : Fn B f name qual params body scope dV) (lim : B.NoLimit)
  (hbind : ∀ kV doc pm an cdv ct, bindArgs (fnOf name qual params body scope dV kV doc pm an cdv ct) ⟨[v], []⟩ = pure [(x, v)]) (hl : A6 [] rest = l)
  (nm : Nm scope l) (hcx : scope.names.lookup x = some .cell) (hcl : ∀ n, cellsFrom n scope.names [] = [(x, n)])
  (hbody : ∀ A outer s L c env h₁ t₁, Ax env scope L -> env.frame = some L -> env.cells = [(x, c)] -> h.get? L = none -> h.get? c = none -> h₁.IsCell c (some v) -> Fx B h S outer scope L h₁ l -> Kp B [] [] h h₁ -> Db A (env :: outer) n ->
   wpAny (model prog w) A (execs body env) (fun fl s' => Vx B S h s R (FK fl) s') (D0 B h S L s Cs false) (mk s h₁ t₁))
  (hco : scope.isCoroutine = false := by rfl) (hgen : scope.isGenerator = false := by rfl) :
  IY prog w B (n + 1) (.ref f) [v] S h h R Cs := by
 subst hl
 intro A outer s t hA base₀ fr K0
 revert hf; refine EK fun oc od osl kV doc z0 => ?_; revert z0; refine Mv fun pm an cdv ct ho hcd => ?_
 have base := K0.base base₀
 have hkx : (callEnvC (fnOf name qual params body scope dV kV doc pm an cdv ct) (mk s h t).heap.objs.size f).kindOf x = some .cell := hcx
 have hnl : ¬ (callEnvC (fnOf name qual params body scope dV kV doc pm an cdv ct) (mk s h t).heap.objs.size f).kindOf x = some .local := by rw [hkx]; decide
 refine codeAny_call_cells (s := mk s h t) (fd := fnOf name qual params body scope dV kV doc pm an cdv ct) (body := body) (binds := [(x, v)]) (by have := hA.depth; omega) (base _ _ ho) rfl (lim.keeps base) (hcd.keeps base) rfl (hbind kV doc pm an cdv ct) rfl
  (fun y hy => by
   obtain rfl := List.mem_singleton.mp hy
   refine .inr ⟨hcx, ?_⟩
   rw [show (fnOf name qual params body scope dV kV doc pm an cdv ct).scope = scope from rfl, hcl]
   simp)
  (fun s₁ X => ?_) hco hgen nm.kind
 have hcells : (callEnvC (fnOf name qual params body scope dV kV doc pm an cdv ct) h.objs.size f).cells = [(x, h.objs.size + 1)] := hcl _
 refine ET (fun h₁ tk z0 hk => ?_) X.done; obtain rfl := z0
 have K : Kp B [] [] h h₁ := .of_keeps hk
 have hfresh : h.get? h.objs.size = none := Heap.get?_none_of_le (Nat.le_refl _)
 have hfreshC : h.get? (h.objs.size + 1) = none := Heap.get?_none_of_le (Nat.le_succ _)
 have hcell : h₁.IsCell (h.objs.size + 1) (some v) := by
  have := X.cell x (h.objs.size + 1) (by show List.lookup x (callEnvC (fnOf name qual params body scope dV kV doc pm an cdv ct) h.objs.size f).cells = _; rw [hcells]; simp)
  unfold PySem.bindC at this
  rw [if_neg hnl] at this
  simpa [PySem.bindC] using this
 have hns : h₁.Ns h.objs.size (lk (A6 [] rest)) := by
  have := X.toInCall.ns
  unfold PySem.bindL at this
  rw [if_neg hnl] at this
  have e : lk (A6 [] rest) = fun _ => none := by
   funext y; rw [HJ]; rfl
  rw [e]
  exact this
 have F : Fx B h S outer scope h.objs.size h₁ (A6 [] rest) := ⟨hns, nm, hfresh, K0.trans K AH AH, base, fr⟩
 have hA' := hA.deeper (callEnvC (fnOf name qual params body scope dV kV doc pm an cdv ct) h.objs.size f)
 refine wpAny_mono (hbody _ _ s h.objs.size (h.objs.size + 1) (callEnvC (fnOf name qual params body scope dV kV doc pm an cdv ct) h.objs.size f) h₁ tk ⟨rfl, rfl, rfl, rfl⟩ rfl hcells hfresh hfreshC hcell F K hA') (fun fl s' x => ?_) (fun e s' x => ?_)
 ·cases fl <;> exact x
 ·exact wpAny_mono (Pl (env := callEnvC (fnOf name qual params body scope dV kV doc pm an cdv ct) h.objs.size f) rfl rfl hA' F.fe x _) (fun _ s'' y => y) fun _ _ y => y
theorem NN {f : Value} {args : List Value} {S : List Addr} {R : Value -> Heap -> Prop} {Q : Value -> Shared -> Prop} {E : Value -> Shared -> Prop} {m : Nat} (c : Ct prog w B m f args S h R BW) (hA : Db A (env :: outer) n) (F : Fx B h₀ S₀ outer sc L h l) (fr : Dn B (env :: outer) h)
  (hn : m <= n) (hS : ∀ b ∈ S, b ∈ S₀ \/ h₀.get? b = none) (k : ∀ v h' t', Fx B h₀ S₀ outer sc L h' l -> Kp B S [] h h' -> R v h' -> Q v (mk s h' t')) :
  wpAny (model prog w) A (call f args) Q E (mk s h t) := by
 refine wpAny_mono (c A (env :: outer) s t (hA.le hn) F.base fr) (fun v s' x => ?_) (fun e s' x => ?_)
 ·revert x; refine CY fun h' t' z0 K r => ?_; obtain rfl := z0
  exact k v h' t' (F.step K hS) K r
 ·revert x; refine DK fun x h' t' a b z0 => ?_; revert z0; refine I5 fun c d e z1 => ?_; revert z1; refine CY fun o vs g1 g2 g3 => ?_
  exact g2.elim
end
structure cF (h : Heap) (C m dx : Addr) (P Bd : AC) (D : List AC) (long out : Bool) (mm : Str -> Option Value) (pa bo de : Addr) (tk : Tok) : Prop where
 O : Ob h m dx C mm
 b1 : mm "parameters" = some (.ref pa)
 c1 : TT h pa P
 b2 : mm "body" = some (.ref bo)
 c2 : TT h bo Bd
 b3 : mm "is_long" = some (.bool long)
 b4 : mm "is_outer" = some (.bool out)
 b5 : mm "count" = some (.int ((D.length : Int) - 1) tk)
 b6 : mm "delimiters" = some (.ref de)
 c6 : RT h de D
 b7 : mm "has_brace" = none
 b8 : mm "same" = none
structure Mc (h : Heap) (C m dx : Addr) (P Bd : AC) (D : List AC) (long out : Bool) : Prop where
 ob : ∃ mm pa bo de tk, cF h C m dx P Bd D long out mm pa bo de tk
section
variable {S D' : List Addr} {h h' : Heap} {C m dx : Addr} {P Bd : AC} {D : List AC} {long out : Bool}
theorem Mc.kw (k : Kw S D' h h') (x : Mc h C m dx P Bd D long out) (h1 : m ∉ S) (h2 : dx ∉ D') : Mc h' C m dx P Bd D long out :=
 ⟨EK (fun mm pa bo de tk y => ⟨mm, pa, bo, de, tk, y.O.kw k h1 h2, y.b1, y.c1.kw k, y.b2, y.c2.kw k, y.b3, y.b4, y.b5, y.b6, y.c6.kw k, y.b7, y.b8⟩) x.ob⟩
theorem Mc.al (x : Mc h C m dx P Bd D long out) : Al h m := EK (fun _ _ _ _ _ y => y.O.al) x.ob
theorem Mc.alD (x : Mc h C m dx P Bd D long out) : Al h dx := EK (fun _ _ _ _ _ y => y.O.alD) x.ob
theorem Mc.me (x : Mc h C m dx P Bd D long out) : ∃ mm, Ob h m dx C mm /\ mm "has_brace" = none /\ mm "same" = none := EK (fun mm _ _ _ _ y => ⟨mm, y.O, y.b7, y.b8⟩) x.ob
end
def Da (h : Heap) (d : Addr) (n : Nat) : Prop := ∃ (a b c : Int) (u1 u2 u3 : Tok), Li h d [.int a u1, .int b u2, .int c u3] /\ 0 <= a /\ 0 <= b /\ b + n <= 100000 /\ 0 <= c /\ c < 1000003
theorem Da.kw {S D : List Addr} {h h' : Heap} {d : Addr} {n : Nat} (k : Kw S D h h') (x : Da h d n) (hn : d ∉ S) : Da h' d n := by
 revert x; refine EK fun a b c u1 u2 z0 => ?_; revert z0; refine Ah fun u3 l r => ?_
 exact Qs a b c u1 u2 ⟨u3, l.kw k hn, r⟩
theorem Da.al {h : Heap} {d : Addr} {n : Nat} (x : Da h d n) : Al h d := EK (fun _ _ _ _ _ => Ah fun _ l _ => l.al) x
structure BU where
 par : AC
 body : AC
 dl : List AC
 long : Bool
 outer : Bool
inductive AP | toks (ps : AC) | tts (l : List AC) | ints (l : List Int) | strs (l : List Str)
inductive AV
 | int (i : Int) | bool (b : Bool) | str (s : Str) | none | tok (p : AN) | tup (P : AP) | tin (l : List Int) | ref (i : Nat) | tup2 (a b : AV) | tup3 (a b c : AV) | any
inductive AO | lst (P : AP) | feed (ps outs : AC) | mac (m : BU) | src (n : Nat) | ro (l : List Int) | cel
structure AA where
 a : Addr
 dx : Addr
 r : Addr
abbrev PO := AA × AO
abbrev Os := List PO
noncomputable def Av (os : Os) : List AA := os.map (·.1)
structure St where
 loc : List (Str × Option AV)
 objs : List AO
noncomputable def AP.len : AP -> Nat
 | .toks l => l.length
 | .tts l => l.length
 | .ints l => l.length
 | .strs l => l.length
def AP.rel (h : Heap) : AP -> List Value -> Prop
 | .toks l, vs => Ts h vs l
 | .tts l, vs => Cf h vs l /\ ∀ r ∈ l, r.length <= 1000000
 | .ints l, vs => ReadsAll h vs (l.map .int) []
 | .strs l, vs => ReadsAll h vs (l.map .str) []
theorem AP.rel.kw {S D : List Addr} {h h' : Heap} (k : Kw S D h h') {P : AP} {vs : List Value} (x : P.rel h vs) : P.rel h' vs := by
 cases P
 case tts => exact ⟨x.1.kw k, x.2⟩
 all_goals exact ReadsAll.kw k x
theorem AP.rel.len {h : Heap} {P : AP} {vs : List Value} (x : P.rel h vs) : vs.length = P.len := by
 cases P
 case toks => exact Cr x
 case tts => exact x.1.len
 all_goals exact (BB x).trans (List.length_map ..)
structure Cx where
 prog : Program
 w : World
 A : Around
 s : Shared
 B : Heap
 h₀ : Heap
 S₀ : List Addr
 outer : List Env
 sc : Scope
 L : Addr
 env : Env
 K : Frag
 mg : Str -> Option Value
 mb : Str -> Option Value
 ad : Str -> Addr
 tk : Str -> Tok
 n : Nat
 EX : Aa -> Prop
 ads : List AA
def Jm (ad : Str -> Addr) (EX : Aa -> Prop) : Value -> Prop := fun v => ∃ e, EX e /\ v = .ref (ad e.cls)
def Cx.E (c : Cx) : Value -> Shared -> Prop := D0 c.B c.h₀ c.S₀ c.L c.s (Jm c.ad c.EX) false
structure Cx.Ok (c : Cx) : Prop where
 W : Wd c.K c.B c.mg c.mb c.ad c.tk
 he : Ax c.env c.sc c.L
 hf : c.env.frame = some c.L
 hA : Db c.A (c.env :: c.outer) c.n
noncomputable def DL : PO -> List Addr
 | (x, .lst _) => [x.a]
 | (x, .feed ..) => [x.a, x.dx, x.r]
 | (x, .mac _) => [x.a, x.dx]
 | (x, .src _) => [x.a]
 | (_, .ro _) => []
 | (x, .cel) => [x.a]
noncomputable def GE : PO -> List Addr
 | (x, .lst _) => [x.a]
 | (x, .feed ..) => [x.r]
 | (_, .mac _) => []
 | (x, .src _) => [x.a]
 | (_, .ro _) => []
 | (_, .cel) => []
theorem Cb {p : PO} {x : Addr} (m : x ∈ GE p) : x ∈ DL p := by
 obtain ⟨a, o⟩ := p
 cases o
 case feed => exact .tail _ (.tail _ m)
 case mac => exact nomatch m
 case cel => exact nomatch m
 all_goals exact m
def Hg (B : Heap) (ad : Str -> Addr) (h : Heap) : PO -> Prop
 | (x, .lst P) => P.len <= 1000000 /\ ∃ vs, Li h x.a vs /\ P.rel h vs
 | (x, .feed ps outs) => Fd B h (ad "TokenFeed") x.a x.dx x.r ps outs
 | (x, .mac m) => Mc h (ad "Macro") x.a x.dx m.par m.body m.dl m.long m.outer /\ m.par.length <= 1000 /\ m.body.length <= 1000 /\ m.dl.length <= 1000 /\ ∀ r ∈ m.dl, r.length <= 1000
 | (x, .src n) => Da h x.a n
 | (x, .ro l) => l.length <= 1000000 /\ ∃ vs, Li B x.a vs /\ ReadsAll B vs (l.map .int) []
 | (x, .cel) => h.IsCell x.a (some (.ref x.r))
noncomputable def Dp : AV -> List Nat
 | .ref i => [i]
 | .tup2 a b => Dp a ++ Dp b
 | .tup3 a b c => Dp a ++ (Dp b ++ Dp c)
 | _ => []
noncomputable def AV.map (f : Nat -> Nat) : AV -> AV
 | .ref i => .ref (f i)
 | .tup2 a b => .tup2 (a.map f) (b.map f)
 | .tup3 a b c => .tup3 (a.map f) (b.map f) (c.map f)
 | a => a
theorem AV.map_id (a : AV) : a.map (fun i => i) = a := by
 induction a
 case tup2 a b ia ib => exact (congr (congrArg AV.tup2 ia) ib : AV.tup2 (a.map _) (b.map _) = _)
 case tup3 a b c ia ib ic => exact (congr (congr (congrArg AV.tup3 ia) ib) ic : AV.tup3 (a.map _) (b.map _) (c.map _) = _)
 all_goals rfl
def CV (h : Heap) (as : List AA) : AV -> Value -> Prop
 | .int i, v => ∃ u, v = .int i u
 | .bool b, v => v = .bool b
 | .str s, v => ∃ u, v = .str s u
 | .none, v => v = .none
 | .tok p, v => Tk h v p
 | .tup P, v => P.len <= 1000000 /\ ∃ d vs, v = .ref d /\ Tu h d vs /\ P.rel h vs
 | .tin l, v => Reads h v (.tuple (l.map .int)) []
 | .ref i, v => ∃ x, as[i]? = some x /\ v = .ref x.a
 | .any, _ => True
 | .tup2 a b, v => ∃ d x y, v = .ref d /\ Tu h d [x, y] /\ CV h as a x /\ CV h as b y
 | .tup3 a b c, v => ∃ d x y z, v = .ref d /\ Tu h d [x, y, z] /\ CV h as a x /\ CV h as b y /\ CV h as c z
def XT (h : Heap) (as : List AA) (a : Option AV) (v : Option Value) : Prop := ∀ b, a = some b -> ∃ u, v = some u /\ CV h as b u
def BJ (h : Heap) (as : List AA) (l : List (Str × Option AV)) (m : A9) : Prop := l.rec (fun m => m = []) (fun p _ ih m => m.casesOn False fun q m => p.1 = q.1 /\ XT h as p.2 q.2 /\ ih m) m
@[elab_as_elim] theorem BJ.cons_c {h : Heap} {as : List AA} {y : Str} {a : Option AV} {l : List (Str × Option AV)} {m : A9} {C : A9 -> Prop} (x : BJ h as ((y, a) :: l) m) (k : ∀ v m, XT h as a v -> BJ h as l m -> C ((y, v) :: m)) : C m := by
 cases m with
 | nil => exact x.elim
 | cons q m =>
  obtain ⟨z, v⟩ := q
  rw [<- show y = z from x.1]
  exact k v m x.2.1 x.2.2
theorem Cc {α : Type} {l m : List α} {i : Nat} {x : α} (p : l <+: m) (e : l[i]? = some x) : m[i]? = some x := by
 revert p; refine Ap fun t z0 => ?_; obtain rfl := z0
 exact List.getElem?_append_left (List.getElem?_eq_some_iff.mp e).1 ▸ e
section
variable {S D : List Addr} {h h' : Heap} {as as' : List AA}
theorem CV.map (k : Kw S D h h') {f : Nat -> Nat} : ∀ {a : AV} {v : Value}, (∀ i ∈ Dp a, ∀ x, as[i]? = some x -> as'[f i]? = some x) -> CV h as a v -> CV h' as' (a.map f) v := by
 intro a
 induction a
 case ref i => exact fun H => Ah fun x e q => ⟨x, H i (.head _) x e, q⟩
 case tup2 a b ia ib => exact fun H => DK fun d x y e t z => Ak (fun p q => ⟨d, x, y, e, t.kw k, ia (fun i m => H i (List.mem_append_left _ m)) p, ib (fun i m => H i (List.mem_append_right _ m)) q⟩) z
 case tup3 a b c ia ib ic => exact fun H => Mv fun d x y z e w => I5 (fun t p q r => ⟨d, x, y, z, e, t.kw k, ia (fun i m => H i (List.mem_append_left _ m)) p, ib (fun i m => H i (List.mem_append_right _ (List.mem_append_left _ m))) q, ic (fun i m => H i (List.mem_append_right _ (List.mem_append_right _ m))) r⟩) w
 case tok => exact fun _ x => Reads.kw k x
 case tin => exact fun _ x => Reads.kw k x
 case tup => exact fun _ => Ak fun z => ET fun d vs e z' => Ak (fun x y => ⟨z, d, vs, e, x.kw k, y.kw k⟩) z'
 all_goals exact fun _ x => x
theorem CV.kw (k : Kw S D h h') (p : as <+: as') {a : AV} {v : Value} (x : CV h as a v) : CV h' as' a v := AV.map_id a ▸ CV.map k (f := fun i => i) (fun _ _ _ e => Cc p e) x
theorem XT.kw (k : Kw S D h h') (p : as <+: as') {a : Option AV} {v : Option Value} (x : XT h as a v) : XT h' as' a v := fun b e => Ah (fun u z c => ⟨u, z, c.kw k p⟩) (x b e)
theorem BJ.kw (k : Kw S D h h') (p : as <+: as') {l : List (Str × Option AV)} : ∀ {m : A9}, BJ h as l m -> BJ h' as' l m := by
 induction l with
 | nil => exact fun x => x
 | cons q l ih => exact fun x => x.cons_c fun v m c y => ⟨rfl, c.kw k p, ih y⟩
end
theorem AG {α : Type} {a : α} {P : Prop} (h : (none : Option α) = some a) : P := nomatch h
theorem A2 {α β : Type} {o : Option α} {f : α -> Option β} {b : β} {P : Prop} (h : o.bind f = some b) (k : ∀ x, o = some x -> f x = some b -> P) : P := by
 cases o
 ·exact AG h
 ·exact k _ rfl h
theorem Gq {α : Type} {b : Bool} {o : Option α} {r : α} {P : Prop} (e : (bif b then o else none) = some r) (f : b = true -> o = some r -> P) : P := by
 cases b
 ·exact AG e
 ·exact f rfl e
theorem DR {α : Type} {l : List α} {p : α} {P : α -> Prop} (f : ∀ q ∈ l, P q) (g : P p) : ∀ q ∈ l ++ [p], P q := fun q m => (List.mem_append.mp m).elim (f q) fun m => List.mem_singleton.mp m ▸ g
theorem BK {α : Type} {c : Prop} [Decidable c] {a b r : α} {P : Prop} (h : (if c then a else b) = r) (f : c -> a = r -> P) (g : ¬ c -> b = r -> P) : P := by
 by_cases k : c
 ·exact f k ((if_pos k).symm.trans h)
 ·exact g k ((if_neg k).symm.trans h)
noncomputable def MV (x : Str) (l : List (Str × Option AV)) : Option (Option AV) := l.rec none fun p _ r => bif x == p.1 then some p.2 else r
noncomputable def HR (x : Str) (a : AV) (l : List (Str × Option AV)) : List (Str × Option AV) := l.rec [] fun p l r => bif x == p.1 then (p.1, some a) :: l else p :: r
theorem BJ.look {h : Heap} {as : List AA} {x : Str} {a : AV} {l : List (Str × Option AV)} : ∀ {m : A9}, BJ h as l m -> MV x l = some (some a) -> ∃ v, (x, some v) ∈ m /\ CV h as a v := by
 induction l with
 | nil => exact fun _ q => nomatch q
 | cons p l ih =>
  obtain ⟨y, b⟩ := p
  refine fun z => z.cons_c fun v m c z q => ?_
  replace q : (bif x == y then some b else GP.MV x l) = some (some a) := q
  cases hb : x == y with
  | true =>
   rw [hb] at q
   exact Ah (fun u z0 cv => ⟨u, by rw [z0, eq_of_beq hb]; exact .head _, cv⟩) (c a (Option.some.inj q))
  | false =>
   rw [hb] at q
   exact Ah (fun v m cv => ⟨v, .tail _ m, cv⟩) (ih z q)
noncomputable def G1 (x : Str) (l : List (Str × Option AV)) : Bool := l.rec false fun p _ r => x == p.1 || r
theorem ST {x y : Str} {a : AV} {l : List (Str × Option AV)} : G1 y (HR x a l) = G1 y l := by
 induction l with
 | nil => rfl
 | cons p l ih =>
  show G1 y (bif x == p.1 then (p.1, some a) :: l else p :: HR x a l) = (y == p.1 || G1 y l)
  cases x == p.1
  ·exact congrArg (y == p.1 || ·) ih
  ·rfl
theorem BJ.put {h : Heap} {as : List AA} {x : Str} {a : AV} {v : Value} (cv : CV h as a v) {l : List (Str × Option AV)} : ∀ {m : A9}, G1 x l = true -> BJ h as l m -> ∃ m', CO x (some v) m m' /\ BJ h as (HR x a l) m' := by
 induction l with
 | nil => exact fun q _ => nomatch q
 | cons p l ih =>
  obtain ⟨y, b⟩ := p
  refine fun q z => z.cons_c fun w m c z => ?_
  show ∃ m', CO x (some v) ((y, w) :: m) m' /\ BJ h as (bif x == y then (y, some a) :: l else (y, b) :: GP.HR x a l) m'
  replace q : (x == y || G1 x l) = true := q
  cases hb : x == y with
  | true =>
   rw [eq_of_beq hb]
   exact ⟨_, .head, rfl, fun b e => ⟨v, rfl, Option.some.inj e ▸ cv⟩, z⟩
  | false =>
   rw [hb] at q
   exact Ah (fun m' s r' => ⟨_, .tail s, rfl, c, r'⟩) (ih q z)
theorem Hg.kw {B : Heap} {ad : Str -> Addr} {S D : List Addr} {h h' : Heap} (k : Kw S D h h') {p : PO} (hs : ∀ x ∈ DL p, x ∉ S) (hd : ∀ x ∈ DL p, x ∉ D) (y : Hg B ad h p) : Hg B ad h' p := by
 obtain ⟨x, o⟩ := p
 cases o
 case lst => exact ⟨y.1, Ah (fun vs a b => ⟨vs, a.kw k (hs _ (.head _)), b.kw k⟩) y.2⟩
 case feed => exact Fd.kw k y (hs _ (.head _)) (hs _ (.tail _ (.tail _ (.head _)))) (hd _ (.tail _ (.head _)))
 case mac => exact ⟨y.1.kw k (hs _ (.head _)) (hd _ (.tail _ (.head _))), y.2⟩
 case src => exact Da.kw k y (hs _ (.head _))
 case ro => exact y
 case cel => exact IsCell.kw k y (hs _ (.head _))
theorem Hg.al {B : Heap} {ad : Str -> Addr} {h : Heap} {p : PO} (y : Hg B ad h p) : ∀ x ∈ DL p, Al h x := by
 have one : ∀ {a : Addr}, Al h a -> ∀ x ∈ [a], Al h x := fun al => List.forall_mem_cons.mpr ⟨al, fun _ m => nomatch m⟩
 obtain ⟨x, o⟩ := p
 cases o
 case lst => exact Ah (fun vs a _ => one a.al) y.2
 case feed => exact List.forall_mem_cons.mpr ⟨Fd.al1 y, List.forall_mem_cons.mpr ⟨Fd.al2 y, one (Fd.al3 y)⟩⟩
 case mac => exact List.forall_mem_cons.mpr ⟨y.1.al, one y.1.alD⟩
 case src => exact one (Da.al y)
 case ro => exact fun _ m => nomatch m
 case cel => exact one (IsCell.al y)
def Jv (o p : PO) : Prop := ∀ x ∈ DL o, ∀ y ∈ DL p, x ≠ y
theorem Jv.symm {o p : PO} (d : Jv o p) : Jv p o := fun x hx y hy q => d y hy x hx q.symm
structure BD (c : Cx) (st : St) (os : Os) (h : Heap) (l : A9) : Prop where
 F : Fx c.B c.h₀ c.S₀ c.outer c.sc c.L h l
 eq : st.objs = os.map (·.2)
 loc : BJ h (Av os) st.loc l
 ok : ∀ p ∈ os, Hg c.B c.ad h p
 dis : os.Pairwise Jv
 wr : ∀ p ∈ os, ∀ x ∈ GE p, Wr c.B c.h₀ c.S₀ x
 dL : ∀ p ∈ os, ∀ x ∈ DL p, x ≠ c.L
 pre : c.ads <+: Av os
noncomputable def DT (os : Os) : List Addr := os.flatMap GE
theorem Bn {os : Os} {o : PO} {x : Addr} (m : o ∈ os) (hx : x ∈ GE o) : x ∈ DT os := List.mem_flatMap.mpr ⟨o, m, hx⟩
structure Ex (c : Cx) (os os' : Os) (h h' : Heap) : Prop where
 kp : Kp c.B (DT os) [c.L] h h'
 kind : ∀ (i : Nat) (p q : PO), os[i]? = some p -> os'[i]? = some q -> DL q = DL p /\ GE q = GE p
 new : ∀ (i : Nat) (p : PO), os.length <= i -> os'[i]? = some p -> ∀ x ∈ DL p, h.get? x = none
 pre : Av os <+: Av os'
theorem Iq {os os' : Os} (p : Av os <+: Av os') : os.length <= os'.length := by
 have := p.length_le
 unfold Av at this
 rwa [List.length_map, List.length_map] at this
section
variable {c : Cx} {st : St} {os os' os'' : Os} {h h' h'' : Heap} {l l' : A9} {i : Nat} {o o' : AO} {x : AA}
theorem Ex.newW (e : Ex c os os' h h') : ∀ x ∈ DT os', x ∈ DT os \/ h.get? x = none := fun x m => by
 refine Ah (fun p mp hx => ?_) <| List.mem_flatMap.mp m
 refine Ap (fun i ei => ?_) <| List.getElem?_of_mem mp
 by_cases hi : i < os.length
 ·have eq := List.getElem?_eq_getElem hi
  rw [(e.kind i _ p eq ei).2] at hx
  exact .inl (Bn (List.mem_of_getElem? eq) hx)
 ·exact .inr (e.new i p (Nat.le_of_not_lt hi) ei x (Cb hx))
theorem CA (os : Os) : ∀ (i : Nat) (p q : PO), os[i]? = some p -> os[i]? = some q -> DL q = DL p /\ GE q = GE p := fun i p q a b => by
 rw [a] at b; cases b; exact ⟨rfl, rfl⟩
theorem D2 {os' : Os} (hl : os'.length <= os.length) : ∀ (i : Nat) (p : PO), os.length <= i -> os'[i]? = some p -> ∀ x ∈ DL p, h.get? x = none := fun i p hi e => by
 have := (List.getElem?_eq_some_iff.mp e).1
 omega
theorem Ex.refl (h : Heap) : Ex c os os h h := ⟨Kp.refl .., CA os, D2 (Nat.le_refl _), List.prefix_refl _⟩
theorem Ex.trans (x : Ex c os os' h h') (y : Ex c os' os'' h' h'') : Ex c os os'' h h'' :=
 ⟨x.kp.trans y.kp x.newW fun _ m => .inl m, fun i p q a b => by
  have hi := (List.getElem?_eq_some_iff.mp a).1
  have e := List.getElem?_eq_getElem (Nat.lt_of_lt_of_le hi (Iq x.pre))
  refine Ak (fun k1 k2 => ?_) <| x.kind i p _ a e
  refine Ak (fun k3 k4 => ?_) <| y.kind i _ q e b
  exact ⟨k3.trans k1, k4.trans k2⟩, fun i p hi e z hz => by
  by_cases hi' : i < os'.length
  ·have e' := List.getElem?_eq_getElem hi'
   rw [(y.kind i _ p e' e).1] at hz
   exact x.new i _ hi e' z hz
  ·exact x.kp.alive (y.new i p (Nat.le_of_not_lt hi') e z hz), x.pre.trans y.pre⟩
theorem Ex.grow (k : Kp c.B [] [] h h') : Ex c os os h h' := ⟨k.mono AH AH, CA os, D2 (Nat.le_refl _), List.prefix_refl _⟩
theorem Ex.store (k : Kp c.B [] [c.L] h h') : Ex c os os h h' := ⟨k.mono AH fun _ m => m, CA os, D2 (Nat.le_refl _), List.prefix_refl _⟩
theorem GU (a b : Os) : Av a <+: Av (a ++ b) := ⟨Av b, (List.map_append).symm⟩
theorem Ex.push {p : PO} (k : Kp c.B [] [] h h') (hn : ∀ x ∈ DL p, h.get? x = none) : Ex c os (os ++ [p]) h h' :=
 ⟨k.mono AH AH, fun i q r a b => by
  rw [List.getElem?_append_left (List.getElem?_eq_some_iff.mp a).1, a] at b; cases b; exact ⟨rfl, rfl⟩, fun i q hi e x m => by
  rw [List.getElem?_append_right hi] at e
  obtain rfl := List.mem_singleton.mp (List.mem_of_getElem? e)
  exact hn x m, GU ..⟩
theorem G0 {α : Type} {p : α} {l : List α} : ∀ {i : Nat}, l[i]? = some p -> ∃ a b, l = a ++ p :: b /\ ∀ q, l.set i q = a ++ q :: b := by
 induction l with
 | nil => exact fun h => nomatch h
 | cons x l ih =>
  intro i h
  cases i with
  | zero => exact ⟨[], l, congrArg (· :: l) (Option.some.inj (show some x = some p from h)), fun q => rfl⟩
  | succ i => exact ET (fun a b e k => ⟨x :: a, b, congrArg (x :: ·) e, fun q => congrArg (x :: ·) (k q)⟩) (ih (i := i) h)
theorem BD.at (R : BD c st os h l) (e : st.objs[i]? = some o) : ∃ x, os[i]? = some (x, o) := by
 rw [R.eq, List.getElem?_map, Option.map_eq_some_iff] at e
 revert e; refine Ah fun z0 e z1 => ?_; obtain ⟨x, _⟩ := z0; obtain rfl := z1
 exact ⟨x, e⟩
theorem Fi (e : os[i]? = some (x, o)) : (Av os)[i]? = some x := by unfold Av; rw [List.getElem?_map, e]; rfl
theorem CV.at {v : Value} (y : CV h (Av os) (.ref i) v) (e : os[i]? = some (x, o)) : v = .ref x.a := by
 revert y; refine Ah fun z e' q => ?_
 rw [Fi e] at e'; cases e'; exact q
theorem FH (e : os[i]? = some (x, o)) : Av (os.set i (x, o')) = Av os := by
 refine ET (fun a b ea k => ?_) <| G0 e
 rw [k, ea]; simp only [Av, List.map_append, List.map_cons]
theorem Ex.set {S : List Addr} (k : Kp c.B S [] h h') (e : os[i]? = some (x, o)) (hS : ∀ y ∈ S, y ∈ GE (x, o)) (ha : DL (x, o') = DL (x, o)) (hw : GE (x, o') = GE (x, o)) : Ex c os (os.set i (x, o')) h h' :=
 ⟨k.mono (fun y m => Bn (List.mem_of_getElem? e) (hS y m)) AH, fun j p q a b => by
  rw [List.getElem?_set] at b
  refine BK b (fun hij b => BK b (fun _ b => ?_) fun _ b => nomatch b) fun _ b => ?_
  ·rw [<- hij, e] at a
   rw [<- Option.some.inj a, <- Option.some.inj b]; exact ⟨ha, hw⟩
  ·exact CA os j p q a b, D2 (by rw [List.length_set]; exact Nat.le_refl _), by rw [FH e]; exact List.prefix_refl _⟩
theorem CV.ext (k : Ex c os os' h h') {a : AV} {v : Value} (x : CV h (Av os) a v) : CV h' (Av os') a v := x.kw k.kp.toKw k.pre
theorem BD.grow (R : BD c st os h l) (F : Fx c.B c.h₀ c.S₀ c.outer c.sc c.L h' l) (k : Kp c.B [] [] h h') : BD c st os h' l :=
 ⟨F, R.eq, R.loc.kw k.toKw (List.prefix_refl _), fun o m => (R.ok o m).kw k.toKw (fun _ _ => AD) (fun _ _ => AD), R.dis, R.wr, R.dL, R.pre⟩
theorem BD.store {ll : List (Str × Option AV)} (R : BD c st os h l) (F : Fx c.B c.h₀ c.S₀ c.outer c.sc c.L h' l') (k : Kp c.B [] [c.L] h h') (hl : BJ h (Av os) ll l') : BD c ⟨ll, st.objs⟩ os h' l' :=
 ⟨F, R.eq, hl.kw k.toKw (List.prefix_refl _), fun o m => (R.ok o m).kw k.toKw (fun _ _ => AD) (fun x q => Ar (R.dL o m x q)), R.dis, R.wr, R.dL, R.pre⟩
theorem BD.push {p : PO} (R : BD c st os h l) (F : Fx c.B c.h₀ c.S₀ c.outer c.sc c.L h' l) (k : Kp c.B [] [] h h') (y : Hg c.B c.ad h' p) (hn : ∀ x ∈ DL p, h.get? x = none) : BD c ⟨st.loc, st.objs ++ [p.2]⟩ (os ++ [p]) h' l where
 F := F
 eq := by rw [List.map_append, R.eq]; rfl
 pre := R.pre.trans (GU ..)
 loc := R.loc.kw k.toKw (GU ..)
 ok := DR (fun q m => (R.ok q m).kw k.toKw (fun _ _ => AD) (fun _ _ => AD)) y
 dis := List.pairwise_append.mpr ⟨R.dis, List.pairwise_singleton _ _, fun q m q' m' => by
  rw [List.mem_singleton.mp m']; exact fun x hx y hy => EW (hn y hy) ((R.ok q m).al x hx)⟩
 wr := DR R.wr fun x hx => R.F.wr (hn x (Cb hx))
 dL := DR R.dL fun x hx e => Gr (fun oo es ep e' _ => by
  have := hn x hx
  rw [e, e'] at this; cases this) R.F.ns
theorem BD.set {S : List Addr} (R : BD c st os h l) (F : Fx c.B c.h₀ c.S₀ c.outer c.sc c.L h' l) (k : Kp c.B S [] h h') (e : os[i]? = some (x, o)) (hS : ∀ y ∈ S, y ∈ DL (x, o)) (ha : DL (x, o') = DL (x, o)) (hw : ∀ y ∈ GE (x, o'), y ∈ GE (x, o)) (y : Hg c.B c.ad h' (x, o')) : BD c ⟨st.loc, st.objs.set i o'⟩ (os.set i (x, o')) h' l := by
 refine ET (fun a b ea kk => ?_) <| G0 e
 have hd := R.dis
 rw [ea] at hd
 refine C9 (fun d1 d2 d3 => ?_) <| List.pairwise_append.mp hd
 refine Ak (fun d4 d5 => ?_) <| List.pairwise_cons.mp d2
 have hm : ∀ q ∈ os.set i (x, o'), q = (x, o') \/ (q ∈ os /\ Jv q (x, o)) := fun q m => by
  rw [kk] at m
  rcases List.mem_append.mp m with m | m
  ·exact .inr ⟨ea ▸ List.mem_append_left _ m, d3 q m _ (.head _)⟩
  ·rcases List.mem_cons.mp m with m | m
   ·exact .inl m
   ·exact .inr ⟨ea ▸ List.mem_append_right _ (.tail _ m), (d4 q m).symm⟩
 refine ⟨F, ?_, ?_, fun q m => ?_, ?_, fun q m z hz => ?_, fun q m z hz => ?_, by rw [FH e]; exact R.pre⟩
 ·rw [List.map_set, R.eq]
 ·rw [FH e]; exact R.loc.kw k.toKw (List.prefix_refl _)
 ·rcases hm q m with rfl | ⟨m, d⟩
  ·exact y
  ·exact (R.ok q m).kw k.toKw (fun z hz w => d z hz z (hS z w) rfl) (fun _ _ => AD)
 ·rw [kk]
  refine List.pairwise_append.mpr ⟨d1, List.pairwise_cons.mpr ⟨fun q m => ?_, d5⟩, fun q m q' m' => ?_⟩
  ·intro u hu; rw [ha] at hu; exact d4 q m u hu
  ·rcases List.mem_cons.mp m' with rfl | m'
   ·intro u hu v hv; rw [ha] at hv; exact d3 q m _ (.head _) u hu v hv
   ·exact d3 q m q' (.tail _ m')
 ·rcases hm q m with rfl | ⟨m, d⟩
  ·exact R.wr _ (List.mem_of_getElem? e) z (hw z hz)
  ·exact R.wr q m z hz
 ·rcases hm q m with rfl | ⟨m, d⟩
  ·rw [ha] at hz; exact R.dL _ (List.mem_of_getElem? e) z hz
  ·exact R.dL q m z hz
end
noncomputable def AV.lt (n : Nat) (a : AV) : Bool := (Dp a).all fun i => decide (i < n)
noncomputable def X5 (n : Nat) (a : Option AV) : Option AV := a.bind fun a => bif a.lt n then some a else none
noncomputable def Ng (n : Nat) (l : List (Str × Option AV)) : List (Str × Option AV) := l.map fun p => (p.1, X5 n p.2)
noncomputable def gc (n : Nat) (st : St) : St := ⟨Ng n st.loc, st.objs.take n⟩
section
variable {h : Heap} {as : List AA} {n : Nat}
theorem CV.take {a : AV} {v : Value} (q : a.lt n = true) (x : CV h as a v) : CV h (as.take n) a v :=
 AV.map_id a ▸ CV.map (Kw.refl [] [] h) (f := fun i => i) (fun i m x e => by rw [List.getElem?_take_of_lt (of_decide_eq_true (List.all_eq_true.mp q i m))]; exact e) x
theorem BJ.take {l : List (Str × Option AV)} : ∀ {m : A9}, BJ h as l m -> BJ h (as.take n) (Ng n l) m := by
 induction l with
 | nil => exact fun x => x
 | cons p l ih => exact fun x => x.cons_c fun v m c z => ⟨rfl, fun b e => A2 e fun a e1 e2 => Gq e2 fun hb e3 => Ah (fun u eu y => ⟨u, eu, Option.some.inj e3 ▸ y.take hb⟩) (c a e1), ih z⟩
end
theorem ED (n : Nat) (os : Os) : Av (os.take n) = (Av os).take n := by unfold Av; rw [List.map_take]
theorem Nj {α : Type} {a b : List α} {n : Nat} (p : a <+: b) (h : a.length <= n) : a <+: b.take n := by
 revert p; refine Ap fun t z0 => ?_; obtain rfl := z0
 rw [List.take_append, List.take_of_length_le h]
 exact List.prefix_append ..
theorem BD.gc {c : Cx} {st : St} {os : Os} {h : Heap} {l : A9} (R : BD c st os h l) (n : Nat) (hn : c.ads.length <= n) : BD c (gc n st) (os.take n) h l :=
 ⟨R.F, by show st.objs.take n = _; rw [R.eq, List.map_take], by rw [ED]; exact R.loc.take, fun o m => R.ok o (List.mem_of_mem_take m), R.dis.sublist (List.take_sublist n os), fun o m => R.wr o (List.mem_of_mem_take m), fun o m => R.dL o (List.mem_of_mem_take m), by rw [ED]; exact Nj R.pre hn⟩
theorem Ex.gc {c : Cx} {os os' : Os} {h h' : Heap} (e : Ex c os os' h h') : Ex c os (os'.take os.length) h h' :=
 ⟨e.kp, fun i p q a b => by
  rw [List.getElem?_take_of_lt (List.getElem?_eq_some_iff.mp a).1] at b
  exact e.kind i p q a b, D2 (by rw [List.length_take]; exact Nat.min_le_left ..), by
  rw [ED]
  have : (Av os).length = os.length := List.length_map ..
  rw [<- this, <- List.prefix_iff_eq_take.mp e.pre]; exact List.prefix_refl _⟩
def Af {α : Type} (o : Option α) (k : α -> Prop) : Prop := match o with
 | some a => k a
 | none => False
theorem AJ {α : Type} {o : Option α} {k : α -> Prop} {P : Prop} (h : Af o k) (f : ∀ x, o = some x -> k x -> P) : P := by
 cases o
 ·exact h.elim
 ·exact f _ rfl h
theorem EF {α : Type} {o : Option α} {k : α -> Prop} (h : Af o k) : ∃ x, o = some x /\ k x := AJ h fun x e q => ⟨x, e, q⟩
def cP {α : Type} (l : List α) (k : α -> List α -> Prop) : Prop := match l with
 | [] => False
 | a :: m => k a m
@[elab_as_elim] theorem Ey {α : Type} {C : List α -> Prop} {l : List α} {k : α -> List α -> Prop} (h : cP l k) (f : ∀ a m, k a m -> C (a :: m)) : C l := by
 cases l
 ·exact h.elim
 ·exact f _ _ h
theorem CU {α β : Type} {o : Option α} {f : α -> β} {b : β} {P : Prop} (h : o.map f = some b) (k : ∀ x, o = some x -> f x = b -> P) : P := by
 cases o
 ·exact AG h
 ·exact k _ rfl (Option.some.inj h)
theorem Dq {α β : Type} {o : Option α} {f : α -> β} {n b : β} {P : Prop} (h : o.elim n f = b) (g : o = none -> n = b -> P) (k : ∀ x, o = some x -> f x = b -> P) : P := by
 cases o
 ·exact g rfl h
 ·exact k _ rfl h
noncomputable def N1 : AV -> Option Int
 | .int y => some y
 | _ => none
@[elab_as_elim] theorem Ie {C : AV -> Prop} {v : AV} {x : Int} (h : N1 v = some x) (f : C (.int x)) : C v := by
 cases v
 case int y => rw [<- Option.some.inj (show some y = some x from h)] at f; exact f
 all_goals exact AG h
noncomputable def M7 : AV -> Option Bool
 | .bool y => some y
 | _ => none
@[elab_as_elim] theorem LP {C : AV -> Prop} {v : AV} {x : Bool} (h : M7 v = some x) (f : C (.bool x)) : C v := by
 cases v
 case bool y => rw [<- Option.some.inj (show some y = some x from h)] at f; exact f
 all_goals exact AG h
noncomputable def Ox : AV -> Option Str
 | .str y => some y
 | _ => none
@[elab_as_elim] theorem IC {C : AV -> Prop} {v : AV} {x : Str} (h : Ox v = some x) (f : C (.str x)) : C v := by
 cases v
 case str y => rw [<- Option.some.inj (show some y = some x from h)] at f; exact f
 all_goals exact AG h
noncomputable def VX : AV -> Option AN
 | .tok y => some y
 | _ => none
@[elab_as_elim] theorem Nv {C : AV -> Prop} {v : AV} {x : AN} (h : VX v = some x) (f : C (.tok x)) : C v := by
 cases v
 case tok y => rw [<- Option.some.inj (show some y = some x from h)] at f; exact f
 all_goals exact AG h
noncomputable def U8 : AV -> Option AP
 | .tup y => some y
 | _ => none
@[elab_as_elim] theorem OT {C : AV -> Prop} {v : AV} {x : AP} (h : U8 v = some x) (f : C (.tup x)) : C v := by
 cases v
 case tup y => rw [<- Option.some.inj (show some y = some x from h)] at f; exact f
 all_goals exact AG h
noncomputable def MZ : AV -> Option Nat
 | .ref y => some y
 | _ => none
@[elab_as_elim] theorem J5 {C : AV -> Prop} {v : AV} {x : Nat} (h : MZ v = some x) (f : C (.ref x)) : C v := by
 cases v
 case ref y => rw [<- Option.some.inj (show some y = some x from h)] at f; exact f
 all_goals exact AG h
noncomputable def YK : AV -> Option (List Int)
 | .tin y => some y
 | _ => none
@[elab_as_elim] theorem WQ {C : AV -> Prop} {v : AV} {x : List Int} (h : YK v = some x) (f : C (.tin x)) : C v := by
 cases v
 case tin y => rw [<- Option.some.inj (show some y = some x from h)] at f; exact f
 all_goals exact AG h
noncomputable def Th : AV -> Option (AV × AV)
 | .tup2 y z => some (y, z)
 | _ => none
@[elab_as_elim] theorem Hc {C : AV -> Prop} {v : AV} {x : AV × AV} (h : Th v = some x) (f : C (.tup2 x.1 x.2)) : C v := by
 cases v
 case tup2 y z => rw [<- Option.some.inj (show some (y, z) = some x from h)] at f; exact f
 all_goals exact AG h
noncomputable def G3 : AP -> Option AC
 | .toks y => some y
 | _ => none
@[elab_as_elim] theorem EI {C : AP -> Prop} {v : AP} {x : AC} (h : G3 v = some x) (f : C (.toks x)) : C v := by
 cases v
 case toks y => rw [<- Option.some.inj (show some y = some x from h)] at f; exact f
 all_goals exact AG h
noncomputable def Ms : AP -> Option (List AC)
 | .tts y => some y
 | _ => none
@[elab_as_elim] theorem Ga {C : AP -> Prop} {v : AP} {x : List AC} (h : Ms v = some x) (f : C (.tts x)) : C v := by
 cases v
 case tts y => rw [<- Option.some.inj (show some y = some x from h)] at f; exact f
 all_goals exact AG h
noncomputable def LK : AP -> Option (List Int)
 | .ints y => some y
 | _ => none
@[elab_as_elim] theorem IA {C : AP -> Prop} {v : AP} {x : List Int} (h : LK v = some x) (f : C (.ints x)) : C v := by
 cases v
 case «ints» y => rw [<- Option.some.inj (show some y = some x from h)] at f; exact f
 all_goals exact AG h
noncomputable def TY : AP -> Option (List Str)
 | .strs y => some y
 | _ => none
@[elab_as_elim] theorem Rw {C : AP -> Prop} {v : AP} {x : List Str} (h : TY v = some x) (f : C (.strs x)) : C v := by
 cases v
 case «strs» y => rw [<- Option.some.inj (show some y = some x from h)] at f; exact f
 all_goals exact AG h
noncomputable def Sl : AO -> Option AP
 | .lst y => some y
 | _ => none
@[elab_as_elim] theorem Kd {C : AO -> Prop} {v : AO} {x : AP} (h : Sl v = some x) (f : C (.lst x)) : C v := by
 cases v
 case lst y => rw [<- Option.some.inj (show some y = some x from h)] at f; exact f
 all_goals exact AG h
noncomputable def Rp : AO -> Option BU
 | .mac y => some y
 | _ => none
@[elab_as_elim] theorem J0 {C : AO -> Prop} {v : AO} {x : BU} (h : Rp v = some x) (f : C (.mac x)) : C v := by
 cases v
 case mac y => rw [<- Option.some.inj (show some y = some x from h)] at f; exact f
 all_goals exact AG h
noncomputable def XP : AO -> Option Nat
 | .src y => some y
 | _ => none
@[elab_as_elim] theorem VA {C : AO -> Prop} {v : AO} {x : Nat} (h : XP v = some x) (f : C (.src x)) : C v := by
 cases v
 case src y => rw [<- Option.some.inj (show some y = some x from h)] at f; exact f
 all_goals exact AG h
noncomputable def Ly : AO -> Option (AC × AC)
 | .feed y z => some (y, z)
 | _ => none
@[elab_as_elim] theorem IU {C : AO -> Prop} {v : AO} {x : AC × AC} (h : Ly v = some x) (f : C (.feed x.1 x.2)) : C v := by
 cases v
 case feed y z => rw [<- Option.some.inj (show some (y, z) = some x from h)] at f; exact f
 all_goals exact AG h
def Ep (c : Cx) {α β : Type} (rel : Heap -> List AA -> β -> α -> Prop) (Q : β -> St -> Prop) (os : Os) (h : Heap) : α -> Shared -> Prop := fun v s' => ∃ b st' os' h' t' l', s' = mk c.s h' t' /\ Ex c os os' h h' /\ BD c st' os' h' l' /\ rel h' (Av os') b v /\ Q b st'
def Jd (c : Cx) {α β : Type} (rel : Heap -> List AA -> β -> α -> Prop) (x : Sem α) (st : St) (Q : β -> St -> Prop) : Prop :=
 c.Ok -> ∀ os h t l, BD c st os h l -> wpAny (model c.prog c.w) c.A x (Ep c rel Q os h) c.E (mk c.s h t)
def J2 (c : Cx) {α β : Type} (rel : Heap -> List AA -> β -> α -> Prop) (f : Value -> Value -> Sem α) (u v : AV) (st : St) (Q : β -> St -> Prop) : Prop :=
 c.Ok -> ∀ os h t l x y, BD c st os h l -> CV h (Av os) u x -> CV h (Av os) v y -> wpAny (model c.prog c.w) c.A (f x y) (Ep c rel Q os h) c.E (mk c.s h t)
def DC (h : Heap) (as : List AA) : List AV -> List Value -> Prop
 | [], [] => True
 | a :: l, v :: m => CV h as a v /\ DC h as l m
 | _, _ => False
def JL (c : Cx) {α β : Type} (rel : Heap -> List AA -> β -> α -> Prop) (f : List Value -> Sem α) (us : List AV) (st : St) (Q : β -> St -> Prop) : Prop :=
 c.Ok -> ∀ os h t l xs, BD c st os h l -> DC h (Av os) us xs -> wpAny (model c.prog c.w) c.A (f xs) (Ep c rel Q os h) c.E (mk c.s h t)
inductive Fl | next | ret (v : AV)
def QF (h : Heap) (as : List AA) : Fl -> Flow -> Prop
 | .next, f => f = .next
 | .ret a, f => ∃ v, f = .ret v /\ CV h as a v
def bh (_ : Heap) (_ : List AA) (a b : Bool) : Prop := a = b
def AE (c : Cx) (e : Expr) (st : St) (Q : AV -> St -> Prop) : Prop := Jd c CV (eval e c.env) st Q
def AT (c : Cx) (e : Expr) (st : St) (Q : Bool -> St -> Prop) : Prop := Jd c bh (isTrue e c.env (eval e c.env)) st Q
def AS (c : Cx) (b : List Stmt) (st : St) (Q : Fl -> St -> Prop) : Prop := Jd c QF (execs b c.env) st Q
def AL (c : Cx) (pos : Pos) (es : List Expr) (st : St) (Q : List AV -> St -> Prop) : Prop := Jd c DC (spliced (backTo pos (starEach es c.env))) st Q
section
variable {h : Heap} {as : List AA} {a b d e : AV} {xs : List Value} {G : List Value -> Prop}
@[elab_as_elim] theorem Ck (c : DC h as [] xs) (k : G []) : G xs := by cases xs with
 | nil => exact k
 | cons v vs => exact c.elim
@[elab_as_elim] theorem Bs {us : List AV} (c : DC h as (a :: us) xs) (k : ∀ v vs, CV h as a v -> DC h as us vs -> G (v :: vs)) : G xs := by cases xs with
 | nil => exact c.elim
 | cons v vs => exact k v vs c.1 c.2
@[elab_as_elim] theorem B8 (c : DC h as [a] xs) (k : ∀ v, CV h as a v -> G [v]) : G xs := Bs c fun v vs x c => Ck c (k v x)
@[elab_as_elim] theorem Cu (c : DC h as [a, b] xs) (k : ∀ v u, CV h as a v -> CV h as b u -> G [v, u]) : G xs := Bs c fun v vs x c => B8 c fun u y => k v u x y
@[elab_as_elim] theorem Kb (c : DC h as [a, b, d] xs) (k : ∀ v u w, CV h as a v -> CV h as b u -> CV h as d w -> G [v, u, w]) : G xs := Bs c fun v vs x c => Cu c fun u w y z => k v u w x y z
theorem Zx (c : DC h as [a] xs) : ∃ v, xs = [v] /\ CV h as a v := B8 c fun v x => ⟨v, rfl, x⟩
theorem aV (c : DC h as [a, b, d] xs) : ∃ v u w, xs = [v, u, w] /\ CV h as a v /\ CV h as b u /\ CV h as d w := Kb c fun v u w x y z => ⟨v, u, w, rfl, x, y, z⟩
end
section
variable {h : Heap} {as : List AA} {v : Value} {G : Value -> Prop}
@[elab_as_elim] theorem Cm {i : Int} (x : CV h as (.int i) v) (k : ∀ t, G (.int i t)) : G v := by revert x; exact Ap fun t e => e ▸ k t
@[elab_as_elim] theorem DQ {P : AP} (x : CV h as (.tup P) v) (k : ∀ d vs, Tu h d vs -> P.rel h vs -> vs.length <= 1000000 -> G (.ref d)) : G v := by
 revert x; refine Ak fun z => CY fun d vs e T r => ?_
 rw [e]; exact k d vs T r (by rw [AP.rel.len r]; exact z)
@[elab_as_elim] theorem Kk {a b : AV} (x : CV h as (.tup2 a b) v) (k : ∀ d x y, Tu h d [x, y] -> CV h as a x -> CV h as b y -> G (.ref d)) : G v := by
 revert x; refine DK fun d x y e T z => ?_
 rw [e]; exact k d x y T z.1 z.2
end
theorem DC.len {h : Heap} {as : List AA} : ∀ {l : List AV} {m : List Value}, DC h as l m -> m.length = l.length := by
 intro l
 induction l with
 | nil => exact fun c => Ck c rfl
 | cons a l ih => exact fun c => Bs c fun v vs _ c => congrArg (· + 1) (ih c)
theorem DC.ext {c : Cx} {os os' : Os} {h h' : Heap} (k : Ex c os os' h h') : ∀ {l : List AV} {m : List Value}, DC h (Av os) l m -> DC h' (Av os') l m := by
 intro l
 induction l with
 | nil => exact fun c => Ck c trivial
 | cons a l ih => exact fun c => Bs c fun v vs x c => ⟨x.ext k, ih c⟩
section
variable {c : Cx} {α β γ δ : Type} {rel : Heap -> List AA -> β -> α -> Prop} {rel2 : Heap -> List AA -> δ -> γ -> Prop} {st : St} {Q : β -> St -> Prop}
theorem Ep.back {os os' : Os} {h h' : Heap} {v : α} {s : Shared} (e : Ex c os os' h h') (p : Ep c rel Q os' h' v s) : Ep c rel Q os h v s := by
 revert p; refine EK fun b st' os'' h'' t' z0 => ?_; revert z0; refine HS fun l' r e' R x q => ?_
 exact Qs b st' os'' h'' t' ⟨l', r, e.trans e', R, x, q⟩
theorem Jd.on {x : Sem α} {P : α -> Shared -> Prop} {os : Os} {h : Heap} {t : Nat} {l : A9} (j : Jd c rel x st Q) (ok : c.Ok) (R : BD c st os h l)
  (k : ∀ b st' os' h' t' l' v, Ex c os os' h h' -> BD c st' os' h' l' -> rel h' (Av os') b v -> Q b st' -> P v (mk c.s h' t')) : wpAny (model c.prog c.w) c.A x P c.E (mk c.s h t) :=
 wpAny_mono (j ok os h t l R) (fun v s p => by
  revert p; refine EK fun b st' os' h' t' z0 => ?_; revert z0; refine HS fun l' z1 e R' x q => ?_; obtain rfl := z1
  exact k b st' os' h' t' l' v e R' x q) fun _ _ x => x
theorem Ep.mk' {h h' : Heap} {t' : Nat} {l' : A9} {b : β} {st' : St} {v : α} {os os' : Os} (e : Ex c os os' h h') (R : BD c st' os' h' l') (x : rel h' (Av os') b v) (q : Q b st') : Ep c rel Q os h v (mk c.s h' t') := ⟨b, st', os', h', t', l', rfl, e, R, x, q⟩
theorem Ep.at {os : Os} {h : Heap} {t : Nat} {l : A9} {b : β} {v : α} (R : BD c st os h l) (q : Q b st) (x : rel h (Av os) b v) : Ep c rel Q os h v (mk c.s h t) := ⟨b, st, os, h, t, l, rfl, .refl h, R, x, q⟩
theorem Ep.un {h h' : Heap} {t' : Nat} {l' : A9} {b : β} {st' : St} {v : α} {os os' : Os} (e : Ex c os os' h h') (R : BD c st' os' h' l') (q : Q b st') (x : rel h' (Av os') b v) : Ep c rel Q os h v (mk c.s h' t') := .mk' e R x q
theorem Jd.mono {x : Sem α} {Q' : β -> St -> Prop} (j : Jd c rel x st Q) (k : ∀ b st', Q b st' -> Q' b st') : Jd c rel x st Q' := fun ok os h t l R => j.on ok R fun b st' os' h' t' l' v e R' x q => .mk' e R' x (k b st' q)
theorem J2.to {os os0 : Os} {f : Value -> Value -> Sem α} {u v : AV} {h h' : Heap} {t : Nat} {l : A9} {x y : Value} (j : J2 c rel f u v st Q) (ok : c.Ok) (R : BD c st os h l) (a : CV h (Av os) u x) (b : CV h (Av os) v y) (e : Ex c os0 os h' h) : wpAny (model c.prog c.w) c.A (f x y) (Ep c rel Q os0 h') c.E (mk c.s h t) :=
 wpAny_mono (j ok os h t l x y R a b) (fun _ _ p => p.back e) fun _ _ x => x
theorem JL.to {os os0 : Os} {f : List Value -> Sem α} {us : List AV} {h h' : Heap} {t : Nat} {l : A9} {xs : List Value} (j : JL c rel f us st Q) (ok : c.Ok) (R : BD c st os h l) (a : DC h (Av os) us xs) (e : Ex c os0 os h' h) : wpAny (model c.prog c.w) c.A (f xs) (Ep c rel Q os0 h') c.E (mk c.s h t) :=
 wpAny_mono (j ok os h t l xs R a) (fun _ _ p => p.back e) fun _ _ x => x
theorem Jd.to {os os0 : Os} {x : Sem α} {h h' : Heap} {t : Nat} {l : A9} (j : Jd c rel x st Q) (ok : c.Ok) (R : BD c st os h l) (e : Ex c os0 os h' h) : wpAny (model c.prog c.w) c.A x (Ep c rel Q os0 h') c.E (mk c.s h t) :=
 wpAny_mono (j ok os h t l R) (fun _ _ p => p.back e) fun _ _ x => x
end
section
variable {c : Cx} {st : St}
theorem Fo {P : AP} {os : Os} {h h' : Heap} {t' : Nat} {l : A9} {d : Addr} {vs : List Value} {Q : AV -> St -> Prop} (R : BD c st os h l) (F : Fx c.B c.h₀ c.S₀ c.outer c.sc c.L h' l) (K : Kp c.B [] [] h h') (hn : h.get? d = none) (hv : Li h' d vs) (x : P.rel h vs) (hz : P.len <= 1000000)
  (q : Q (.ref st.objs.length) ⟨st.loc, st.objs ++ [.lst P]⟩) : Ep c CV Q os h (.ref d) (mk c.s h' t') := by
 have e : st.objs.length = os.length := by rw [R.eq, List.length_map]
 exact .un (Ex.push (p := (⟨d, d, d⟩, .lst P)) K (Ac hn)) (R.push F K ⟨hz, vs, hv, x.kw K.toKw⟩ (Ac hn)) q ⟨⟨d, d, d⟩, by rw [e]; unfold Av; simp, rfl⟩
theorem BD.lst {os : Os} {h : Heap} {l : A9} {i : Nat} {P : AP} {v : Value} (R : BD c st os h l) (e : st.objs[i]? = some (.lst P)) (y : CV h (Av os) (.ref i) v) : ∃ x vs, os[i]? = some (x, .lst P) /\ v = .ref x.a /\ Li h x.a vs /\ P.rel h vs /\ P.len <= 1000000 /\ vs.length = P.len := by
 refine Ap (fun x ex => ?_) <| R.at e
 refine Ak (fun hz z0 => ?_) <| R.ok _ (List.mem_of_getElem? ex); revert z0; refine Ah fun vs a b => ?_
 exact V6 x vs ex (y.at ex) a ⟨b, hz, b.len⟩
@[elab_as_elim] theorem BD.lst_c {G : Value -> Prop} {os : Os} {h : Heap} {l : A9} {i : Nat} {P : AP} {v : Value} (R : BD c st os h l) (e : st.objs[i]? = some (.lst P)) (y : CV h (Av os) (.ref i) v) (k : ∀ x vs, os[i]? = some (x, .lst P) -> Li h x.a vs -> P.rel h vs -> vs.length <= 1000000 -> G (.ref x.a)) : G v := by
 refine Eo (fun x vs ex z0 T z1 => ?_) <| R.lst e y
 rw [z0]; exact k x vs ex T z1.1 (by rw [z1.2.2]; exact z1.2.1)
theorem VS {P P' : AP} {os : Os} {h h' : Heap} {t' : Nat} {l : A9} {i : Nat} {x : AA} {vs : List Value} {v : Value} {a : AV} {Q : AV -> St -> Prop} (R : BD c st os h l) (ex : os[i]? = some (x, .lst P)) (F : Fx c.B c.h₀ c.S₀ c.outer c.sc c.L h' l) (K : Kp c.B [x.a] [] h h') (hv : Li h' x.a vs) (y : P'.rel h vs) (hz : P'.len <= 1000000)
  (q : Q a ⟨st.loc, st.objs.set i (.lst P')⟩) (cv : CV h' (Av os) a v) : Ep c CV Q os h v (mk c.s h' t') :=
 .un (Ex.set (o' := .lst P') K ex (fun _ m => m) rfl rfl) (R.set F K ex (fun _ m => m) rfl (fun _ m => m) ⟨hz, vs, hv, y.kw K.toKw⟩) q (by rw [FH ex]; exact cv)
end
noncomputable def AP.app (P R : AP) : Option AP := match P with
 | .toks a => (G3 R).map fun b => .toks (a ++ b)
 | .tts a => (Ms R).map fun b => .tts (a ++ b)
 | .ints a => (LK R).map fun b => .ints (a ++ b)
 | .strs a => (TY R).map fun b => .strs (a ++ b)
theorem LS {h : Heap} : ∀ {vs us : List Value} {rs qs : List AC}, Cf h vs rs -> Cf h us qs -> Cf h (vs ++ us) (rs ++ qs)
 | [], _, [], _, _, y => y
 | v :: vs, _, r :: rs, _, ⟨x, z⟩, y => ⟨x, LS z y⟩
theorem AP.app_ok {h : Heap} {P R T : AP} {vs us : List Value} (x : P.rel h vs) (y : R.rel h us) (e : P.app R = some T) : T.rel h (vs ++ us) := by
 cases P
 ·refine CU e fun b e1 z => ?_; subst z; revert y; refine EI e1 fun y => ?_
  exact Gv x y
 ·refine CU e fun b e1 z => ?_; subst z; revert y; refine Ga e1 fun y => ?_
  exact ⟨LS x.1 y.1, fun r m => (List.mem_append.mp m).elim (x.2 r) (y.2 r)⟩
 ·refine CU e fun b e1 z => ?_; subst z; revert y; refine IA e1 fun y => ?_
  show ReadsAll h _ (List.map PyData.int (_ ++ _)) []; rw [List.map_append]; exact BE x y
 ·refine CU e fun b e1 z => ?_; subst z; revert y; refine Rw e1 fun y => ?_
  show ReadsAll h _ (List.map PyData.str (_ ++ _)) []; rw [List.map_append]; exact BE x y
theorem AP.rel.add {h : Heap} {T : AP} {vs us : List Value} (r : T.rel h (vs ++ us)) (z : T.len <= 1000000) : vs.length + us.length <= 1000000 := by rw [<- List.length_append, AP.rel.len r]; exact z
noncomputable def AP.one : AV -> Option AP
 | .tok p => some (.toks [p])
 | .tup P => (G3 P).map fun r => .tts [r]
 | .int i => some (.ints [i])
 | .str s => some (.strs [s])
 | _ => none
theorem AP.one_ok {h : Heap} {as : List AA} {a : AV} {v : Value} {P : AP} (x : CV h as a v) (e : AP.one a = some P) : P.rel h [v] := by
 cases a
 case tok => exact Option.some.inj e ▸ Iw x
 case tup P => exact CU e fun r e1 z => z ▸ EI (C := fun P => CV h as (.tup P) v -> _) e1 (fun x => Ak (fun z => CY fun d vs z1 T y => ⟨⟨⟨d, z1, vs, T, y⟩, trivial⟩, fun r m => by rw [List.mem_singleton.mp m]; exact z⟩) x) x
 case int => exact Option.some.inj e ▸ Cm x fun t => Ad (.int _ _) .nil
 case str => cases e; revert x; refine Ap fun t z => ?_; rw [z]; exact Ad (.str _ _) .nil
 all_goals exact AG e
noncomputable def AP.isNil : AP -> Bool
 | .toks l => l.isEmpty
 | .tts l => l.isEmpty
 | .ints l => l.isEmpty
 | .strs l => l.isEmpty
theorem AP.nil_ok {h : Heap} {P : AP} (e : P.isNil = true) : P.rel h [] /\ P.len = 0 := by
 cases P <;> obtain rfl := List.isEmpty_iff.mp e
 ·exact ⟨.nil, rfl⟩
 ·exact ⟨⟨trivial, fun _ m => nomatch m⟩, rfl⟩
 ·exact ⟨.nil, rfl⟩
 ·exact ⟨.nil, rfl⟩
noncomputable def AP.ofs1 (a : AV) (l : List AV) : Option AP := List.rec (fun a => AP.one a) (fun b _ ih a => (AP.one a).bind fun P => (ih b).bind fun R => P.app R) l a
noncomputable def AP.ofs (l : List AV) : Option AP := match l with
 | [] => none
 | a :: l => AP.ofs1 a l
theorem AP.ofs1_ok {h : Heap} {as : List AA} {l : List AV} : ∀ {a : AV} {v : Value} {vs : List Value} {P : AP}, CV h as a v -> DC h as l vs -> AP.ofs1 a l = some P -> P.rel h (v :: vs) := by
 induction l with
 | nil => exact fun x y e => Ck y (AP.one_ok x e)
 | cons b l ih => exact fun x y => Bs y fun w ws c y e => A2 e fun P1 e1 e => A2 e fun P2 e2 e => AP.app_ok (AP.one_ok x e1) (ih c y e2) e
theorem AP.ofs_ok {h : Heap} {as : List AA} {us : List AV} {vs : List Value} {P : AP} (x : DC h as us vs) (e : AP.ofs us = some P) : P.rel h vs /\ P.len = us.length := by
 have r : P.rel h vs := by
  cases us with
  | nil => exact AG e
  | cons a l => revert e; exact Bs x fun w ws c y => AP.ofs1_ok c y
 exact ⟨r, (AP.rel.len r).symm.trans x.len⟩
noncomputable def AP.sl (lo hi : Option Int) : AP -> AP
 | .toks l => .toks (AY lo hi l)
 | .tts l => .tts (AY lo hi l)
 | .ints l => .ints (AY lo hi l)
 | .strs l => .strs (AY lo hi l)
theorem JN {α β : Type} (f : α -> β) (lo hi : Option Int) (l : List α) : AY lo hi (l.map f) = (AY lo hi l).map f := by
 unfold AY; simp only [List.length_map, List.map_take, List.map_drop]
theorem Cf.take {h : Heap} : ∀ {vs : List Value} {rs : List AC} (n : Nat), Cf h vs rs -> Cf h (vs.take n) (rs.take n)
 | vs, rs, 0, x => trivial
 | [], [], n + 1, x => x
 | v :: vs, r :: rs, n + 1, x => ⟨x.1, Cf.take (vs := vs) (rs := rs) n x.2⟩
theorem AP.sl_ok {h : Heap} (lo hi : Option Int) : ∀ {P : AP} {vs : List Value}, P.rel h vs -> (P.sl lo hi).rel h (AY lo hi vs) /\ (P.sl lo hi).len <= P.len
 | .toks _, _, x => ⟨SX lo hi x, CN ..⟩
 | .tts l, vs, ⟨x, y⟩ => ⟨⟨by
   have e := x.len
   unfold AY; rw [e]; exact Cf.take _ (x.drop _), fun r m => y r (E4 m)⟩, CN ..⟩
 | .ints _, _, x => ⟨show ReadsAll h _ (List.map PyData.int (AY lo hi _)) [] by rw [<- JN]; exact DF lo hi x, CN ..⟩
 | .strs _, _, x => ⟨show ReadsAll h _ (List.map PyData.str (AY lo hi _)) [] by rw [<- JN]; exact DF lo hi x, CN ..⟩
def AP.item (j : Nat) (k : AV -> Prop) : AP -> Prop
 | .toks l => ∀ p, l[j]? = some p -> k (.tok p)
 | .tts l => ∀ r, l[j]? = some r -> k (.tup (.toks r))
 | .ints l => ∀ i, l[j]? = some i -> k (.int i)
 | .strs l => ∀ s, l[j]? = some s -> k (.str s)
theorem AP.item_ok {h : Heap} {as : List AA} {j : Nat} {k : AV -> Prop} : ∀ {P : AP} {vs : List Value}, P.rel h vs -> j < P.len -> P.item j k -> ∃ a v, vs[j]? = some v /\ CV h as a v /\ k a
 | .toks l, vs, x, hj, q => by
  refine Ah (fun v e y => ?_) <| J8 x (List.getElem?_eq_getElem hj)
  exact QC (.tok l[j]) v e y (q _ (List.getElem?_eq_getElem hj))
 | .tts l, vs, ⟨x, z⟩, hj, q => by
  have e := List.getElem?_eq_getElem hj
  refine Ah (fun d e' z0 => ?_) <| x.get e; revert z0; refine Ah fun us y1 y2 => ?_
  exact QC (.tup (.toks l[j])) _ e' ⟨z _ (List.mem_of_getElem? e), d, us, rfl, y1, y2⟩ (q _ e)
 | .ints l, vs, x, hj, q => by
  have e := List.getElem?_eq_getElem hj
  refine Ah (fun v e' y => ?_) <| Bi (d := .int l[j]) x (by rw [List.getElem?_map, e]; rfl)
  cases y
  exact QC (.int l[j]) _ e' ⟨_, rfl⟩ (q _ e)
 | .strs l, vs, x, hj, q => by
  have e := List.getElem?_eq_getElem hj
  refine Ah (fun v e' y => ?_) <| Bi (d := .str l[j]) x (by rw [List.getElem?_map, e]; rfl)
  cases y
  exact QC (.str l[j]) _ e' ⟨_, rfl⟩ (q _ e)
abbrev cl (f : Value) (xs : List Value) : Sem Value := call f xs
abbrev CT := List AV -> List AO -> (Aa -> Prop) -> (AV -> List AO -> Prop) -> Prop
structure Bx (B : Heap) (ad : Str -> Addr) (h : Heap) (os : Os) (h' : Heap) (os' : Os) : Prop where
 ok : ∀ p ∈ os', Hg B ad h' p
 dis : os'.Pairwise Jv
 pre : Av os <+: Av os'
 kind : ∀ (i : Nat) (p q : PO), os[i]? = some p -> os'[i]? = some q -> DL q = DL p /\ GE q = GE p
 new : ∀ (i : Nat) (p : PO), os.length <= i -> os'[i]? = some p -> ∀ x ∈ DL p, h.get? x = none
def Yy (prog : Program) (w : World) (B : Heap) (ad : Str -> Addr) (n : Nat) (fv : Value) (os : Os) (h : Heap) (xs : List Value) (EX : Aa -> Prop) (K : AV -> List AO -> Prop) : Prop := ∃ m S R Cs, m <= n /\ Ct prog w B m fv xs S h R Cs /\ (∀ b ∈ S, b ∈ DT os) /\ (∀ v, Cs v -> Jm ad EX v) /\ ∀ v h', Kp B S [] h h' -> R v h' -> ∃ a os', Bx B ad h os h' os' /\ CV h' (Av os') a v /\ K a (os'.map (·.2))
def Sp (prog : Program) (w : World) (B : Heap) (ad : Str -> Addr) (n : Nat) (fv : Value) (T : CT) : Prop := ∀ us os h xs EX K, B.StaysIn h -> (∀ p ∈ os, Hg B ad h p) -> os.Pairwise Jv -> (∀ p ∈ os, ∀ x ∈ GE p, B.get? x = none) -> DC h (Av os) us xs -> T us (os.map (·.2)) EX K -> Yy prog w B ad n fv os h xs EX K
structure bl (B : Heap) (ad : Str -> Addr) (h : Heap) (os : Os) (us : List AV) (xs : List Value) : Prop where
 hB : B.StaysIn h
 ok : ∀ p ∈ os, Hg B ad h p
 dis : os.Pairwise Jv
 nb : ∀ p ∈ os, ∀ x ∈ GE p, B.get? x = none
 cvs : DC h (Av os) us xs
theorem Sp.of {prog : Program} {w : World} {B : Heap} {ad : Str -> Addr} {n : Nat} {fv : Value} {T : CT} (k : ∀ us os h xs EX K, T us (os.map (·.2)) EX K -> bl B ad h os us xs -> Yy prog w B ad n fv os h xs EX K) : Sp prog w B ad n fv T := fun us os h xs EX K a b c d e t => k us os h xs EX K t ⟨a, b, c, d, e⟩
theorem Yy.of {prog : Program} {w : World} {B : Heap} {ad : Str -> Addr} {n : Nat} {fv : Value} {os : Os} {h : Heap} {xs : List Value} {EX : Aa -> Prop} {K : AV -> List AO -> Prop} {S : List Addr} {R : Value -> Heap -> Prop} (ct : Ct prog w B n fv xs S h R BW) (hS : ∀ b ∈ S, b ∈ DT os) (k : ∀ v h', Kp B S [] h h' -> R v h' -> ∃ a os', Bx B ad h os h' os' /\ CV h' (Av os') a v /\ K a (os'.map (·.2))) : Yy prog w B ad n fv os h xs EX K :=
 ⟨n, S, R, BW, Nat.le_refl _, ct, hS, fun _ q => q.elim, k⟩
noncomputable def FZ (us : List AV) : List Nat := us.rec [] fun a _ r => (MZ a).elim r (· :: r)
noncomputable def TL (k : Nat) (us : List AV) : Option (List AV) := us.rec (fun _ => some []) (fun a _ ih k => (MZ a).elim (bif a.lt 0 then (ih k).map (a :: ·) else none) fun _ => (ih (k + 1)).map (.ref k :: ·)) k
noncomputable def GK {α : Type} (l : List α) (is : List Nat) : Option (List α) := is.rec (some []) fun i _ r => (l[i]?).bind fun o => r.map (o :: ·)
noncomputable def pos {α : Type} (is : List Nat) (ys : List α) (k : Nat) : Option α := is.rec (fun _ => none) (fun i _ ih ys => ys.casesOn none fun y ys => bif i == k then some y else ih ys) ys
noncomputable def DW {α : Type} (is : List Nat) (ys : List α) (k : Nat) (l : List α) : List α := l.rec (fun _ => []) (fun p _ ih k => (pos is ys k).getD p :: ih (k + 1)) k
noncomputable def XE (is : List Nat) (n : Nat) (a : AV) : AV := a.map fun j => (is[j]?).getD (n + (j - is.length))
noncomputable def OJ (is : List Nat) : Bool := is.rec true fun i l r => !(l.any (i == ·)) && r
def Hl (T : CT) (us : List AV) (st : St) (EX : Aa -> Prop) (Q : AV -> St -> Prop) : Prop := Af (GK st.objs (FZ us)) fun os => Af (TL 0 us) fun vs => bif OJ (FZ us) then T vs os EX (fun a os' => Q (XE (FZ us) st.objs.length a) ⟨st.loc, DW (FZ us) os' 0 st.objs ++ os'.drop (FZ us).length⟩) else False
theorem LL {α : Type} (is : List Nat) (ys l : List α) : ∀ (k i : Nat), (DW is ys k l)[i]? = l[i]?.map fun p => (pos is ys (k + i)).getD p := by
 induction l with
 | nil => exact fun _ _ => rfl
 | cons p l ih =>
  intro k i
  cases i with
  | zero => rfl
  | succ i =>
   show (DW is ys (k + 1) l)[i]? = l[i]?.map _
   rw [ih, Nat.add_right_comm, Nat.add_assoc]
theorem R8 {α β : Type} (f : α -> β) (k : Nat) (is : List Nat) : ∀ ys : List α, pos is (ys.map f) k = (pos is ys k).map f := by
 induction is with
 | nil => exact fun _ => rfl
 | cons i is ih => intro ys; cases ys with
  | nil => rfl
  | cons y ys =>
   show (bif i == k then some (f y) else pos is (ys.map f) k) = Option.map f (bif i == k then some y else pos is ys k)
   rw [ih]; cases i == k <;> rfl
theorem Ll {α β : Type} (f : α -> β) (is : List Nat) (ys l : List α) : ∀ k : Nat, (DW is ys k l).map f = DW is (ys.map f) k (l.map f) := by
 induction l with
 | nil => exact fun _ => rfl
 | cons p l ih =>
  intro k
  show f ((pos is ys k).getD p) :: (DW is ys (k + 1) l).map f = (pos is (ys.map f) k).getD (f p) :: DW is (ys.map f) (k + 1) (l.map f)
  rw [ih, R8]
  cases pos is ys k <;> rfl
theorem RM {α : Type} (is : List Nat) (ys l : List α) : ∀ k : Nat, (DW is ys k l).length = l.length := by
 induction l with
 | nil => exact fun _ => rfl
 | cons p l ih => exact fun k => congrArg (· + 1) (ih (k + 1))
theorem JT {α : Type} {is : List Nat} {k : Nat} {q : α} : ∀ {ys : List α}, pos is ys k = some q -> ∃ j : Nat, is[j]? = some k /\ ys[j]? = some q := by
 induction is with
 | nil => exact fun e => AG e
 | cons i is ih =>
  intro ys e
  cases ys with
  | nil => exact AG e
  | cons y ys =>
   replace e : (bif i == k then some y else pos is ys k) = some q := e
   cases hb : i == k with
   | true => rw [hb] at e; exact Dx 0 (congrArg some (eq_of_beq hb)) e
   | false => rw [hb] at e; exact Ah (fun j a b => Dx (j + 1) a b) (ih e)
theorem Ja {is : List Nat} : OJ is = true -> is.Nodup := by
 induction is with
 | nil => exact fun _ => List.nodup_nil
 | cons i l ih =>
  intro e
  refine Ak (fun a b => List.nodup_cons.mpr ⟨fun m => ?_, ih b⟩) <| Bool.and_eq_true_iff.mp e
  rw [List.any_eq_true.mpr ⟨i, m, beq_self_eq_true i⟩] at a; cases a
theorem VE {α : Type} {is : List Nat} {k : Nat} {q : α} : ∀ {ys : List α} {j : Nat}, is.Nodup -> is[j]? = some k -> ys[j]? = some q -> pos is ys k = some q := by
 induction is with
 | nil => exact fun _ e => AG e
 | cons i is ih =>
  intro ys j nd e e'
  cases ys with
  | nil => exact AG e'
  | cons y ys =>
   show (bif i == k then some y else pos is ys k) = _
   cases j with
   | zero => rw [Option.some.inj (show some i = some k from e), beq_self_eq_true]; exact e'
   | succ j =>
    have hm : k ∈ is := List.mem_of_getElem? (l := is) e
    rw [show (i == k) = false from beq_eq_false_iff_ne.mpr fun q => (List.nodup_cons.mp nd).1 (q ▸ hm)]
    exact ih (List.nodup_cons.mp nd).2 e e'
theorem CF {α : Type} {l : List α} {is : List Nat} {i : Nat} : ∀ {r : List α} {j : Nat}, GK l is = some r -> is[j]? = some i -> ∃ o, l[i]? = some o /\ r[j]? = some o := by
 induction is with
 | nil => exact fun _ e => AG e
 | cons k is ih =>
  intro r j h e
  refine A2 h fun o e1 h => CU h fun r' e2 z => ?_
  rw [<- z]
  cases j with
  | zero => exact Dx o (Option.some.inj (show some k = some i from e) ▸ e1) rfl
  | succ j => exact ih (r := r') (j := j) e2 e
theorem FE {α : Type} {l : List α} {is : List Nat} : ∀ {r : List α}, GK l is = some r -> r.length = is.length := by
 induction is with
 | nil => exact fun h => Option.some.inj h ▸ rfl
 | cons k is ih => exact fun h => A2 h fun o e1 h => CU h fun r' e2 z => z ▸ congrArg (· + 1) (ih e2)
theorem JX {α β : Type} (f : α -> β) {l : List α} {is : List Nat} : ∀ {r : List β}, GK (l.map f) is = some r -> ∃ r', GK l is = some r' /\ r = r'.map f := by
 induction is with
 | nil => exact fun h => ⟨[], rfl, (Option.some.inj h).symm⟩
 | cons k is ih =>
   intro r h
   refine A2 h fun o e1 h => CU h fun r' e2 z => ?_
   rw [List.getElem?_map] at e1
   refine CU e1 fun o' e0 z0 => Ah (fun r'' e3 z1 => ?_) (ih e2)
   refine Dx (o' :: r'') ?_ ?_
   ·show (l[k]?).bind _ = _
    rw [e0]
    show (GK l is).map _ = _
    rw [e3]; rfl
   ·rw [<- z, z1, <- z0]; rfl
theorem DJ {l : Os} : l.Pairwise Jv ↔ ∀ (i j : Nat) (p q : PO), l[i]? = some p -> l[j]? = some q -> i ≠ j -> Jv p q := by
 rw [List.pairwise_iff_getElem]
 constructor
 ·intro k i j p q e1 e2 hn
  refine Ap (fun a z0 => ?_) <| List.getElem?_eq_some_iff.mp e1; obtain rfl := z0
  refine Ap (fun b z0 => ?_) <| List.getElem?_eq_some_iff.mp e2; obtain rfl := z0
  rcases Nat.lt_or_gt_of_ne hn with h | h
  ·exact k i j a b h
  ·exact (k j i b a h).symm
 ·intro k i j a b h
  exact k i j _ _ (List.getElem?_eq_getElem a) (List.getElem?_eq_getElem b) (Nat.ne_of_lt h)
theorem CV.free {h : Heap} {as as' : List AA} {a : AV} {v : Value} (e : a.lt 0 = true) (x : CV h as a v) : CV h as' a v := (x.take e).kw (Kw.refl [] [] h) List.nil_prefix
theorem B0 {α : Type} {b : Bool} {o : Option α} {r : α} (e : (bif b then o else none) = some r) : b = true /\ o = some r := by
 cases b
 ·cases e
 ·exact ⟨rfl, e⟩
theorem OQ {h : Heap} {as as' : List AA} {us : List AV} : ∀ {vs : List AV} {xs : List Value} {k : Nat}, TL k us = some vs -> (∀ j i : Nat, (FZ us)[j]? = some i -> as'[k + j]? = as[i]?) -> DC h as us xs -> DC h as' vs xs := by
 induction us with
 | nil => exact fun e _ c => Option.some.inj e ▸ Ck c trivial
 | cons a us ih =>
  intro vs xs k e hk c
  refine Bs c fun x xs y z => Dq e (fun hr e => Gq e fun hb e => CU e fun ws e q => ?_) fun i hr e => CU e fun ws e q => ?_
  ·have : FZ (a :: us) = FZ us := by show (MZ a).elim _ _ = _; rw [hr]; rfl
   rw [this] at hk; exact q ▸ ⟨y.free hb, ih e hk z⟩
  ·revert hk y; refine J5 hr ?_
   intro hk y
   refine q ▸ ⟨Ah (fun u q r => Dx u ((hk 0 i rfl).trans q) r) y, ih e (fun j i' q => by rw [<- hk (j + 1) i' q, Nat.add_right_comm]; rfl) z⟩
theorem B4 {b : Bool} {p P : Prop} (h : bif b then p else False) (f : b = true -> p -> P) : P := by
 cases b
 ·exact h.elim
 ·exact f rfl h
theorem Fc {α β : Type} {c d : Prop} [Decidable c] [Decidable d] {a b : α} {a' b' : β} {R : α -> β -> Prop} (i : c ↔ d) (f : c -> R a a') (g : ¬ c -> R b b') : R (if c then a else b) (if d then a' else b') := by
 by_cases k : c
 ·rw [if_pos k, if_pos (i.mp k)]; exact f k
 ·rw [if_neg k, if_neg fun q => k (i.mpr q)]; exact g k
theorem Tr {b : Bool} {p P : Prop} (h : Bool.rec False p b) (f : b = true -> p -> P) : P := by
 cases b
 ·exact h.elim
 ·exact f rfl h
theorem GA {b : Bool} {p P : Prop} (h : bif b then False else p) (f : b = false -> p -> P) : P := by
 cases b
 ·exact f rfl h
 ·exact h.elim
theorem BV {a b : Bool} {P : Prop} (h : (a && b) = true) (f : a = true -> b = true -> P) : P := by
 cases a
 ·cases h
 ·exact f rfl h
theorem Tl {a : Bool} (h : (!a) = true) : a = false := by
 cases a
 ·rfl
 ·cases h
theorem CL {b : Bool} {p : Prop} (e : bif b then p else False) : b = true /\ p := by
 cases b
 ·exact e.elim
 ·exact ⟨rfl, e⟩
section
variable {c : Cx} {B : Heap} {ad : Str -> Addr} {os sub os' : Os} {h h' : Heap} {is : List Nat} {S : List Addr}
noncomputable def Cy (is : List Nat) (os os' : Os) : Os := DW is os' 0 os ++ os'.drop is.length
theorem Hf (nd : is.Nodup) (es : GK os is = some sub) (af : Bx B ad h sub h' os') : Av (Cy is os os') = Av os ++ Av (os'.drop is.length) := by
 unfold Cy Av
 rw [List.map_append]
 congr 1
 rw [Ll]
 refine List.ext_getElem? fun i => ?_
 rw [LL, Nat.zero_add]
 cases hi : (List.map (·.1) os)[i]? with
 | none => rfl
 | some x =>
  show some _ = some _
  cases hp : pos is (os'.map (·.1)) i with
  | none => rfl
  | some q =>
   refine Ah (fun j e1 e2 => ?_) <| JT hp
   refine Ah (fun p e3 e4 => ?_) <| CF es e1
   have : (Av sub)[j]? = some p.1 := by unfold Av; rw [List.getElem?_map, e4]; rfl
   have := Cc af.pre this
   unfold Av at this
   rw [e2] at this
   rw [List.getElem?_map, e3] at hi
   cases hi; cases this; rfl
theorem CB (nd : is.Nodup) (es : GK os is = some sub) (af : Bx B ad h sub h' os') {i : Nat} {p : PO} (e : (Cy is os os')[i]? = some p) :
  (os[i]? = some p /\ ∀ j : Nat, is[j]? ≠ some i) \/ (∃ (j : Nat) (q : PO), is[j]? = some i /\ os'[j]? = some p /\ os[i]? = some q /\ sub[j]? = some q) \/ (os.length <= i /\ os'[is.length + (i - os.length)]? = some p) := by
 unfold Cy at e
 rw [List.getElem?_append, RM] at e
 split at e
 ·rw [LL, Nat.zero_add] at e
  refine Ah (fun q eq e => ?_) <| Option.map_eq_some_iff.mp e
  cases hp : pos is os' i with
  | none =>
   rw [hp] at e; cases e
   refine .inl ⟨eq, fun j ej => ?_⟩
   refine Ah (fun o e3 e4 => ?_) <| CF es ej
   have : (Av sub)[j]? = some o.1 := by unfold Av; rw [List.getElem?_map, e4]; rfl
   have := Cc af.pre this
   unfold Av at this
   rw [List.getElem?_map] at this
   refine Ah (fun y ey _ => ?_) <| Option.map_eq_some_iff.mp this
   rw [VE nd ej ey] at hp; cases hp
  | some y =>
   rw [hp] at e; cases e
   refine Ah (fun j e1 e2 => ?_) <| JT hp
   refine Ah (fun q' e3 e4 => ?_) <| CF es e1
   rw [eq] at e3; cases e3
   exact .inr (.inl ⟨j, q, e1, e2, eq, e4⟩)
 ·rename_i hlt
  refine .inr (.inr ⟨Nat.le_of_not_lt hlt, ?_⟩)
  rw [List.getElem?_drop] at e; exact e
theorem GV (es : GK os is = some sub) {p : PO} (m : p ∈ sub) : ∃ i j : Nat, is[j]? = some i /\ os[i]? = some p /\ sub[j]? = some p := by
 refine Ap (fun j e => ?_) <| List.getElem?_of_mem m
 have hj : j < is.length := by rw [<- FE es]; exact (List.getElem?_eq_some_iff.mp e).1
 refine Ah (fun o a b => ?_) <| CF es (List.getElem?_eq_getElem hj)
 rw [e] at b; cases b
 exact QC _ j (List.getElem?_eq_getElem hj) a e
theorem Ha {st : St} {l : A9} (nd : is.Nodup) (es : GK os is = some sub) (R : BD c st os h l) (F : Fx c.B c.h₀ c.S₀ c.outer c.sc c.L h' l) (K : Kp c.B S [] h h') (hS : ∀ b ∈ S, b ∈ DT sub) (af : Bx c.B c.ad h sub h' os') :
  BD c ⟨st.loc, (Cy is os os').map (·.2)⟩ (Cy is os os') h' l /\ Ex c os (Cy is os os') h h' := by
 have sl := FE es
 have dis := DJ.mp R.dis
 have dis' := DJ.mp af.dis
 have hfree : ∀ (i : Nat) (p : PO), os[i]? = some p -> (∀ j : Nat, is[j]? ≠ some i) -> ∀ x ∈ DL p, x ∉ S := fun i p e hn x hx m => by
  refine Ah (fun q mq hq => ?_) <| List.mem_flatMap.mp (hS x m)
  refine CY (fun i' j e1 e2 _ => ?_) <| GV es mq
  have : i ≠ i' := fun q => hn j (q ▸ e1)
  exact dis i i' p q e e2 this x hx x (Cb hq) rfl
 have hnew : ∀ (k : Nat) (p : PO), os'[is.length + k]? = some p -> ∀ x ∈ DL p, h.get? x = none := fun k p e x hx => by
  exact af.new _ p (by rw [sl]; exact Nat.le_add_right ..) e x hx
 have hkind : ∀ (j : Nat) (p q : PO), sub[j]? = some q -> os'[j]? = some p -> DL p = DL q /\ GE p = GE q := fun j p q a b => af.kind j q p a b
 have hE : ∀ x ∈ DT (Cy is os os'), x ∈ DT os \/ h.get? x = none := fun x m => by
  refine Ah (fun p mp hx => ?_) <| List.mem_flatMap.mp m
  refine Ap (fun i e => ?_) <| List.getElem?_of_mem mp
  rcases CB nd es af e with ⟨e, _⟩ | ⟨j, q, _, e2, e3, e4⟩ | ⟨_, e⟩
  ·exact .inl (Bn (List.mem_of_getElem? e) hx)
  ·rw [(hkind j p q e4 e2).2] at hx; exact .inl (Bn (List.mem_of_getElem? e3) hx)
  ·exact .inr (hnew _ p e x (Cb hx))
 have hpre : Av os <+: Av (Cy is os os') := by rw [Hf nd es af]; exact List.prefix_append ..
 refine ⟨⟨F, rfl, R.loc.kw K.toKw hpre, fun p m => ?_, DJ.mpr fun i j p q ei ej hn => ?_, fun p m x hx => ?_, fun p m x hx => ?_, R.pre.trans hpre⟩, K.mono (fun b m => ?_) AH, fun i p q ei em => ?_, fun i p hi em => ?_, hpre⟩
 ·refine Ap (fun i e => ?_) <| List.getElem?_of_mem m
  rcases CB nd es af e with ⟨e, hn⟩ | ⟨j, q, _, e2, _, _⟩ | ⟨_, e⟩
  ·exact (R.ok p (List.mem_of_getElem? e)).kw K.toKw (hfree i p e hn) fun _ _ => AD
  ·exact af.ok p (List.mem_of_getElem? e2)
  ·exact af.ok p (List.mem_of_getElem? e)
 ·have far : ∀ (i j : Nat) (p q : PO) (k : Nat), (os[i]? = some p \/ ∃ (j' : Nat) (o : PO), os'[j']? = some p /\ os[i]? = some o /\ sub[j']? = some o) -> os'[is.length + k]? = some q -> Jv p q := fun i j p q k hp eq x hx y hy e => by
   have hy' := hnew k q eq y hy
   have al : ∀ o : PO, os[i]? = some o -> ∀ z ∈ DL o, Al h z := fun o eo => (R.ok o (List.mem_of_getElem? eo)).al
   rcases hp with ep | ⟨j', o, e1, e2, e3⟩
   ·exact EW hy' (al p ep x hx) e
   ·rw [(hkind j' p o e3 e1).1] at hx
    exact EW hy' (al o e2 x hx) e
  rcases CB nd es af ei with ⟨e1, n1⟩ | ⟨j1, q1, a1, b1, c1, d1⟩ | ⟨l1, e1⟩ <;> rcases CB nd es af ej with ⟨e2, n2⟩ | ⟨j2, q2, a2, b2, c2, d2⟩ | ⟨l2, e2⟩
  ·exact dis i j p q e1 e2 hn
  ·intro x hx y hy
   rw [(hkind j2 q q2 d2 b2).1] at hy
   exact dis i j p q2 e1 c2 hn x hx y hy
  ·exact far i j p q _ (.inl e1) e2
  ·intro x hx y hy
   rw [(hkind j1 p q1 d1 b1).1] at hx
   exact dis i j q1 q c1 e2 hn x hx y hy
  ·refine dis' j1 j2 p q b1 b2 fun e => hn ?_
   subst e; rw [a1] at a2; cases a2; rfl
  ·exact far i j p q _ (.inr ⟨j1, q1, b1, c1, d1⟩) e2
  ·exact (far j i q p _ (.inl e2) e1).symm
  ·exact (far j i q p _ (.inr ⟨j2, q2, b2, c2, d2⟩) e1).symm
  ·exact dis' _ _ p q e1 e2 (by omega)
 ·rcases hE x (Bn m hx) with q | q
  ·refine Ah (fun o mo ho => ?_) <| List.mem_flatMap.mp q
   exact R.wr o mo x ho
  ·exact R.F.wr q
 ·refine Ap (fun i e => ?_) <| List.getElem?_of_mem m
  rcases CB nd es af e with ⟨e, _⟩ | ⟨j, q, _, e2, e3, e4⟩ | ⟨_, e⟩
  ·exact R.dL p (List.mem_of_getElem? e) x hx
  ·rw [(hkind j p q e4 e2).1] at hx; exact R.dL q (List.mem_of_getElem? e3) x hx
  ·intro eL
   refine Gr (fun oo es' ep e' _ => ?_) R.F.ns
   have := hnew _ p e x hx
   rw [eL, e'] at this; cases this
 ·refine Ah (fun q mq hq => ?_) <| List.mem_flatMap.mp (hS b m)
  refine CY (fun i j _ e2 _ => ?_) <| GV es mq
  exact Bn (List.mem_of_getElem? e2) hq
 ·rcases CB nd es af em with ⟨e, _⟩ | ⟨j, q', _, e2, e3, e4⟩ | ⟨hl, _⟩
  ·exact CA os i p q ei e
  ·rw [ei] at e3; cases e3; exact hkind j q p e4 e2
  ·have := (List.getElem?_eq_some_iff.mp ei).1; omega
 ·rcases CB nd es af em with ⟨e, _⟩ | ⟨j, q', _, _, e3, _⟩ | ⟨_, e⟩
  ·have := (List.getElem?_eq_some_iff.mp e).1; omega
  ·have := (List.getElem?_eq_some_iff.mp e3).1; omega
  ·exact hnew _ p e
theorem Qj (nd : is.Nodup) (es : GK os is = some sub) (af : Bx B ad h sub h' os') {hh : Heap} {a : AV} {v : Value} : CV hh (Av os') a v -> CV hh (Av (Cy is os os')) (XE is os.length a) v :=
 CV.map (Kw.refl [] [] hh) fun j _ x e => by
  have ll : (Av os).length = os.length := List.length_map ..
  rw [Hf nd es af]
  cases ei : is[j]? with
  | some i =>
   refine Ah (fun o e3 e4 => ?_) <| CF es ei
   have e5 : (Av sub)[j]? = some o.1 := by unfold Av; rw [List.getElem?_map, e4]; rfl
   have e6 := Cc af.pre e5
   rw [e] at e6
   have e7 : (Av os)[i]? = some o.1 := by unfold Av; rw [List.getElem?_map, e3]; rfl
   exact (Cc (List.prefix_append _ _) e7).trans e6.symm
  | none =>
   have hj : is.length <= j := List.getElem?_eq_none_iff.mp ei
   show (_ ++ _)[os.length + (j - is.length)]? = _
   rw [List.getElem?_append_right (by omega), ll]
   unfold Av at e ⊢
   rw [List.map_drop, List.getElem?_drop, <- e]
   congr 1; omega
end
theorem LH {c : Cx} {fv : Value} {T : CT} {us : List AV} {st : St} {Q : AV -> St -> Prop} {EX : Aa -> Prop} (ok : c.Ok) (sp : Sp c.prog c.w c.B c.ad c.n fv T) (k : Hl T us st EX Q) {os : Os} {h : Heap} {l : A9} {xs : List Value} (R : BD c st os h l) (cvs : DC h (Av os) us xs) :
  ∃ m S R' Cs, m <= c.n /\ Ct c.prog c.w c.B m fv xs S h R' Cs /\ (∀ b ∈ S, b ∈ c.S₀ \/ c.h₀.get? b = none) /\ (∀ b ∈ S, ∃ i p, i ∈ FZ us /\ os[i]? = some p /\ b ∈ GE p) /\ (∀ v, Cs v -> Jm c.ad EX v) /\
   ∀ v h' t', Fx c.B c.h₀ c.S₀ c.outer c.sc c.L h' l -> Kp c.B S [] h h' -> R' v h' -> Ep c CV Q os h v (mk c.s h' t') := by
 refine AJ k fun ao e1 k => AJ k fun vs e2 k => B4 k fun hn k => ?_
 ·rw [R.eq] at e1
  refine Ah (fun sub es z0 => ?_) <| JX _ e1; obtain rfl := z0
  have nd := Ja hn
  have at_ : ∀ p ∈ sub, p ∈ os := fun p m => by
   refine CY (fun i j _ e _ => ?_) <| GV es m; exact List.mem_of_getElem? e
  have dis := DJ.mp R.dis
  obtain ⟨m, S, R', Cs, hm, ct, hS, hC, kk⟩ := sp vs sub h xs EX _ R.F.base (fun p m => R.ok p (at_ p m)) (DJ.mpr fun i j p q ei ej hne => by
    have hi := (List.getElem?_eq_some_iff.mp ei).1
    have hj := (List.getElem?_eq_some_iff.mp ej).1
    rw [FE es] at hi hj
    refine Ah (fun o1 a1 b1 => ?_) <| CF es (List.getElem?_eq_getElem hi)
    refine Ah (fun o2 a2 b2 => ?_) <| CF es (List.getElem?_eq_getElem hj)
    rw [ei] at b1; rw [ej] at b2; cases b1; cases b2
    exact dis _ _ _ _ a1 a2 fun e => hne ((List.getElem?_inj hi nd).mp (by rw [List.getElem?_eq_getElem hi, List.getElem?_eq_getElem hj, e]))) (fun p m x hx => (R.wr p (at_ p m) x hx).notB)
    (OQ e2 (fun j i q => by
     refine Ah (fun o a b => ?_) <| CF es q
     unfold Av; rw [Nat.zero_add, List.getElem?_map, List.getElem?_map, a, b]) cvs) k
  refine QE m S R' Cs hm ⟨ct, fun b m => ?_, fun b m => ?_, hC, fun v h' t' F K r => ?_⟩
  ·refine Ah (fun p mp hx => ?_) <| List.mem_flatMap.mp (hS b m)
   exact (R.wr p (at_ p mp) b hx).mine
  ·refine Ah (fun p mp hx => ?_) <| List.mem_flatMap.mp (hS b m)
   refine CY (fun i j e3 e4 _ => ?_) <| GV es mp
   exact QC i p (List.mem_of_getElem? e3) e4 hx
  ·refine CY (fun a os' af cv q => ?_) <| kk v h' K r
   refine Ak (fun R2 e2 => ?_) <| Ha nd es R F K hS af
   have ll : st.objs.length = os.length := by rw [R.eq, List.length_map]
   refine .un e2 R2 ?_ (Qj nd es af cv)
   have e3 : (Cy (FZ us) os os').map (·.2) = DW (FZ us) (os'.map (·.2)) 0 st.objs ++ (os'.map (·.2)).drop (FZ us).length := by
    unfold Cy; rw [List.map_append, Ll, R.eq, List.map_drop]
   rw [e3, <- ll]; exact q
theorem JL.call {c : Cx} {fv : Value} {T : CT} {us : List AV} {st : St} {Q : AV -> St -> Prop} (sp : c.Ok -> Sp c.prog c.w c.B c.ad c.n fv T) (k : Hl T us st c.EX Q) : JL c CV (cl fv) us st Q := fun ok os h t l xs R cvs => by
 refine Mv (fun m S R' Cs hm z0 => ?_) <| LH ok (sp ok) k R cvs; revert z0; refine Ju fun ct hS _ hC kk => ?_
 exact I9 ct ok.he ok.hf ok.hA R.F hm hS hC kk
def Bb (v : AV) (k : Int -> Prop) : Prop := Af (N1 v) k
def Qn (v : AV) (k : AP -> Prop) : Prop := Af (U8 v) k
def Fb (v : AV) (k : Nat -> Prop) : Prop := Af (MZ v) k
def GB (v : AV) (k : Bool -> Prop) : Prop := Af (M7 v) k
noncomputable def H7 (o : Option AO) : Option AP := o.bind Sl
def G5 (st : St) (i : Nat) (k : AP -> Prop) : Prop := Af (H7 st.objs[i]?) k
def Fv (st : St) (P : AP) (Q : AV -> St -> Prop) : Prop := Q (.ref st.objs.length) ⟨st.loc, st.objs ++ [.lst P]⟩
@[elab_as_elim] theorem Au {C : AV -> Prop} {v : AV} {k : Int -> Prop} (h : Bb v k) (f : ∀ x, k x -> C (.int x)) : C v := AJ h fun x e q => Ie e (f x q)
@[elab_as_elim] theorem CR {C : AV -> Prop} {v : AV} {k : Nat -> Prop} (h : Fb v k) (f : ∀ x, k x -> C (.ref x)) : C v := AJ h fun x e q => J5 e (f x q)
@[elab_as_elim] theorem KP {C : AV -> Prop} {v : AV} {k : AP -> Prop} (h : Qn v k) (f : ∀ x, k x -> C (.tup x)) : C v := AJ h fun x e q => OT e (f x q)
@[elab_as_elim] theorem EM {C : AV -> Prop} {v : AV} {k : Bool -> Prop} (h : GB v k) (f : ∀ x, k x -> C (.bool x)) : C v := AJ h fun x e q => LP e (f x q)
theorem Iv {o : Option AO} {P : AP} (e : H7 o = some P) : o = some (.lst P) := A2 e fun a e1 e2 => e1.trans (congrArg _ (Kd (C := fun a => a = .lst P) e2 rfl))
theorem DG {st : St} {i : Nat} {k : AP -> Prop} {P : Prop} (h : G5 st i k) (f : ∀ R, st.objs[i]? = some (.lst R) -> k R -> P) : P := AJ h fun R e q => f R (Iv e) q
noncomputable def AP.data : AP -> List PyData
 | .toks l => An l
 | .tts l => Cp l
 | .ints l => l.map .int
 | .strs l => l.map .str
theorem AP.rd {h : Heap} : ∀ {P : AP} {vs : List Value}, P.rel h vs -> ReadsAll h vs P.data []
 | .toks _, _, x => x
 | .tts _, _, x => x.1.rd
 | .ints _, _, x => x
 | .strs _, _, x => x
noncomputable def HU : AP -> Bool
 | .toks _ => true
 | .tts _ => true
 | .ints _ => true
 | .strs _ => false
theorem I7 : ∀ l : List Int, PyData.canLayAll0 (l.map .int) = true
 | [] => by simp [PyData.canLayAll0]
 | _ :: l => by simp [PyData.canLayAll0, PyData.canLay0, I7 l]
theorem Ge : ∀ l : List Int, PyData.depthAll (l.map .int) <= 4
 | [] => by simp [PyData.depthAll]
 | _ :: l => by
  rw [List.map_cons, PyData.depthAll]
  exact Nat.max_le.mpr ⟨by simp [PyData.depth], Ge l⟩
theorem AP.shp : ∀ {P : AP}, HU P = true -> PyData.canLayAll0 P.data = true /\ PyData.depthAll P.data <= 4
 | .toks l, _ => ⟨EH l, Nat.le_trans (D5 l) (by decide)⟩
 | .tts l, _ => ⟨Hs l, Fu l⟩
 | .ints l, _ => ⟨I7 l, Ge l⟩
noncomputable def Dy (objs : List AO) : AV -> Option PyData
 | .int i => some (.int i)
 | .bool b => some (.bool b)
 | .str s => bif PyData.strOk s then some (.str s) else none
 | .none => some .none
 | .tok p => some (Dk p)
 | .tup P => bif HU P then some (.tuple P.data) else none
 | .ref i => (H7 objs[i]?).bind fun P => bif HU P then some (.list P.data) else none
 | _ => none
noncomputable def KM (objs : List AO) (a : AV) : Option PyData := (Th a).elim (Dy objs a) fun p => (Dy objs p.1).bind fun x => (Dy objs p.2).map fun y => .tuple [x, y]
noncomputable def Zq (P R : AP) : Option Bool := match P with
 | .toks a => (G3 R).map fun b => decide (a = b)
 | .tts a => (Ms R).map fun b => decide (a = b)
 | .ints a => (LK R).map fun b => decide (a = b)
 | .strs _ => none
noncomputable def W3 (objs : List AO) (u v : AV) : Option Bool := match u with
 | .int x => (N1 v).map fun y => decide (x = y)
 | .bool x => (M7 v).map fun y => decide (x = y)
 | .str x => (Ox v).bind fun y => bif PyData.strOk x && PyData.strOk y then some (decide (x = y)) else none
 | .tok x => (VX v).map fun y => decide (x = y)
 | .tup P => (U8 v).bind fun R => Zq P R
 | .ref i => (MZ v).bind fun j => (H7 objs[i]?).bind fun P => (H7 objs[j]?).bind fun R => Zq P R
 | _ => none
noncomputable def Z6 (objs : List AO) (p : AV) (s : Str) : Option Bool := bif PyData.strOk s then (KM objs p).map fun _ => false else none
noncomputable def Yh (objs : List AO) (u v : AV) : Option Bool := (Th u).elim ((Ox u).elim (W3 objs u v) fun s => (Th v).elim (W3 objs u v) fun _ => Z6 objs v s) fun a =>
 (Th v).elim ((Ox v).bind fun s => Z6 objs u s) fun b => (W3 objs a.1 b.1).bind fun p => (W3 objs a.2 b.2).map fun q => p && q
theorem Oa : ∀ {x y : List Int}, PyData.eqvAll (x.map .int) (y.map .int) = decide (x = y) := by
 intro x
 induction x with
 | nil => intro y; cases y <;> simp [PyData.eqvAll]
 | cons a l ih => intro y; cases y with
  | nil => simp [PyData.eqvAll]
  | cons c m => rw [List.map_cons, List.map_cons, PyData.eqvAll, ih, PyData.eqv]; by_cases h1 : a = c <;> by_cases h2 : l = m <;> simp [h1, h2]
theorem TB {P R : AP} {b : Bool} (e : Zq P R = some b) : HU P = true /\ HU R = true /\ PyData.eqvAll P.data R.data = b := by
 cases P
 ·exact CU e fun y e1 z => EI e1 ⟨rfl, rfl, (FS ..).trans z⟩
 ·exact CU e fun y e1 z => Ga e1 ⟨rfl, rfl, (Hj ..).trans z⟩
 ·exact CU e fun y e1 z => IA e1 ⟨rfl, rfl, Oa.trans z⟩
 ·exact AG e
theorem PP {α : Type} {b : Bool} {x y : α} (h : b = true) : (bif b then x else y) = x := by rw [h]; rfl
section
variable {objs : List AO} {u v : AV} {b : Bool}
theorem IK {s : Str} (h : PyData.strOk s = true) : Dy objs (.str s) = some (.str s) := PP h
theorem LM {P : AP} (h : HU P = true) : Dy objs (.tup P) = some (.tuple P.data) := PP h
theorem LY {i : Nat} {P : AP} (e : H7 objs[i]? = some P) (h : HU P = true) : Dy objs (.ref i) = some (.list P.data) := by
 unfold Dy
 show (H7 objs[i]?).bind _ = _
 rw [e]; exact PP h
theorem Jb {p : AV × AV} {a c : PyData} (e1 : Dy objs p.1 = some a) (e2 : Dy objs p.2 = some c) : KM objs (.tup2 p.1 p.2) = some (.tuple [a, c]) := by
 show (Dy objs p.1).bind _ = _
 rw [e1]
 show (Dy objs p.2).map _ = _
 rw [e2]; rfl
def Zn (x y : Option PyData) (b : Bool) : Prop := ∃ d e, x = some d /\ y = some e /\ PyData.eqv d e = b
theorem P4 (e : W3 objs u v = some b) : Zn (Dy objs u) (Dy objs v) b := by
 cases u
 case int x => exact CU e fun y e1 z => Ie e1 ⟨_, _, rfl, rfl, by rw [PyData.eqv, <- z]; rw [Bool.eq_iff_iff]; simp⟩
 case bool x => exact CU e fun y e1 z => LP e1 ⟨_, _, rfl, rfl, by rw [PyData.eqv, <- z]; rw [Bool.eq_iff_iff]; simp⟩
 case str x =>
  refine A2 e fun y e1 z => IC e1 ?_
  refine Ak (fun h z => ?_) <| B0 z
  refine Ak (fun h1 h2 => ?_) <| Bool.and_eq_true_iff.mp h
  exact ⟨_, _, IK h1, IK h2, by rw [PyData.eqv, <- Option.some.inj z]; rw [Bool.eq_iff_iff]; simp⟩
 case tok x => exact CU e fun y e1 z => Nv e1 ⟨_, _, rfl, rfl, (Gd ..).trans z⟩
 case tup P =>
  refine A2 e fun y e1 z => OT e1 ?_
  refine C9 (fun h1 h2 h3 => ?_) <| TB z
  exact ⟨_, _, LM h1, LM h2, by rw [PyData.eqv]; exact h3⟩
 case ref i =>
  refine A2 e fun y e1 z => J5 e1 ?_
  refine A2 z fun P e1 z => A2 z fun R e2 z => ?_
  refine C9 (fun h1 h2 h3 => ?_) <| TB z
  exact ⟨_, _, LY e1 h1, LY e2 h2, by rw [PyData.eqv]; exact h3⟩
 all_goals exact AG e
theorem H8 {a : AV} {d : PyData} (e : Dy objs a = some d) : KM objs a = some d := by
 cases a
 case tup2 => exact AG e
 all_goals exact e
@[elab_as_elim] theorem ZJ {a : AV} {d : PyData} {P : AV -> Prop} (e : KM objs a = some d) (g : Dy objs a = some d -> P a) (k : ∀ (p : AV × AV) x y, Dy objs p.1 = some x -> Dy objs p.2 = some y -> PyData.tuple [x, y] = d -> P (.tup2 p.1 p.2)) : P a :=
 Dq e (fun _ e => g e) fun p e1 e => A2 e fun x e2 e => CU e fun y e3 z => Hc e1 (k p x y e2 e3 z)
theorem TD (e : Yh objs u v = some b) : Zn (KM objs u) (KM objs v) b := by
 have HU : ∀ {u v : AV}, W3 objs u v = some b -> Zn (KM objs u) (KM objs v) b := fun e => by
  refine CY (fun x y a c d => ?_) <| P4 e
  exact ⟨x, y, H8 a, H8 c, d⟩
 have str : ∀ {p s}, Z6 objs p s = some b -> ∃ d, KM objs p = some d /\ false = b /\ KM objs (.str s) = some (.str s) := fun e => by
  refine Ak (fun h e => ?_) <| B0 e
  exact CU e fun d e1 z => ⟨d, e1, z, H8 (IK h)⟩
 have tu : ∀ {p d}, Th u = some p -> KM objs u = some d -> ∃ x y, d = .tuple [x, y] := fun {p d} e1 e => by
  revert e; refine Hc e1 fun e => ?_
  exact A2 e fun x _ e => CU e fun y _ z => ⟨x, y, z.symm⟩
 have tv : ∀ {p d}, Th v = some p -> KM objs v = some d -> ∃ x y, d = .tuple [x, y] := fun {p d} e1 e => by
  revert e; refine Hc e1 fun e => ?_
  exact A2 e fun x _ e => CU e fun y _ z => ⟨x, y, z.symm⟩
 refine Dq e (fun _ e => Dq e (fun _ e => HU e) fun s es e => Dq e (fun _ e => HU e) fun q eq e => ?_) fun p ep e => Dq e (fun _ e => A2 e fun s es e => ?_) fun q eq e => ?_
 ·refine FR (fun d e1 z e2 => ?_) <| str e
  refine HM (fun x y z1 => ?_) <| tv eq e1
  refine ⟨.str s, d, IC (C := fun u => KM objs u = _) es e2, e1, ?_⟩
  rw [z1, PyData.eqv]; exact z
 ·refine FR (fun d e1 z e2 => ?_) <| str e
  refine HM (fun x y z1 => ?_) <| tu ep e1
  refine ⟨d, .str s, e1, IC (C := fun u => KM objs u = _) es e2, ?_⟩
  rw [z1, PyData.eqv]; exact z
 ·refine A2 e fun a e1 e => CU e fun c e2 z => ?_
  refine CY (fun x1 y1 a1 c1 d1 => ?_) <| P4 e1
  refine CY (fun x2 y2 a2 c2 d2 => ?_) <| P4 e2
  refine Hc ep ?_
  refine Hc eq ?_
  refine ⟨_, _, Jb a1 a2, Jb c1 c2, ?_⟩
  rw [PyData.eqv, PyData.eqvAll, PyData.eqvAll, PyData.eqvAll, d1, d2, Bool.and_true]; exact z
def b0 (h : Heap) (v : Value) (d : PyData) : Prop := (∃ as, Reads h v d as) /\ d.canLay0 = true /\ d.depth <= 5
theorem Iu {c : Cx} {st : St} {os : Os} {h : Heap} {l : A9} {a : AV} {v : Value} {d : PyData} (R : BD c st os h l) (x : CV h (Av os) a v) (e : Dy st.objs a = some d) : b0 h v d := by
 cases a
 case int => cases e; revert x; refine Ap fun u z0 => ?_; obtain rfl := z0; exact ⟨⟨_, .int ..⟩, rfl, by simp [PyData.depth]⟩
 case bool => cases e; obtain rfl := x; exact ⟨⟨_, .bool ..⟩, rfl, by simp [PyData.depth]⟩
 case str => refine Ak (fun h e => ?_) <| B0 e; cases e; revert x; refine Ap fun u z0 => ?_; obtain rfl := z0; exact ⟨⟨_, .str ..⟩, by rw [PyData.canLay0]; exact h, by simp [PyData.depth]⟩
 case none => cases e; obtain rfl := x; exact ⟨⟨_, .none⟩, rfl, by simp [PyData.depth]⟩
 case tok => cases e; exact ⟨⟨_, x⟩, Gj _, Nat.le_trans (Ej _) (by decide)⟩
 case tup =>
  refine Ak (fun hf e => ?_) <| B0 e; cases e
  revert x; refine Ak fun _ z0 => ?_; revert z0; refine CY fun d vs z1 T r => ?_; obtain rfl := z1
  refine Ak (fun c1 c2 => ?_) <| AP.shp hf
  exact ⟨⟨_, T.reads (AP.rd r)⟩, by rw [PyData.canLay0]; exact c1, by rw [PyData.depth]; exact Nat.succ_le_succ c2⟩
 case ref =>
  refine A2 e fun P e1 e => ?_
  refine Ak (fun hf e => ?_) <| B0 e; cases e
  refine Ak (fun c1 c2 => ?_) <| AP.shp hf
  refine Eo (fun z vs _ z0 T z1 => ?_) <| R.lst (Iv e1) x; obtain rfl := z0; revert z1; refine Ak fun r _ => ?_
  exact ⟨⟨_, T.reads (AP.rd r)⟩, by rw [PyData.canLay0]; exact c1, by rw [PyData.depth]; exact Nat.succ_le_succ c2⟩
 all_goals exact AG e
theorem IE {c : Cx} {st : St} {os : Os} {h : Heap} {l : A9} {a : AV} {v : Value} {d : PyData} (R : BD c st os h l) (x : CV h (Av os) a v) (e : KM st.objs a = some d) : (∃ as, Reads h v d as) /\ SeqAt.shaped d = true := by
 have fin : ∀ {d : PyData}, d.canLay0 = true -> d.depth <= 6 -> SeqAt.shaped d = true := fun a b => Bool.and_eq_true_iff.mpr ⟨a, decide_eq_true (Nat.le_trans b (by decide))⟩
 revert x
 refine ZJ e (fun e x => C9 (fun a k m => ⟨a, fin k (Nat.le_succ_of_le m)⟩) (Iu R x e)) fun p d1 d2 e1 e2 z x => ?_
 revert x; refine DK fun a va vb z0 T z1 => ?_; obtain rfl := z0; revert z1; refine Ak fun ca cb => ?_
 refine C9 (fun z0 k1 l1 => ?_) <| Iu R ca e1; revert z0; refine Ap fun as r1 => ?_
 refine C9 (fun z0 k2 l2 => ?_) <| Iu R cb e2; revert z0; refine Ap fun bs r2 => ?_
 revert T; refine Ap fun n T => ?_
 rw [<- z]
 refine ⟨⟨_, .tuple T rfl rfl (.cons r1 (.cons r2 .nil))⟩, fin ?_ ?_⟩
 ·rw [PyData.canLay0, PyData.canLayAll0, PyData.canLayAll0, PyData.canLayAll0, k1, k2]; rfl
 ·rw [PyData.depth, PyData.depthAll, PyData.depthAll, PyData.depthAll]; exact Nat.succ_le_succ (Nat.max_le.mpr ⟨l1, Nat.max_le.mpr ⟨l2, Nat.zero_le _⟩⟩)
end
section
variable {c : Cx} {st : St} {Q : AV -> St -> Prop} {u v : AV} {b : Bool}
theorem J2.eq (e : Yh st.objs u v = some b) (q : Q (.bool b) st) : J2 c CV (compareOp .Eq) u v st Q := fun ok os h t l x y R cx cy => by
 refine CY (fun d f e1 e2 e3 => ?_) <| TD e
 refine Ak (fun z0 s1 => ?_) <| IE R cx e1; revert z0; refine Ap fun as r1 => ?_
 refine Ak (fun z0 s2 => ?_) <| IE R cy e2; revert z0; refine Ap fun bs r2 => ?_
 exact cN ok.hA r1 r2 s1 s2 (.at R q (by rw [e3]; rfl))
theorem J2.ne (e : Yh st.objs u v = some b) (q : Q (.bool (!b)) st) : J2 c CV (compareOp .NotEq) u v st Q := fun ok os h t l x y R cx cy => by
 refine CY (fun d f e1 e2 e3 => ?_) <| TD e
 refine Ak (fun z0 s1 => ?_) <| IE R cx e1; revert z0; refine Ap fun as r1 => ?_
 refine Ak (fun z0 s2 => ?_) <| IE R cy e2; revert z0; refine Ap fun bs r2 => ?_
 exact bc ok.hA r1 r2 s1 s2 (.at R q (by rw [e3]; rfl))
end
theorem J2.ii {c : Cx} {st : St} {α β : Type} {rel : Heap -> List AA -> β -> α -> Prop} {Q : β -> St -> Prop} {f : Value -> Value -> Sem α} {x y : Int} (k : ∀ {os : Os} {h : Heap} {t : Nat} {l : A9} {a b : Tok}, BD c st os h l -> wpAny (model c.prog c.w) c.A (f (.int x a) (.int y b)) (Ep c rel Q os h) c.E (mk c.s h t)) : J2 c rel f (.int x) (.int y) st Q := by
 intro ok os h t l u v R a b
 revert a; refine Ap fun _ e1 => ?_; revert b; refine Ap fun _ e2 => ?_
 subst e1 e2; exact k R
noncomputable def SL : AV -> Option Bool
 | .none => some true
 | .tok _ => some false
 | _ => none
def aa (v : AV) (k : List Int -> Prop) : Prop := Af (YK v) k
def Z1 (v : AV) (k : Prop) : Prop := match v with
 | .none => k
 | _ => False
def KU (op : CmpOp) (u v : AV) (st : St) (K : Bool -> Prop) : Prop := match op with
 | .Eq => Af (Yh st.objs u v) K
 | .NotEq => Af (Yh st.objs u v) fun b => K (!b)
 | .Lt => Bb u fun x => Bb v fun y => K (decide (x < y))
 | .LtE => Bb u fun x => Bb v fun y => K (decide (x <= y))
 | .Gt => Bb u fun x => Bb v fun y => K (decide (y < x))
 | .GtE => Bb u fun x => Bb v fun y => K (decide (y <= x))
 | .In => Bb u fun x => aa v fun l => K (decide (x ∈ l))
 | .Is => Z1 v (Af (SL u) K)
 | _ => False
theorem L0 {c : Cx} {op : CmpOp} {u v : AV} {st : St} {Q : AV -> St -> Prop} (h : KU op u v st fun b => Q (.bool b) st) : J2 c CV (compareOp op) u v st Q := by
 cases op
 case Eq => refine Ah (fun b e q => ?_) <| EF h; exact J2.eq e q
 case NotEq => refine Ah (fun b e q => ?_) <| EF h; exact J2.ne e q
 case Lt => exact Au h fun x h => Au h fun y h => .ii fun R => aD (.at R h rfl)
 case LtE => exact Au h fun x h => Au h fun y h => .ii fun R => Zp (.at R h rfl)
 case Gt => exact Au h fun x h => Au h fun y h => .ii fun R => bR (.at R h rfl)
 case GtE => exact Au h fun x h => Au h fun y h => .ii fun R => ba (.at R h rfl)
 case In =>
  refine Au h fun x h => AJ h fun m e h => WQ e ?_
  intro ok os h' t l u v R a e2
  revert a; refine Ap fun _ e1 => ?_; subst e1
  exact cO (va := .none) ok.hA e2 (.at R h rfl)
 case Is =>
  cases v
  case none =>
   refine Ah (fun b e q => ?_) <| EF h
   cases u
   case none => cases e; exact fun ok os h' t l u v R e1 e2 => by cases e1; cases e2; exact Rf (.at R q rfl)
   case tok p => cases e; exact fun ok os h' t l u v R e1 e2 => by cases e2; exact QV e1 (.at R q rfl)
   all_goals cases e
  all_goals exact h.elim
 all_goals exact h.elim
noncomputable def AP.rep (n : Nat) : AP -> Option AP
 | .toks l => some (.toks (List.replicate n l).flatten)
 | _ => none
def T8 (u v : AV) (st : St) (Q : AV -> St -> Prop) : Prop := match u with
 | .int x => Bb v fun y => Q (.int (x + y)) st
 | .ref i => Fb v fun j => G5 st i fun P => G5 st j fun R => Af (P.app R) fun T => T.len <= 1000000 /\ Fv st T Q
 | .tup P => Qn v fun R => Af (P.app R) fun T => T.len <= 1000000 /\ R.len ≠ 0 /\ Q (.tup T) st
 | _ => False
def bb (op : Operator) (u v : AV) (st : St) (Q : AV -> St -> Prop) : Prop := match op with
 | .Add => T8 u v st Q
 | .Sub => Bb u fun x => Bb v fun y => Q (.int (x - y)) st
 | .Mult => Fb u fun i => Bb v fun x => G5 st i fun P => 0 <= x /\ x <= 1000 /\ P.len <= 1000 /\ Af (P.rep x.toNat) fun T => T.len <= 1000000 /\ Fv st T Q
 | _ => False
def bF (op : Operator) (u v : AV) (st : St) (Q : AV -> St -> Prop) : Prop := match op with
 | .Add => Bb u fun x => Bb v fun y => Q (.int (x + y)) st
 | .Sub => Bb u fun x => Bb v fun y => Q (.int (x - y)) st
 | _ => False
def Tj (P : AP) (k : Int) (K : AV -> Prop) : Prop := (-(P.len : Int) <= k /\ k < P.len) /\ P.item (AK k P.len) K
noncomputable def I8 {α : Type} (l : List α) : Option α := match l with
 | [] => none
 | a :: l => bif l.isEmpty then some a else none
theorem GZ {α : Type} {l : List α} {a : α} (h : I8 l = some a) : l = [a] := by
 cases l with
 | nil => exact AG h
 | cons b l =>
  refine Ak (fun h e => ?_) <| B0 h
  rw [List.isEmpty_iff.mp h, Option.some.inj e]
noncomputable def cD : AO -> Option (List Int)
 | .ro l => some l
 | _ => none
def sq (u : AV) (st : St) (t : AP -> Prop) (r : Nat -> AP -> Prop) : Prop := match u with
 | .tup P => t P
 | .ref i => G5 st i (r i)
 | _ => False
@[elab_as_elim] theorem Px {C : AV -> Prop} {u : AV} {st : St} {t : AP -> Prop} {r : Nat -> AP -> Prop} (h : sq u st t r) (f : ∀ P, t P -> C (.tup P)) (g : ∀ i P, st.objs[i]? = some (.lst P) -> r i P -> C (.ref i)) : C u := by
 cases u
 case tup P => exact f P h
 case ref i => exact DG h (g i)
 all_goals exact h.elim
def ab {α : Type} (k : Int) (x y : α) (q : α -> Prop) : Prop := bif k == 0 then q x else bif k == 1 then q y else False
theorem ZK {α : Type} {k : Int} {x y : α} {q : α -> Prop} {P : Int -> Prop} (h : ab k x y q) (f : q x -> P 0) (g : q y -> P 1) : P k := by
 unfold ab at h
 cases h0 : k == 0 with
 | true => rw [h0] at h; rw [eq_of_beq h0]; exact f h
 | false =>
  rw [h0] at h
  refine Ak (fun h1 h => ?_) <| CL h
  rw [eq_of_beq h1]; exact g h
def bW (u v : AV) (st : St) (Q : AV -> St -> Prop) : Prop := Bb v fun k => match u with
 | .tok p => ab k p.1 p.2 fun i => Q (.int i) st
 | .tup P => Tj P k fun a => Q a st
 | .ref i => G5 st i fun P => Tj P k fun a => Q a st
 | .tup2 a b => ab k a b fun a => Q a st
 | _ => False
noncomputable def AP.setAt (k : Nat) (P R : AP) : Option AP := (Ms P).bind fun l => (Ms R).bind fun m => (I8 m).map fun a => .tts (l.set k a)
noncomputable def Pd : AV -> Option (Option Int)
 | .none => some none
 | .int i => some (some i)
 | _ => none
def bC (u a b : AV) (st : St) (Q : AV -> St -> Prop) : Prop := Af (Pd a) fun lo => Af (Pd b) fun hi => match u with
 | .tup P => Q (.tup (P.sl lo hi)) st
 | .ref i => Af st.objs[i]? fun o => (cD o).elim (Af (Sl o) fun P => Fv st (P.sl lo hi) Q) fun l => Fv st (.ints (AY lo hi l)) Q
 | _ => False
def Xz (a b : AV) (r : List AV) (st : St) (Q : AV -> St -> Prop) : Prop := match r with
 | [] => Q (.tup2 a b) st
 | c :: r => bif r.isEmpty then Q (.tup3 a b c) st else False
def Wt (us : List AV) (st : St) (Q : AV -> St -> Prop) (n : Prop) : Prop := ((AP.ofs us).bind G3).elim n fun l => us.length <= 1000000 /\ Q (.tup (.toks l)) st
def bD (us : List AV) (st : St) (Q : AV -> St -> Prop) : Prop := match us with
 | [] => Q (.tup (.toks [])) st
 | a :: us => match us with
  | [] => Wt [a] st Q False
  | b :: r => (bif r.isEmpty then (N1 a).bind fun x => (N1 b).map fun y => (x, y) else none).elim (Wt (a :: b :: r) st Q (Xz a b r st Q)) fun p => Q (.tok p) st
def bE (nil : AP) (us : List AV) (st : St) (Q : AV -> St -> Prop) : Prop := bif us.isEmpty then Fv st nil Q else Af (AP.ofs us) fun P => us.length <= 1000000 /\ Fv st P Q
def Tg (u : AV) (st : St) (Q : AV -> St -> Prop) : Prop := sq u st (fun P => Q (.int P.len) st) fun _ P => Q (.int P.len) st
def Ti (u : AV) (st : St) (Q : AV -> St -> Prop) : Prop := sq u st (fun P => Q (.tup P) st) fun _ P => Q (.tup P) st
def Oe (u : AV) (st : St) (Q : AV -> St -> Prop) : Prop := sq u st (fun P => Fv st P Q) fun _ P => Fv st P Q
def TM (u v : AV) (st : St) (Q : AV -> St -> Prop) : Prop := Fb u fun i => G5 st i fun P => Af (AP.one v) fun R => Af (P.app R) fun T => T.len <= 1000000 /\ Q .none ⟨st.loc, st.objs.set i (.lst T)⟩
def T6 (u v : AV) (st : St) (Q : AV -> St -> Prop) : Prop := Fb u fun i => G5 st i fun P => sq v st (fun R => Af (P.app R) fun T => T.len <= 1000000 /\ Q .none ⟨st.loc, st.objs.set i (.lst T)⟩)
 fun _ R => Af (P.app R) fun T => T.len <= 1000000 /\ Q .none ⟨st.loc, st.objs.set i (.lst T)⟩
section
variable {c : Cx} {st : St} {Q : AV -> St -> Prop} {u v : AV}
theorem N7 (h : T8 u v st Q) : J2 c CV (binaryOp .Add) u v st Q := by
 cases u
 case int x => exact Au h fun y q => .ii fun R => Gc (.at R q ⟨_, rfl⟩)
 case ref i =>
  refine CR h fun j h => DG h fun P e1 h => DG h fun P' e2 h => AJ h fun T e3 h => ?_
  intro ok os hh t l u v R c1 c2
  refine R.lst_c e1 c1 fun x vs _ a1 b1 _ => R.lst_c e2 c2 fun y us _ a2 b2 _ => ?_
  have r := AP.app_ok b1 b2 e3
  exact ak R.F a1 a2 (r.add h.1) fun e h' F' K' hn hv => Fo R F' K' hn hv r h.1 h.2
 case tup P =>
  refine KP h fun P' h => AJ h fun T e3 h => ?_
  intro ok os hh t l u v R c1 c2
  refine DQ c1 fun d vs a1 b1 _ => DQ c2 fun e us a2 b2 _ => ?_
  have r := AP.app_ok b1 b2 e3
  exact Z8 R.F a1 a2 (r.add h.1) (fun e => h.2.1 (by rw [<- AP.rel.len b2, e]; rfl)) fun e h' F' K' hv => .un (.grow K') (R.grow F' K') h.2.2 ⟨h.1, e, _, rfl, hv, r.kw K'.toKw⟩
 all_goals exact h.elim
theorem AP.rep_ok {h : Heap} {n : Nat} {P T : AP} {vs : List Value} (x : P.rel h vs) (e : P.rep n = some T) : T.rel h (List.replicate n vs).flatten := by
 cases P <;> cases e
 exact Nl x n
theorem Vp {op : Operator} (h : bb op u v st Q) : J2 c CV (binaryOp op) u v st Q := by
 cases op
 case Add => exact N7 h
 case Sub => exact Au h fun x h => Au h fun y h => .ii fun R => TZ (.at R h ⟨_, rfl⟩)
 case Mult =>
  refine CR h fun i h => Au h fun x h => DG h fun P e1 h => I5 (fun h0 h1 hz h => AJ h fun T e3 h => ?_) h
  intro ok os hh t l u v R c1 c2
  refine Cm c2 fun tk => R.lst_c e1 c1 fun x vs _ a1 b1 _ => ?_
  exact aG R.F a1 h0 h1 (by rw [AP.rel.len b1]; exact hz) fun e h' F' K' hn hv => Fo R F' K' hn hv (AP.rep_ok b1 e3) h.1 h.2
 all_goals exact h.elim
theorem Uv {op : Operator} (h : bF op u v st Q) : J2 c CV (inplaceOp op) u v st Q := by
 cases op
 case Add => exact Au h fun x h => Au h fun y h => .ii fun R => Wb (.at R h ⟨_, rfl⟩)
 case Sub => exact Au h fun x h => Au h fun y h => .ii fun R => Wo (.at R h ⟨_, rfl⟩)
 all_goals exact h.elim
noncomputable def xc {α : Type} (d : α) (nm : Str -> α) (tu ls : List Expr -> α) (sb : Expr -> Expr -> α) (ca : Expr -> List Expr -> List Keyword -> Pos -> α) (at_ : Expr -> Str -> Pos -> α) (sl : Option Expr -> Option Expr -> Option Expr -> α) (co : Const -> α) (e : Expr) : α := match e with
 | .Name x _ => nm x
 | .Tuple es _ _ => tu es
 | .List es _ => ls es
 | .Subscript a b _ => sb a b
 | .Call f a k p => ca f a k p
 | .Attribute o n p => at_ o n p
 | .Slice a b s _ => sl a b s
 | .Constant k _ _ => co k
 | _ => d
section
variable {α : Type} {P : α -> Prop} {C : Expr -> Prop} {d : α} {nm : Str -> α} {tu ls : List Expr -> α} {sb : Expr -> Expr -> α} {ca : Expr -> List Expr -> List Keyword -> Pos -> α} {at_ : Expr -> Str -> Pos -> α} {sl : Option Expr -> Option Expr -> Option Expr -> α} {co : Const -> α} {e : Expr}
theorem Jt (h : P (xc d nm tu ls sb ca at_ sl co e)) (hd : P d -> C e) (h1 : ∀ x p, P (nm x) -> C (.Name x p)) (h2 : ∀ x k p, P (tu x) -> C (.Tuple x k p)) (h3 : ∀ x p, P (ls x) -> C (.List x p)) (h4 : ∀ a b p, P (sb a b) -> C (.Subscript a b p)) (h5 : ∀ f a k p, P (ca f a k p) -> C (.Call f a k p))
  (h6 : ∀ o n p, P (at_ o n p) -> C (.Attribute o n p)) (h7 : ∀ a b s p, P (sl a b s) -> C (.Slice a b s p)) (h8 : ∀ k n p, P (co k) -> C (.Constant k n p)) : C e := by
 cases e
 case Name => exact h1 _ _ h
 case Tuple => exact h2 _ _ _ h
 case List => exact h3 _ _ h
 case Subscript => exact h4 _ _ _ h
 case Call => exact h5 _ _ _ _ h
 case Attribute => exact h6 _ _ _ h
 case Slice => exact h7 _ _ _ _ h
 case Constant => exact h8 _ _ _ h
 all_goals exact hd h
end
noncomputable def NR (e : Expr) : Option (Option Expr × Option Expr × Option Expr) := xc none (fun _ => none) (fun _ => none) (fun _ => none) (fun _ _ => none) (fun _ _ _ _ => none) (fun _ _ _ => none) (fun a b c => some (a, b, c)) (fun _ => none) e
noncomputable def E3 (i : Expr) : Bool := (NR i).isSome
theorem HF {i : Expr} (hi : E3 i = false) (d : Addr) (k : Value) : subscripted i false (.ref d) k = operate [.ref d, k] (getItem (.ref d) k) := by
 cases i
 case Slice => cases hi
 all_goals rfl
theorem Jq {k : Int} {n : Nat} (lo : -(n : Int) <= k) (hi : k < n) : AK k n < n := by unfold AK; split <;> omega
theorem We {o i : Expr} (hs : E3 i = false) (h : bW u v st Q) : J2 c CV (subscriptTail o i) u v st Q := by
 refine Au h fun k h => ?_
 intro ok os hh t l x y R cu cv
 refine Cm cv fun tk => ?_
 cases u
 case tok p => exact ZK (P := fun k => wpAny _ _ (subscriptTail o i x (.int k tk)) _ _ _) h (fun h => Mp (fun d => HF hs d _) cu fun tk => .at R h ⟨_, rfl⟩) fun h => Up (fun d => HF hs d _) cu fun tk => .at R h ⟨_, rfl⟩
 case tup P =>
  refine DQ cu fun d vs T r hz => ?_
  have hl := AP.rel.len r
  refine CY (fun a x e cv q => ?_) <| AP.item_ok (as := Av os) r (Jq h.1.1 h.1.2) h.2
  rw [<- hl] at e
  exact Wy T hz (by rw [hl]; exact h.1.1) (by rw [hl]; exact h.1.2) e (.at R q cv) (HF hs d _)
 case ref j =>
  refine DG h fun P e1 h => R.lst_c e1 cu fun x vs _ T r hz => ?_
  have hl := AP.rel.len r
  refine CY (fun a y e cv q => ?_) <| AP.item_ok (as := Av os) r (Jq h.1.1 h.1.2) h.2
  rw [<- hl] at e
  exact GO T hz (by rw [hl]; exact h.1.1) (by rw [hl]; exact h.1.2) e (.at R q cv) (HF hs _ _)
 case tup2 a b =>
  refine Kk cu fun d x y T ca cb => ?_
  exact ZK (P := fun k => wpAny _ _ (subscriptTail o i (.ref d) (.int k tk)) _ _ _) h (fun h => Wy T (Nat.le_add_left 2 999998) (by decide : -(2 : Int) <= 0) (by decide : (0 : Int) < 2) (v := x) rfl (.at R h ca) (HF hs d _))
   fun h => Wy T (Nat.le_add_left 2 999998) (by decide : -(2 : Int) <= 1) (by decide : (1 : Int) < 2) (v := y) rfl (.at R h cb) (HF hs d _)
 all_goals exact h.elim
theorem LJ {h : Heap} {as : List AA} {a : AV} {o : Option Int} {v : Value} (e : Pd a = some o) (cv : CV h as a v) : IsPart v o := by
 cases a
 case none => cases e; cases cv; exact .none
 case int i => cases e; revert cv; refine Ap fun u z0 => ?_; obtain rfl := z0; exact .int _ _
 all_goals cases e
theorem Uw {o : Expr} {a b : AV} {l r : Option Expr} {p : Pos} (h : bC u a b st Q) (ok : c.Ok) {os : Os} {hh : Heap} {t : Nat} {lo : A9} {x va vb : Value} {sl : Addr} (R : BD c st os hh lo) (cu : CV hh (Av os) u x) (ca : CV hh (Av os) a va) (cb : CV hh (Av os) b vb) (S : hh.IsSliceOf sl va vb .none) :
  wpAny (model c.prog c.w) c.A (subscriptTail o (.Slice l r none p) x (.ref sl)) (Ep c CV Q os hh) c.E (mk c.s hh t) := by
 refine AJ h fun x1 e1 h => AJ h fun x2 e2 h => ?_
 have p1 := LJ e1 ca
 have p2 := LJ e2 cb
 cases u
 case tup P =>
  refine DQ cu fun d vs T y hz => ?_
  have z := AP.sl_ok x1 x2 y
  exact bw R.F T hz S p1 p2 (fun e h' F K hv => .un (.grow K) (R.grow F K) h ⟨Nat.le_trans z.2 (AP.rel.len y ▸ hz), e, _, rfl, hv, z.1.kw K.toKw⟩)
 case ref j _ _ =>
  refine AJ h fun o e3 h => Dq (b := True) (eq_true h) (fun _ h => ?_) fun l e4 h4 => ?_
  ·refine AJ (of_eq_true h) fun P e4 h => ?_
   rw [Kd (C := fun o => o = .lst P) e4 rfl] at e3
   refine R.lst_c e3 cu fun x vs _ T y hz => ?_
   have z := AP.sl_ok x1 x2 y
   exact Zr R.F T hz S p1 p2 (fun e h' F K hn hv => Fo R F K hn hv z.1 (Nat.le_trans z.2 (AP.rel.len y ▸ hz)) h)
  ·cases o
   case ro l' =>
    cases e4
    refine Ap (fun x ex => ?_) <| R.at e3
    refine Ak (fun hz => Ah fun vs T y => ?_) <| R.ok _ (List.mem_of_getElem? ex)
    have T : Li hh x.a vs := Ap (fun n e => ⟨n, R.F.base _ _ e⟩) T
    have y : AP.rel hh (.ints l) vs := ReadsAll.kp (B := {}) (S := []) (D := []) (.of_keeps R.F.base) y
    rw [cu.at ex]
    have z := AP.sl_ok x1 x2 y
    exact Zr R.F T (by rw [AP.rel.len y]; exact hz) S p1 p2 (fun e h' F K hn hv => Fo R F K hn hv z.1 (Nat.le_trans z.2 hz) (of_eq_true h4))
   all_goals exact AG e4
 all_goals exact h.elim
theorem Ro {a b : AV} {r : List AV} (h : Xz a b r st Q) : JL c CV newTuple (a :: b :: r) st Q := by
 intro ok os hh t l xs R cvs
 cases r with
 | nil => exact Cu cvs fun x y ca cb => O6 R.F (fun d h' F K hn T => .un (.grow K) (R.grow F K) h ⟨d, x, y, rfl, T, ca.kw K.toKw (List.prefix_refl _), cb.kw K.toKw (List.prefix_refl _)⟩) (Nat.le_add_left 2 999998)
 | cons d r =>
  refine B4 h fun e h => ?_
  obtain rfl := List.isEmpty_iff.mp e
  exact Kb cvs fun x y z ca cb cc => O6 R.F (fun d h' F K hn T => .un (.grow K) (R.grow F K) h ⟨d, x, y, z, rfl, T, ca.kw K.toKw (List.prefix_refl _), cb.kw K.toKw (List.prefix_refl _), cc.kw K.toKw (List.prefix_refl _)⟩) (Nat.le_add_left 3 999997)
theorem Ls {us : List AV} {n : Prop} (h : Wt us st Q n) (hn : n -> JL c CV newTuple us st Q) : JL c CV newTuple us st Q := Dq (b := True) (eq_true h) (fun _ h => hn (of_eq_true h)) fun p e h => A2 e fun P e1 e2 => by
 revert e1; refine EI e2 fun e1 => ?_
 intro ok os hh t l xs R cvs
 have h := of_eq_true h
 have r := AP.ofs_ok cvs e1
 exact O6 R.F (fun d h' F K hn T => .un (.grow K) (R.grow F K) h.2 ⟨by rw [r.2]; exact h.1, d, xs, rfl, T, AP.rel.kw (P := .toks _) K.toKw r.1⟩) (by rw [cvs.len]; exact h.1)
theorem V5 {us : List AV} (h : bD us st Q) : JL c CV newTuple us st Q := by
 cases us with
 | nil => exact fun ok os hh t l xs R cvs => Ck cvs (O6 R.F (fun d h' F K hn T => .un (.grow K) (R.grow F K) h ⟨Nat.zero_le _, d, [], rfl, T, .nil⟩) (Nat.zero_le _))
 | cons a us =>
  cases us with
  | nil => exact Ls h False.elim
  | cons b r =>
   refine Dq (b := True) (eq_true h) (fun _ h => Ls (of_eq_true h) Ro) fun p e h4 => ?_
   refine Ak (fun e1 e => ?_) <| B0 e
   obtain rfl := List.isEmpty_iff.mp e1
   refine A2 e fun x ex e => CU e fun y ey z => Ie ex (Ie ey ?_)
   intro ok os hh t l xs R cvs
   refine Cu cvs fun x y ca cb => Cm ca fun _ => Cm cb fun _ => ?_
   rw [<- z] at h4
   exact Jj R.F fun d h' F K y => .un (.grow K) (R.grow F K) (of_eq_true h4) y
theorem Wh {nil : AP} (hn : nil.isNil = true) {us : List AV} (h : bE nil us st Q) : JL c CV newList us st Q := by
 intro ok os hh t l xs R cvs
 cases us with
 | nil =>
  have r := AP.nil_ok (h := hh) hn
  exact Ck cvs (HT R.F (fun d h' F K hn hv => Fo R F K hn hv r.1 (by rw [r.2]; exact Nat.zero_le _) h) (Nat.zero_le _))
 | cons a us =>
  refine AJ h fun P e h => ?_
  have r := AP.ofs_ok cvs e
  exact HT R.F (fun d h' F K hn hv => Fo R F K hn hv r.1 (by rw [r.2]; exact h.1) h.2) (by rw [cvs.len]; exact h.1)
theorem Pu (h : Tg u st Q) : JL c CV (cl (.builtin "len")) [u] st Q := by
 refine Px h (fun P h => ?_) fun i P e h => ?_
 ·exact fun ok os hh t l xs R cvs => B8 cvs fun v cv => DQ cv fun d vs T y hz => Zc T hz fun tk t' => .un (.refl hh) R h ⟨tk, by rw [AP.rel.len y]⟩
 ·exact fun ok os hh t l xs R cvs => B8 cvs fun v cv => R.lst_c e cv fun x vs _ T y hz => Jx T hz fun tk t' => .un (.refl hh) R h ⟨tk, by rw [AP.rel.len y]⟩
theorem P6 (h : Ti u st Q) : JL c CV (cl (.type "tuple")) [u] st Q := by
 refine Px h (fun P h => ?_) fun i P e h => ?_
 ·exact fun ok os hh t l xs R cvs => B8 cvs fun v cv => DQ cv fun d vs T y hz => ZG T (.at R h ⟨AP.rel.len y ▸ hz, d, vs, rfl, T, y⟩)
 ·exact fun ok os hh t l xs R cvs => B8 cvs fun v cv => R.lst_c e cv fun x vs _ T y hz => Vw R.F T hz fun e h' F K hv => .un (.grow K) (R.grow F K) h ⟨AP.rel.len y ▸ hz, e, vs, rfl, hv, y.kw K.toKw⟩
theorem Mm (h : Oe u st Q) : JL c CV (cl (.type "list")) [u] st Q := by
 refine Px h (fun P h => ?_) fun i P e h => ?_
 ·exact fun ok os hh t l xs R cvs => B8 cvs fun v cv => DQ cv fun d vs T y hz => aZ R.F T hz fun e h' F K hn hv => Fo R F K hn hv y (AP.rel.len y ▸ hz) h
 ·exact fun ok os hh t l xs R cvs => B8 cvs fun v cv => R.lst_c e cv fun x vs _ T y hz => YQ R.F T hz fun e h' F K hn hv => Fo R F K hn hv y (AP.rel.len y ▸ hz) h
theorem Pe (h : TM u v st Q) : J2 c CV (fun x y => call (.builtin "list.append") [x, y]) u v st Q := by
 refine CR h fun i h => DG h fun P e1 h => AJ h fun P' e2 h => AJ h fun T e3 h => ?_
 intro ok os hh t l u v R c1 c2
 refine R.lst_c e1 c1 fun x vs ex a1 b1 _ => ?_
 have r := AP.app_ok b1 (AP.one_ok c2 e2) e3
 exact Nu R.F (R.wr _ (List.mem_of_getElem? ex) _ (.head _)) a1 (Nat.le_of_succ_le (r.add h.1)) fun h' F K hv => VS R ex F K hv r h.1 h.2 rfl
theorem Na (h : T6 u v st Q) : J2 c CV (fun x y => call (.builtin "list.extend") [x, y]) u v st Q := by
 refine CR h fun i h => DG h fun P e1 h => Px h (fun P' h => AJ h fun T e3 h => ?_) fun j P' e2 h => AJ h fun T e3 h => ?_
 ·intro ok os hh t l u v R c1 c2
  refine R.lst_c e1 c1 fun x vs ex a1 b1 _ => DQ c2 fun d us a2 b2 _ => ?_
  have r := AP.app_ok b1 b2 e3
  exact YC R.F (R.wr _ (List.mem_of_getElem? ex) _ (.head _)) a1 a2 (r.add h.1) fun h' F K hv => VS R ex F K hv r h.1 h.2 rfl
 ·intro ok os hh t l u v R c1 c2
  refine R.lst_c e1 c1 fun x vs ex a1 b1 _ => R.lst_c e2 c2 fun y us _ a2 b2 _ => ?_
  have r := AP.app_ok b1 b2 e3
  exact ZF R.F (R.wr _ (List.mem_of_getElem? ex) _ (.head _)) a1 a2 (r.add h.1) fun h' F K hv => VS R ex F K hv r h.1 h.2 rfl
end
theorem BD.adsLe {c : Cx} {st : St} {os : Os} {h : Heap} {l : A9} (R : BD c st os h l) : c.ads.length <= os.length := by
 have := R.pre.length_le
 unfold Av at this
 rwa [List.length_map] at this
section
variable {c : Cx} {st : St} {Q : Fl -> St -> Prop} {rest : List Stmt} {pos p : Pos}
theorem KC {x : Str} {a : AV} {v : Value} {os os0 : Os} {h h0 : Heap} {t : Nat} {l : A9} {Q : Fl -> St -> Prop} (ok : c.Ok) (R : BD c st os h l) (cv : CV h (Av os) a v) (hx : G1 x st.loc = true) (e : Ex c os0 os h0 h) (k : AS c rest ⟨HR x a st.loc, st.objs⟩ Q) :
  wpAny (model c.prog c.w) c.A (storeName c.env x v) (fun _ s₂ => wpAny (model c.prog c.w) c.A (execs rest c.env) (Ep c QF Q os0 h0) c.E s₂) c.E (mk c.s h t) := by
 refine Ah (fun m' s lo => ?_) <| BJ.put cv hx R.loc
 exact Sn ok.he R.F s fun h2 t2 F2 K2 => k.to ok (R.store F2 K2 lo) (e.trans (.store K2))
def PX (c : Cx) (rest : List Stmt) (Q : Fl -> St -> Prop) : Fl -> St -> Prop
 | .next, st => AS c rest st Q
 | .ret v, st => Q (.ret v) st
theorem PX.on {fl : Fl} {f : Flow} {os os0 : Os} {h h0 : Heap} {t : Nat} {l : A9} (ok : c.Ok) (R : BD c st os h l) (r : QF h (Av os) fl f) (e : Ex c os0 os h0 h) (q : PX c rest Q fl st) : QD (model c.prog c.w) c.A c.env rest (Ep c QF Q os0 h0) c.E f (mk c.s h t) := by
 cases fl with
 | next => cases r; exact (show AS c rest st Q from q).to ok R e
 | ret v => revert r; refine Ah fun x z0 cv => ?_; obtain rfl := z0; exact .un e R q ⟨x, rfl, cv⟩
theorem AS.ite {test : Expr} {X Y : List Stmt} (k : AT c test st fun b st1 => AS c (if b then X else Y) st1 (PX c rest Q)) : AS c (.If test X Y pos :: rest) st Q := fun ok os h t l R =>
 QZ (Jd.on k ok R fun b st1 os1 h1 t1 l1 x e1 R1 eb k1 => by
  cases eb
  exact Jd.on k1 ok R1 fun fl st2 os2 h2 t2 l2 f e2 R2 r q => PX.on ok R2 r (e1.trans e2) q)
theorem AS.raise (e : Aa) {X m : Str} {np cp : Pos} {k : Nat} (he : e.cls = X) (q : c.EX e) (hn : 2 <= c.n) (hX : X ∈ Pn) (hx : c.sc.names.lookup X = some .globalImplicit) (hd : (X == ("__debug__" : Str)) = false) :
  AS c (.Raise (some (.Call (.Name X np) [.Constant (.str m) k p] [] cp)) none pos :: rest) st Q := fun ok os h t l R =>
 Ub (hE := rfl) ok.W ok.he ok.hf ok.hA R.F hn hX hx hd ⟨e, q, by rw [he]⟩
def wN (jt : St -> (St -> Prop) -> (St -> Prop) -> Prop) (jb : St -> (Fl -> St -> Prop) -> Prop) (KR : AV -> St -> Prop) (K : St -> Prop) : Nat -> St -> Prop
 | 0, _ => False
 | n + 1, st => jt st (fun st1 => jb st1 fun fl st2 => match fl with
  | .next => wN jt jb KR K n (gc st.objs.length st2)
  | .ret v => KR v st2) K
theorem AS.whl {test : Expr} {body : List Stmt} {jt : St -> (St -> Prop) -> (St -> Prop) -> Prop} {jb : St -> (Fl -> St -> Prop) -> Prop} {KR : AV -> St -> Prop} {K : St -> Prop} (ht : ∀ st KT KF, jt st KT KF -> AT c test st fun b st1 => bif b then KT st1 else KF st1) (hb : ∀ st Q, jb st Q -> AS c body st Q)
  (hK : ∀ st, K st -> AS c rest st Q) (hR : ∀ v st, KR v st -> Q (.ret v) st) {N : Nat} (k : wN jt jb KR K N st) : AS c (.While test body [] pos :: rest) st Q := fun ok os h t l R => by
 refine Qz (Wm (tb := false) (Cs := Jm c.ad c.EX) (S₀ := c.S₀) (s := c.s) ok.he.scope ok.hf ok.hA R.F.fe (fun m s₁ => ∃ st1 os1 h₁ t₁ l₁, s₁ = mk c.s h₁ t₁ /\ BD c st1 os1 h₁ l₁ /\ Ex c os os1 h h₁ /\ wN jt jb KR K m st1) (fun m s₁ hI => ?_) N ⟨st, os, h, t, l, rfl, R, .refl h, k⟩)
 revert hI; refine EK fun st1 os1 h₁ t₁ l₁ z0 => ?_; revert z0; refine I5 fun z1 R1 e1 k1 => ?_; obtain rfl := z1
 cases m with
 | zero => exact k1.elim
 | succ m =>
  refine Jd.on (ht _ _ _ k1) ok R1 fun b st2 os2 h2 t2 l2 x e2 R2 eb kk => ?_
  cases eb
  cases b with
  | false => exact (hK _ kk).to ok R2 (e1.trans e2)
  | true =>
   refine Jd.on (hb _ _ kk) ok R2 fun fl st3 os3 h3 t3 l3 f e3 R3 r q => ?_
   cases fl with
   | next =>
    cases r
    have ll : st1.objs.length = os1.length := by rw [R1.eq, List.length_map]
    refine Dx m (Nat.lt_succ_self m) ⟨_, os3.take os1.length, h3, t3, l3, rfl, R3.gc _ R1.adsLe, e1.trans (e2.trans e3).gc, ?_⟩
    rw [<- ll]; exact q
   | ret v =>
    revert r; refine Ah fun x z0 cv => ?_; obtain rfl := z0
    exact .un (e1.trans (e2.trans e3)) R3 (hR _ _ q) ⟨x, rfl, cv⟩
theorem Jo {h : Heap} {a b : Addr} {o : Obj} {es ep} (e : h.get? a = some o) (d : o.data = .dict es ep) (f : GH h b) : a ≠ b := fun q => by
 revert f; refine ET fun o' vs e' d' => ?_
 rw [q, e'] at e; cases e; rw [d] at d'; cases d'
theorem Ob.neD {h : Heap} {x dx C b : Addr} {m : Str -> Option Value} (o : Ob h x dx C m) (f : GH h b) : dx ≠ b := by
 refine DK (fun o' es ep e d _ => ?_) o.dic
 exact Jo e d f
theorem Hg.neF {B : Heap} {ad : Str -> Addr} {h : Heap} {ia : Addr} (f : GH h ia) : ∀ {p : PO}, Hg B ad h p -> ∀ x ∈ DL p, x ≠ ia
 | (y, .lst P), ⟨_, vs, a, _⟩, x, m => by obtain rfl := List.mem_singleton.mp m; exact a.neF f
 | (a, .feed ps outs), y, x, m => by
  refine ET (fun _ _ O _ => ?_) y.ob
  refine Ah (fun _ li _ => ?_) y.li
  rcases List.mem_cons.mp m with rfl | m
  ·exact O.neF f
  rcases List.mem_cons.mp m with rfl | m
  ·exact O.neD f
  obtain rfl := List.mem_singleton.mp m
  exact li.neF f
 | (a, .mac _), ⟨y, _⟩, x, m => by
  refine EK (fun _ _ _ _ _ z0 => ?_) y.ob
  have O := z0.O
  rcases List.mem_cons.mp m with rfl | m
  ·exact O.neF f
  obtain rfl := List.mem_singleton.mp m
  exact O.neD f
 | (a, .src _), y, x, m => by
  revert y; refine EK fun _ _ _ _ _ z0 => ?_; revert z0; refine Ah fun _ li _ => ?_
  obtain rfl := List.mem_singleton.mp m
  exact li.neF f
 | (a, .ro _), y, x, m => nomatch m
 | (a, .cel), y, x, m => by
  obtain rfl := List.mem_singleton.mp m
  revert y; refine Ah fun o e d => ?_
  revert f; refine ET fun o' vs e' d' => ?_
  intro q; rw [q, e'] at e; cases e; rw [d] at d'; cases d'
noncomputable def Cg : AP -> List AV
 | .toks l => l.map .tok
 | .tts l => l.map fun r => .tup (.toks r)
 | .ints l => l.map .int
 | .strs l => l.map .str
theorem GT : ∀ P : AP, (Cg P).length = P.len
 | .toks _ => List.length_map ..
 | .tts _ => List.length_map ..
 | .ints _ => List.length_map ..
 | .strs _ => List.length_map ..
theorem KK {h : Heap} {as : List AA} {P : AP} {vs : List Value} {i : Nat} {v : Value} (x : P.rel h vs) (e : vs[i]? = some v) : ∃ a, (Cg P)[i]? = some a /\ CV h as a v := by
 have hi : i < P.len := by rw [<- AP.rel.len x]; exact (List.getElem?_eq_some_iff.mp e).1
 obtain ⟨a, v', e', cv, q⟩ := AP.item_ok (as := as) (j := i) (k := fun a => (Cg P)[i]? = some a) x hi (by
  cases P
  all_goals
   intro p ep
   simp only [Cg, List.getElem?_map, ep, Option.map_some])
 rw [e] at e'; cases e'
 exact Dx a q cv
def chk (o : Option (Nat × AP)) (st : St) (k : Prop) : Prop := match o with
 | none => k
 | some (j, P) => H7 st.objs[j]? = some P /\ k
def FW (jb : St -> (Fl -> St -> Prop) -> Prop) (x : Str) (o : Option (Nat × AP)) (KR : AV -> St -> Prop) (K : St -> Prop) (vs : List AV) : St -> Prop := vs.rec K fun v _ ih st => bif G1 x st.loc then jb ⟨HR x v st.loc, st.objs⟩ (fun fl st2 => match fl with
  | .next => chk o st2 (ih (gc st.objs.length st2))
  | .ret w => KR w st2) else False
def F2 (jb : St -> (Fl -> St -> Prop) -> Prop) (x y : Str) (o : Option (Nat × AP)) (KR : AV -> St -> Prop) (K : St -> Prop) (i : Nat) (vs : List AV) : St -> Prop := vs.rec (fun _ => K) (fun v _ ih i st => bif G1 x st.loc && G1 y st.loc then jb ⟨HR y v (HR x (.int i) st.loc), st.objs⟩ (fun fl st2 => match fl with
  | .next => chk o st2 (ih (i + 1) (gc st.objs.length st2))
  | .ret w => KR w st2) else False) i
theorem Jh {ias : List Addr} {h h' : Heap} (f : ∀ a ∈ ias, GH h a) (hk : ∀ b o, b ∉ ias -> h.get? b = some o -> h'.get? b = some o) : Kw ias [] h h' := by
 have ne : ∀ {b o}, h.get? b = some o -> (∀ vs, o.data ≠ .fields vs) -> b ∉ ias := fun {b o} e q m => by
  refine ET (fun o' vs e' d => ?_) <| f b m
  rw [e'] at e; cases e; exact q _ d
 exact ⟨fun b o vs n e _ d => hk b o (ne e fun vs q => by rw [d] at q; cases q) e, fun b o e n _ => hk b o n e, fun b o es ep e d _ => ⟨o.slots, hk b o (ne e fun vs q => by rw [d] at q; cases q) e⟩⟩
theorem BD.ias {os : Os} {h h' : Heap} {l : A9} {ias : List Addr} (R : BD c st os h l) (f : ∀ a ∈ ias, GH h a) (hk : ∀ b o, b ∉ ias -> h.get? b = some o -> h'.get? b = some o) (hn : ∀ a ∈ ias, c.h₀.get? a = none /\ c.B.get? a = none) : BD c st os h' l := by
 have kn := Jh f hk
 refine ⟨R.F.thenBut hk fun a m => ⟨(hn a m).1, (hn a m).2, fun q => ?_⟩, R.eq, R.loc.kw kn (List.prefix_refl _), fun p m => (R.ok p m).kw kn (fun x hx m' => (R.ok p m).neF (f x m') x hx rfl) (fun _ _ => AD), R.dis, R.wr, R.dL, R.pre⟩
 refine DK (fun oo es ep e' d _ => ?_) R.F.ns
 exact Jo e' d (f a m) q.symm
theorem Ex.ias {os os' : Os} {h h' h'' : Heap} {ias : List Addr} (e : Ex c os os' h h') (hk : ∀ b o, b ∉ ias -> h'.get? b = some o -> h''.get? b = some o) (hn : ∀ a ∈ ias, h.get? a = none /\ c.B.get? a = none) : Ex c os os' h h'' :=
 ⟨e.kp.thenBut hk hn, e.kind, e.new, e.pre⟩
theorem BD.ia {os : Os} {h h' : Heap} {l : A9} {ia : Addr} (R : BD c st os h l) (f : GH h ia) (hk : ∀ b o, b ∉ [ia] -> h.get? b = some o -> h'.get? b = some o) (h1 : c.h₀.get? ia = none) (h2 : c.B.get? ia = none) : BD c st os h' l :=
 R.ias (Ac f) hk (Ac ⟨h1, h2⟩)
theorem Ex.ia {os os' : Os} {h h' h'' : Heap} {ia : Addr} (e : Ex c os os' h h') (hk : ∀ b o, b ∉ [ia] -> h'.get? b = some o -> h''.get? b = some o) (hn : h.get? ia = none) (hB : c.B.get? ia = none) : Ex c os os' h h'' :=
 e.ias hk (Ac ⟨hn, hB⟩)
theorem Ve {x : Str} {tp : Pos} {body : List Stmt} {ia : Addr} {items : List AV} {o : Option (Nat × AP)} {KR : AV -> St -> Prop} {K : St -> Prop} {jb : St -> (Fl -> St -> Prop) -> Prop} (ok : c.Ok) {os os0 : Os} {h h0 : Heap} {t : Nat} {l : A9} (R : BD c st os h l) (e0 : Ex c os0 os h0 h) (hn : h0.get? ia = none) (hB : c.B.get? ia = none) (hh : c.h₀.get? ia = none)
  (It : Nat -> Os -> Heap -> Prop) (hF : ∀ i os h, It i os h -> GH h ia)
  (next : ∀ i st os h t l, i < items.length -> BD c st os h l -> It i os h -> wpAny (model c.prog c.w) c.A (pyNext (.ref ia)) (fun ov s₂ => ∃ a v h' t', ov = some v /\ s₂ = mk c.s h' t' /\ items[i]? = some a /\ CV h' (Av os) a v /\ It (i + 1) os h' /\ ∀ b o, b ∉ [ia] -> h.get? b = some o -> h'.get? b = some o) (fun _ _ => False) (mk c.s h t))
  (fin : ∀ st os h t l, BD c st os h l -> It items.length os h -> wpAny (model c.prog c.w) c.A (pyNext (.ref ia)) (fun ov s₂ => ∃ h' t', ov = none /\ s₂ = mk c.s h' t' /\ ∀ b o, b ∉ [ia] -> h.get? b = some o -> h'.get? b = some o) (fun _ _ => False) (mk c.s h t))
  (keep : ∀ i st os st2 os2 h h2 l l2, BD c st os h l -> It i os h -> Ex c os os2 h h2 -> BD c st2 os2 h2 l2 -> (∀ b ∈ DT os, b ≠ ia) -> (∀ j P, o = some (j, P) -> H7 st2.objs[j]? = some P) -> It i (os2.take os.length) h2)
  (i0 : It 0 os h) (hb : ∀ st Q, jb st Q -> AS c body st Q) (hK : ∀ st, K st -> AS c rest st Q) (hR : ∀ v st, KR v st -> Q (.ret v) st)
  (k : FW jb x o KR K items st) :
  wpAny (model c.prog c.w) c.A (runOwn (.forLoop (.Name x tp) (.ref ia) body [] c.env) c.env) (QD (model c.prog c.w) c.A c.env rest (Ep c QF Q os0 h0) c.E) c.E (mk c.s h t) := by
 refine HH (Cs := Jm c.ad c.EX) (S₀ := c.S₀) (s := c.s) ok.he.scope ok.hf ok.hA R.F.fe items.length (fun i s₁ => ∃ st1 os1 h₁ t₁ l₁, s₁ = mk c.s h₁ t₁ /\ BD c st1 os1 h₁ l₁ /\ Ex c os0 os1 h0 h₁ /\ It i os1 h₁ /\ FW jb x o KR K (items.drop i) st1) (fun i s₁ hi hI => ?_) (fun s₁ hI => ?_) ⟨st, os, h, t, l, rfl, R, e0, i0, k⟩
 ·revert hI; refine EK fun st1 os1 h₁ t₁ l₁ z0 => ?_; revert z0; refine Ju fun z1 R1 e1 I1 k1 => ?_; obtain rfl := z1
  refine wpAny_mono (next i st1 os1 h₁ t₁ l₁ hi R1 I1) (fun ov s₂ hx => ?_) fun _ _ x => x.elim
  revert hx; refine Mv fun a v h₂ t₂ z0 z1 => ?_; obtain rfl := z0; revert z1; refine Ju fun z2 ea cv I2 hk => ?_; obtain rfl := z2
  have R2 := R1.ia (hF _ _ _ I1) hk hh hB
  have e2 := e1.ia hk hn hB
  refine Dx v rfl ?_
  rw [show letOwnedTupleGo (.Name x tp) (.ref ia) v = pure () from rfl]
  refine wpAny_pure ?_
  rw [List.drop_eq_getElem_cons hi] at k1
  have ea' : items[i] = a := by rw [List.getElem?_eq_getElem hi] at ea; exact Option.some.inj ea
  rw [ea'] at k1
  refine Ak (fun hx k2 => ?_) <| CL k1
  refine Ah (fun m' s lo => ?_) <| BJ.put cv hx R2.loc
  refine Dj ok.he R2.F s fun h₃ t₃ F₃ K₃ => ?_
  have R3 := R2.store F₃ K₃ lo
  refine Jd.on (hb _ _ k2) ok R3 fun fl st4 os4 h4 t4 l4 f e4 R4 r q => ?_
  have e24 : Ex c os1 os4 h₂ h4 := Ex.trans (.store K₃) e4
  cases fl with
  | next =>
   cases r
   have ll : st1.objs.length = os1.length := by rw [R1.eq, List.length_map]
   have hw : ∀ b ∈ DT os1, b ≠ ia := fun b m => by
    refine Ah (fun p mp hx => ?_) <| List.mem_flatMap.mp m
    exact (R1.ok p mp).neF (hF _ _ _ I1) b (Cb hx)
   refine Qs _ (os4.take os1.length) h4 t4 l4 ⟨rfl, R4.gc _ R1.adsLe, e2.trans e24.gc, keep _ _ os1 st4 os4 h₂ h4 _ l4 R2 I2 e24 R4 hw fun j P e => ?_, ?_⟩
   ·subst e; exact q.1
   ·rw [<- ll]
    revert q
    cases o with
    | none => exact id
    | some jp => exact fun q => q.2
  | ret w =>
   revert r; refine Ah fun y z0 cv => ?_; obtain rfl := z0
   exact .un (e2.trans e24) R4 (hR _ _ q) ⟨y, rfl, cv⟩
 ·revert hI; refine EK fun st1 os1 h₁ t₁ l₁ z0 => ?_; revert z0; refine Ju fun z1 R1 e1 I1 k1 => ?_; obtain rfl := z1
  refine wpAny_mono (fin st1 os1 h₁ t₁ l₁ R1 I1) (fun ov s₂ hx => ?_) fun _ _ x => x.elim
  revert hx; refine CY fun h₂ t₂ z0 z1 hk => ?_; obtain rfl := z0; obtain rfl := z1
  rw [List.drop_length] at k1
  exact ⟨rfl, (hK _ k1).to ok (R1.ia (hF _ _ _ I1) hk hh hB) (e1.ia hk hn hB)⟩
def Vr (c : Cx) (x : Str) (tp : Pos) (body rest : List Stmt) (Q : Fl -> St -> Prop) (os0 : Os) (h0 : Heap) : Value -> Shared -> Prop := fun it s₂ => wpAny (model c.prog c.w) c.A (runOwn (.forLoop (.Name x tp) it body [] c.env) c.env) (QD (model c.prog c.w) c.A c.env rest (Ep c QF Q os0 h0) c.E) c.E s₂
section
variable {x : Str} {tp : Pos} {body : List Stmt} {KR : AV -> St -> Prop} {K : St -> Prop} {jb : St -> (Fl -> St -> Prop) -> Prop} {os os0 : Os} {h h0 : Heap} {t : Nat} {l : A9} {P : AP} {v : Value} {j : Nat}
theorem aw (ok : c.Ok) (R : BD c st os h l) (e0 : Ex c os0 os h0 h) (cv : CV h (Av os) (.tup P) v) (hb : ∀ st Q, jb st Q -> AS c body st Q) (hK : ∀ st, K st -> AS c rest st Q) (hR : ∀ v st, KR v st -> Q (.ret v) st) (k : FW jb x none KR K (Cg P) st) :
  wpAny (model c.prog c.w) c.A (pyIter v) (Vr c x tp body rest Q os0 h0) c.E (mk c.s h t) := by
 revert cv; refine Ak fun hz z0 => ?_; revert z0; refine CY fun d vs z1 T r => ?_; obtain rfl := z1
 have hl := AP.rel.len r
 have il := GT P
 refine U5 ok.hA.handled R.F T fun ia h' F' K' hia hI i0 => ?_
 refine Ve ok (R.grow F' K') (e0.trans (.grow K')) (e0.kp.alive hia) (BT R.F hia) (R.F.kp.alive hia) (fun i os h => (h.IsTupleIter ia d i /\ Tu h d vs) /\ P.rel h vs) (fun i os h z => Es z.1.1) (fun i st os h t l hi R z => ?_) (fun st os h t l R z => ?_) (fun i st os st2 os2 h h2 l l2 R z e R2 hw _ => ⟨(hI c.s).keep _ _ _ _ _ _ z.1 e.kp (Ac fun m => hw _ m rfl) AH, z.2.kw e.kp.toKw⟩) ⟨i0, r.kw K'.toKw⟩ hb hK hR k
 ·refine wpAny_mono ((hI c.s).next i h t (by omega) z.1) (fun ov s₂ hx => ?_) fun _ _ x => x
  revert hx; refine DK fun v h' t' a b z0 => ?_; revert z0; refine C9 fun e I hk => ?_
  have z2 := AP.rel.kw (C7 (Es z.1.1) hk) z.2
  refine Ah (fun u e1 e2 => ?_) <| KK (as := Av os) z2 e
  exact QE u v h' t' a ⟨b, e1, e2, ⟨I, z2⟩, hk⟩
 ·rw [il, <- hl] at z; exact (hI c.s).fin h t z.1
theorem Y2 {prog : Program} {w : World} {A : Around} {s : Shared} {h : Heap} {t : Nat} {ia d : Addr} {i : Nat} {vs : List Value} (hit : h.IsListIter ia d i) (hd : Li h d vs) (hi : i < vs.length) :
  wpAny (model prog w) A (pyNext (.ref ia)) (fun ov s₂ => ∃ h', ov = some vs[i] /\ s₂ = mk s h' t /\ h'.IsListIter ia d (i + 1) /\ Li h' d vs /\ ∀ b o, b ∉ [ia] -> h.get? b = some o -> h'.get? b = some o) (fun _ _ => False) (mk s h t) := by
 have hx : vs.toArray[i]? = some vs[i] := by simp [hi]
 refine wpAny_pyNext_list_item (s := mk s h t) hit hd.isList hx fun h' hit' hs => ?_
 refine bx h' rfl rfl hit' ?_ (fun b o hb e => (hs.2 b fun q => hb (q ▸ .head _)).trans e)
 refine Ap (fun n e => ?_) <| id hd
 revert hit; refine FR fun o e' c' _ => ?_
 have e2 : h.get? ia = some o := e'
 have hne : d ≠ ia := fun q => by rw [q, e2] at e; cases e; exact absurd (show Value.type "list" = Value.type "list_iterator" from c') (by decide)
 exact ⟨n, (hs.2 d hne).trans e⟩
theorem Zd (ok : c.Ok) (R : BD c st os h l) (e0 : Ex c os0 os h0 h) (cv : CV h (Av os) (.ref j) v) (ej : st.objs[j]? = some (.lst P)) (hb : ∀ st Q, jb st Q -> AS c body st Q) (hK : ∀ st, K st -> AS c rest st Q) (hR : ∀ v st, KR v st -> Q (.ret v) st) (k : FW jb x (some (j, P)) KR K (Cg P) st) :
  wpAny (model c.prog c.w) c.A (pyIter v) (Vr c x tp body rest Q os0 h0) c.E (mk c.s h t) := by
 refine Eo (fun y vs ey z0 T z1 => ?_) <| R.lst ej cv; obtain rfl := z0; revert z1; refine C9 fun r hz hl => ?_
 have il := GT P
 refine V2 ok.hA.handled R.F T fun ia h' F' K' hia hI i0 => ?_
 refine Ve ok (R.grow F' K') (e0.trans (.grow K')) (e0.kp.alive hia) (BT R.F hia) (R.F.kp.alive hia) (fun i os h => os[j]? = some (y, .lst P) /\ h.IsListIter ia y.a i /\ ∃ vs, Li h y.a vs /\ P.rel h vs) (fun i os h z => DV z.2.1) (fun i st os h t l hi R z => ?_) (fun st os h t l R z => ?_) (fun i st os st2 os2 h h2 l l2 R z e R2 hw hc => ?_) ⟨ey, i0.1, vs, i0.2, r.kw K'.toKw⟩ hb hK hR k
 ·revert z; refine C9 fun ey hit z0 => ?_; revert z0; refine Ah fun vs hd r => ?_
  have hl := AP.rel.len r
  have hi' : i < vs.length := by omega
  refine wpAny_mono (Y2 hit hd hi') (fun ov s₂ hx => ?_) fun _ _ x => x
  revert hx; refine HS fun h' a b I hd' hk => ?_
  have z2 := AP.rel.kw (C7 (DV hit) hk) r
  refine Ah (fun u e1 e2 => ?_) <| KK (as := Av os) z2 (List.getElem?_eq_getElem hi')
  exact QE u _ h' t a ⟨b, e1, e2, ⟨ey, I, vs, hd', z2⟩, hk⟩
 ·revert z; refine C9 fun ey hit z0 => ?_; revert z0; refine Ah fun vs hd r => ?_
  have hl := AP.rel.len r
  exact wpAny_pyNext_list_end (s := mk c.s h t) ok.hA.handled hit hd.isList (by simp; omega) fun h' hs => ⟨h', t, rfl, rfl, fun b o hb e => hs b o (fun q => hb (q ▸ .head _)) e⟩
 ·revert z; refine C9 fun ey z0 z1 => ?_; revert z0; refine FR fun o eo c1 c2 => ?_; revert z1; refine Ah fun vs hd r => ?_
  have e2 := hc j P rfl
  have e3 : st2.objs[j]? = some (.lst P) := Iv e2
  refine Ap (fun y2 ey2 => ?_) <| R2.at e3
  have e4 := Cc e.pre (Fi ey)
  rw [Fi ey2] at e4; cases e4
  refine Ak (fun _ z0 => ?_) <| R2.ok _ (List.mem_of_getElem? ey2); revert z0; refine Ah fun us a b => ?_
  refine J6 (by rw [List.getElem?_take_of_lt (List.getElem?_eq_some_iff.mp ey).1]; exact ey2) ⟨o, EN e.kp eo c2 (fun m => hw _ m rfl), c1, c2⟩ ⟨us, a, b⟩
noncomputable def Aw : Int -> Nat -> List Int
 | _, 0 => []
 | a, n + 1 => a :: Aw (a + 1) n
theorem Gn : ∀ (n : Nat) (a : Int), (Aw a n).length = n
 | 0, _ => rfl
 | n + 1, a => congrArg (· + 1) (Gn n (a + 1))
theorem Hu : ∀ (n : Nat) (a : Int) (i : Nat), i < n -> (Aw a n)[i]? = some (a + i)
 | n + 1, a, 0, _ => by show some a = _; congr 1; omega
 | n + 1, a, i + 1, h => by
  show (Aw (a + 1) n)[i]? = _
  rw [Hu n (a + 1) i (by omega)]; congr 1; omega
theorem XA {a b : Int} {d : Addr} (ok : c.Ok) (R : BD c st os h l) (e0 : Ex c os0 os h0 h) (rg : L9 h d a b) (ha : -1000000 <= a /\ a <= 1000000) (hb' : -1000000 <= b /\ b <= 1000000) (hb : ∀ st Q, jb st Q -> AS c body st Q) (hK : ∀ st, K st -> AS c rest st Q) (hR : ∀ v st, KR v st -> Q (.ret v) st) (k : FW jb x none KR K (Cg (.ints (Aw a (b - a).toNat))) st) :
  wpAny (model c.prog c.w) c.A (pyIter (.ref d)) (Vr c x tp body rest Q os0 h0) c.E (mk c.s h t) := by
 have il : (Cg (.ints (Aw a (b - a).toNat))).length = (b - a).toNat := (GT _).trans (Gn ..)
 refine U0 ok.hA.handled R.F rg ha hb' fun ia h' F' K' hia hI i0 => ?_
 refine Ve ok (R.grow F' K') (e0.trans (.grow K')) (e0.kp.alive hia) (BT R.F hia) (R.F.kp.alive hia) (fun i os h => IsRangeIter h ia (a + i) ((b - a).toNat - i) 1) (fun i os h z => Gi z) (fun i st os h t l hi R z => ?_) (fun st os h t l R z => ?_) (fun i st os st2 os2 h h2 l l2 R z e R2 hw _ => (hI c.s).keep _ _ _ _ _ _ z e.kp (Ac fun m => hw _ m rfl) AH) i0 hb hK hR k
 ·rw [il] at hi
  refine wpAny_mono ((hI c.s).next i h t hi z) (fun ov s₂ hx => ?_) fun _ _ x => x
  revert hx; refine DK fun v h' t' e1 e2 z0 => ?_; revert z0; refine C9 fun z1 I hk => ?_; revert z1; refine Ap fun tk e => ?_
  subst e
  refine QE (.int (a + i)) _ h' t' e1 ⟨e2, ?_, ⟨tk, rfl⟩, I, hk⟩
  show (List.map AV.int _)[i]? = _
  rw [List.getElem?_map, Hu _ _ _ hi]; rfl
 ·rw [il] at z; exact (hI c.s).fin h t z
theorem Zf {y : Str} {xp yp : Pos} {kk} (ok : c.Ok) (R : BD c st os h l) (e0 : Ex c os0 os h0 h) (ej : st.objs[j]? = some (.lst P)) (cv : CV h (Av os) (.ref j) v) (hb : ∀ st Q, jb st Q -> AS c body st Q) (hK : ∀ st, K st -> AS c rest st Q) (hR : ∀ v st, KR v st -> Q (.ret v) st) (k : F2 jb x y (some (j, P)) KR K 0 (Cg P) st) :
  wpAny (model c.prog c.w) c.A (call (.type "enumerate") [v]) (fun w s₁ => wpAny (model c.prog c.w) c.A (pyIter w) (fun it s₂ => wpAny (model c.prog c.w) c.A (runOwn (.forLoop (.Tuple [.Name x xp, .Name y yp] kk tp) it body [] c.env) c.env) (QD (model c.prog c.w) c.A c.env rest (Ep c QF Q os0 h0) c.E) c.E s₂) c.E s₁) c.E (mk c.s h t) := by
 refine Eo (fun y0 vs ey z0 T z1 => ?_) <| R.lst ej cv; obtain rfl := z0; revert z1; refine C9 fun r hz hl => ?_
 refine call_enumerate_list (s := mk c.s h t) T.isList fun h1 he hit hsz hk1 => wpAny_pyIter_enum (s := mk c.s h1 t) he ?_
 have K1 : Kp c.B [] [] h h1 := .of_keeps hk1
 replace he : IsEnum h1 (h.objs.size + 1) h.objs.size 0 .none := he
 replace hit : h1.IsListIter h.objs.size y0.a 0 := hit
 have hn1 : h.get? (h.objs.size + 1) = none := Heap.get?_none_of_le (Nat.le_succ _)
 have hn2 : h.get? h.objs.size = none := Heap.get?_none_of_le (Nat.le_refl _)
 have hB : ∀ a ∈ [h.objs.size + 1, h.objs.size], h0.get? a = none /\ c.B.get? a = none := Ei ⟨e0.kp.alive hn1, BT R.F hn1⟩ ⟨e0.kp.alive hn2, BT R.F hn2⟩
 have hB0 : ∀ a ∈ [h.objs.size + 1, h.objs.size], c.h₀.get? a = none /\ c.B.get? a = none := Ei ⟨R.F.kp.alive hn1, BT R.F hn1⟩ ⟨R.F.kp.alive hn2, BT R.F hn2⟩
 have hne : h.objs.size + 1 ≠ h.objs.size := Nat.succ_ne_self _
 show wpAny _ _ (runOwn (.forLoop _ (.ref (h.objs.size + 1)) _ _ _) _) _ _ _
 generalize h.objs.size + 1 = ea at *
 generalize h.objs.size = ia at *
 have il := GT P
 refine HH (Cs := Jm c.ad c.EX) (S₀ := c.S₀) (s := c.s) ok.he.scope ok.hf ok.hA R.F.fe P.len (fun i s₁ => ∃ st1 os1 h₁ t₁ l₁ old, s₁ = mk c.s h₁ t₁ /\ BD c st1 os1 h₁ l₁ /\ Ex c os0 os1 h0 h₁ /\ os1[j]? = some (y0, .lst P) /\ IsEnum h₁ ea ia i old /\ h₁.IsListIter ia y0.a i /\ F2 jb x y (some (j, P)) KR K i ((Cg P).drop i) st1) (fun i s₁ hi hI => ?_) (fun s₁ hI => ?_) ⟨st, os, h1, t, l, _, rfl, R.grow (R.F.grow K1) K1, e0.trans (.grow K1), ey, he, hit, k⟩
 ·revert hI; refine EK fun st1 os1 h₁ t₁ l₁ z0 => ?_; revert z0; refine HS fun old z1 R1 e1 ey1 z2 => ?_; obtain rfl := z1; revert z2; refine C9 fun he1 hit1 k1 => ?_
  refine Ak (fun _ z0 => ?_) <| R1.ok _ (List.mem_of_getElem? ey1); revert z0; refine Ah fun vs1 T1 r1 => ?_
  have hi' : i < vs1.length := by rw [AP.rel.len r1]; exact hi
  refine wpAny_pyNext_enum_item (s := mk c.s h₁ t₁) he1 hit1 T1.isList (x := vs1[i]) (by simp [hi']) hne fun h₂ heo hit2 htup hsz2 hk2 => ⟨_, rfl, ?_⟩
  refine wpAny_letOwnedTupleGo_enum (s := mk c.s h₂ (t₁ + 1)) heo fun h₃ he3 hs3 => ?_
  replace hs3 : Heap.SameBut ea h₂ h₃ := hs3
  have hk3 : ∀ b o, b ∉ [ea, ia] -> h₁.get? b = some o -> h₃.get? b = some o := fun b o hb q => (hs3.2 b fun q => hb (q ▸ .head _)).trans (hk2 b o (fun q => hb (q ▸ .head _)) (fun q => hb (q ▸ .tail _ (.head _))) q)
  have hit3 : h₃.IsListIter ia y0.a (i + 1) := Ah (fun o a b => ⟨o, (hs3.2 ia hne.symm).trans a, b⟩) hit2
  have T3 : Tu h₃ h₁.objs.size [.int i t₁, vs1[i]] := ⟨_, (hs3.2 _ (Nat.ne_of_gt (Heap.lt_size he1))).trans htup⟩
  have hF : ∀ a ∈ [ea, ia], GH h₁ a := Ei ⟨_, _, he1, rfl⟩ (DV hit1)
  have R2 := R1.ias hF hk3 hB0
  have e2 := e1.ias hk3 hB
  refine Ah (fun a ea1 cva => ?_) <| KK (as := Av os1) (AP.rel.kw (Jh hF hk3) r1) (List.getElem?_eq_getElem hi')
  rw [List.drop_eq_getElem_cons (by omega)] at k1
  have ea' : (Cg P)[i]'(by omega) = a := by rw [List.getElem?_eq_getElem (by omega)] at ea1; exact Option.some.inj ea1
  rw [ea'] at k1
  refine Ak (fun hx k2 => ?_) <| CL k1
  refine Ak (fun hx1 hx2 => ?_) <| Bool.and_eq_true_iff.mp hx
  refine Z3 ok.hA.handled R2.F T3 fun h4 F4 K4 => ?_
  have R4 := R2.grow F4 K4
  refine Ah (fun m1 s1 lo1 => ?_) <| BJ.put (a := .int i) ⟨t₁, rfl⟩ hx1 R4.loc
  refine Dj ok.he R4.F s1 fun h5 t5 F5 K5 => ?_
  have R5 := R4.store F5 K5 lo1
  have e5 : Ex c os1 os1 h₃ h5 := Ex.trans (.grow K4) (.store K5)
  refine Ah (fun m2 s2 lo2 => ?_) <| BJ.put (cva.ext e5) (by rw [ST]; exact hx2) R5.loc
  refine Dj ok.he R5.F s2 fun h6 t6 F6 K6 => ?_
  have R6 := R5.store F6 K6 lo2
  have e6 : Ex c os1 os1 h₃ h6 := e5.trans (.store K6)
  refine Jd.on (hb _ _ k2) ok R6 fun fl st7 os7 h7 t7 l7 f e7 R7 r q => ?_
  have e67 := e6.trans e7
  cases fl with
  | next =>
   cases r
   have ll : st1.objs.length = os1.length := by rw [R1.eq, List.length_map]
   have hw : ∀ b ∈ DT os1, ∀ a, GH h₃ a -> b ≠ a := fun b m a f => by
    refine Ah (fun p mp hx => ?_) <| List.mem_flatMap.mp m
    exact (R2.ok p mp).neF f b (Cb hx)
   have q1 : st7.objs[j]? = some (.lst P) := Iv q.1
   refine Ap (fun y2 ey2 => ?_) <| R7.at q1
   have e4 := Cc e67.pre (Fi ey1)
   rw [Fi ey2] at e4; cases e4
   revert hit3; refine FR fun oi eoi ci di => ?_
   refine Qs _ (os7.take os1.length) h7 t7 l7 ⟨vs1[i], rfl, R7.gc _ R1.adsLe, e2.trans e67.gc, by rw [List.getElem?_take_of_lt (List.getElem?_eq_some_iff.mp ey1).1]; exact ey2, ?_, ⟨oi, EN e67.kp eoi di (fun m => hw _ m _ ⟨oi, _, eoi, di⟩ rfl), ci, di⟩, ?_⟩
   ·exact EN e67.kp he3 rfl (fun m => hw _ m _ ⟨_, _, he3, rfl⟩ rfl)
   ·rw [<- ll]; exact q.2
  | ret w =>
   revert r; refine Ah fun y z0 cv => ?_; obtain rfl := z0
   exact .un (e2.trans e67) R7 (hR _ _ q) ⟨y, rfl, cv⟩
 ·revert hI; refine EK fun st1 os1 h₁ t₁ l₁ z0 => ?_; revert z0; refine HS fun old z1 R1 e1 ey1 z2 => ?_; obtain rfl := z1; revert z2; refine C9 fun he1 hit1 k1 => ?_
  refine Ak (fun _ z0 => ?_) <| R1.ok _ (List.mem_of_getElem? ey1); revert z0; refine Ah fun vs1 T1 r1 => ?_
  refine wpAny_pyNext_enum_end (s := mk c.s h₁ t₁) ok.hA.handled he1 hit1 T1.isList (by have := AP.rel.len r1; simp; omega) fun h₂ hk => ⟨rfl, ?_⟩
  replace hk : Heap.ExtBut ia h₁ h₂ := hk
  rw [List.drop_eq_nil_of_le (by omega)] at k1
  have hk' : ∀ b o, b ∉ [ia] -> h₁.get? b = some o -> h₂.get? b = some o := fun b o hb e => hk b o (fun q => hb (q ▸ .head _)) e
  exact (hK _ k1).to ok (R1.ia (DV hit1) hk' (hB0 _ (.tail _ (.head _))).1 (hB0 _ (.tail _ (.head _))).2) (e1.ia hk' (hB _ (.tail _ (.head _))).1 (hB _ (.tail _ (.head _))).2)
end
end
noncomputable def BG : Stmt -> List Stmt
 | .For _ _ b _ _ => b
 | .While _ b _ _ => b
 | _ => []
noncomputable def G7 : Stmt -> Expr
 | .While t _ _ _ => t
 | _ => .Constant .none 0 default
def br (b : Bool) (x y : Prop) : Prop := bif b then x else y
def X8 (o : Option AO) (k : AC -> AC -> Prop) : Prop := Af o fun a => Af (Ly a) fun q => k q.1 q.2
def T0 (ps : AC) (nil : Prop) (cons : AN -> AC -> Prop) : Prop := match ps with
 | [] => nil
 | p :: qs => cons p qs
def Bp {α : Type} (r : Except Aa α) (EX : Aa -> Prop) (k : α -> Prop) : Prop := match r with
 | .ok a => k a
 | .error e => EX e
def FV (us : List AV) (k : AN -> List AV -> Prop) : Prop := cP us fun a us => Af (VX a) fun p => k p us
def EQ (us : List AV) (k : Int -> List AV -> Prop) : Prop := cP us fun a us => Bb a fun p => k p us
def EE (us : List AV) (k : Bool -> List AV -> Prop) : Prop := cP us fun a us => GB a fun p => k p us
def FU (us : List AV) (k : AC -> List AV -> Prop) : Prop := cP us fun a us => Qn a fun P => Af (G3 P) fun l => k l us
def BF (i : Nat) (us : List AV) (k : List AV -> Prop) : Prop := cP us fun a us => Fb a fun j => bif j == i then k us else False
def Ab {α : Type} (us : List α) (k : Prop) : Prop := match us with
 | [] => k
 | _ :: _ => False
def Dt (os : List AO) (k : AC -> AC -> List AO -> Prop) : Prop := cP os fun a os => Af (Ly a) fun q => k q.1 q.2 os
def Dw (os : List AO) (k : AP -> List AO -> Prop) : Prop := cP os fun a os => Af (Sl a) fun P => k P os
def HV (os : List AO) (k : BU -> List AO -> Prop) : Prop := cP os fun a os => Af (Rp a) fun P => k P os
def GN (os : List AO) (k : Nat -> List AO -> Prop) : Prop := cP os fun a os => Af (XP a) fun P => k P os
def HB (P : AP) (k : AC -> Prop) : Prop := Af (G3 P) k
def MQ (P : AP) (k : List AC -> Prop) : Prop := Af (Ms P) k
def V0 (us : List AV) (k : Nat -> Prop) : Prop := cP us fun a us => Fb a fun i => Ab us (k i)
def Kf (us : List AV) (k : Nat -> AN -> Prop) : Prop := cP us fun a us => Fb a fun i => FV us fun p us => Ab us (k i p)
noncomputable def ID : CT := fun us os EX K => V0 us fun i => X8 os[i]? fun ps outs => T0 ps (K .none os) fun p qs => K (.tok p) (os.set i (.feed qs outs))
noncomputable def Df : CT := fun us os EX K => Kf us fun i p => X8 os[i]? fun ps outs => K (.bool (decide (p ∈ outs))) os
noncomputable def Ed : CT := fun us os EX K => V0 us fun i => X8 os[i]? fun ps outs => K (.ref os.length) (os ++ [.lst (.toks ps)])
noncomputable def H5 : CT := fun us os EX K => Kf us fun i p => X8 os[i]? fun ps outs => A8 p = true /\ ps.length <= 50000 /\ K .none (os.set i (.feed (p :: ps) outs))
section
variable {us : List AV} {os : List AO} {P : AP} {G : List AV -> Prop} {Go : List AO -> Prop} {Gp : AP -> Prop}
@[elab_as_elim] theorem CS {k : AN -> List AV -> Prop} (h : FV us k) (f : ∀ p r, k p r -> G (.tok p :: r)) : G us := Ey h fun a r h => AJ h fun p e h => Nv e (f p r h)
@[elab_as_elim] theorem CZ {k : Int -> List AV -> Prop} (h : EQ us k) (f : ∀ p r, k p r -> G (.int p :: r)) : G us := Ey h fun a r h => Au h fun p h => f p r h
@[elab_as_elim] theorem CH {k : Bool -> List AV -> Prop} (h : EE us k) (f : ∀ p r, k p r -> G (.bool p :: r)) : G us := Ey h fun a r h => EM h fun p h => f p r h
@[elab_as_elim] theorem Cl {k : AC -> List AV -> Prop} (h : FU us k) (f : ∀ p r, k p r -> G (.tup (.toks p) :: r)) : G us := Ey h fun a r h => KP h fun P h => AJ h fun l e h => EI e (f l r h)
@[elab_as_elim] theorem Ai {i : Nat} {k : List AV -> Prop} (h : BF i us k) (f : ∀ r, k r -> G (.ref i :: r)) : G us := Ey h fun a r h => CR h fun j h => B4 h fun e h => eq_of_beq e ▸ f r h
@[elab_as_elim] theorem AI {α : Type} {us : List α} {G : List α -> Prop} {k : Prop} (h : Ab us k) (f : k -> G []) : G us := by cases us with
 | nil => exact f h
 | cons _ _ => exact h.elim
@[elab_as_elim] theorem CG {k : AC -> AC -> List AO -> Prop} (h : Dt os k) (f : ∀ p q r, k p q r -> Go (.feed p q :: r)) : Go os := Ey h fun a r h => AJ h fun q e h => IU e (f q.1 q.2 r h)
@[elab_as_elim] theorem B9 {k : AP -> List AO -> Prop} (h : Dw os k) (f : ∀ p r, k p r -> Go (.lst p :: r)) : Go os := Ey h fun a r h => AJ h fun q e h => Kd e (f q r h)
@[elab_as_elim] theorem Dg {k : BU -> List AO -> Prop} (h : HV os k) (f : ∀ p r, k p r -> Go (.mac p :: r)) : Go os := Ey h fun a r h => AJ h fun q e h => J0 e (f q r h)
@[elab_as_elim] theorem EB {k : Nat -> List AO -> Prop} (h : GN os k) (f : ∀ p r, k p r -> Go (.src p :: r)) : Go os := Ey h fun a r h => AJ h fun q e h => VA e (f q r h)
@[elab_as_elim] theorem DI {k : AC -> Prop} (h : HB P k) (f : ∀ l, k l -> Gp (.toks l)) : Gp P := AJ h fun l e h => EI e (f l h)
@[elab_as_elim] theorem Gy {k : List AC -> Prop} (h : MQ P k) (f : ∀ l, k l -> Gp (.tts l)) : Gp P := AJ h fun l e h => Ga e (f l h)
@[elab_as_elim] theorem NB {k : Nat -> Prop} (h : V0 us k) (f : ∀ i, k i -> G [.ref i]) : G us := Ey h fun a r h => CR h fun i h => AI h (f i)
@[elab_as_elim] theorem JQ {k : Nat -> AN -> Prop} (h : Kf us k) (f : ∀ i p, k i p -> G [.ref i, .tok p]) : G us := Ey h fun a r h => CR h fun i h => CS h fun p r h => AI h (f i p)
end
section
variable {us : List AV} {os : List AO}
theorem Kj {k : Int -> List AV -> Prop} (h : EQ us k) : ∃ p r, us = .int p :: r /\ k p r := CZ h fun p r q => ML p r rfl q
theorem Vg {k : AC -> List AV -> Prop} (h : FU us k) : ∃ p r, us = .tup (.toks p) :: r /\ k p r := Cl h fun p r q => ML p r rfl q
theorem WR {i : Nat} {k : List AV -> Prop} (h : BF i us k) : ∃ r, us = .ref i :: r /\ k r := Ai h fun r q => Dx r rfl q
theorem FX {α : Type} {us : List α} {k : Prop} (h : Ab us k) : us = [] /\ k := AI h fun q => ⟨rfl, q⟩
theorem VP {k : AP -> List AO -> Prop} (h : Dw os k) : ∃ p r, os = .lst p :: r /\ k p r := B9 h fun p r q => ML p r rfl q
theorem Ot {k : Nat -> List AO -> Prop} (h : GN os k) : ∃ p r, os = .src p :: r /\ k p r := EB h fun p r q => ML p r rfl q
end
noncomputable def Bf : CT := fun us os EX K => BF 0 us fun us => Ab us <| Dt os fun ps outs os => Ab os <| Bp (A7 outs ps) EX fun r => K (.tok r.1) [.feed r.2 outs]
noncomputable def CK : CT := fun us os EX K => FV us fun p us => FV us fun par us => EE us fun long us => Ab us <| Ab os <| Bp (DU p par long) EX fun _ => K .none []
noncomputable def CC : CT := fun us os EX K => FV us fun p us => EQ us fun n us => Ab us <| Ab os <| Bp (B7 p n) EX fun q => K (.tok q) []
noncomputable def J7 : CT := fun us os EX K => FU us fun D us => EQ us fun m us => FV us fun p us => Ab us <| Ab os <| (0 <= m /\ m <= D.length /\ D.length <= 1000) /\ K (.tok (((BH D m.toNat p).1 : Int), ((BH D m.toNat p).2 : Int))) []
noncomputable def Fs {α β : Type} (r : Except Aa α) (k : α -> Except Aa β) : Except Aa β := match r with
 | .error e => .error e
 | .ok a => k a
noncomputable def Ih (outs : AC) (par : AN) (long : Bool) (ps : AC) : Nat -> AC -> Except Aa (AC × AC) := ps.rec (fun d f => d.casesOn (.ok (f, [])) fun _ => .error .run)
 fun p qs ih d f => d.casesOn (.ok (f, p :: qs)) fun d => if p ∈ outs then .error .out else if p = par /\ long = false then .error .run else ih (if p.1 = 1 then d + 2 else if p.1 = 2 then d else d + 1) (f ++ [p])
noncomputable def Id : CT := fun us os EX K => BF 0 us fun us => FV us fun p us => FV us fun par us => EE us fun long us => Ab us <| Dt os fun ps outs os => Ab os <| ps.length <= 100000 /\ Bp (Ih outs par long ps 1 [p]) EX fun r => K (.ref 1) [.feed r.2 outs, .lst (.toks r.1)]
noncomputable def Ty (D f : AC) (k : Nat) (go : AC -> AC -> Nat -> Except Aa (AC × Nat × AC)) (r : Except Aa (AC × AC)) : Except Aa (AC × Nat × AC) := match r with
 | .error e => .error e
 | .ok g => if D = [] then .ok (f ++ g.1, k + 1, g.2) else go g.2 (f ++ g.1) (k + 1)
noncomputable def TJ (outs D : AC) (par : AN) (long : Bool) (p : AN) (qs f : AC) (k : Nat) (go : AC -> AC -> Nat -> Except Aa (AC × Nat × AC)) : Except Aa (AC × Nat × AC) :=
 if p = par /\ long = false then .error .run else if p.1 = 2 then .error .use else Ty D f k go (if p.1 = 1 then Ih outs par long qs 1 [p] else .ok ([p], qs))
noncomputable def ND (outs D : AC) (par : AN) (long : Bool) (p : AN) (qs f : AC) (k : Nat) (s : Nat × Nat) (go : AC -> AC -> Nat -> Nat -> Except Aa (AC × Nat × AC)) : Except Aa (AC × Nat × AC) :=
 if s.2 = 0 /\ (D ≠ [] \/ p ≠ (10, 32)) then TJ outs D par long p qs (f ++ D.take s.1) (k + s.1) fun q f k => go q f k 0 else go qs (f ++ D.take s.1) (k + s.1) s.2
noncomputable def Dv (outs D : AC) (par : AN) (long : Bool) (n : Nat) : AC -> AC -> Nat -> Nat -> Except Aa (AC × Nat × AC) := n.rec (fun _ _ _ _ => .error .run) fun _ ih ps f k m => ps.casesOn (.error .run) fun p qs =>
 if p ∈ outs then .error .out else if D ≠ [] /\ D[m]? = some p then (if m + 1 < D.length then ih qs f k (m + 1) else .ok (f, k, qs)) else ND outs D par long p qs f k (BH D m p) ih
noncomputable def Hd (f : AC) (k : Nat) : AC := if k = 1 /\ f.getLast?.map (·.1) = some 2 then (f.drop 1).dropLast else f
noncomputable def JV (outs D : AC) (par : AN) (long : Bool) (ps : AC) : Except Aa (AC × AC) := Fs (Dv outs D par long ps.length ps [] 0 0) fun r => .ok (Hd r.1 r.2.1, r.2.2)
noncomputable def Ea : CT := fun us os EX K => BF 0 us fun us => FU us fun D us => FV us fun par us => EE us fun long us => Ab us <| Dt os fun ps outs os => Ab os <| (ps.length <= 100000 /\ D.length <= 1000) /\ Bp (JV outs D par long ps) EX fun r => K (.tup (.toks r.1)) [.feed r.2 outs]
noncomputable def Bj (P : AC) : Bool := decide (P ≠ []) && decide ((P.getLast?.getD (0, 0)).1 = 1)
noncomputable def Bw : CT := fun us os EX K => BF 0 us fun us => Ab us <| HV os fun m os => Ab os <| K (.bool (Bj m.par)) [.mac m]
noncomputable def H3 : CT := fun us os EX K => BF 0 us fun us => BF 1 us fun us => Ab us <| HV os fun m os => HV os fun m' os => Ab os <| K (.bool (decide (m.long = m'.long /\ m.outer = m'.outer /\ m.par = m'.par /\ m.body = m'.body))) [.mac m, .mac m']
noncomputable def Dr (outs es : AC) : AC -> Except Aa AC := es.rec (fun ps => .ok ps) fun e _ ih ps => Fs (A7 outs ps) fun r => if r.1 = e then ih r.2 else .error .use
noncomputable def Du (outs : AC) (par : AN) (long : Bool) (Ds : List AC) : AC -> List AC -> Except Aa (List AC × AC) := Ds.rec (fun ps f => .ok (f, ps)) fun D _ ih ps f => Fs (JV outs D par long ps) fun r => ih r.2 (f ++ [r.1])
noncomputable def Ao (outs : AC) (par : AN) (m : BU) (ps : AC) : Except Aa (List AC × AC) := Fs (Dr outs (m.dl.headD []) ps) fun q => Fs (Du outs par m.long (m.dl.drop 1) q []) fun r => .ok (r.1, if Bj m.par then m.par.getLast?.getD (0, 0) :: r.2 else r.2)
theorem Qf {outs es ps : AC} {e : AN} : Dr outs (e :: es) ps = Fs (A7 outs ps) fun r => if r.1 = e then Dr outs es r.2 else .error .use := rfl
theorem SN {outs D ps : AC} {par : AN} {long : Bool} {Ds f : List AC} : Du outs par long (D :: Ds) ps f = Fs (JV outs D par long ps) fun r => Du outs par long Ds r.2 (f ++ [r.1]) := rfl
def CM (m : BU) : Prop := (m.par.length <= 1000 /\ m.body.length <= 900) /\ (m.dl.length <= 1000 /\ m.dl ≠ []) /\ (∀ r ∈ m.dl, r.length <= 1000) /\ ∀ p ∈ m.par, A8 p = true
noncomputable def DB : CT := fun us os EX K => BF 0 us fun us => BF 1 us fun us => FV us fun par us => Ab us <| HV os fun m os => Dt os fun ps outs os => Ab os <| (CM m /\ ps.length <= 40000) /\ Bp (Ao outs par m ps) EX fun r => K (.ref 2) [.mac m, .feed r.2 outs, .lst (.tts r.1)]
noncomputable def DD (g : List AC) (Bd : AC) : AC := Bd.flatMap fun p => if p.1 = 5 then g.getD (p.2 - 1).toNat [] else [p]
noncomputable def D4 : CT := fun us os EX K => BF 0 us fun us => BF 1 us fun us => Ab us <| HV os fun m os => Dw os fun P os => Ab os <| MQ P fun g => ((∀ p ∈ m.body, p.1 = 5 -> 1 <= p.2 /\ p.2 <= g.length) /\ (g.length <= 1000 /\ ∀ r ∈ g, r.length <= 1000) /\ m.body.length <= 900) /\ K (.ref 2) [.mac m, .lst (.tts g), .lst (.toks (DD g m.body))]
noncomputable def Pc (rec : AC -> AC -> Nat -> Except Aa (AC × Bool × AC)) (p : AN) (q f : AC) (c : Nat) : Except Aa (AC × Bool × AC) :=
 if p.1 = 1 then .ok (f ++ [p], true, q) else if 9 < (c : Int) + 1 then .error .defn else if p = (12, 48 + ((c : Int) + 1)) then rec q (f ++ [(9, (c : Int) + 1)]) (c + 1) else .error .defn
noncomputable def GF (outs : AC) (rec : AC -> AC -> Nat -> Except Aa (AC × Bool × AC)) (p : AN) (q f : AC) (c : Nat) : Except Aa (AC × Bool × AC) :=
 if p.1 = 1 then .ok (f, false, q) else if p.1 = 6 then Fs (A7 outs q) fun r => Pc rec r.1 r.2 f c else if p.1 = 2 then .error .defn else if p.1 ∈ ([5, 9, 15] : List Int) then .error .defn else rec q (f ++ [p]) c
noncomputable def DP (outs : AC) (n : Nat) : AC -> AC -> Nat -> Except Aa (AC × Bool × AC) := n.rec (fun _ _ _ => .error .run) fun _ ih ps f c => Fs (A7 outs ps) fun r => GF outs ih r.1 r.2 f c
theorem Ut {outs ps f : AC} {n c : Nat} : DP outs (n + 1) ps f c = Fs (A7 outs ps) fun r => GF outs (DP outs n) r.1 r.2 f c := rfl
noncomputable def C6 : CT := fun us os EX K => BF 0 us fun us => Ab us <| Dt os fun ps outs os => Ab os <| ps.length <= 100000 /\ Bp (DP outs (ps.length + 1) ps [] 0) EX fun r => K (.tup2 (.tup (.toks r.1)) (.bool r.2.1)) [.feed r.2.2 outs]
noncomputable def Bg (outs : AC) (cnt : Int) (n : Nat) : AC -> Nat -> AC -> Except Aa (AC × AC) := n.rec (fun _ _ _ => .error .run) fun _ ih ps d f => Fs (A7 outs ps) fun r =>
 if r.1.1 = 6 then Fs (A7 outs r.2) fun s => Fs (B7 s.1 cnt) fun t => ih s.2 d (f ++ [t])
 else if r.1.1 ∈ ([5, 9, 15] : List Int) then .error .defn else if r.1.1 = 1 then ih r.2 (d + 1) (f ++ [r.1]) else if r.1.1 = 2 then (if d = 0 then .ok (f, r.2) else ih r.2 (d - 1) (f ++ [r.1])) else ih r.2 d (f ++ [r.1])
theorem LE {outs ps f : AC} {cnt : Int} {n d : Nat} : Bg outs cnt (n + 1) ps d f = Fs (A7 outs ps) fun r => if r.1.1 = 6 then Fs (A7 outs r.2) fun s => Fs (B7 s.1 cnt) fun t => Bg outs cnt n s.2 d (f ++ [t])
 else if r.1.1 ∈ ([5, 9, 15] : List Int) then .error .defn else if r.1.1 = 1 then Bg outs cnt n r.2 (d + 1) (f ++ [r.1]) else if r.1.1 = 2 then (if d = 0 then .ok (f, r.2) else Bg outs cnt n r.2 (d - 1) (f ++ [r.1])) else Bg outs cnt n r.2 d (f ++ [r.1]) := rfl
noncomputable def EY : CT := fun us os EX K => EQ us fun v us => EQ us fun lo us => EQ us fun hi us => Ab us <| Ab os <| K (.bool (decide (lo <= v /\ v <= hi))) []
noncomputable def Fm : CT := fun us os EX K => BF 0 us fun us => EQ us fun cnt us => Ab us <| Dt os fun ps outs os => Ab os <| ((0 <= cnt /\ cnt <= 9) /\ ps.length <= 100000) /\ Bp (Bg outs cnt (ps.length + 1) ps 0 []) EX fun r => K (.tup (.toks r.1)) [.feed r.2 outs]
noncomputable def A0 (ps : AC) : List AC -> AC -> Option (List AC) := ps.rec (fun rs r => some (rs ++ [r])) fun p _ ih rs r => if p.1 = 9 then (if p.2 ≠ rs.length + 1 \/ 9 < rs.length + 1 then none else ih (rs ++ [r]) []) else ih rs (r ++ [p])
theorem I3 {p : AN} {ps r : AC} {rs : List AC} : A0 (p :: ps) rs r = if p.1 = 9 then (if p.2 ≠ rs.length + 1 \/ 9 < rs.length + 1 then none else A0 ps (rs ++ [r]) []) else A0 ps rs (r ++ [p]) := rfl
noncomputable def A3 : AN := (0, 1)
noncomputable def AR : AN := (0, 9)
noncomputable def CX : AN := (10, 32)
noncomputable def AX : AN := (1, 123)
noncomputable def BM : AN := (2, 125)
noncomputable def Bm : AN := (6, 35)
noncomputable def D8 : AC := [(11, 97), (11, 98), (11, 97), (0, 3), CX]
def JE (us : List AV) (k : Bool -> Bool -> Prop) : Prop := match us with
 | [] => k false false
 | a :: us => GB a fun a => EE us fun b us => Ab us (k a b)
def aF (P : AP) (k : List Int -> Prop) : Prop := Af (LK P) k
noncomputable def GY : CT := fun us os EX K => BF 0 us fun us => FU us fun outs us => Ab us <| Dw os fun P os => Ab os <| HB P fun ps => (ps.length <= 20000 /\ ∀ p ∈ ps, A8 p = true) /\ K (.ref 1) [.lst (.toks ps), .feed ps outs]
noncomputable def FJ : CT := fun us os EX K => FU us fun P us => FU us fun Bd us => JE us fun long out => Ab os <| (P.length <= 900 /\ Bd.length <= 900) /\ Af (A0 P [] []) fun D => K (.ref 0) [.mac ⟨P, Bd, D, long, out⟩]
noncomputable def CD : CT := fun us os EX K => BF 0 us fun us => EQ us fun m us => Ab us <| GN os fun n os => Ab os <| (1 <= n /\ 1 <= m /\ m <= 1000) /\ ∀ d, 0 <= d -> d < m -> K (.int d) [.src (n - 1)]
noncomputable def PW : CT := fun us os EX K => BF 0 us fun us => EQ us fun k us => Ab us <| Dw os fun P os => Ab os <| aF P fun ns => (ns.length <= 40 /\ 0 <= k /\ k <= 10) /\ K (.ref 1) [.lst (.ints ns), .src 100000]
@[elab_as_elim] theorem Lm {G : List AV -> Prop} {us : List AV} {k : Bool -> Bool -> Prop} (h : JE us k) (g : k false false -> G []) (f : ∀ a b, k a b -> G [.bool a, .bool b]) : G us := by
 cases us with
 | nil => exact g h
 | cons a us => exact EM h fun a h => CH h fun b r h => AI h (f a b)
theorem LW {us : List AV} {k : Bool -> Bool -> Prop} (h : JE us k) : (us = [] /\ k false false) \/ ∃ a b, us = [.bool a, .bool b] /\ k a b := Lm h (fun q => .inl ⟨rfl, q⟩) fun a b q => .inr ⟨a, b, rfl, q⟩
noncomputable def BI (P : AC) : AC := P.filter fun p => decide (p.1 = 9)
def Ig (ps outs : AC) (long out : Bool) (EX : Aa -> Prop) (K : AV -> List AO -> Prop) : Prop := ps.length <= 800 /\ Bp (DP outs (ps.length + 1) ps [] 0) EX fun r => ((BI r.1).length <= 9 /\ r.1.length <= 900 /\ r.2.2.length <= 100000) /\ Bp (Bg outs (BI r.1).length (r.2.2.length + 1) r.2.2 0 []) EX fun s =>
 s.1.length <= 900 /\ Af (A0 r.1 [] []) fun D => K (.ref 1) [.feed s.2 outs, .mac ⟨r.1, s.1, D, long, out⟩]
noncomputable def Cd : CT := fun us os EX K => BF 0 us fun us => JE us fun long out => Dt os fun ps outs os => Ab os <| Ig ps outs long out EX K
noncomputable def Ae (p : AN) : Int := if p.1 = 1 then 1 else if p.1 = 2 then -1 else 0
noncomputable def D6 : CT := fun us os EX K => FV us fun p us => Ab us <| Ab os <| K (.int (Ae p)) []
noncomputable def Dc : CT := fun us os EX K => FU us fun Bd us => BF 0 us fun us => Ab us <| Dw os fun P os => Ab os <| MQ P fun g => ((∀ p ∈ Bd, p.1 = 5 -> 1 <= p.2 /\ p.2 <= g.length) /\ (g.length <= 1000 /\ ∀ r ∈ g, r.length <= 1000) /\ Bd.length <= 900) /\ K (.ref 1) [.lst (.tts g), .lst (.toks (DD g Bd))]
noncomputable def AZ (n : Nat) (rs : List AC) : AC := rs.rec (fun _ => []) (fun r _ ih n => ((9 : Int), (n : Int)) :: r ++ ih (n + 1)) n
theorem Eh {n : Nat} {r : AC} {rs : List AC} : AZ n (r :: rs) = ((9 : Int), (n : Int)) :: r ++ AZ (n + 1) rs := rfl
noncomputable def Dd : CT := fun us os EX K => BF 0 us fun us => Ab us <| Dw os fun P os => Ab os <| MQ P fun rows => (rows.length <= 10 /\ rows ≠ [] /\ ∀ r ∈ rows, r.length <= 10) /\ K (.tup (.toks (rows.headD [] ++ AZ 1 (rows.drop 1)))) [.lst (.tts rows)]
noncomputable def BN (p : AN) : AC := if p.1 = 9 then [Bm, (12, 48 + p.2)] else if p = AX then [Bm, p] else [p]
noncomputable def A5 (p : AN) : AC := if p.1 = 5 then [Bm, (12, 48 + p.2)] else if p.1 = 6 then [Bm, p] else [p]
noncomputable def DN (P Bd : AC) : AC := P.flatMap BN ++ (if P = [] \/ P.getLast? ≠ some AX then [AX] else []) ++ Bd.flatMap A5 ++ [BM]
noncomputable def Fa : CT := fun us os EX K => FU us fun P us => FU us fun Bd us => Ab us <| Ab os <| (P.length <= 200 /\ Bd.length <= 200) /\ K (.ref 0) [.lst (.toks (DN P Bd))]
noncomputable def A1 (l : Int) : Nat := if l <= 0 then 22 else if l = 1 then 10 else if l = 2 then 4 else 1
noncomputable def B3 (p : AN) : Bool := A8 p && (!decide (p.1 = 2) || decide (p = BM))
noncomputable def Gz : CT := fun us os EX K => BF 0 us fun us => EQ us fun m us => EQ us fun l us => Ab us <| GN os fun n os => Ab os <| ((0 <= m /\ m <= 4) /\ (0 <= l /\ l <= 3) /\ m.toNat * A1 l <= n) /\ ∀ (n1 : Nat) (f : AC), n <= n1 + m.toNat * A1 l -> f.length <= m.toNat * A1 l -> (∀ p ∈ f, B3 p = true) -> K (.ref 1) [.src n1, .lst (.toks f)]
def QB (c : Int) (b : AC) : Prop := (∃ k, b = [(5, k)] /\ 1 <= k /\ k <= c) \/ b = [AX, (11, 98), BM] \/ ∃ p ∈ ([(11, 97), A3, (11, 99), (6, 64), (0, 3)] : AC), b = [p]
noncomputable def KA : CT := fun us os EX K => BF 0 us fun us => EQ us fun c us => Ab us <| GN os fun n os => Ab os <| ((0 <= c /\ c <= 3) /\ 11 <= n) /\ ∀ (n1 : Nat) (bs : List AC), n <= n1 + 11 -> bs.length <= 5 -> (∀ b ∈ bs, QB c b) -> K (.tup (.toks bs.flatten)) [.src n1]
noncomputable def Jy : CT := fun us os EX K => BF 0 us fun us => BF 1 us fun us => Ab us <| GN os fun n os => Dw os fun P os => Ab os <| MQ P fun rows => (400 <= n /\ (rows.length <= 4 /\ rows ≠ []) /\ (∀ r ∈ rows, r.length <= 4) /\ ∀ r ∈ rows, ∀ p ∈ r, B3 p = true) /\ ∀ (n1 : Nat) (t : AC), n <= n1 + 400 -> t.length <= 500 -> (∀ p ∈ t, B3 p = true) -> K (.ref 2) [.src n1, .lst (.tts rows), .lst (.toks t)]
theorem Da.kp {B : Heap} {S D : List Addr} {h h' : Heap} {d : Addr} {n : Nat} (k : Kp B S D h h') (x : Da h d n) (hn : d ∉ S) : Da h' d n := x.kw k.toKw hn
theorem Da.mono {h : Heap} {d : Addr} {n m : Nat} (x : Da h d n) (hm : m <= n) : Da h d m := by
 revert x; refine EK fun a b c u1 u2 z0 => ?_; revert z0; refine HS fun u3 l h1 h2 h3 z1 => ?_; revert z1; refine Ak fun h4 h5 => ?_
 exact Qs a b c u1 u2 ⟨u3, l, h1, h2, by omega, h4, h5⟩
section
variable {A : Around} {E : Value -> Shared -> Prop} {env : Env}
theorem Yk {o i value : Expr} {rest : List Stmt} {pos p : Pos} {M : Model} {s : Shared} {Q : Flow -> Shared -> Prop} (hs : swapsWith value (some (.Subscript o i p)) pos.line env = pure false)
  (h : wpAny M A (eval value env) (fun v s₁ => wpAny M A (eval o env) (fun ov s₂ => wpAny M A (eval i env) (fun iv s₃ => wpAny M A (setItem ov iv v) (fun _ s₄ => wpAny M A (execs rest env) Q E s₄) E s₃) E s₂) E s₁) E s) :
  wpAny M A (execs (.Assign [.Subscript o i p] value pos :: rest) env) Q E s := wpAny_execs_cons (wpAny_Assign_Subscript h hs)
end
theorem E7 {env : Env} (hk : env.scope.kind = .function) {x : Str} (hc : env.kindOf x = some .cell) : ∀ {names : List (Str × NameKind)}, names.lookup x = some .free ->
  (names.map fun (n, k) => if (k == NameKind.free && env.scope.kind == .function && env.kindOf n == some .cell) then (n, NameKind.cell) else (n, k)).lookup x = some .cell
 | [], h => by simp at h
 | (n, k) :: r, h => by
  have ih := @E7 env hk x hc r
  show List.lookup x ((if (k == NameKind.free && env.scope.kind == .function && env.kindOf n == some .cell) = true then (n, NameKind.cell) else (n, k)) :: _) = _
  cases hx : x == n with
  | true =>
   simp only [List.lookup_cons, hx] at h
   cases h
   have : x = n := eq_of_beq hx
   subst this
   rw [hk, hc]
   simp
  | false =>
   simp only [List.lookup_cons, hx] at h
   by_cases hq : (k == NameKind.free && env.scope.kind == .function && env.kindOf n == some .cell) = true
   ·rw [if_pos hq]; simp only [List.lookup_cons, hx]; exact ih h
   ·rw [if_neg hq]; simp only [List.lookup_cons, hx]; exact ih h
theorem Ht {B h₀ h : Heap} {S₀ : List Addr} {outer : List Env} {sc sc2 : Scope} {L C : Addr} {l : A9} {env : Env} {x : Str} (F : Fx B h₀ S₀ outer (relabel sc2 env) C h l) (he : Ax env sc L) (hk : sc.kind = .function) (hc : sc.names.lookup x = some .cell) (hx : sc2.names.lookup x = some .free) : (relabel sc2 env).names.lookup x = some .cell :=
 E7 (by rw [he.scope]; exact hk) (by rw [he.kindOf]; exact hc) hx
structure Z9 (h : Heap) (ad : Str -> Addr) : Prop where
 par : Tk h (.ref (ad "_law_par")) A3
 out : Tk h (.ref (ad "_law_out")) AR
 blank : Tk h (.ref (ad "_law_blank")) CX
 beg : Tk h (.ref (ad "_law_begin")) AX
 fin : Tk h (.ref (ad "_law_end")) BM
 mark : Tk h (.ref (ad "_law_mark")) Bm
theorem Wd.toks {K : Frag} {B : Heap} {mg mb : Str -> Option Value} {ad : Str -> Addr} {tk : Str -> Tok} {h : Heap} (W : Wd K B mg mb ad tk) (b : B.StaysIn h) : Z9 h ad :=
 ⟨Reads.keeps2 b W.t_law_par.2, Reads.keeps2 b W.t_law_out.2, Reads.keeps2 b W.t_law_blank.2, Reads.keeps2 b W.t_law_begin.2, Reads.keeps2 b W.t_law_end.2, Reads.keeps2 b W.t_law_mark.2⟩
theorem ZI {h : Heap} {dd : Addr} {a b c d e f : Tok} {k : Nat} (li : Li h dd [.int 0 a, .int 0 b, .int 1 c, .int 1 d, .int 2 e, .int 3 f]) (hk : k < 6) : ∃ (m : Nat) (u : Tok), m <= 3 /\ ([.int 0 a, .int 0 b, .int 1 c, .int 1 d, .int 2 e, .int 3 f] : List Value)[k]? = some (.int m u) := by
 rcases k with _ | _ | _ | _ | _ | _ | k
 ·exact ML 0 _ (by decide) rfl
 ·exact ML 0 _ (by decide) rfl
 ·exact ML 1 _ (by decide) rfl
 ·exact ML 1 _ (by decide) rfl
 ·exact ML 2 _ (by decide) rfl
 ·exact ML 3 _ (by decide) rfl
 ·omega
section
variable {K : Frag} {B : Heap} {mg mb : Str -> Option Value} {ad : Str -> Addr} {tk : Str -> Tok} {prog : Program} {w : World} {h : Heap}
theorem Ee (W : Wd K B mg mb ad tk) {v lo hi : Int} {u1 u2 u3 : Tok} :
  Ct prog w B 1 (.ref (ad "is_whole")) [.int v u1, .int lo u2, .int hi u3] [] h (fun r _ => r = .bool (decide (lo <= v) && decide (v <= hi))) BW := by
 refine (CQ [("value", some (.int v u1)), ("low", some (.int lo u2)), ("high", some (.int hi u3))] (W.f_is_whole).2.2 W.gb.lim (binds := [("value", .int v u1), ("low", .int lo u2), ("high", .int hi u3)]) (rest := []) (fun _ _ _ _ _ _ _ _ _ => BindsTo.of_eq rfl) rfl (FF ["value", "low", "high"] rfl (by decide +kernel) rfl) ?_).ct
 intro A outer s L env h₁ t₁ he hf hL F K1 hA
 refine Gg fun Q1 E1 hQ1 hE1 => ?_
 refine GI ?_
 refine Zu ?_
 refine Ay rfl ?_
 refine Aq W.gb ‹_› ‹_› (by kernel_rfl) W.b_isinstance ?_
 refine I4 rfl rfl ?_
 refine AW rfl ?_
 refine AQ ‹_› ‹_› (.head _) ?_ (by decide +kernel)
 refine AW rfl ?_
 refine Aq W.gb ‹_› ‹_› (by kernel_rfl) W.b_int ?_
 refine args_nil ?_
 refine MA ?_
 refine Bc ?_
 refine bg ?_
 refine XJ ?_
 refine Ay rfl ?_
 refine Aq W.gb ‹_› ‹_› (by kernel_rfl) W.b_isinstance ?_
 refine I4 rfl rfl ?_
 refine AW rfl ?_
 refine AQ ‹_› ‹_› (.head _) ?_ (by decide +kernel)
 refine AW rfl ?_
 refine Aq W.gb ‹_› ‹_› (by kernel_rfl) W.b_bool ?_
 refine args_nil ?_
 refine KB fun _ => ?_
 refine Bc ?_
 refine Bc ?_
 refine ah ?_
 refine Compare_chain ?_
 refine AQ ‹_› ‹_› (.tail _ (.head _)) ?_ (by decide +kernel)
 refine chain_link ?_
 refine AQ ‹_› ‹_› (.head _) ?_ (by decide +kernel)
 refine Zp ?_
 refine Bc ?_
 refine PV (fun hc => ?_) (fun hc => ?_)
 ·refine YX ?_
  refine AQ ‹_› ‹_› (.tail _ (.tail _ (.head _))) ?_ (by decide +kernel)
  refine Zp ?_
  refine Ii ‹_› ‹_› ?_
  simp [hc, FK]
 ·skip
  refine Ii ‹_› ‹_› ?_
  simp [hc, FK]
theorem HK (W : Wd K B mg mb ad tk) {v : Value} {p : Int × Int} (y : Tk h v p) (hp : A8 p = true) :
  Ct prog w B 2 (.ref (ad "is_token")) [v] [] h (fun r _ => r = .bool true) BW := by
 refine (CQ [("token", some v)] (W.f_is_token).2.2 W.gb.lim (binds := [("token", v)]) (rest := []) (fun _ _ _ _ _ _ _ _ _ => BindsTo.of_eq rfl) rfl (FF ["token"] rfl (by decide +kernel) rfl) ?_).ct
 intro A outer s L env h₁ t₁ he hf hL F K1 hA
 refine Gg fun Q1 E1 hQ1 hE1 => ?_
 simp only [A8, Bool.and_eq_true, decide_eq_true_eq] at hp
 revert hp; refine Ak fun z0 hp => ?_; revert z0; refine Ak fun h0 h15 => ?_
 split at hp
 ·rename_i a b ha hb
  simp only [Bool.and_eq_true, decide_eq_true_eq] at hp
  refine QZ ?_
  refine isTrue_or ?_
  refine isTrue_not ?_
  refine G9 rfl ?_
  refine Ay rfl ?_
  refine Aq W.gb ‹_› ‹_› (by kernel_rfl) W.b_isinstance ?_
  refine I4 rfl rfl ?_
  refine AW rfl ?_
  refine AQ ‹_› ‹_› (.head _) ?_ (by decide +kernel)
  refine AW rfl ?_
  refine Aq W.gb ‹_› ‹_› (by kernel_rfl) W.b_tuple ?_
  refine args_nil ?_
  refine Wg (Reads.kp ‹_› ‹_›) ?_
  refine Bc ?_
  refine Rh ?_
  refine isTrue_or ?_
  refine wpAny_isTrue_Compare1 ?_
  refine Ay rfl ?_
  refine Aq W.gb ‹_› ‹_› (by kernel_rfl) W.b_len ?_
  refine I4 rfl rfl ?_
  refine AW rfl ?_
  refine AQ ‹_› ‹_› (.head _) ?_ (by decide +kernel)
  refine args_nil ?_
  refine UL (Reads.kp ‹_› ‹_›) fun _ _ => ?_
  refine Ag ?_
  refine bA ?_
  refine Bc ?_
  simp only [ne_eq, not_true_eq_false, decide_false]
  refine be ?_
  refine isTrue_or ?_
  refine isTrue_not ?_
  refine G9 rfl ?_
  refine Ay rfl ?_
  refine B5 W.gb ‹_› ‹_› (by kernel_rfl) W.f_is_whole.1 ?_ (by decide +kernel)
  refine jK W.X W.f_is_whole.2.1 rfl rfl ?_
  refine AW rfl ?_
  refine Subscript_ ?_
  refine AQ ‹_› ‹_› (.head _) ?_ (by decide +kernel)
  refine Ag ?_
  refine Mp (fun _ => by with_unfolding_all rfl) (Reads.kp ‹_› ‹_›) fun _ => ?_
  refine AW rfl ?_
  refine Ag ?_
  refine AW rfl ?_
  refine Ag ?_
  refine args_nil ?_
  refine Cj ‹_› ?_
  refine Ky (Ee W) he hf hA F (by decide) AH (fun _ x => x.elim) fun Qx hQx v' h2 t2 F2 K2 e => ?_
  subst hQx
  subst e
  simp only [h0, h15, decide_true, Bool.and_self]
  refine Bc ?_
  refine Rh ?_
  refine isTrue_or_nil ?_
  refine Z2 ?_
  refine Dm ?_
  refine Fg ?_
  refine GI ?_
  refine Ay rfl ?_
  refine B5 W.gb ‹_› ‹_› (by kernel_rfl) W.f_is_whole.1 ?_ (by decide +kernel)
  refine jK W.X W.f_is_whole.2.1 rfl rfl ?_
  refine AW rfl ?_
  refine Subscript_ ?_
  refine AQ ‹_› ‹_› (.head _) ?_ (by decide +kernel)
  refine Ag ?_
  refine Up (fun _ => by with_unfolding_all rfl) (Reads.kp ‹_› (Reads.kp ‹_› ‹_›)) fun _ => ?_
  refine AW rfl ?_
  refine Subscript_ ?_
  refine B5 W.gb ‹_› ‹_› (by kernel_rfl) W.t_LEAST_CODES.1 ?_ (by decide +kernel)
  refine Subscript_ ?_
  refine AQ ‹_› ‹_› (.head _) ?_ (by decide +kernel)
  refine Ag ?_
  refine Mp (fun _ => by with_unfolding_all rfl) (Reads.kp ‹_› (Reads.kp ‹_› ‹_›)) fun _ => ?_
  have gl : Reads h2 (.ref (ad "LEAST_CODES")) (.tuple (M9.map .int)) [] := Reads.keeps2 F2.base (W.t_LEAST_CODES).2
  have gg : Reads h2 (.ref (ad "GREATEST_CODES")) (.tuple (Nk.map .int)) [] := Reads.keeps2 F2.base (W.t_GREATEST_CODES).2
  refine LI (fun _ => by with_unfolding_all rfl) gl h0 ha (by decide) fun _ => ?_
  refine AW rfl ?_
  refine Subscript_ ?_
  refine B5 W.gb ‹_› ‹_› (by kernel_rfl) W.t_GREATEST_CODES.1 ?_ (by decide +kernel)
  refine Subscript_ ?_
  refine AQ ‹_› ‹_› (.head _) ?_ (by decide +kernel)
  refine Ag ?_
  refine Mp (fun _ => by with_unfolding_all rfl) (Reads.kp ‹_› (Reads.kp ‹_› ‹_›)) fun _ => ?_
  refine LI (fun _ => by with_unfolding_all rfl) gg h0 hb (by decide) fun _ => ?_
  refine args_nil ?_
  refine Cj ‹_› ?_
  refine Ky (Ee W) he hf hA F2 (by decide) AH (fun _ x => x.elim) fun Qx hQx v' h3 t3 F3 K3 e => ?_
  subst hQx
  subst e
  refine Ii ‹_› ‹_› ?_
  simp [FK, hp]
 ·cases hp
theorem VL (W : Wd K B mg mb ad tk) {f dx r : Addr} {ps outs : AC} (x : Fd B h (ad "TokenFeed") f dx r ps outs) :
  Ct prog w B 1 (.ref (ad "TokenFeed.next")) [.ref f] [r] h (fun v h' => match ps with | [] => v = .none /\ Fd B h' (ad "TokenFeed") f dx r [] outs | p :: qs => Tk h' v p /\ Fd B h' (ad "TokenFeed") f dx r qs outs) BW := by
 refine (CQ [("self", some (.ref f))] (W.m_next).2.2.2 W.gb.lim (binds := [("self", .ref f)]) (rest := []) (fun _ _ _ _ _ _ _ _ _ => BindsTo.of_eq rfl) rfl (FF ["self"] rfl (by decide +kernel) rfl) ?_).ct
 intro A outer s L env h₁ t₁ he hf hL F K1 hA
 refine Gg fun Q1 E1 hQ1 hE1 => ?_
 refine QZ ?_
 have x1 : Fd B h₁ (ad "TokenFeed") f dx r ps outs := (Fd.kp ‹_› ‹_› AD AD AD)
 refine Ah (fun vs hv hts => ?_) x1.li
 have hlen := BB hts
 have hl2 := x1.len
 rw [An, List.length_map, List.length_reverse] at hlen
 refine wpAny_isTrue_Compare1 ?_
 refine Ay rfl ?_
 refine Aq W.gb ‹_› ‹_› (by kernel_rfl) W.b_len ?_
 refine I4 rfl rfl ?_
 refine AW rfl ?_
 refine Attribute_any_ ?_
 refine AQ ‹_› ‹_› (.head _) ?_ (by decide +kernel)
 refine IO ‹_› ‹_› ‹_› fun _ => ?_
 refine args_nil ?_
 refine Jx hv (by omega) fun _ _ => ?_
 refine Ag ?_
 refine Zt ?_
 refine Bc ?_
 refine aC (fun hc => ?_) (fun hc => ?_)
 ·refine GI ?_
  refine UD ?_
  refine Y8 ?_
  refine Ii ‹_› ‹_› ?_
  have : ps = [] := by cases ps with | nil => rfl | cons p q => simp at hlen; omega
  subst this
  exact ⟨rfl, x1⟩
 ·refine Dm ?_
  refine Fg ?_
  refine GI ?_
  refine Y1 rfl ?_
  refine Attribute_any_ ?_
  refine AQ ‹_› ‹_› (.head _) ?_ (by decide +kernel)
  refine IO ‹_› ‹_› ‹_› fun _ => ?_
  refine X0 ‹_› ?_
  refine WP ?_
  cases ps with
  | nil => exact absurd (show vs.length = 0 from hlen) (by omega)
  | cons p qs =>
   rw [List.reverse_cons] at hts
   refine CY (fun us v z0 z1 z2 => ?_) <| SR hts; obtain rfl := z0
   simp only [List.length_cons] at hl2
   refine Zw F ⟨.inl (.head _), x1.notB⟩ hv (by simp at hlen; omega) fun h' F' K' hv' => ?_
   refine Ii ‹_› ‹_› ?_
   exact ⟨(Reads.kp ‹_› ‹_›), x1.set K' (Ar x1.ne) AD hv' (ReadsAll.kp ‹_› ‹_›) (by omega)⟩
theorem VH (W : Wd K B mg mb ad tk) {f dx r : Addr} {ps outs : AC} {v : Value} {p : Int × Int} (x : Fd B h (ad "TokenFeed") f dx r ps outs) (y : Tk h v p)
  (tok : ∀ h, Tk h v p -> Ct prog w B 3 (.ref (ad "is_token")) [v] [] h (fun r _ => r = .bool true) BW) (hl : ps.length <= 50000) :
  Ct prog w B 4 (.ref (ad "TokenFeed.back")) [.ref f, v] [r] h (fun v h' => v = .none /\ Fd B h' (ad "TokenFeed") f dx r (p :: ps) outs) BW := by
 refine (CQ [("self", some (.ref f)), ("token", some v)] (W.m_back).2.2.2 W.gb.lim (binds := [("self", .ref f), ("token", v)]) (rest := []) (fun _ _ _ _ _ _ _ _ _ => BindsTo.of_eq rfl) rfl (FF ["self", "token"] rfl (by decide +kernel) rfl) ?_).ct
 intro A outer s L env h₁ t₁ he hf hL F K1 hA
 refine Gg fun Q1 E1 hQ1 hE1 => ?_
 refine QZ ?_
 refine isTrue_not ?_
 refine G9 rfl ?_
 refine Ay rfl ?_
 refine B5 W.gb ‹_› ‹_› (by kernel_rfl) W.f_is_token.1 ?_ (by decide +kernel)
 refine jK W.X W.f_is_token.2.1 rfl rfl ?_
 refine AW rfl ?_
 refine AQ ‹_› ‹_› (.tail _ (.head _)) ?_ (by decide +kernel)
 refine args_nil ?_
 refine Cj ‹_› ?_
 refine Ky (tok _ (Reads.kp ‹_› ‹_›)) he hf hA F (by decide) AH (fun _ x => x.elim) fun Qx hQx v' h2 t2 F2 K2 e => ?_
 subst hQx
 subst e
 refine Bc ?_
 refine ZD ?_
 refine Dm ?_
 refine Fg ?_
 refine Ib rfl ‹_› ‹_› ?_
 refine Y1 rfl ?_
 refine Attribute_any_ ?_
 refine AQ ‹_› ‹_› (.head _) ?_ (by decide +kernel)
 refine IO ‹_› ‹_› (Fd.kp ‹_› (Fd.kp ‹_› ‹_› AD AD AD) AD AD AD) fun _ => ?_
 have x2 : Fd B h2 (ad "TokenFeed") f dx r ps outs := (Fd.kp ‹_› (Fd.kp ‹_› ‹_› AD AD AD) AD AD AD)
 have y2 : Tk h2 v p := (Reads.kp ‹_› (Reads.kp ‹_› ‹_›))
 refine Ah (fun vs hv hts => ?_) x2.li
 have hlen := BB hts
 rw [An, List.length_map, List.length_reverse] at hlen
 refine FL ‹_› ?_
 refine IQ rfl rfl ?_
 refine AW rfl ?_
 refine AQ ‹_› ‹_› (.tail _ (.head _)) ?_ (by decide +kernel)
 refine args_nil ?_
 refine Nu F2 ⟨.inl (.head _), x2.notB⟩ hv (by omega) fun h' F' K' hv' => ?_
 refine Dm ?_
 refine YJ ‹_› ‹_› ?_
 refine ⟨rfl, x2.set K' (Ar x2.ne) AD hv' ?_ (by simp; omega)⟩
 rw [List.reverse_cons]
 unfold Ts
 rw [An, List.map_append]
 exact BE (ReadsAll.kp ‹_› ‹_›) (Ad (Reads.kp ‹_› ‹_›) .nil)
theorem U7 (W : Wd K B mg mb ad tk) {f dx r : Addr} {ps outs : AC} (x : Fd B h (ad "TokenFeed") f dx r ps outs) :
  Ct prog w B 1 (.ref (ad "TokenFeed.left")) [.ref f] [] h (fun v h' => ∃ d vs, v = .ref d /\ Li h' d vs /\ Ts h' vs ps /\ h.get? d = none) BW := by
 refine (CQ [("self", some (.ref f))] (W.m_left).2.2.2 W.gb.lim (binds := [("self", .ref f)]) (rest := []) (fun _ _ _ _ _ _ _ _ _ => BindsTo.of_eq rfl) rfl (FF ["self"] rfl (by decide +kernel) rfl) ?_).ct
 intro A outer s L env h₁ t₁ he hf hL F K1 hA
 refine Gg fun Q1 E1 hQ1 hE1 => ?_
 refine GI ?_
 have x1 : Fd B h₁ (ad "TokenFeed") f dx r ps outs := (Fd.kp ‹_› ‹_› AD AD AD)
 refine Ah (fun vs hv hts => ?_) x1.li
 have hl2 := x1.len
 have hlen := BB hts
 rw [An, List.length_map, List.length_reverse] at hlen
 refine Subscript_ ?_
 refine Attribute_any_ ?_
 refine AQ ‹_› ‹_› (.head _) ?_ (by decide +kernel)
 refine IO ‹_› ‹_› ‹_› fun _ => ?_
 refine KD ?_
 refine Hr ?_
 refine Hr ?_
 refine N8 ?_
 refine wpAny_UnaryOp ?_
 refine Ag ?_
 refine Lq ?_
 refine H2 ‹_› fun _ _ _ _ _ => ?_
 refine TC (vs := vs) (by assumption) (Li.kp ‹_› ‹_› AD) (by omega) (by assumption) fun e h' F2 K2 hne hv2 => ?_
 refine Ii ‹_› ‹_› ?_
 refine V6 e _ rfl hv2 ?_ (Fx.old hne (by assumption))
 have := B6 hts
 rw [An, <- List.map_reverse, List.reverse_reverse] at this
 show ReadsAll _ _ _ _
 exact ((ReadsAll.kp ‹_› (ReadsAll.kp ‹_› ‹_›)) : ReadsAll h' vs.reverse (ps.map Dk) [])
theorem Jw (W : Wd K B mg mb ad tk) {f dx r : Addr} {ps outs : AC} {v : Value} {p : Int × Int} (x : Fd B h (ad "TokenFeed") f dx r ps outs) (y : Tk h v p) :
  Ct prog w B 1 (.ref (ad "TokenFeed.is_outer")) [.ref f, v] [] h (fun v h' => v = .bool (decide (p ∈ outs))) BW := by
 refine (CQ [("self", some (.ref f)), ("token", some v)] (W.m_is_outer).2.2.2 W.gb.lim (binds := [("self", .ref f), ("token", v)]) (rest := []) (fun _ _ _ _ _ _ _ _ _ => BindsTo.of_eq rfl) rfl (FF ["self", "token"] rfl (by decide +kernel) rfl) ?_).ct
 intro A outer s L env h₁ t₁ he hf hL F K1 hA
 refine Gg fun Q1 E1 hQ1 hE1 => ?_
 refine GI ?_
 have x1 : Fd B h₁ (ad "TokenFeed") f dx r ps outs := (Fd.kp ‹_› ‹_› AD AD AD)
 refine wpAny_Compare1 ?_
 refine AQ ‹_› ‹_› (.tail _ (.head _)) ?_ (by decide +kernel)
 refine Attribute_any_ ?_
 refine AQ ‹_› ‹_› (.head _) ?_ (by decide +kernel)
 refine Nc ‹_› ‹_› ‹_› fun _ _ _ => ?_
 refine cA hA (Reads.kp ‹_› ‹_›) (by assumption) ?_
 refine Ii ‹_› ‹_› ?_
 rfl
end
def FP (h : Heap) : List Addr -> List AC -> Prop
 | [], [] => True
 | a :: as, r :: rs => LT h a r /\ FP h as rs
 | _, _ => False
theorem FP.kw {S D : List Addr} {h h' : Heap} (k : Kw S D h h') : ∀ {as : List Addr} {rs : List AC}, FP h as rs -> (∀ a ∈ as, a ∉ S) -> FP h' as rs
 | [], [], _, _ => trivial
 | a :: as, r :: rs, ⟨x, y⟩, hn => ⟨x.kw k (hn a (.head _)), FP.kw k y fun b m => hn b (.tail _ m)⟩
theorem FP.kp {B : Heap} {S D : List Addr} {h h' : Heap} (k : Kp B S D h h') {as : List Addr} {rs : List AC} (x : FP h as rs) (hn : ∀ a ∈ as, a ∉ S) : FP h' as rs := x.kw k.toKw hn
theorem FP.len {h : Heap} : ∀ {as : List Addr} {rs : List AC}, FP h as rs -> as.length = rs.length
 | [], [], _ => rfl
 | a :: as, r :: rs, ⟨_, y⟩ => by simp [FP.len y]
theorem FP.snoc {h : Heap} {a : Addr} {r : AC} (x : LT h a r) : ∀ {as : List Addr} {rs : List AC}, FP h as rs -> FP h (as ++ [a]) (rs ++ [r])
 | [], [], _ => ⟨x, trivial⟩
 | _ :: _, _ :: _, ⟨y, z⟩ => ⟨y, FP.snoc x z⟩
theorem FP.get {h : Heap} : ∀ {as : List Addr} {rs : List AC} {i : Nat} {a : Addr}, FP h as rs -> as[i]? = some a -> ∃ r, rs[i]? = some r /\ LT h a r
 | [], [], _, _, _, e => by simp at e
 | a :: as, r :: rs, 0, b, ⟨x, y⟩, e => by simp at e; subst e; exact Dx r rfl x
 | a :: as, r :: rs, i + 1, b, ⟨_, y⟩, e => by simp at e; simpa using FP.get y e
theorem FP.al {h : Heap} : ∀ {as : List Addr} {rs : List AC}, FP h as rs -> ∀ a ∈ as, Al h a
 | [], [], _, a, m => nomatch m
 | a :: as, r :: rs, ⟨x, y⟩, b, m => by
  cases m with
  | head => exact x.al
  | tail _ m => exact FP.al y b m
theorem HY {N : Nat} {D : List AC} (P : AC) : ∀ (rs : List AC) (r : AC), A0 P rs r = some D -> (∀ x ∈ rs ++ [r], x.length + P.length <= N) -> ∀ x ∈ D, x.length <= N := by
 induction P with
 | nil => exact fun rs r h hl x m => hl x (Option.some.inj (show some (rs ++ [r]) = some D from h) ▸ m)
 | cons p P ih =>
  intro rs r h hl
  have hl1 : ∀ x ∈ rs ++ [r], x.length + P.length <= N := fun x m => Nat.le_of_succ_le (hl x m)
  refine BK (I3.symm.trans h) (fun _ h => BK h (fun _ h => AG h) fun _ h => ih _ _ h (DR hl1 ?_)) fun _ h => ih _ _ h (DR (fun x m => hl1 x (List.mem_append_left _ m)) ?_)
  ·exact Nat.zero_add _ ▸ Nat.le_trans (Nat.le_add_left _ _) (hl1 r (List.mem_append_right _ (.head _)))
  ·rw [List.length_append, Nat.add_assoc, Nat.add_comm [p].length]; exact hl r (List.mem_append_right _ (.head _))
structure Yw where
 rs : List AC
 r : AC
 as : List Addr
 a : Addr
 tok : Option Value
section
variable {K : Frag} {B : Heap} {mg mb : Str -> Option Value} {ad : Str -> Addr} {tk : Str -> Tok} {prog : Program} {w : World} {h : Heap}
theorem Lk (W : Wd K B mg mb ad tk) {x dx d1 d2 : Addr} {h₂ : Heap} {P Bd : AC} {D : List AC} {long out : Bool} {args : List Value} (hx : h.get? x = none) (hdx : h.get? dx = none) (K2 : Kp B [] [] h h₂) (O : Ob h₂ x dx (ad "Macro") (fun _ => none)) (y1 : TT h d1 P) (y2 : TT h d2 Bd)
  (hP : P.length <= 900) (hB : Bd.length <= 900) (hD : A0 P [] [] = some D)
  (hbind : ∀ kV doc pm an cdv ct s t, B.StaysIn h₂ -> BindsTo (mk s h₂ t) (fnOf "__init__" "Macro.__init__" (Be (Bh 23 0)) (AB (Bh 23 0)) (AM (Bh 23 0)) (.ref (ad "Ma.d")) kV doc pm an cdv ct) ⟨args, []⟩ [("self", .ref x), ("parameters", .ref d1), ("body", .ref d2), ("is_long", .bool long), ("is_outer", .bool out)]) :
  IY prog w B 1 (.ref (ad "Macro.__init__")) args [] h h₂ (fun v h' => v = .none /\ Mc h' (ad "Macro") x dx P Bd D long out) BW := by
 refine CQ [("self", some (.ref x)), ("parameters", some (.ref d1)), ("body", some (.ref d2)), ("is_long", some (.bool long)), ("is_outer", some (.bool out)), ("rows", none), ("token", none)] W.iMa.1 W.gb.lim (binds := [("self", .ref x), ("parameters", .ref d1), ("body", .ref d2), ("is_long", .bool long), ("is_outer", .bool out)]) (rest := ["rows", "token"]) hbind rfl (FF ["self", "parameters", "body", "is_long", "is_outer", "rows", "token"] rfl (by decide +kernel) rfl) ?_
 intro A outer s L env h₁ t₁ he hf hL F K1 hA
 refine QZ ?_
 have O1 : Ob h₁ x dx (ad "Macro") (fun _ => none) := (Ob.kp ‹_› ‹_› AD AD)
 have p1 : TT h₁ d1 P := (TT.kp ‹_› (TT.kp ‹_› ‹_›))
 have b1 : TT h₁ d2 Bd := (TT.kp ‹_› (TT.kp ‹_› ‹_›))
 revert p1; refine Ah fun vsP hTP hsP => ?_
 revert b1; refine Ah fun vsB hTB hsB => ?_
 refine isTrue_or ?_
 refine isTrue_not ?_
 refine G9 rfl ?_
 refine Ay rfl ?_
 refine Aq W.gb ‹_› ‹_› (by kernel_rfl) W.b_isinstance ?_
 refine I4 rfl rfl ?_
 refine AW rfl ?_
 refine AQ ‹_› ‹_› (.tail _ (.head _)) ?_ (by decide +kernel)
 refine AW rfl ?_
 refine Aq W.gb ‹_› ‹_› (by kernel_rfl) W.b_tuple ?_
 refine args_nil ?_
 refine Hq hTP ?_
 refine Bc ?_
 refine Rh ?_
 refine isTrue_or ?_
 refine isTrue_not ?_
 refine G9 rfl ?_
 refine Ay rfl ?_
 refine Aq W.gb ‹_› ‹_› (by kernel_rfl) W.b_isinstance ?_
 refine I4 rfl rfl ?_
 refine AW rfl ?_
 refine AQ ‹_› ‹_› (.tail _ (.tail _ (.head _))) ?_ (by decide +kernel)
 refine AW rfl ?_
 refine Aq W.gb ‹_› ‹_› (by kernel_rfl) W.b_tuple ?_
 refine args_nil ?_
 refine Hq hTB ?_
 refine Bc ?_
 refine Rh ?_
 refine isTrue_or_nil ?_
 refine Z2 ?_
 refine Dm ?_
 refine Fg ?_
 refine Ce rfl ?_
 refine List_ ?_
 refine AW rfl ?_
 refine List_ ?_
 refine args_nil ?_
 refine UF (by assumption) fun a0 h3 F3 K3 hna xa => ?_
 refine args_nil ?_
 refine HT (by assumption) (fun d h4 F4 K4 hnd xd => ?_) (by simp)
 have Wd1 : Wr B h [] d := Fx.wr (by assumption) hnd
 have Wa0 : Wr B h [] a0 := Fx.wr (by assumption) hna
 have hda : d ≠ a0 := Ne.symm (EW hnd xa.al)
 refine Sn he F4 (.tail (.tail (.tail (.tail (.tail .head))))) fun h5 t5 F5 K5 => ?_
 have xa5 : LT h5 a0 [] := (LT.kp ‹_› (LT.kp ‹_› ‹_› AD) AD)
 have xd5 : Li h5 d [.ref a0] := (Li.kp ‹_› ‹_› AD)
 have P5 : Tu h5 d1 vsP := (Tu.kp ‹_› (Tu.kp ‹_› (Tu.kp ‹_› ‹_›)))
 have O5 : Ob h5 x dx (ad "Macro") (fun _ => none) := (Ob.kp ‹_› (Ob.kp ‹_› (Ob.kp ‹_› ‹_› AD AD) AD AD) AD (Ar (EW ‹_› (Ob.alD ‹_›))))
 have hlP := Cr hsP
 refine PJ (fun _ => rfl) ?_
 refine AQ ‹_› ‹_› (.tail _ (.head _)) ?_ (by decide +kernel)
 refine Zy he hf hA P5 (fun a : Yw => [("self", some (.ref x)), ("parameters", some (.ref d1)), ("body", some (.ref d2)), ("is_long", some (.bool long)), ("is_outer", some (.bool out)), ("rows", some (.ref d)), ("token", a.tok)]) (fun a v => [("self", some (.ref x)), ("parameters", some (.ref d1)), ("body", some (.ref d2)), ("is_long", some (.bool long)), ("is_outer", some (.bool out)), ("rows", some (.ref d)), ("token", some v)]) (fun _ _ => .tail (.tail (.tail (.tail (.tail (.tail .head))))))
  (fun i a h' => A0 P [] [] = A0 (P.drop i) a.rs a.r /\ Li h' d ((a.as ++ [a.a]).map .ref) /\ FP h' a.as a.rs /\ LT h' a.a a.r /\ a.a ∉ a.as /\ d ∉ a.as /\ d ≠ a.a /\ (∀ b ∈ a.as ++ [a.a], b = a0 \/ h5.get? b = none) /\ Wr B h [] a.a /\ a.as.length <= i /\ a.r.length <= i) [d, a0] ⟨[], [], [], a0, none⟩ (Ei xd5.al xa5.al) rfl F5
  (fun h' K' => ⟨rfl, xd5.kp K' AD, trivial, xa5.kp K' AD, (by simp), (by simp), hda, (fun b m => .inl (by simpa using m)), Wa0, (by simp), (by simp)⟩) ?_ ?_
 ·rintro i ⟨rs, r, as, a, tok⟩ ia h6 h7 t7 v hi hJ hia K6 hF kw F7 K7 hv
  dsimp only at hJ F7
  revert hJ; refine Yd fun hJ li6 ls6 lt6 haas z => ?_; revert z; refine Yd fun hdas hda6 hfr Wa hasl hrl => ?_
  refine Ah (fun p hp tp => ?_) <| H4 hsP hv
  have hlas := ls6.len
  have hdrop : P.drop i = p :: P.drop (i + 1) := by
   rw [List.drop_eq_getElem_cons (by omega)]
   congr 1
   rw [List.getElem?_eq_getElem (by omega)] at hp
   exact Option.some.inj hp
  rw [hdrop, I3] at hJ
  have hia6 : ∀ {b}, Al h6 b -> (∀ o, h6.get? b = some o -> ∃ vs n, o.data = .seq vs n) -> b ≠ ia := fun {b} al nf q => by
   revert hF; refine ET fun o vs e dd => ?_
   subst q
   refine HM (fun vs' n dd' => ?_) <| nf o e
   rw [dd] at dd'; cases dd'
  have liNe : ∀ {b vs}, Li h6 b vs -> b ≠ ia := fun {b vs} y => Li.neF y hF
  have hdia : d ≠ ia := liNe li6
  have haia : a ≠ ia := LT.neF lt6 hF
  have hasia : ∀ b ∈ as, b ∉ [ia] := fun b m => Ar fun q => by
   refine Ap (fun j hj => ?_) <| List.getElem?_of_mem m
   refine Ah (fun r' _ lt' => ?_) <| ls6.get hj
   exact LT.neF lt' hF q
  have li7 : Li h7 d ((as ++ [a]).map .ref) := li6.kw kw (Ar hdia)
  have ls7 : FP h7 as rs := ls6.kw kw hasia
  have lt7 : LT h7 a r := lt6.kw kw (Ar haia)
  have tp7 : Tk h7 v p := (Reads.kp ‹_› (Reads.kp ‹_› (Reads.kp ‹_› (Reads.kp ‹_› ‹_›))))
  refine QZ ?_
  refine wpAny_isTrue_Compare1 ?_
  refine Subscript_ ?_
  refine AQ ‹_› ‹_› (.tail _ (.tail _ (.tail _ (.tail _ (.tail _ (.tail _ (.head _))))))) ?_ (by decide +kernel)
  refine Ag ?_
  refine Mp (fun _ => by with_unfolding_all rfl) ‹_› fun _ => ?_
  refine B5 W.gb ‹_› ‹_› (by kernel_rfl) W.i_MATCH ?_ (by decide +kernel)
  refine Zt ?_
  refine Bc ?_
  refine aC (fun h9 => ?_) (fun h9 => ?_)
  ·rw [if_pos h9] at hJ
   have hno : ¬ (p.2 ≠ rs.length + 1 \/ 9 < rs.length + 1) := fun hc => by
    rw [if_pos hc, hD] at hJ; cases hJ
   rw [if_neg hno] at hJ
   refine QZ ?_
   refine isTrue_or ?_
   refine wpAny_isTrue_Compare1 ?_
   refine Subscript_ ?_
   refine AQ ‹_› ‹_› (.tail _ (.tail _ (.tail _ (.tail _ (.tail _ (.tail _ (.head _))))))) ?_ (by decide +kernel)
   refine Ag ?_
   refine Up (fun _ => by with_unfolding_all rfl) ‹_› fun _ => ?_
   refine Ay rfl ?_
   refine Aq W.gb ‹_› ‹_› (by kernel_rfl) W.b_len ?_
   refine I4 rfl rfl ?_
   refine AW rfl ?_
   refine AQ ‹_› ‹_› (.tail _ (.tail _ (.tail _ (.tail _ (.tail _ (.head _)))))) ?_ (by decide +kernel)
   refine args_nil ?_
   refine Jx li7 (by simp; omega) fun _ _ => ?_
   refine bA ?_
   refine Bc ?_
   have e1 : ((as ++ [a]).map Value.ref).length = rs.length + 1 := by simp [hlas]
   refine PV (fun hc => (hno (.inl (by omega))).elim) (fun hc => ?_)
   refine isTrue_or ?_
   refine wpAny_isTrue_Compare1 ?_
   refine Ay rfl ?_
   refine Aq W.gb ‹_› ‹_› (by kernel_rfl) W.b_len ?_
   refine I4 rfl rfl ?_
   refine AW rfl ?_
   refine AQ ‹_› ‹_› (.tail _ (.tail _ (.tail _ (.tail _ (.tail _ (.head _)))))) ?_ (by decide +kernel)
   refine args_nil ?_
   refine Jx li7 (by simp; omega) fun _ _ => ?_
   refine B5 W.gb ‹_› ‹_› (by kernel_rfl) W.i_MOST_PARAMETERS ?_ (by decide +kernel)
   refine bR ?_
   refine Bc ?_
   refine PV (fun hc => (hno (.inr (by omega))).elim) (fun hc => ?_)
   refine isTrue_or_nil ?_
   refine Z2 ?_
   refine Dm ?_
   refine Fg ?_
   refine Ib rfl ‹_› ‹_› ?_
   refine Y1 rfl ?_
   refine AQ ‹_› ‹_› (.tail _ (.tail _ (.tail _ (.tail _ (.tail _ (.head _)))))) ?_ (by decide +kernel)
   refine FL ‹_› ?_
   refine IQ rfl rfl ?_
   refine AW rfl ?_
   refine List_ ?_
   refine args_nil ?_
   refine UF (by assumption) fun a' h8 F8 K8 hna' xa' => ?_
   have Wa' : Wr B h [] a' := Fx.wr (by assumption) hna'
   have li8 : Li h8 d ((as ++ [a]).map .ref) := li7.kp K8 AD
   have ls8 : FP h8 as rs := ls7.kp K8 (fun _ _ => AD)
   have lt8 : LT h8 a r := lt7.kp K8 AD
   have hda' : d ≠ a' := EW hna' li7.al
   have haa' : a ≠ a' := EW hna' lt7.al
   have hasa' : ∀ b ∈ as, b ≠ a' := fun b m => EW hna' (ls7.al b m)
   refine args_nil ?_
   refine Nu (v := .ref a') F8 Wd1 li8 (by simp; omega) fun h9 F9 K9 li9 => ?_
   refine Dm ?_
   refine Fg ?_
   refine Dm ?_
   refine Ni ⟨rs ++ [r], [], as ++ [a], a', some v⟩ [d] (by assumption) (Kp.tr ‹_› (by exact Ac (.inl (.head _))) AH (Kp.tr ‹_› AH AH (Kp.refl ..))) (Ac (.inl (.head _))) ⟨hJ, by simpa using li9, ?_, xa'.kp K9 (Ar hda'.symm), ?_, ?_, hda', ?_, Wa', by simp; omega, by simp⟩
   ·exact FP.snoc (lt8.kp K9 (Ar hda6.symm)) (ls8.kp K9 fun b m => Ar fun q => hdas (q ▸ m))
   ·intro m; rcases List.mem_append.mp m with m | m
    ·exact hasa' _ m rfl
    ·exact haa' (List.mem_singleton.mp m).symm
   ·intro m; rcases List.mem_append.mp m with m | m
    ·exact hdas m
    ·exact hda6 (by simpa using m)
   ·intro b m
    rcases List.mem_append.mp m with m | m
    ·exact hfr b m
    ·have : b = a' := by simpa using m
     exact .inr (this ▸ K7.alive hna')
  ·rw [if_neg h9] at hJ
   refine Ib rfl ‹_› ‹_› ?_
   refine Y1 rfl ?_
   refine Subscript_ ?_
   refine AQ ‹_› ‹_› (.tail _ (.tail _ (.tail _ (.tail _ (.tail _ (.head _)))))) ?_ (by decide +kernel)
   refine wpAny_UnaryOp ?_
   refine Ag ?_
   refine Lq ?_
   have hlen : ((as ++ [a]).map Value.ref).length = as.length + 1 := by simp
   refine GO li7 (by omega) (by omega) (by omega) (v := .ref a) (by unfold AK; rw [if_pos (by omega), hlen, show (-1 + ((as.length + 1 : Nat) : Int)).toNat = as.length by omega]; simp) ?_
   refine Ri ‹_› ?_
   refine IQ rfl rfl ?_
   refine AW rfl ?_
   refine AQ ‹_› ‹_› (.tail _ (.tail _ (.tail _ (.tail _ (.tail _ (.tail _ (.head _))))))) ?_ (by decide +kernel)
   refine args_nil ?_
   refine XI (ps := r) (p := p) (by assumption) Wa lt7 tp7 (by omega) fun h8 F8 K8 lt8 => ?_
   refine Dm ?_
   refine Fg ?_
   refine Dm ?_
   refine Ni ⟨rs, r ++ [p], as, a, some v⟩ [a] (by assumption) (Kp.tr ‹_› (by exact Ac (.inl (.head _))) AH (Kp.refl ..)) (Ac ?_) ⟨hJ, li7.kp K8 (Ar hda6), ls7.kp K8 (fun b m => Ar fun q => haas (q ▸ m)), lt8, haas, hdas, hda6, hfr, Wa, by dsimp only; omega, by simp; omega⟩
   rcases hfr a (by simp) with q | q
   ·exact .inl (q ▸ .tail _ (.head _))
   ·exact .inr ⟨q, haia⟩
 ·rintro ⟨rs, r, as, a, tok⟩ ia h6 h7 t7 hJ hia hF kw F7 K7
  dsimp only at hJ F7
  revert hJ; refine Yd fun hJ li6 ls6 lt6 haas z => ?_; revert z; refine Yd fun hdas hda6 hfr Wa hasl hrl => ?_
  rw [hlP, List.drop_length, show A0 [] _ _ = _ from rfl, hD] at hJ
  have hDe := Option.some.inj hJ
  have hdia : d ≠ ia := Li.neF li6 hF
  have haia : a ≠ ia := LT.neF lt6 hF
  have hasia : ∀ b ∈ as, b ∉ [ia] := fun b m => Ar fun q => by
   refine Ap (fun j hj => ?_) <| List.getElem?_of_mem m
   refine Ah (fun r' _ lt' => ?_) <| ls6.get hj
   exact LT.neF lt' hF q
  have li7 : Li h7 d ((as ++ [a]).map .ref) := li6.kw kw (Ar hdia)
  have ls7 : FP h7 (as ++ [a]) D := hDe ▸ FP.snoc (lt6.kw kw (Ar haia)) (ls6.kw kw hasia)
  have hxd : x ≠ d := EW hnd (Al.kp ‹_› (Ob.al ‹_›))
  have hxa : x ≠ a0 := EW hna (Ob.al ‹_›)
  have hdxL : dx ≠ L := EW hL O.alD
  have O7 : Ob h7 x dx (ad "Macro") (fun _ => none) := O5.kp K7 (Ef hxd hxa) (Ar hdxL)
  refine Fg ?_
  refine E9 rfl ?_
  refine AQ ‹_› ‹_› (.tail _ (.head _)) ?_ (by decide +kernel)
  refine AQ ‹_› ‹_› (.head _) ?_ (by decide +kernel)
  refine Cz W.X F7 O7 W.a_M_parameters.2 hdx hdxL PySem.Within.nil (by simp) fun h8 t8 F8 K8 O8 => ?_
  refine E9 rfl ?_
  refine AQ ‹_› ‹_› (.tail _ (.tail _ (.head _))) ?_ (by decide +kernel)
  refine AQ ‹_› ‹_› (.head _) ?_ (by decide +kernel)
  refine Cz W.X F8 O8 W.a_M_body.2 hdx hdxL (PySem.Within.cons _ _ PySem.Within.nil) (by simp) fun h9 t9 F9 K9 O9 => ?_
  refine E9 rfl ?_
  refine AQ ‹_› ‹_› (.tail _ (.tail _ (.tail _ (.head _)))) ?_ (by decide +kernel)
  refine AQ ‹_› ‹_› (.head _) ?_ (by decide +kernel)
  refine Cz W.X F9 O9 W.a_M_is_long.2 hdx hdxL (PySem.Within.cons _ _ (PySem.Within.cons _ _ PySem.Within.nil)) (by simp) fun h10 t10 F10 K10 O10 => ?_
  refine E9 rfl ?_
  refine AQ ‹_› ‹_› (.tail _ (.tail _ (.tail _ (.tail _ (.head _))))) ?_ (by decide +kernel)
  refine AQ ‹_› ‹_› (.head _) ?_ (by decide +kernel)
  refine Cz W.X F10 O10 W.a_M_is_outer.2 hdx hdxL (PySem.Within.cons _ _ (PySem.Within.cons _ _ (PySem.Within.cons _ _ PySem.Within.nil))) (by simp) fun h11 t11 F11 K11 O11 => ?_
  have li11 : Li h11 d ((as ++ [a]).map .ref) := (((li7.kp K8 AD).kp K9 AD).kp K10 AD).kp K11 AD
  have ls11 : FP h11 (as ++ [a]) D := (((ls7.kp K8 (fun _ _ => AD)).kp K9 (fun _ _ => AD)).kp K10 (fun _ _ => AD)).kp K11 (fun _ _ => AD)
  have hlas := ls7.len
  have hle : ((as ++ [a]).map Value.ref).length = D.length := by rw [List.length_map, hlas]
  have hDl : D.length <= 901 := by rw [<- hlas]; simp; omega
  refine E9 rfl ?_
  refine wpAny_BinOp ?_
  refine Ay rfl ?_
  refine Aq W.gb ‹_› ‹_› (by kernel_rfl) W.b_len ?_
  refine I4 rfl rfl ?_
  refine AW rfl ?_
  refine AQ ‹_› ‹_› (.tail _ (.tail _ (.tail _ (.tail _ (.tail _ (.head _)))))) ?_ (by decide +kernel)
  refine args_nil ?_
  refine Jx li11 (by omega) fun _ _ => ?_
  refine Ag ?_
  refine TZ ?_
  refine AQ ‹_› ‹_› (.head _) ?_ (by decide +kernel)
  rename_i tkc tcc
  refine Cz W.X (by assumption) O11 W.a_M_count.2 hdx hdxL (PySem.Within.cons _ _ (PySem.Within.cons _ _ (PySem.Within.cons _ _ (PySem.Within.cons _ _ PySem.Within.nil)))) (by simp) fun h12 t12 F12 K12 O12 => ?_
  have li12 : Li h12 d ((as ++ [a]).map .ref) := li11.kp K12 AD
  have ls12 : FP h12 (as ++ [a]) D := ls11.kp K12 (fun _ _ => AD)
  refine E9 rfl ?_
  refine Ay rfl ?_
  refine Aq W.gb ‹_› ‹_› (by kernel_rfl) W.b_tuple ?_
  refine Mw rfl rfl ?_
  refine AW rfl ?_
  refine FO (cl := []) rfl rfl (by decide +kernel) (fun _ => rfl) ?_
  refine AQ ‹_› ‹_› (.tail _ (.tail _ (.tail _ (.tail _ (.tail _ (.head _)))))) ?_ (by decide +kernel)
  refine TR (.inl rfl) he hf hA (by kernel_rfl) rfl (by decide +kernel) li12 (fun i ys hq => Cf hq ys (D.take i)) [] AH (by omega) (by assumption) (fun h' K' => by simp [Cf]) ?_ ?_
  ·intro i ys ac ia C cenv hq h13 t13 v hi hys hJ hac hia hC kw K13 hec hcl FC fr hv
   have hJ13 : Cf h13 ys (D.take i) := hJ.kw kw
   rw [List.getElem?_map] at hv
   refine Ah (fun b hb z0 => ?_) <| Option.map_eq_some_iff.mp hv; obtain rfl := z0
   refine Ah (fun row hrow lt12 => ?_) <| ls12.get hb
   have hrl : row.length <= 900 := HY (N := 900) P [] [] hD (by simpa using hP) row (List.mem_of_getElem? hrow)
   show wpAny _ _ _ _ _ _
   refine Ay rfl ?_
   refine Aq W.gb ‹_› ‹_› (by kernel_rfl) W.b_tuple ?_
   refine Mw rfl rfl ?_
   refine AW rfl ?_
   refine AQ ‹_› ‹_› (.head _) ?_ (by decide +kernel)
   refine args_nil ?_
   refine Tp (ps := row) (by assumption) (lt12.kp K13 AD) (by omega) fun e h14 F14 K14 x14 => ?_
   refine JS h14 _ [] rfl K14 ⟨AH, ?_⟩
   rw [List.take_add_one, hrow]
   exact Cf.snoc x14 (hJ13.kp K14)
  ·intro ys ac ia C hq h13 t13 hys hJ hac hia hC kw K13 F13 La
   rw [hle, List.take_length] at hJ
   have rl : RL h13 ac D := ⟨ys, La, hJ.kw kw⟩
   refine args_nil ?_
   refine YF (by assumption) rl (by omega) fun e h14 F14 K14 rt => ?_
   have O14 := (O12.kp K13 AD AD).kp K14 AD AD
   refine AQ ‹_› ‹_› (.head _) ?_ (by decide +kernel)
   refine Cz W.X (by assumption) O14 W.a_M_delimiters.2 hdx hdxL (PySem.Within.cons _ _ (PySem.Within.cons _ _ (PySem.Within.cons _ _ (PySem.Within.cons _ _ (PySem.Within.cons _ _ PySem.Within.nil))))) (by simp) fun h15 t15 F15 K15 O15 => ?_
   refine Dm ?_
   refine Fx.fin ‹_› ?_
   have fP : Kp B [] [] h h15 := F15.kp
   refine ⟨rfl, ⟨_, d1, d2, e, tcc + 1, O15, ?_, y1.kp fP, ?_, y2.kp fP, ?_, ?_, ?_, ?_, rt.kp K15, ?_, ?_⟩⟩
   all_goals (try rw [hle])
   all_goals (repeat (first | exact if_pos rfl | refine (if_neg (by decide +kernel)).trans ?_ | rfl))
end
section
variable {K : Frag} {B : Heap} {mg mb : Str -> Option Value} {ad : Str -> Addr} {tk : Str -> Tok} {prog : Program} {w : World} {h : Heap}
theorem Pf (W : Wd K B mg mb ad tk) {d1 d2 : Addr} {P Bd : AC} {D : List AC} {long out : Bool} (y1 : TT h d1 P) (y2 : TT h d2 Bd) (hP : P.length <= 900) (hB : Bd.length <= 900) (hD : A0 P [] [] = some D) :
  Ct prog w B 2 (.ref (ad "Macro")) [.ref d1, .ref d2, .bool long, .bool out] [] h (fun v h' => ∃ x dx, v = .ref x /\ h.get? x = none /\ h.get? dx = none /\ Mc h' (ad "Macro") x dx P Bd D long out) BW :=
 Il W.X W.cMa.c1 W.cMa.f1 W.cMa.f2 (R := fun x dx h' => Mc h' (ad "Macro") x dx P Bd D long out) fun x dx h₂ hx hdx K2 O => Lk W hx hdx K2 O y1 y2 hP hB hD fun _ _ _ _ _ _ s t base => by
  refine Ap (fun n e2 => ?_) W.iMa.2
  exact BindsTo.of_defaults rfl (base _ _ e2) rfl rfl rfl
theorem Ou (W : Wd K B mg mb ad tk) {d1 d2 : Addr} {P Bd : AC} {D : List AC} (y1 : TT h d1 P) (y2 : TT h d2 Bd) (hP : P.length <= 900) (hB : Bd.length <= 900) (hD : A0 P [] [] = some D) :
  Ct prog w B 2 (.ref (ad "Macro")) [.ref d1, .ref d2] [] h (fun v h' => ∃ x dx, v = .ref x /\ h.get? x = none /\ h.get? dx = none /\ Mc h' (ad "Macro") x dx P Bd D false false) BW :=
 Il W.X W.cMa.c1 W.cMa.f1 W.cMa.f2 (R := fun x dx h' => Mc h' (ad "Macro") x dx P Bd D false false) fun x dx h₂ hx hdx K2 O => Lk W hx hdx K2 O y1 y2 hP hB hD fun _ _ _ _ _ _ s t base => by
  refine Ap (fun n e2 => ?_) W.iMa.2
  exact BindsTo.of_defaults rfl (base _ _ e2) rfl rfl rfl
theorem JW (W : Wd K B mg mb ad tk) {x dx d1 d2 : Addr} {h₂ : Heap} {ps outs : AC} {args : List Value} (hx : h.get? x = none) (hdx : h.get? dx = none) (K2 : Kp B [] [] h h₂) (O : Ob h₂ x dx (ad "TokenFeed") (fun _ => none)) (y1 : LT h d1 ps) (y2 : TT h d2 outs)
  (hP : ps.length <= 20000) (hok : ∀ p ∈ ps, A8 p = true)
  (hbind : ∀ kV doc pm an cdv ct s t, B.StaysIn h₂ -> BindsTo (mk s h₂ t) (fnOf "__init__" "TokenFeed.__init__" (Be (Bh 17 0)) (AB (Bh 17 0)) (AM (Bh 17 0)) (.ref (ad "TF.d")) kV doc pm an cdv ct) ⟨args, []⟩ [("self", .ref x), ("tokens", .ref d1), ("outers", .ref d2)]) :
  IY prog w B 3 (.ref (ad "TokenFeed.__init__")) args [] h h₂ (fun v h' => v = .none /\ ∃ r, h.get? r = none /\ Fd B h' (ad "TokenFeed") x dx r ps outs) BW := by
 refine CQ [("self", some (.ref x)), ("tokens", some (.ref d1)), ("outers", some (.ref d2)), ("token", none)] W.iTF.1 W.gb.lim (binds := [("self", .ref x), ("tokens", .ref d1), ("outers", .ref d2)]) (rest := ["token"]) hbind rfl (FF ["self", "tokens", "outers", "token"] rfl (by decide +kernel) rfl) ?_
 intro A outer s L env h₁ t₁ he hf hL F K1 hA
 refine PJ (fun _ => rfl) ?_
 have hdxL : dx ≠ L := EW hL O.alD
 have O1 : Ob h₁ x dx (ad "TokenFeed") (fun _ => none) := (Ob.kp ‹_› ‹_› AD AD)
 have l1 : LT h₁ d1 ps := (y1.kp K2 AD).kp K1 AD
 have o1 : TT h₁ d2 outs := (y2.kp K2).kp K1
 refine Ah (fun vs li1 ts1 => ?_) <| id l1
 have hl := Cr ts1
 refine AQ ‹_› ‹_› (.tail _ (.head _)) ?_ (by decide +kernel)
 refine Z0 he hf hA li1 (fun a : Option Value => [("self", some (.ref x)), ("tokens", some (.ref d1)), ("outers", some (.ref d2)), ("token", a)]) (fun a v => [("self", some (.ref x)), ("tokens", some (.ref d1)), ("outers", some (.ref d2)), ("token", some v)]) (fun _ _ => .tail (.tail (.tail .head)))
  (fun i a h' => True) [] none AH rfl F (fun _ _ => trivial) ?_ ?_
 ·intro i a ia h6 h7 t7 v hi hJ hia K6 hF kw F7 K7 hv
  refine Ah (fun p hp tp => ?_) <| H4 ts1 hv
  have tp7 : Tk h7 v p := (Reads.kp ‹_› ‹_›)
  refine QZ ?_
  refine isTrue_not ?_
  refine G9 rfl ?_
  refine Ay rfl ?_
  refine B5 W.gb ‹_› ‹_› (by kernel_rfl) W.f_is_token.1 ?_ (by decide +kernel)
  refine jK W.X W.f_is_token.2.1 rfl rfl ?_
  refine AW rfl ?_
  refine AQ ‹_› ‹_› (.tail _ (.tail _ (.tail _ (.head _)))) ?_ (by decide +kernel)
  refine args_nil ?_
  refine Cj ‹_› ?_
  refine I9 (HK W tp7 (hok p (List.mem_of_getElem? hp))) he hf hA (by assumption) (by decide) AH (fun _ x => x.elim) fun v' h8 t8 F8 K8 e => ?_
  subst e
  refine Bc ?_
  refine ZD ?_
  refine Dm ?_
  refine Fg ?_
  refine Dm ?_
  exact Ni (some v) [] (by assumption) (Kp.tr ‹_› AH AH (Kp.refl ..)) AH trivial
 ·intro a ia h6 h7 t7 hJ hia hF kw F7 K7
  have l7 : LT h7 d1 ps := l1.kp K7 AD
  have O7 : Ob h7 x dx (ad "TokenFeed") (fun _ => none) := O1.kp K7 AD (Ar hdxL)
  have o7 : TT h7 d2 outs := o1.kp K7
  revert l7; refine Ah fun vs7 li7 ts7 => ?_
  have hl7 := Cr ts7
  refine Fg ?_
  refine E9 rfl ?_
  refine Subscript_ ?_
  refine Ay rfl ?_
  refine Aq W.gb ‹_› ‹_› (by kernel_rfl) W.b_list ?_
  refine Mw rfl rfl ?_
  refine AW rfl ?_
  refine AQ ‹_› ‹_› (.tail _ (.head _)) ?_ (by decide +kernel)
  refine args_nil ?_
  refine YQ (by assumption) ‹_› (by omega) fun e8 h8 F8 K8 hn8 hv8 => ?_
  refine KD ?_
  refine Hr ?_
  refine Hr ?_
  refine N8 ?_
  refine wpAny_UnaryOp ?_
  refine Ag ?_
  refine Lq ?_
  refine H2 ‹_› fun _ _ _ _ _ => ?_
  refine TC (vs := vs7) (by assumption) (Li.kp ‹_› ‹_› AD) (by omega) (by assumption) fun e9 h9 F9 K9 hn9 hv9 => ?_
  have hr : h.get? e9 = none := Fx.old hn9 (by assumption)
  have O9 : Ob h9 x dx (ad "TokenFeed") (fun _ => none) := (Ob.kp ‹_› (Ob.kp ‹_› (Ob.kp ‹_› ‹_› AD AD) AD AD) AD AD)
  have ts9 : Ts h9 vs7 ps := by
   show ReadsAll _ _ _ _
   exact ((ReadsAll.kp ‹_› (ReadsAll.kp ‹_› (ReadsAll.kp ‹_› ‹_›))) : ReadsAll h9 vs7 (An ps) [])
  have o9 : TT h9 d2 outs := (TT.kp ‹_› (TT.kp ‹_› (TT.kp ‹_› ‹_›)))
  refine AQ ‹_› ‹_› (.head _) ?_ (by decide +kernel)
  refine Cz W.X F9 O9 W.a_T_rest.2 hdx hdxL PySem.Within.nil (by simp) fun h10 t10 F10 K10 O10 => ?_
  have o10 : TT h10 d2 outs := o9.kp K10
  refine Ah (fun vso to10 tso => ?_) <| id o10
  refine E9 rfl ?_
  refine Ay rfl ?_
  refine Aq W.gb ‹_› ‹_› (by kernel_rfl) W.b_tuple ?_
  refine Mw rfl rfl ?_
  refine AW rfl ?_
  refine AQ ‹_› ‹_› (.tail _ (.tail _ (.head _))) ?_ (by decide +kernel)
  refine args_nil ?_
  refine ZG ‹_› ?_
  refine AQ ‹_› ‹_› (.head _) ?_ (by decide +kernel)
  refine Cz W.X F10 O10 W.a_T_outers.2 hdx hdxL (PySem.Within.cons _ _ PySem.Within.nil) (by simp) fun h11 t11 F11 K11 O11 => ?_
  have li11 : Li h11 e9 vs7.reverse := (hv9.kp K10 AD).kp K11 AD
  have o11 : TT h11 d2 outs := o10.kp K11
  have ts11 : Ts h11 vs7.reverse ps.reverse := by
   have := B6 (ReadsAll.kp K11 (ReadsAll.kp K10 ts9))
   unfold Ts
   rw [An, List.map_reverse]
   exact this
  refine Dm ?_
  refine Fx.fin ‹_› ?_
  refine ⟨rfl, e9, hr, ⟨_, d2, O11, ?_, ?_, ?_, ?_, ?_, ?_, o11.rd⟩, ⟨_, li11, ts11⟩, by omega, FM F11 hr⟩
  all_goals (repeat (first | exact if_pos rfl | refine (if_neg (by decide +kernel)).trans ?_ | rfl))
theorem Rx (W : Wd K B mg mb ad tk) {d1 d2 : Addr} {ps outs : AC} (y1 : LT h d1 ps) (y2 : TT h d2 outs) (hP : ps.length <= 20000) (hok : ∀ p ∈ ps, A8 p = true) :
  Ct prog w B 4 (.ref (ad "TokenFeed")) [.ref d1, .ref d2] [] h (fun v h' => ∃ x dx, v = .ref x /\ h.get? x = none /\ h.get? dx = none /\ ∃ r, h.get? r = none /\ Fd B h' (ad "TokenFeed") x dx r ps outs) BW :=
 Il W.X W.cTF.c1 W.cTF.f1 W.cTF.f2 (R := fun x dx h' => ∃ r, h.get? r = none /\ Fd B h' (ad "TokenFeed") x dx r ps outs) fun x dx h₂ hx hdx K2 O => JW W hx hdx K2 O y1 y2 hP hok fun _ _ _ _ _ _ s t base => by
  refine Ap (fun n e2 => ?_) W.iTF.2.1
  exact BindsTo.of_defaults rfl (base _ _ e2) rfl rfl rfl
theorem QR (W : Wd K B mg mb ad tk) (base : B.StaysIn h) {d1 : Addr} {ps : AC} (y1 : LT h d1 ps) (hP : ps.length <= 20000) (hok : ∀ p ∈ ps, A8 p = true) :
  Ct prog w B 4 (.ref (ad "TokenFeed")) [.ref d1] [] h (fun v h' => ∃ x dx, v = .ref x /\ h.get? x = none /\ h.get? dx = none /\ ∃ r, h.get? r = none /\ Fd B h' (ad "TokenFeed") x dx r ps []) BW :=
 Il W.X W.cTF.c1 W.cTF.f1 W.cTF.f2 (R := fun x dx h' => ∃ r, h.get? r = none /\ Fd B h' (ad "TokenFeed") x dx r ps []) fun x dx h₂ hx hdx K2 O => JW W (d2 := ad "TF.e") hx hdx K2 O y1 ⟨[], (let ⟨n, e⟩ := W.iTF.2.2; ⟨n, base _ _ e⟩), .nil⟩ hP hok fun _ _ _ _ _ _ s t base => by
  refine Ap (fun n e2 => ?_) W.iTF.2.1
  exact BindsTo.of_defaults rfl (base _ _ e2) rfl rfl rfl
end
section
variable {K : Frag} {B : Heap} {mg mb : Str -> Option Value} {ad : Str -> Addr} {tk : Str -> Tok} {prog : Program} {w : World} {h : Heap}
theorem Ku (W : Wd K B mg mb ad tk) {d : Addr} {m : Int} {u : Tok} {n : Nat} (x : Da h d (n + 1)) (hm1 : 1 <= m) (hm2 : m <= 1000) (hB : B.get? d = none) :
  Ct prog w B 1 (.ref (ad "_law_take")) [.ref d, .int m u] [d] h (fun v h' => ∃ y t, v = .int y t /\ 0 <= y /\ y < m /\ Da h' d n) BW := by
 refine (CQ [("source", some (.ref d)), ("many", some (.int m u)), ("digit", none), ("mixed", none)] (W.f_law_take).2.2 W.gb.lim (binds := [("source", .ref d), ("many", .int m u)]) (rest := ["digit", "mixed"]) (fun _ _ _ _ _ _ _ _ _ => BindsTo.of_eq rfl) rfl (FF ["source", "many", "digit", "mixed"] rfl (by decide +kernel) rfl) ?_).ct
 intro A outer s L env h₁ t₁ he hf hL F K1 hA
 refine Gg fun Q1 E1 hQ1 hE1 => ?_
 refine QZ ?_
 have x1 : Da h₁ d (n + 1) := x.kp K1 AD
 revert x1; refine EK fun a b c u1 u2 z0 => ?_; revert z0; refine HS fun u3 li ha hb hbn z1 => ?_; revert z1; refine Ak fun hc hc3 => ?_
 have Wd1 : Wr B h [d] d := ⟨.inl (.head _), hB⟩
 refine wpAny_isTrue_Compare1 ?_
 refine Subscript_ ?_
 refine AQ ‹_› ‹_› (.head _) ?_ (by decide +kernel)
 refine Ag ?_
 refine GO li (by simp) (by simp) (by simp) (v := .int a u1) rfl ?_
 refine wpAny_BinOp ?_
 refine Ag ?_
 refine Ag ?_
 refine Xg (by decide) (by decide) (by decide) fun _ _ => ?_
 refine ba ?_
 refine Bc ?_
 refine aC (fun h18 => ?_) (fun h18 => ?_)
 ·refine Ce rfl ?_
  refine wpAny_BinOp ?_
  refine Subscript_ ?_
  refine AQ ‹_› ‹_› (.head _) ?_ (by decide +kernel)
  refine Ag ?_
  refine GO li (by simp) (by simp) (by simp) (v := .int a u1) rfl ?_
  refine AQ ‹_› ‹_› (.tail _ (.head _)) ?_ (by decide +kernel)
  refine L2 (by omega) fun _ _ => ?_
  refine Sn ‹_› ‹_› (.tail (.tail .head)) fun _ _ _ _ => ?_
  refine Yk rfl ?_
  refine wpAny_BinOp ?_
  refine Subscript_ ?_
  refine AQ ‹_› ‹_› (.head _) ?_ (by decide +kernel)
  refine Ag ?_
  refine GO (vs := [.int a u1, .int b u2, .int c u3]) (Li.kp ‹_› ‹_› AD) (by simp) (by simp) (by simp) (v := .int a u1) rfl ?_
  refine AQ ‹_› ‹_› (.tail _ (.head _)) ?_ (by decide +kernel)
  refine XY (by omega) (PyProof.noPylong_small (by omega)) fun _ _ => ?_
  refine AQ ‹_› ‹_› (.head _) ?_ (by decide +kernel)
  refine Ag ?_
  refine Vy (vs := [.int a u1, .int b u2, .int c u3]) (by assumption) Wd1 (Li.kp ‹_› ‹_› AD) (by simp) (by simp) (by simp) fun h3 F3 K3 li3 => ?_
  refine GI ?_
  refine AQ ‹_› ‹_› (.tail _ (.tail _ (.head _))) ?_ (by decide +kernel)
  refine Y8 ?_
  refine Ii ‹_› ‹_› ?_
  refine V6 _ _ rfl (Int.fmod_nonneg_of_pos _ (by omega)) (Int.fmod_lt_of_pos _ (by omega)) ⟨_, b, c, _, u2, u3, li3, Int.fdiv_nonneg ha (by omega), hb, by omega, hc, hc3⟩
 ·refine Dm ?_
  refine Fg ?_
  refine Yk rfl ?_
  refine wpAny_BinOp ?_
  refine Subscript_ ?_
  refine AQ ‹_› ‹_› (.head _) ?_ (by decide +kernel)
  refine Ag ?_
  refine GO (vs := [.int a u1, .int b u2, .int c u3]) ‹_› (by simp) (by simp) (by simp) (v := .int b u2) rfl ?_
  refine Ag ?_
  refine Gc ?_
  refine AQ ‹_› ‹_› (.head _) ?_ (by decide +kernel)
  refine Ag ?_
  refine Vy (vs := [.int a u1, .int b u2, .int c u3]) (by assumption) Wd1 ‹_› (by simp) (by simp) (by simp) fun h3 F3 K3 li3 => ?_
  refine Ce rfl ?_
  refine wpAny_BinOp ?_
  refine wpAny_BinOp ?_
  refine wpAny_BinOp ?_
  refine wpAny_BinOp ?_
  refine Subscript_ ?_
  refine AQ ‹_› ‹_› (.head _) ?_ (by decide +kernel)
  refine Ag ?_
  refine GO li3 (by simp) (by simp) (by simp) (v := .int c u3) rfl ?_
  refine wpAny_BinOp ?_
  refine Ag ?_
  refine Subscript_ ?_
  refine AQ ‹_› ‹_› (.head _) ?_ (by decide +kernel)
  refine Ag ?_
  refine GO li3 (by simp) (by simp) (by simp) (v := .int (b + 1) _) rfl ?_
  skip
  refine Pz (fun _ _ => ?_) (.of_left (by decide))
  refine Gc ?_
  refine Ag ?_
  refine Gc ?_
  refine Ag ?_
  refine Xg (by decide) (by decide) (by omega) fun _ _ => ?_
  refine Ag ?_
  refine L2 (by decide) fun _ _ => ?_
  generalize hmx : Int.fmod ((c + 8011 * (b + 1) + 40009) ^ Int.toNat 5) 2147483647 = mx
  have m0 : 0 <= mx := by rw [<- hmx]; exact Int.fmod_nonneg_of_pos _ (by decide)
  have m1 : mx < 2147483647 := by rw [<- hmx]; exact Int.fmod_lt_of_pos _ (by decide)
  refine Sn ‹_› ‹_› (.tail (.tail (.tail .head))) fun _ _ _ _ => ?_
  refine GI ?_
  refine wpAny_BinOp ?_
  refine wpAny_BinOp ?_
  refine wpAny_BinOp ?_
  refine wpAny_BinOp ?_
  refine AQ ‹_› ‹_› (.tail _ (.tail _ (.tail _ (.head _)))) ?_ (by decide +kernel)
  refine AQ ‹_› ‹_› (.tail _ (.tail _ (.tail _ (.head _)))) ?_ (by decide +kernel)
  refine Pz (fun _ _ => ?_) (.of_left (intBits_le_64 (by omega) (by omega)))
  refine Ag ?_
  refine L2 (by decide) fun _ _ => ?_
  refine Ag ?_
  refine XY (by decide) (PyProof.noPylong_small (by decide)) fun _ _ => ?_
  refine AQ ‹_› ‹_› (.tail _ (.head _)) ?_ (by decide +kernel)
  refine L2 (by omega) fun _ _ => ?_
  refine Ii ‹_› ‹_› ?_
  refine V6 _ _ rfl (Int.fmod_nonneg_of_pos _ (by omega)) (Int.fmod_lt_of_pos _ (by omega)) ?_
  exact Da.kp (by assumption) ⟨a, b + 1, c, u1, _, u3, li3, ha, by omega, by omega, hc, hc3⟩ AD
end
section
variable {K : Frag} {B : Heap} {mg mb : Str -> Option Value} {ad : Str -> Addr} {tk : Str -> Tok} {prog : Program} {w : World} {h : Heap}
theorem aA {A : Around} {E : Value -> Shared -> Prop} {s : Shared} {t : Nat} {h₀ : Heap} {S₀ : List Addr} {outer : List Env} {sc : Scope} {L : Addr} {l : A9} {d : Addr} {vs : List Value} {ns : List Int} {Q : Value -> Shared -> Prop} (hA : A.handled = none) (F : Fx B h₀ S₀ outer sc L h l) (x : Li h d vs) (y : IntsAre vs ns)
  (k : ∀ u h' t', Fx B h₀ S₀ outer sc L h' l -> Kp B [] [] h h' -> Q (.int ns.sum u) (mk s h' t')) : wpAny (model prog w) A (call (.builtin "sum") [.ref d]) Q E (mk s h t) := by
 refine Ap (fun xs hx => ?_) y.allInts.items
 have hl : h.IsList d (intItems xs) := hx ▸ x.isList
 refine sum_intListG (s := mk s h t) hA hl fun h' tk t' hk => ?_
 have e1 : ns = xs.toList.map (·.1) := by
  rw [<- nums_intItems, <- hx]
  exact (show numsOf vs.toArray.toList = ns from y.numsOf).symm
 have e2 : preSum (numAt xs) xs.size = ns.sum := by
  rw [preSum_eq, List.take_of_length_le (by simp), e1]
 rw [e2]
 have K : Kp B [] [] h h' := .of_keeps hk
 exact k _ _ _ (F.grow K) K
theorem LB {vs : List Value} {ns : List Int} (y : IntsAre vs ns) : ∀ i, i < vs.length -> ∃ c u, vs[i]? = some (.int c u) := by
 induction y with
 | nil => intro i hi; simp at hi
 | cons n t _ ih =>
  intro i hi
  cases i with
  | zero => exact bK n t rfl
  | succ i => simpa using ih i (by simpa using hi)
theorem U9 (W : Wd K B mg mb ad tk) {d : Addr} {vs : List Value} {ns : List Int} {k : Int} {u : Tok} (x : Li h d vs) (y : IntsAre vs ns) (hv : vs.length <= 40) (k0 : 0 <= k) (k1 : k <= 10) :
  Ct prog w B 1 (.ref (ad "_law_cell")) [.ref d, .int k u] [] h (fun a h' => ∃ e, a = .ref e /\ Da h' e 100000 /\ h.get? e = none) BW := by
 refine (CQ [("script", some (.ref d)), ("k", some (.int k u)), ("cell", none), ("whole", none)] (W.f_law_cell).2.2 W.gb.lim (binds := [("script", .ref d), ("k", .int k u)]) (rest := ["cell", "whole"]) (fun _ _ _ _ _ _ _ _ _ => BindsTo.of_eq rfl) rfl (FF ["script", "k", "cell", "whole"] rfl (by decide +kernel) rfl) ?_).ct
 intro A outer s L env h₁ t₁ he hf hL F K1 hA
 refine Ce rfl ?_
 refine wpAny_mono (Q := fun v s₂ => ∃ c u1 h7 t7, v = .int c u1 /\ s₂ = mk s h7 t7 /\ Fx B h [] outer (AM (st 43)) L h7 [("script", some (.ref d)), ("k", some (.int k u)), ("cell", none), ("whole", none)] /\ Kp B [] [] h₁ h7) ?_ (fun b s₂ hb => ?_) fun _ _ x => x
 ·have x1 : Li h₁ d vs := (Li.kp ‹_› ‹_› AD)
  refine wpAny_IfExp ?_
  refine wpAny_isTrue_Compare1 ?_
  refine AQ ‹_› ‹_› (.tail _ (.head _)) ?_ (by decide +kernel)
  refine Ay rfl ?_
  refine Aq W.gb ‹_› ‹_› (by kernel_rfl) W.b_len ?_
  refine I4 rfl rfl ?_
  refine AW rfl ?_
  refine AQ ‹_› ‹_› (.head _) ?_ (by decide +kernel)
  refine args_nil ?_
  refine Jx x1 (by omega) fun _ _ => ?_
  refine aD ?_
  refine Bc ?_
  refine PV (fun hk => ?_) (fun hk => ?_)
  ·obtain ⟨c, uc, e⟩ : ∃ c uc, vs[k.toNat]? = some (.int c uc) := by
    exact LB y k.toNat (by omega)
   refine Subscript_ ?_
   refine AQ ‹_› ‹_› (.head _) ?_ (by decide +kernel)
   refine AQ ‹_› ‹_› (.tail _ (.head _)) ?_ (by decide +kernel)
   refine GO x1 (by omega) (by omega) (by omega) (v := .int c uc) (by unfold AK; rw [if_neg (by omega)]; exact e) ?_
   skip
   exact QE _ _ _ _ rfl ⟨rfl, by assumption, (Kp.refl ..)⟩
  ·refine wpAny_BinOp ?_
   refine wpAny_BinOp ?_
   refine wpAny_BinOp ?_
   refine Ag ?_
   refine AQ ‹_› ‹_› (.tail _ (.head _)) ?_ (by decide +kernel)
   refine Pz (fun _ _ => ?_) (.of_left (by decide))
   refine Ag ?_
   refine Gc ?_
   refine wpAny_BinOp ?_
   refine wpAny_BinOp ?_
   refine Ay rfl ?_
   refine Aq W.gb ‹_› ‹_› (by kernel_rfl) W.b_sum ?_
   refine I4 rfl rfl ?_
   refine AW rfl ?_
   refine FO (cl := []) rfl rfl (by decide +kernel) (fun _ => rfl) ?_
   refine AQ ‹_› ‹_› (.head _) ?_ (by decide +kernel)
   refine TR (.inl rfl) he hf hA (by kernel_rfl) rfl (by decide +kernel) x1 (fun i ys hq => ∃ ms, IntsAre ys ms) [] AH (by omega) (by assumption) (fun h' K' => ⟨[], .nil⟩) ?_ ?_
   ·intro i ys ac ia C cenv hq h4 t4 v hi hys hJ hac hia hC kw K4 hec hcl FC fr hv'
    refine HM (fun c uc e => ?_) <| LB y i (by omega)
    obtain rfl : v = .int c uc := Option.some.inj (hv'.symm.trans e)
    revert hJ; refine Ap fun ms hms => ?_
    show wpAny _ _ _ _ _ _
    refine Ay rfl ?_
    refine Aq W.gb ‹_› ‹_› (by kernel_rfl) W.b_abs ?_
    refine I4 rfl rfl ?_
    refine AW rfl ?_
    refine AQ ‹_› ‹_› (.head _) ?_ (by decide +kernel)
    refine args_nil ?_
    refine Y7 fun _ _ => ?_
    refine JS h4 _ [] rfl (Kp.refl ..) ⟨AH, _, hms.append (.cons _ _ .nil)⟩
   ·intro ys ac ia C hq h4 t4 hys hJ hac hia hC kw K4 F4 La
    revert hJ; refine Ap fun ms hms => ?_
    refine args_nil ?_
    refine aA hA.handled (by assumption) La hms fun _ h5 t5 F5 K5 => ?_
    refine Ag ?_
    refine L2 (by decide) fun _ _ => ?_
    refine Ag ?_
    refine Pz (fun _ _ => ?_) (.of_right (by decide))
    refine Gc ?_
    exact QE _ _ _ _ rfl ⟨rfl, by assumption, (Kp.tr ‹_› AH AH (Kp.tr ‹_› AH AH (Kp.refl ..)))⟩
 revert hb; refine Mv fun c u1 h7 t7 z0 z1 => ?_; obtain rfl := z0; revert z1; refine C9 fun z2 F7 K7 => ?_; obtain rfl := z2
 refine Sn ‹_› ‹_› (.tail (.tail .head)) fun _ _ _ _ => ?_
 refine Ce rfl ?_
 refine wpAny_BinOp ?_
 refine wpAny_BinOp ?_
 refine Ag ?_
 refine Ay rfl ?_
 refine Aq W.gb ‹_› ‹_› (by kernel_rfl) W.b_abs ?_
 refine I4 rfl rfl ?_
 refine AW rfl ?_
 refine AQ ‹_› ‹_› (.tail _ (.tail _ (.head _))) ?_ (by decide +kernel)
 refine args_nil ?_
 refine Y7 fun _ _ => ?_
 refine Pz (fun _ _ => ?_) (.of_left (by decide))
 refine Ay rfl ?_
 refine Aq W.gb ‹_› ‹_› (by kernel_rfl) W.b_int ?_
 refine Mw rfl rfl ?_
 refine AW rfl ?_
 refine wpAny_Compare1 ?_
 refine AQ ‹_› ‹_› (.tail _ (.tail _ (.head _))) ?_ (by decide +kernel)
 refine Ag ?_
 refine aD ?_
 refine args_nil ?_
 refine au fun _ _ => ?_
 refine Gc ?_
 refine Sn ‹_› ‹_› (.tail (.tail (.tail .head))) fun _ _ _ _ => ?_
 refine GI ?_
 refine List_ ?_
 refine AW rfl ?_
 refine AQ ‹_› ‹_› (.tail _ (.tail _ (.tail _ (.head _)))) ?_ (by decide +kernel)
 refine AW rfl ?_
 refine Ag ?_
 refine AW rfl ?_
 refine wpAny_BinOp ?_
 refine AQ ‹_› ‹_› (.tail _ (.tail _ (.tail _ (.head _)))) ?_ (by decide +kernel)
 refine Ag ?_
 refine L2 (by decide) fun _ _ => ?_
 refine args_nil ?_
 refine HT (by assumption) (fun e h9 F9 K9 hn hli => ?_) (by simp)
 refine Fx.fin ‹_› ?_
 refine bS e rfl ⟨_, 0, _, _, _, _, hli, ?_, by omega, by omega, Int.fmod_nonneg_of_pos _ (by decide), Int.fmod_lt_of_pos _ (by decide)⟩ (Fx.old hn (by assumption))
 by_cases hc : c < 0 <;> simp [hc] <;> omega
end
section
variable {K : Frag} {B : Heap} {mg mb : Str -> Option Value} {ad : Str -> Addr} {tk : Str -> Tok} {prog : Program} {w : World} {h : Heap}
theorem Yu (W : Wd K B mg mb ad tk) {d : Addr} {n : Nat} (x : Da h d (n + 4)) (hB : B.get? d = none) :
  Ct prog w B 2 (.ref (ad "_law_row")) [.ref d] [d] h (fun a h' => ∃ e r, a = .ref e /\ TT h' e r /\ r.length <= 3 /\ (∀ p ∈ r, p ∈ D8) /\ Da h' d n) BW := by
 refine (UE (x := "source") [("many", none)] (W.f_law_row).2.2 W.gb.lim (rest := ["many"]) (fun _ _ _ _ _ _ => rfl) rfl (FF ["many"] rfl (by decide +kernel) rfl) (by decide +kernel) (fun _ => rfl) ?_).ct
 intro A outer s L c env h₁ t₁ he hf hcs hL hcf hc F K1 hA
 have hcl : env.cells.lookup ("source" : Str) = some c := by rw [hcs]; rfl
 have hcd : c ≠ d := (EW hcf x.al).symm
 refine Ce rfl ?_
 refine Subscript_ ?_
 refine List_ ?_
 refine AW rfl ?_
 refine Ag ?_
 refine AW rfl ?_
 refine Ag ?_
 refine AW rfl ?_
 refine Ag ?_
 refine AW rfl ?_
 refine Ag ?_
 refine AW rfl ?_
 refine Ag ?_
 refine AW rfl ?_
 refine Ag ?_
 refine args_nil ?_
 refine HT (by assumption) (fun ld h2 F2 K2 hn2 li2 => ?_) (by simp)
 refine Ay rfl ?_
 refine B5 W.gb ‹_› ‹_› (by kernel_rfl) W.f_law_take.1 ?_ (by decide +kernel)
 refine jK W.X W.f_law_take.2.1 rfl rfl ?_
 refine AW rfl ?_
 refine Lw ‹_› (Nm.kind (Fx.nm ‹_›)) (by first | assumption | decide +kernel) ‹_› (IsCell.kp ‹_› ‹_› AD) ?_ (by decide +kernel)
 refine AW rfl ?_
 refine Ag ?_
 refine args_nil ?_
 refine Cj ‹_› ?_
 refine I9 (Ku W (n := n + 3) (Da.kp ‹_› (Da.kp ‹_› ‹_› AD) AD) (by decide) (by decide) hB) he hf hA (by assumption) (by decide) (Ac (.inl (.head _))) (fun _ x => x.elim) fun wv' h3 t3 F3 K3 e3 => ?_
 revert e3; refine Eo fun y ty z0 y0 y1 x3 => ?_; obtain rfl := z0
 refine ET (fun m um hm hv => ?_) <| ZI (k := y.toNat) li2 (by omega)
 skip
 refine GO (li2.kp K3 (Ar (Ne.symm (EW ‹_› (Al.kp ‹_› (Da.al ‹_›)))))) (by simp) (by simp; omega) (by simp; omega) (v := .int m um) (by unfold AK; rw [if_neg (by omega)]; exact hv) ?_
 refine Sn ‹_› ‹_› (.head) fun _ _ _ _ => ?_
 refine GI ?_
 refine Ay rfl ?_
 refine Aq W.gb ‹_› ‹_› (by kernel_rfl) W.b_tuple ?_
 refine Mw rfl rfl ?_
 refine AW rfl ?_
 rename_i h4 t4 F4 K4
 have x4 : Da h4 d (n + 3) := x3.kp K4 AD
 have c4 : h4.IsCell c (some (.ref d)) := (IsCell.kp ‹_› (IsCell.kp ‹_› (IsCell.kp ‹_› ‹_› AD) (Ar ‹_›)) AD)
 refine FO (cl := [("source", c)]) (by rcases env with ⟨⟩; cases hcs; rfl) rfl (by decide +kernel) (fun _ => rfl) ?_
 refine Ay rfl ?_
 refine Aq W.gb ‹_› ‹_› (by kernel_rfl) W.b_range ?_
 refine Mw rfl rfl ?_
 refine AW rfl ?_
 refine AQ ‹_› ‹_› (.head _) ?_ (by decide +kernel)
 refine args_nil ?_
 refine Zl (by assumption) fun r h5 t5 F5 K5 hrg => ?_
 have x5 : Da h5 d (n + 3) := x4.kp K5 AD
 have c5 : h5.IsCell c (some (.ref d)) := IsCell.kp K5 c4 AD
 have hTw : ∀ b ∈ [d], Al h5 b /\ (b ∈ [d] \/ h.get? b = none) := fun b m => ⟨List.mem_singleton.mp m ▸ x5.al, .inl m⟩
 refine X7 (.inl rfl) he hf hA (by kernel_rfl) rfl (by decide +kernel) hrg (by omega) (by omega) (by omega) (fun i ys hq => ∃ r, Ts hq ys r /\ r.length = i /\ (∀ p ∈ r, p ∈ D8) /\ Da hq d (n + (3 - i)) /\ hq.IsCell c (some (.ref d))) [d] hTw (by assumption) (fun h' K' => ⟨[], .nil, rfl, fun _ m => (nomatch m), x5.kp K' AD, IsCell.kp K' c5 AD⟩) ?_ ?_
 ·intro i ys ac ia C cenv hq h6 t6 v hi hys hJ hac hia hC kw K6 hec hcl2 FC fr hv'
  revert hJ; refine HS fun r hts hrl hrm x6 c6 => ?_
  show wpAny _ _ _ _ _ _
  have hdx : d ∉ [ac, ia] := Ef (EW hac x5.al) (EW hia x5.al)
  have hcx : c ∉ [ac, ia] := Ef (EW hac (IsCell.al c5)) (EW hia (IsCell.al c5))
  have x7 : Da h6 d ((n + (3 - (i + 1))) + 1) := (x6.kw kw hdx).mono (by omega)
  have c7 : h6.IsCell c (some (.ref d)) := IsCell.kw kw c6 hcx
  have hcl3 : cenv.cells.lookup ("source" : Str) = some c := by rw [hcl2]; rfl
  have hsx := Ht (x := "source") FC he rfl (by decide +kernel) (by decide +kernel)
  have ts6 : Ts h6 ys r := ReadsAll.kw kw hts
  have lt := W.toks (h := h6) FC.base
  have k1 := lt.blank
  refine Subscript_ ?_
  refine List_ ?_
  refine AW rfl ?_
  refine Tuple_ ?_
  refine AW rfl ?_
  refine Ag ?_
  refine AW rfl ?_
  refine Ag ?_
  refine args_nil ?_
  refine Jj ‹_› fun _ _ _ _ _ => ?_
  refine AW rfl ?_
  refine Tuple_ ?_
  refine AW rfl ?_
  refine Ag ?_
  refine AW rfl ?_
  refine Ag ?_
  refine args_nil ?_
  refine Jj ‹_› fun _ _ _ _ _ => ?_
  refine AW rfl ?_
  refine Tuple_ ?_
  refine AW rfl ?_
  refine Ag ?_
  refine AW rfl ?_
  refine Ag ?_
  refine args_nil ?_
  refine Jj ‹_› fun _ _ _ _ _ => ?_
  refine AW rfl ?_
  refine Tuple_ ?_
  refine AW rfl ?_
  refine Ag ?_
  refine AW rfl ?_
  refine Ag ?_
  refine args_nil ?_
  refine Jj ‹_› fun _ _ _ _ _ => ?_
  refine AW rfl ?_
  refine B5 W.gb ‹_› ‹_› (by kernel_rfl) W.t_law_blank.1 ?_ (by decide +kernel)
  refine args_nil ?_
  refine Ya D8 (by assumption) (Ad (Reads.kp ‹_› (Reads.kp ‹_› (Reads.kp ‹_› ‹_›))) (Ad (Reads.kp ‹_› (Reads.kp ‹_› ‹_›)) (Ad (Reads.kp ‹_› ‹_›) (Ad ‹_› (Ad (Reads.kp ‹_› (Reads.kp ‹_› (Reads.kp ‹_› (Reads.kp ‹_› ‹_›)))) .nil))))) (by decide) fun rd h7 F7 K7 hn7 l7 => ?_
  refine Ay rfl ?_
  refine B5 W.gb ‹_› ‹_› (by kernel_rfl) W.f_law_take.1 ?_ (by decide +kernel)
  refine jK W.X W.f_law_take.2.1 rfl rfl ?_
  refine AW rfl ?_
  refine Lw ‹_› (Nm.kind (Fx.nm ‹_›)) (by first | assumption | decide +kernel) ‹_› (IsCell.kp ‹_› (IsCell.kp ‹_› (IsCell.kp ‹_› (IsCell.kp ‹_› (IsCell.kp ‹_› ‹_› AD) AD) AD) AD) AD) ?_ (by decide +kernel)
  refine AW rfl ?_
  refine Ag ?_
  refine args_nil ?_
  refine Cj ‹_› ?_
  refine NN (Ku W (n := n + (3 - (i + 1))) (m := 5) (Da.kp ‹_› (Da.kp ‹_› (Da.kp ‹_› (Da.kp ‹_› (Da.kp ‹_› ‹_› AD) AD) AD) AD) AD) (by decide) (by decide) hB) hA (by assumption) (Dn.kp fr (S := []) (D := []) (Kp.tr ‹_› AH AH (Kp.tr ‹_› AH AH (Kp.tr ‹_› AH AH (Kp.tr ‹_› AH AH (Kp.tr ‹_› AH AH (Kp.refl ..)))))) (fun _ _ _ _ => AD)) (by decide) (Ac (.inl (.head _))) fun wv h8 t8 F8 K8 e8 => ?_
  revert e8; refine Eo fun z tz z2 z0 z1 x8 => ?_; obtain rfl := z2
  have hpl : z.toNat < D8.length := by show _ < 5; omega
  skip
  refine Yg (ps := D8) (LT.kp ‹_› ‹_› (Ar (Ne.symm (EW ‹_› (Al.kp ‹_› (Al.kp ‹_› (Al.kp ‹_› (Al.kp ‹_› (Da.al ‹_›))))))))) (by decide) (by show -(5 : Int) <= z; omega) (by show z < (5 : Int); omega) (p := D8[z.toNat]) (by unfold AK; rw [if_neg (by omega)]; exact List.getElem?_eq_getElem hpl) fun v' tv' => ?_
  have ts8 : Ts h8 ys r := (ReadsAll.kp ‹_› (ReadsAll.kp ‹_› (ReadsAll.kp ‹_› (ReadsAll.kp ‹_› (ReadsAll.kp ‹_› (ReadsAll.kp ‹_› ‹_›))))))
  have c8 : h8.IsCell c (some (.ref d)) := (IsCell.kp ‹_› (IsCell.kp ‹_› (IsCell.kp ‹_› (IsCell.kp ‹_› (IsCell.kp ‹_› (IsCell.kp ‹_› ‹_› AD) AD) AD) AD) AD) (Ar ‹_›))
  refine JS h8 _ [d] rfl (Kp.tr ‹_› (by exact Ac (.inl (.head _))) AH (Kp.tr ‹_› AH AH (Kp.tr ‹_› AH AH (Kp.tr ‹_› AH AH (Kp.tr ‹_› AH AH (Kp.tr ‹_› AH AH (Kp.refl ..))))))) ⟨fun b m => m, r ++ [D8[z.toNat]], Gv ts8 (Iw tv'), by simp [hrl], fun p m => (List.mem_append.mp m).elim (hrm p) fun q => by rw [List.mem_singleton.mp q]; exact List.getElem_mem hpl, x8, c8⟩
 ·intro ys ac ia C hq h6 t6 hys hJ hac hia hC kw K6 F6 La
  revert hJ; refine HS fun r hts hrl hrm x6 c6 => ?_
  have hdx : d ∉ [ac, ia] := Ef (EW hac x5.al) (EW hia x5.al)
  have x7 := x6.kw kw hdx
  have l7 : LT h6 ac r := ⟨ys, La, ReadsAll.kw kw hts⟩
  refine args_nil ?_
  refine Tp (ps := r) (by assumption) l7 (by omega) fun e h10 F10 K10 t10 => ?_
  refine Fx.fin ‹_› ?_
  exact V6 e r rfl t10 (by omega) ⟨hrm, (x7.kp K10 AD).mono (by omega)⟩
end
structure Gm where
 EX : Aa -> Prop
 sc : Scope
 F : List (Str × CT)
 M : List (Str × CT)
 nil : AP
 C : List (Str × Nat × Nat)
 O : Stmt -> St -> (St -> Prop) -> Prop
noncomputable def Gm.calm (Γ : Gm) : Gm := ⟨fun _ => False, Γ.sc, Γ.F, Γ.M, Γ.nil, Γ.C, fun _ _ _ => False⟩
structure Ev where
 x : Expr -> St -> (AV -> St -> Prop) -> Prop
 t : Expr -> St -> (St -> Prop) -> (St -> Prop) -> Prop
 l : List Expr -> St -> (List AV -> St -> Prop) -> Prop
 b : List Stmt -> St -> (Fl -> St -> Prop) -> Prop
def oE {α : Type} (o : Option α) (k : α -> Prop) (n : Prop) : Prop := match o with
 | some a => k a
 | none => n
theorem FQ {α : Type} {o : Option α} {k : α -> Prop} {n P : Prop} (h : oE o k n) (f : ∀ a, o = some a -> k a -> P) (g : o = none -> n -> P) : P := by
 cases o
 ·exact g rfl h
 ·exact f _ rfl h
def l1 {α : Type} (l : List α) (k : α -> Prop) : Prop := match l with
 | [a] => k a
 | _ => False
@[elab_as_elim] theorem Jl {α : Type} {C : List α -> Prop} {l : List α} {k : α -> Prop} (h : l1 l k) (f : ∀ a, k a -> C [a]) : C l := by
 cases l with
 | nil => exact h.elim
 | cons a m =>
  cases m with
  | nil => exact f a h
  | cons _ _ => exact h.elim
def Qy {α : Type} (l : List α) (j : α -> Prop) (k : α -> α -> Prop) : Prop := match l with
 | [a] => j a
 | [a, b] => k a b
 | _ => False
@[elab_as_elim] theorem Gu {α : Type} {C : List α -> Prop} {l : List α} {j : α -> Prop} {k : α -> α -> Prop} (h : Qy l j k) (g : ∀ a, j a -> C [a]) (f : ∀ a b, k a b -> C [a, b]) : C l := by
 cases l with
 | nil => exact h.elim
 | cons a m =>
  cases m with
  | nil => exact g a h
  | cons b m =>
   cases m with
   | nil => exact f a b h
   | cons _ _ => exact h.elim
theorem Yj {α : Type} {P : Prop} {l : List α} {j : α -> Prop} {k : α -> α -> Prop} (h : Qy l j k) (g : ∀ a, j a -> P) (f : ∀ a b, l = [a, b] -> k a b -> P) : P := by
 revert f; exact Gu h (fun a q _ => g a q) fun a b q f => f a b rfl q
noncomputable def BZ (e : Expr) : Option Str := xc none some (fun _ => none) (fun _ => none) (fun _ _ => none) (fun _ _ _ _ => none) (fun _ _ _ => none) (fun _ _ _ => none) (fun _ => none) e
@[elab_as_elim] theorem BA {C : Expr -> Prop} {e : Expr} {x : Str} (h : BZ e = some x) (f : ∀ p, C (.Name x p)) : C e := Jt (P := fun o => o = some x) h AG (fun y1 y2 h => by rw [<- Option.some.inj (show some (y1) = some x from h)] at f; exact f y2) (fun _ _ _ => AG) (fun _ _ => AG) (fun _ _ _ => AG) (fun _ _ _ _ => AG) (fun _ _ _ => AG) (fun _ _ _ _ => AG) (fun _ _ _ => AG)
noncomputable def VC (e : Expr) : Option (List Expr) := xc none (fun _ => none) some (fun _ => none) (fun _ _ => none) (fun _ _ _ _ => none) (fun _ _ _ => none) (fun _ _ _ => none) (fun _ => none) e
@[elab_as_elim] theorem PY {C : Expr -> Prop} {e : Expr} {x : List Expr} (h : VC e = some x) (f : ∀ k p, C (.Tuple x k p)) : C e := Jt (P := fun o => o = some x) h AG (fun _ _ => AG) (fun y1 y2 y3 h => by rw [<- Option.some.inj (show some (y1) = some x from h)] at f; exact f y2 y3) (fun _ _ => AG) (fun _ _ _ => AG) (fun _ _ _ _ => AG) (fun _ _ _ => AG) (fun _ _ _ _ => AG) (fun _ _ _ => AG)
noncomputable def ZL (e : Expr) : Option (List Expr) := xc none (fun _ => none) (fun _ => none) some (fun _ _ => none) (fun _ _ _ _ => none) (fun _ _ _ => none) (fun _ _ _ => none) (fun _ => none) e
@[elab_as_elim] theorem Vd {C : Expr -> Prop} {e : Expr} {x : List Expr} (h : ZL e = some x) (f : ∀ p, C (.List x p)) : C e := Jt (P := fun o => o = some x) h AG (fun _ _ => AG) (fun _ _ _ => AG) (fun y1 y2 h => by rw [<- Option.some.inj (show some (y1) = some x from h)] at f; exact f y2) (fun _ _ _ => AG) (fun _ _ _ _ => AG) (fun _ _ _ => AG) (fun _ _ _ _ => AG) (fun _ _ _ => AG)
noncomputable def X4 (e : Expr) : Option (Expr × Expr) := xc none (fun _ => none) (fun _ => none) (fun _ => none) (fun a b => some (a, b)) (fun _ _ _ _ => none) (fun _ _ _ => none) (fun _ _ _ => none) (fun _ => none) e
@[elab_as_elim] theorem WX {C : Expr -> Prop} {e : Expr} {x : Expr × Expr} (h : X4 e = some x) (f : ∀ p, C (.Subscript x.1 x.2 p)) : C e := Jt (P := fun o => o = some x) h AG (fun _ _ => AG) (fun _ _ _ => AG) (fun _ _ => AG) (fun y1 y2 y3 h => by rw [<- Option.some.inj (show some ((y1, y2)) = some x from h)] at f; exact f y3) (fun _ _ _ _ => AG) (fun _ _ _ => AG) (fun _ _ _ _ => AG) (fun _ _ _ => AG)
structure Nb where
 f : Expr
 args : List Expr
 kws : List Keyword
 p : Pos
noncomputable def JU (e : Expr) : Option Nb := xc none (fun _ => none) (fun _ => none) (fun _ => none) (fun _ _ => none) (fun f a k p => some ⟨f, a, k, p⟩) (fun _ _ _ => none) (fun _ _ _ => none) (fun _ => none) e
@[elab_as_elim] theorem IT {C : Expr -> Prop} {e : Expr} {x : Nb} (h : JU e = some x) (f : C (.Call x.f x.args x.kws x.p)) : C e := Jt (P := fun o => o = some x) h AG (fun _ _ => AG) (fun _ _ _ => AG) (fun _ _ => AG) (fun _ _ _ => AG) (fun y1 y2 y3 y4 h => by rw [<- Option.some.inj (show some (Nb.mk y1 y2 y3 y4) = some x from h)] at f; exact f) (fun _ _ _ => AG) (fun _ _ _ _ => AG) (fun _ _ _ => AG)
noncomputable def Xl (e : Expr) : Option (Expr × Str × Pos) := xc none (fun _ => none) (fun _ => none) (fun _ => none) (fun _ _ => none) (fun _ _ _ _ => none) (fun o n p => some (o, n, p)) (fun _ _ _ => none) (fun _ => none) e
@[elab_as_elim] theorem VW {C : Expr -> Prop} {e : Expr} {x : Expr × Str × Pos} (h : Xl e = some x) (f : C (.Attribute x.1 x.2.1 x.2.2)) : C e := Jt (P := fun o => o = some x) h AG (fun _ _ => AG) (fun _ _ _ => AG) (fun _ _ => AG) (fun _ _ _ => AG) (fun _ _ _ _ => AG) (fun y1 y2 y3 h => by rw [<- Option.some.inj (show some ((y1, y2, y3)) = some x from h)] at f; exact f) (fun _ _ _ _ => AG) (fun _ _ _ => AG)
theorem Qd {e : Expr} {q : Option Expr × Option Expr × Option Expr} (h : NR e = some q) : ∃ p, e = .Slice q.1 q.2.1 q.2.2 p := Jt (P := fun o => o = some q) (C := fun e => ∃ p, e = .Slice q.1 q.2.1 q.2.2 p) h AG (fun _ _ => AG) (fun _ _ _ => AG) (fun _ _ => AG) (fun _ _ _ => AG) (fun _ _ _ _ => AG) (fun _ _ _ => AG) (fun a b c p h => by rw [<- Option.some.inj (show some (a, b, c) = some q from h)]; exact ⟨p, rfl⟩) (fun _ _ _ => AG)
noncomputable def W6 (x : Str) : Bool := x == ("__debug__" : Str)
noncomputable def Di (sc : Scope) (x : Str) : Bool := sc.names.lookup x == some .globalImplicit
noncomputable def Po (sc : Scope) (x : Str) : Bool := sc.names.lookup x == some .cell
noncomputable def Ux : AO -> Bool
 | .cel => true
 | _ => false
@[elab_as_elim] theorem OC {C : AO -> Prop} {a : AO} (h : Ux a = true) (f : C .cel) : C a := by
 cases a
 case cel => exact f
 all_goals exact Bool.noConfusion h
noncomputable def TN (o : Option AO) : Bool := o.elim false Ux
noncomputable def Ye : List (Str × AN) := [("BLANK", (10, 32)), ("_law_par", (0, 1)), ("_law_out", (0, 9)), ("_law_blank", (10, 32)), ("_law_begin", (1, 123)), ("_law_end", (2, 125)), ("_law_mark", (6, 35))]
theorem CJ {sc : Scope} {x : Str} (h : Di sc x = true) : sc.names.lookup x = some .globalImplicit := eq_of_beq h
def Tt (x : Str) (k : AV -> Prop) : Prop := oE (Oc.lookup x) (fun i => k (.int i)) (oE (Ye.lookup x) (fun p => k (.tok p)) (bif x == ("MARKS" : Str) then k (.tin [5, 9, 15]) else False))
def HD (Γ : Gm) (x : Str) (st : St) (Q : AV -> St -> Prop) : Prop := bif W6 x then False else oE (MV x st.loc) (fun o => Af o fun a => Q a st)
 (bif Po Γ.sc x then Af (Γ.C.lookup x) fun q => bif TN st.objs[q.1]? then Q (.ref q.2) st else False
  else bif Di Γ.sc x then Tt x fun a => Q a st else False)
def PT (k : Const) (st : St) (Q : AV -> St -> Prop) : Prop := match k with
 | .int i => Q (.int i) st
 | .str s => Q (.str s) st
 | .bool b => Q (.bool b) st
 | .none => Q .none st
 | _ => False
def bV (r : Ev) (op : UnaryOp) (e : Expr) (st : St) (Q : AV -> St -> Prop) : Prop := match op with
 | .USub => r.x e st fun u st1 => Bb u fun i => Q (.int (-i)) st1
 | .Not => r.x e st fun u st1 => GB u fun b => Q (.bool (!b)) st1
 | _ => False
def Y6 (r : Ev) (a : Expr) (ops : List CmpOp) (bs : List Expr) (st : St) (Q : AV -> St -> Prop) : Prop := l1 ops fun op => l1 bs fun b =>
 bif behindInMarks op b then False else r.x a st fun u st1 => r.x b st1 fun v st2 => KU op u v st2 fun x => Q (.bool x) st2
def bv (r : Ev) (op : BoolOp) (x : Bool) (b : Expr) (st : St) (Q : AV -> St -> Prop) : Prop := match op with
 | .And => br x (r.x b st Q) (Q (.bool false) st)
 | .Or => br x (Q (.bool true) st) (r.x b st Q)
def T9 (r : Ev) (op : BoolOp) (es : List Expr) (st : St) (Q : AV -> St -> Prop) : Prop := Qy es (fun _ => False) fun a b => r.x a st fun u st1 => GB u fun x => bv r op x b st1 Q
def NG (r : Ev) (e : Option Expr) (st : St) (Q : AV -> St -> Prop) : Prop := match e with
 | none => Q .none st
 | some e => r.x e st Q
def Qm (us : List AV) (k : Int) (K : AV -> Prop) : Prop := us.rec (fun _ => False) (fun a _ ih k => br (decide (k = 0)) (K a) (ih (k - 1))) k
def OE (us : List AV) (k : Int) (K : AV -> Prop) : Prop := oE (AP.ofs us) (fun P => (0 <= k /\ k < P.len) /\ P.item k.toNat K) (Qm us k K)
def XW (r : Ev) (o i : Expr) (st : St) (Q : AV -> St -> Prop) : Prop := oE (NR i) (fun q => bif q.2.2.isNone then r.x o st fun u st1 => NG r q.1 st1 fun a st2 => NG r q.2.1 st2 fun b st3 => bC u a b st3 Q else False)
 (oE (ZL o) (fun es => r.l es st fun us st1 => us.length <= 1000 /\ r.x i st1 fun v st2 => Bb v fun k => OE us k fun a => Q a st2) (r.x o st fun u st1 => r.x i st1 fun v st2 => bW u v st2 Q))
noncomputable def MM : Expr -> Nat
 | .Starred .. => 1
 | .ListComp .. => 2
 | .SetComp .. => 3
 | .DictComp .. => 4
 | .Set .. => 5
 | _ => 0
noncomputable def B1 (e : Expr) : Bool := !(Nat.beq (MM e) 1)
def Xt (us : List AV) (st : St) (Q : AV -> St -> Prop) : Prop := Qy us (fun _ => False) fun u v => Bb u fun a => Bb v fun b => Q (.int (if b < a then b else a)) st
def Yp (u : AV) (K : Bool -> Prop) : Prop := (Ox u).elim (Af (Th u) fun _ => K false) fun _ => K true
def Y9 (Γ : Gm) (r : Ev) (args : List Expr) (st : St) (Q : AV -> St -> Prop) : Prop := Qy args (fun _ => False) fun a e => Af (BZ e) fun s =>
 bif (s == ("str" : Str)) && Di Γ.sc s then r.x a st fun u st1 => Yp u fun b => Q (.bool b) st1 else False
noncomputable def bM : List (Str × (AV -> St -> (AV -> St -> Prop) -> Prop)) := [("len", Tg), ("tuple", Ti), ("list", Oe)]
def cL (Γ : Gm) (r : Ev) (f : Str) (args : List Expr) (st : St) (Q : AV -> St -> Prop) : Prop :=
 oE (bM.lookup f) (fun op => r.l args st fun us st1 => l1 us fun u => op u st1 Q) (bif f == ("min" : Str) then r.l args st fun us st1 => Xt us st1 Q else bif f == ("isinstance" : Str) then Y9 Γ r args st Q else False)
def NY (Γ : Gm) (r : Ev) (f : Str) (args : List Expr) (st : St) (Q : AV -> St -> Prop) : Prop := cP args fun a as => bif Di Γ.sc f && (!W6 f && (B1 a && as.all B1)) then
 oE (Γ.F.lookup f) (fun T => r.l (a :: as) st fun us st1 => Hl T us st1 Γ.EX Q) (cL Γ r f (a :: as) st Q) else False
noncomputable def UU (o : Option AO) : Bool := (o.bind Ly).isSome
noncomputable def NQ (o : Option AO) : Bool := (o.bind Rp).isSome
noncomputable def Tz : List (Str × Bool × Str) := [("next", true, "TokenFeed.next"), ("back", true, "TokenFeed.back"), ("left", true, "TokenFeed.left"), ("is_outer", true, "TokenFeed.is_outer"), ("has_brace", false, "Macro.has_brace"), ("same", false, "Macro.same")]
noncomputable def Co (nm : Str) : Option (Bool × Str) := Tz.lookup nm
def Vo (nm : Str) (u : AV) (st : St) (k : Prop) : Prop := Fb u fun i => Af (Co nm) fun q => bif (bif q.1 then UU st.objs[i]? else NQ st.objs[i]?) then k else False
def bT (r : Ev) (op : AV -> AV -> St -> (AV -> St -> Prop) -> Prop) (u : AV) (args : List Expr) (st : St) (Q : AV -> St -> Prop) : Prop := l1 args fun a => Fb u fun i => G5 st i fun _ => r.l [a] st fun us st2 => l1 us fun v => op u v st2 Q
def bt (Γ : Gm) (r : Ev) (nm : Str) (u : AV) (args : List Expr) (st : St) (Q : AV -> St -> Prop) : Prop := match args with
 | [] => Vo nm u st (Af (Γ.M.lookup nm) fun T => Hl T [u] st Γ.EX Q)
 | a :: as => Vo nm u st (Af (Γ.M.lookup nm) fun T => r.l (a :: as) st fun us st2 => Hl T (u :: us) st2 Γ.EX Q)
noncomputable def bZ : List (Str × (AV -> AV -> St -> (AV -> St -> Prop) -> Prop)) := [("append", TM), ("extend", T6)]
def Tf (Γ : Gm) (r : Ev) (nm : Str) (u : AV) (args : List Expr) (st : St) (Q : AV -> St -> Prop) : Prop := oE (bZ.lookup nm) (fun op => bT r op u args st Q) (bt Γ r nm u args st Q)
def UC (Γ : Gm) (r : Ev) (f : Expr) (args : List Expr) (kws : List Keyword) (p : Pos) (st : St) (Q : AV -> St -> Prop) : Prop := bif kws.isEmpty then oE (BZ f) (fun fn => NY Γ r fn args st Q)
 (Af (Xl f) fun q => Af (BZ q.1) fun x => bif (q.2.2.endLine == p.line) && (args.all B1 && decide (args.length < 30)) then HD Γ x st fun u st1 => Tf Γ r q.2.1 u args st1 Q else False) else False
def ay (o : Option AO) (k : BU -> Prop) : Prop := Af o fun a => Af (Rp a) k
noncomputable def ZP : List (Str × (BU -> AV)) := [("parameters", fun m => .tup (.toks m.par)), ("body", fun m => .tup (.toks m.body)), ("is_long", fun m => .bool m.long), ("is_outer", fun m => .bool m.outer), ("count", fun m => .int ((m.dl.length : Int) - 1)), ("delimiters", fun m => .tup (.tts m.dl))]
def TS (Γ : Gm) (o : Expr) (nm : Str) (st : St) (Q : AV -> St -> Prop) : Prop := Af (BZ o) fun x => HD Γ x st fun u st1 => Fb u fun i => ay st1.objs[i]? fun m => Af (ZP.lookup nm) fun g => Q (g m) st1
def Ta (Γ : Gm) (r : Ev) (e : Expr) (st : St) (Q : AV -> St -> Prop) : Prop := match e with
 | .Name x _ => HD Γ x st Q
 | .Constant k _ _ => PT k st Q
 | .UnaryOp op e _ => bV r op e st Q
 | .BinOp a op b _ => r.x a st fun u st1 => r.x b st1 fun v st2 => bb op u v st2 Q
 | .Compare a ops bs _ => Y6 r a ops bs st Q
 | .BoolOp op es _ => T9 r op es st Q
 | .IfExp t a b _ => r.t t st (fun st1 => r.x a st1 Q) (fun st1 => r.x b st1 Q)
 | .Subscript o i _ => XW r o i st Q
 | .Tuple es _ _ => r.l es st fun us st1 => bD us st1 Q
 | .List es _ => r.l es st fun us st1 => bE Γ.nil us st1 Q
 | .Call f args kws p => UC Γ r f args kws p st Q
 | .Attribute o nm _ => TS Γ o nm st Q
 | _ => False
def JP (op : CmpOp) (u v : AV) (st : St) (KT KF : Prop) : Prop := match op with
 | .NotEq => KU .Eq u v st fun b => br b KF KT
 | op => KU op u v st fun b => br b KT KF
def YS (r : Ev) (a : Expr) (ops : List CmpOp) (bs : List Expr) (st : St) (KT KF : St -> Prop) : Prop := Qy ops (fun op => l1 bs fun b => bif behindInMarks op b then False else r.x a st fun u st1 => r.x b st1 fun v st2 => JP op u v st2 (KT st2) (KF st2))
 fun op op2 => Qy bs (fun _ => False) fun b d => bif lastMarks [op, op2] [b, d] then False else r.x a st fun u st1 => r.x b st1 fun v st2 => JP op u v st2 (r.x d st2 fun w st3 => JP op2 v w st3 (KT st3) (KF st3)) (KF st2)
def bO (r : Ev) (op : BoolOp) (es : List Expr) (p : Pos) (st : St) (KT KF : St -> Prop) : Prop := match es with
 | [] => match op with
  | .And => KT st
  | .Or => KF st
 | e :: es => match op with
  | .And => r.t e st (fun st1 => r.t (.BoolOp .And es p) st1 KT KF) KF
  | .Or => r.t e st KT (fun st1 => r.t (.BoolOp .Or es p) st1 KT KF)
def Tb (Γ : Gm) (r : Ev) (e : Expr) (st : St) (KT KF : St -> Prop) : Prop := match e with
 | .UnaryOp op x p => match op with
  | .Not => r.t x st KF KT
  | _ => False
 | .BoolOp op es p => bO r op es p st KT KF
 | .Compare a ops bs _ => YS r a ops bs st KT KF
 | .IfExp .. => False
 | .Name x _ => HD Γ x st fun u st1 => GB u fun b => br b (KT st1) (KF st1)
 | e => r.x e st fun u st1 => GB u fun b => br b (KT st1) (KF st1)
def T5 (r : Ev) (es : List Expr) (st : St) (Q : List AV -> St -> Prop) : Prop := match es with
 | [] => Q [] st
 | e :: es => bif B1 e then r.x e st fun v st1 => r.l es st1 fun vs st2 => Q (v :: vs) st2 else False
noncomputable def D9 (e : Expr) : Bool := Nat.beq (MM e) 2 || (Nat.beq (MM e) 3 || Nat.beq (MM e) 4)
noncomputable def Eu (es : List Expr) : Option (List Str) := es.rec (some []) fun e _ r => (BZ e).bind fun x => r.map (x :: ·)
noncomputable def bI : AV -> Option (List AV)
 | .tup2 a b => some [a, b]
 | .tup3 a b c => some [a, b, c]
 | .tok p => some [.int p.1, .int p.2]
 | _ => none
noncomputable def NJ (xs : List Str) (as : List AV) (l : List (Str × Option AV)) : Option (List (Str × Option AV)) :=
 xs.rec (fun as l => bif as.isEmpty then some l else none) (fun x _ ih as l => as.casesOn none fun a as => bif G1 x l then ih as (HR x a l) else none) as l
noncomputable def envOf (sc : Scope) : Env := { scope := sc, locals := 0, globals := 0, cells := [] }
noncomputable def N4 (x : Sem (Option (List Str))) : Option (Option (List Str)) := match x with
 | .pure r => some r
 | _ => none
theorem Qr {x : Sem (Option (List Str))} {r : Option (List Str)} (h : N4 x = some r) : x = pure r := by
 cases x
 case pure a => exact congrArg _ (Option.some.inj (show some a = some r from h))
 all_goals exact AG h
noncomputable def bz (sw : Option (List Str)) (xs : List Str) (as : List AV) (l : List (Str × Option AV)) : Option (List (Str × Option AV)) := match sw with
 | none => NJ xs as l
 | some ys => bif ys == xs then NJ xs.reverse as.reverse l else none
def XH (Γ : Gm) (r : Ev) (ts : List Expr) (v : Expr) (st : St) (K : St -> Prop) : Prop := Af (Eu ts) fun xs => Af (N4 (swappedStores [.Tuple ts 0 default] v (envOf Γ.sc))) fun sw =>
 bif D9 v then False else r.x v st fun u st1 => Af (bI u) fun as => Af (bz sw xs as st1.loc) fun l => K ⟨l, st1.objs⟩
noncomputable def Ym (e : Expr) : Bool := Nat.beq (MM e) 2
noncomputable def YM (e : Expr) : Bool := Ym e || ((JU e).any fun q => (I8 q.args).any Ym && q.kws.isEmpty)
noncomputable def S6 : Stmt -> Option (List Expr × Expr × Pos)
 | .Assign ts v p => some (ts, v, p)
 | _ => none
@[elab_as_elim] theorem Vv {C : Stmt -> Prop} {s : Stmt} {q : List Expr × Expr × Pos} (h : S6 s = some q) (f : C (.Assign q.1 q.2.1 q.2.2)) : C s := by
 cases s
 case Assign a b p => rw [<- Option.some.inj (show some (a, b, p) = some q from h)] at f; exact f
 all_goals exact AG h
noncomputable def OA (s : Stmt) : Bool := (S6 s).any fun q => (I8 q.1).any (fun t => (BZ t).isSome) && YM q.2.1
def YL (Γ : Gm) (r : Ev) (o i v : Expr) (st : St) (K : St -> Prop) : Prop := Af (BZ o) fun x => bif D9 v then False else r.x v st fun a st1 => HD Γ x st1 fun u st2 => r.x i st2 fun k st3 => Fb u fun j => Bb k fun k => G5 st3 j fun P => Af (AP.one a) fun R =>
 (-(P.len : Int) <= k /\ k < P.len) /\ Af (P.setAt (AK k P.len) R) fun T => K ⟨st3.loc, st3.objs.set j (.lst T)⟩
def VY (Γ : Gm) (r : Ev) (ts : List Expr) (v : Expr) (st : St) (K : St -> Prop) : Prop := l1 ts fun t =>
 oE (BZ t) (fun x => bif D9 v then False else r.x v st fun a st1 => Bool.rec False (K ⟨HR x a st1.loc, st1.objs⟩) (G1 x st1.loc))
  (oE (VC t) (fun ts => XH Γ r ts v st K) (Af (X4 t) fun q => YL Γ r q.1 q.2 v st K))
def YV (r : Ev) (t : Expr) (op : Operator) (v : Expr) (st : St) (K : St -> Prop) : Prop := Af (BZ t) fun x => Af (MV x st.loc) fun o => Af o fun a =>
 r.x v st fun u st1 => bF op a u st1 fun w st2 => Bool.rec False (K ⟨HR x w st2.loc, st2.objs⟩) (G1 x st2.loc)
noncomputable def Xb : List (Str × Aa) := [("BadArgument", .bad), ("Runaway", .run), ("OuterRefused", .out), ("BadUse", .use), ("BadDefinition", .defn)]
noncomputable def Pm (x : Str) : Option Aa := Xb.lookup x
noncomputable def Yb : Const -> Option Str
 | .str s => some s
 | _ => none
noncomputable def Wv (e : Expr) : Option Str := xc none (fun _ => none) (fun _ => none) (fun _ => none) (fun _ _ => none) (fun _ _ _ _ => none) (fun _ _ _ => none) (fun _ _ _ => none) Yb e
noncomputable def aW (args : List Expr) : Bool := ((I8 args).bind Wv).isSome
noncomputable def YA (s : Stmt) : Option Expr := match s with
 | .Return e _ => e
 | _ => none
theorem UM {k : Const} {s : Str} (h : Yb k = some s) : k = .str s := by
 cases k
 case str x => exact congrArg _ (Option.some.inj h)
 all_goals exact AG h
theorem Om {e : Expr} {s : Str} (h : Wv e = some s) : ∃ k p, e = .Constant (.str s) k p := Jt (P := fun o => o = some s) (C := fun e => ∃ k p, e = .Constant (.str s) k p) h AG (fun _ _ => AG) (fun _ _ _ => AG) (fun _ _ => AG) (fun _ _ _ => AG) (fun _ _ _ _ => AG) (fun _ _ _ => AG) (fun _ _ _ _ => AG) (fun k a b h => ⟨a, b, by rw [UM h]⟩)
theorem VG {s : Stmt} {e : Expr} (h : YA s = some e) : ∃ p, s = .Return (some e) p := by
 cases s
 case Return x p => exact ⟨p, by rw [show x = some e from h]⟩
 all_goals exact AG h
def Og (Γ : Gm) (e c : Option Expr) : Prop := bif c.isNone then Af e fun e => Af (JU e) fun q => Af (BZ q.f) fun x =>
 bif q.kws.isEmpty && (Di Γ.sc x && (!W6 x && aW q.args)) then Af (Pm x) Γ.EX else False else False
noncomputable def VN (e : Expr) : Bool := !(Nat.beq (MM e) 5)
def Z4 (us : List AV) (k : Int -> Int -> Prop) : Prop := Qy us (fun u => Bb u fun b => k 0 b) fun u v => Bb u fun a => Bb v fun b => k a b
noncomputable def Je (Γ : Gm) (nm : Str) (e : Expr) : Option (List Expr) := (JU e).bind fun q => (BZ q.f).bind fun fn => bif q.kws.isEmpty && ((fn == nm) && (Di Γ.sc fn && (!q.args.isEmpty && q.args.all B1))) then some q.args else none
def ER (K : St -> Prop) (Q : Fl -> St -> Prop) : Fl -> St -> Prop
 | .next, st => K st
 | .ret v, st => Q (.ret v) st
def YG (r : Ev) (x : Str) (body : List Stmt) (args : List Expr) (st : St) (K : St -> Prop) (Q : Fl -> St -> Prop) : Prop := r.l args st fun us st1 => Z4 us fun a b => ((-1000000 <= a /\ a <= 1000000) /\ (-1000000 <= b /\ b <= 1000000)) /\ FW (r.b body) x none (fun v st => Q (.ret v) st) K (Cg (.ints (Aw a (b - a).toNat))) st1
def bL (r : Ev) (x : Str) (body : List Stmt) (it : Expr) (st : St) (K : St -> Prop) (Q : Fl -> St -> Prop) : Prop := bif VN it then r.x it st fun u st1 => sq u st1 (fun P => FW (r.b body) x none (fun v st => Q (.ret v) st) K (Cg P) st1) fun j P => FW (r.b body) x (some (j, P)) (fun v st => Q (.ret v) st) K (Cg P) st1 else False
def a9 (r : Ev) (x y : Str) (body : List Stmt) (e : Expr) (st : St) (K : St -> Prop) (Q : Fl -> St -> Prop) : Prop := r.x e st fun u st1 => Fb u fun j => G5 st1 j fun P => (bif x == y then False else True) /\ F2 (r.b body) x y (some (j, P)) (fun v st => Q (.ret v) st) K 0 (Cg P) st1
def Xx (Γ : Gm) (r : Ev) (t it : Expr) (body : List Stmt) (st : St) (K : St -> Prop) (Q : Fl -> St -> Prop) : Prop := oE (BZ t) (fun x => oE (Je Γ "range" it) (fun args => YG r x body args st K Q) (bL r x body it st K Q))
 (Af (VC t) fun ts => Qy ts (fun _ => False) fun t1 t2 => Af (BZ t1) fun x => Af (BZ t2) fun y => Af (Je Γ "enumerate" it) fun as => l1 as fun e => a9 r x y body e st K Q)
noncomputable def P3 (b : List Stmt) : Option Str := (I8 b).bind fun s => (YA s).bind Wv
noncomputable def OD (t : Option Expr) : Option Str := t.bind BZ
def Mu (hs : List ExceptHandler) (e : Aa) (K : Str -> Prop) : Prop := match hs with
 | [] => False
 | .ExceptHandler t n b _ :: hs => Af (OD t) fun X => bif n.isNone then Af (P3 b) fun s => Af (Pm X) fun e' => bif decide (e' = e) then K s else Mu hs e K else False
noncomputable def aL (sc : Scope) : List ExceptHandler -> Bool
 | [] => true
 | .ExceptHandler t _ _ _ :: hs => (OD t).any (fun x => Di sc x && !W6 x) && aL sc hs
noncomputable def Km (n : Nat) (objs : List AO) : List Nat -> Bool
 | [] => true
 | i :: is => (NQ objs[i]? || Nat.ble n i) && Km n objs is
noncomputable def YE (b : List Stmt) : Option (Str × Str × List Expr) := (I8 b).bind fun s => (S6 s).bind fun q => (I8 q.1).bind fun t => (BZ t).bind fun x => (JU q.2.1).bind fun d => (BZ d.f).bind fun f => bif d.kws.isEmpty then some (x, f, d.args) else none
def WD (Γ : Gm) (r0 : Ev) (n : Nat) (body : List Stmt) (hs : List ExceptHandler) (st : St) (K : St -> Prop) (KS : Str -> List AO -> Prop) : Prop := Af (YE body) fun q => cP q.2.2 fun a as =>
 bif Di Γ.sc q.2.1 && (!W6 q.2.1 && ((B1 a && as.all B1) && (aL Γ.sc hs && !hs.isEmpty))) then
  Af (Γ.F.lookup q.2.1) fun T => r0.l (a :: as) st fun us st1 => bif Km n st1.objs (FZ us) then Hl T us st1 (fun e => Mu hs e fun s => KS s (st1.objs.take n))
   (fun a st2 => bif G1 q.1 st2.loc then K ⟨HR q.1 a st2.loc, st2.objs⟩ else False) else False
 else False
def Tm (Γ : Gm) (r : Ev) (s : Stmt) (st : St) (K : St -> Prop) (Q : Fl -> St -> Prop) : Prop := match s with
 | .Expr e _ => bif D9 e then False else r.x e st fun _ st1 => K st1
 | .Assign ts v p => bif OA (.Assign ts v p) then Γ.O (.Assign ts v p) st K else VY Γ r ts v st K
 | .AugAssign t op v _ => YV r t op v st K
 | .If t a b _ => r.t t st (fun st1 => r.b a st1 (ER K Q)) (fun st1 => r.b b st1 (ER K Q))
 | .While t body orelse _ => bif orelse.isEmpty then ∃ N, wN (r.t t) (r.b body) (fun v st => Q (.ret v) st) K N st else False
 | .For t it body orelse _ => bif orelse.isEmpty then Xx Γ r t it body st K Q else False
 | .Return e _ => Af e fun e => r.x e st fun v st1 => Q (.ret v) st1
 | .Raise e c _ => Og Γ e c
 | .Pass _ => K st
 | _ => False
def Yz (Γ : Gm) (r : Ev) (ss : List Stmt) (st : St) (Q : Fl -> St -> Prop) : Prop := match ss with
 | [] => Q .next st
 | s :: rest => Tm Γ r s st (fun st1 => r.b rest st1 Q) Q
noncomputable def V : Nat -> Gm -> Ev
 | 0, _ => ⟨fun _ _ _ => False, fun _ _ _ _ => False, fun _ _ _ => False, fun _ _ _ => False⟩
 | n + 1, Γ => ⟨Ta Γ (V n Γ), Tb Γ (V n Γ), T5 (V n Γ), Yz Γ (V n Γ)⟩
structure Fq (c : Cx) (r : Ev) : Prop where
 x : ∀ e st Q, r.x e st Q -> AE c e st Q
 t : ∀ e st KT KF, r.t e st KT KF -> AT c e st (fun b st1 => bif b then KT st1 else KF st1)
 l : ∀ p es st Q, r.l es st Q -> AL c p es st Q
 b : ∀ ss st Q, r.b ss st Q -> AS c ss st Q
def cG (c : Cx) (p : Str × CT) : Prop := c.Ok -> c.mg p.1 = some (.ref (c.ad p.1)) /\ keepIn c.K (.ref (c.ad p.1)) = true /\ Sp c.prog c.w c.B c.ad c.n (.ref (c.ad p.1)) p.2
def cK (c : Cx) (p : Str × CT) : Prop := c.Ok -> ∀ q, Co p.1 = some q -> keepIn c.K (.ref (c.ad q.2)) = true /\ Sp c.prog c.w c.B c.ad c.n (.ref (c.ad q.2)) p.2
structure GG (c : Cx) (Γ : Gm) : Prop where
 EX : c.EX = Γ.EX
 sc : c.sc = Γ.sc
 F : ∀ p ∈ Γ.F, cG c p
 M : ∀ p ∈ Γ.M, cK c p
 nil : Γ.nil.isNil = true
 n : 2 <= c.n
 C : ∀ p ∈ Γ.C, ∃ x y, c.ads[p.2.1]? = some x /\ c.ads[p.2.2]? = some y /\ c.env.cells.lookup p.1 = some x.a /\ x.r = y.a
 O : ∀ s rest st K Q, OA s = true -> Γ.O s st K -> (∀ st, K st -> AS c rest st Q) -> AS c (s :: rest) st Q
theorem Bz {α : Type} {x : Str} {a : α} {l : List (Str × α)} : l.lookup x = some a -> (x, a) ∈ l := by
 induction l with
 | nil => exact AG
 | cons p l ih =>
  intro e
  have e' : (match x == p.1 with | true => some p.2 | false => l.lookup x) = some a := e
  cases hb : x == p.1 with
  | true => rw [hb] at e'; exact (show (x, a) = p from Prod.ext (eq_of_beq hb) (Option.some.inj e').symm) ▸ .head _
  | false => rw [hb] at e'; exact .tail _ (ih e')
theorem Rd : ∀ p ∈ Ye, OL.lookup p.1 = some (Dk p.2) := by
 repeat' refine List.forall_mem_cons.mpr ⟨by kernel_rfl, ?_⟩
 exact fun _ m => nomatch m
theorem VB {K : Frag} {B : Heap} {mg mb : Str -> Option Value} {ad : Str -> Addr} {tk : Str -> Tok} (W : Wd K B mg mb ad tk) {x : Str} {k : AV -> Prop} {P : Prop} (e : Tt x k) (f : ∀ a v, mg x = some v -> (∀ h as, B.StaysIn h -> CV h as a v) -> k a -> P) : P :=
 FQ e (fun i e1 q => f (.int i) _ (W.nums _ (Bz e1)) (fun _ _ _ => ⟨_, rfl⟩) q) fun _ e => FQ e (fun p e1 q =>
  have z := W.tups _ (Bz (Rd _ (Bz e1)))
  f (.tok p) _ z.1 (fun _ _ k => Reads.keeps2 k z.2) q) fun _ e => B4 e fun hb q => f (.tin [5, 9, 15]) _ (eq_of_beq hb ▸ W.t_MARKS.1) (fun _ _ k => Reads.keeps2 k W.t_MARKS.2) q
section
variable {c : Cx} {Γ : Gm} {r : Ev} {st : St} {Q : AV -> St -> Prop}
theorem Rs {o : Option AO} (h : TN o = true) : o = some .cel := by
 cases o with
 | none => exact Bool.noConfusion h
 | some a => exact OC (C := fun a => some a = _) h rfl
theorem D1 (f : GG c Γ) {x : Str} {p : Pos} (h : HD Γ x st Q) : AE c (.Name x p) st Q := fun ok os hh t l R => GA h fun hd h => FQ h (fun o e h => by
  refine AJ h fun a e' h => ?_
  subst e'
  refine Ah (fun v m cv => ?_) <| R.loc.look e
  exact AQ ok.he R.F m (.at R h cv) hd) fun _ h => by
 cases hc : Po Γ.sc x with
 | true =>
  rw [hc] at h
  refine AJ h fun q e h => B4 h fun hi h => ?_
  refine Eo (fun A I e1 e2 e3 e4 => ?_) <| f.C _ (Bz e)
  refine Ap (fun A' eA => ?_) <| R.at (Rs hi)
  have := Cc R.pre e1
  rw [Fi eA] at this; cases this
  have y := R.ok _ (List.mem_of_getElem? eA)
  exact Lw ok.he R.F.nm.kind (by rw [f.sc]; exact eq_of_beq hc) e3 y (.at R h ⟨I, Cc R.pre e2, by rw [e4]⟩) hd
 | false =>
  rw [hc] at h
  exact B4 h fun hg h => VB ok.W h fun a v m cv q => B5 ok.W.gb ok.he R.F (by rw [f.sc]; exact CJ hg) m (.at R q (cv _ _ R.F.base)) hd
theorem MD {k : Const} {n : Nat} {p : Pos} (h : PT k st Q) : AE c (.Constant k n p) st Q := fun ok os hh t l R => by
 cases k
 case int i => exact Ag (.at R h ⟨_, rfl⟩)
 case str s => exact Ph (.at R h ⟨_, rfl⟩)
 case bool b => exact Xs (.at R h rfl)
 case none => exact UD (.at R h rfl)
 all_goals exact h.elim
theorem VJ (s : Fq c r) {op : UnaryOp} {e : Expr} {p : Pos} (h : bV r op e st Q) : AE c (.UnaryOp op e p) st Q := fun ok os hh t l R => by
 cases op
 case USub =>
  refine wpAny_UnaryOp (Jd.on (s.x _ _ _ h) ok R fun u st1 os1 h1 t1 l1 x e1 R1 cu k1 => ?_)
  revert cu
  refine Au k1 fun i q cu => ?_
  exact Cm cu fun w => Lq (.un e1 R1 q ⟨_, rfl⟩)
 case Not =>
  refine XJ (Jd.on (s.x _ _ _ h) ok R fun u st1 os1 h1 t1 l1 x e1 R1 cu k1 => ?_)
  revert cu
  refine EM k1 fun i q cu => ?_
  cases cu
  exact Bc (.un e1 R1 q rfl)
 all_goals exact h.elim
theorem Sv (s : Fq c r) {a : Expr} {ops : List CmpOp} {bs : List Expr} {p : Pos} (h : Y6 r a ops bs st Q) : AE c (.Compare a ops bs p) st Q :=
 Jl h fun op h => Jl h fun b h => GA h fun hm h ok os hh t l R =>
  wpAny_Compare1 (Jd.on (s.x _ _ _ h) ok R fun u st1 os1 h1 t1 l1 x e1 R1 cu k1 => Jd.on (s.x _ _ _ k1) ok R1 fun v st2 os2 h2 t2 l2 y e2 R2 cv k2 => (L0 k2).to ok R2 (cu.ext e2) cv (e1.trans e2)) hm
theorem PM (s : Fq c r) {op : BoolOp} {es : List Expr} {p : Pos} (h : T9 r op es st Q) : AE c (.BoolOp op es p) st Q := Gu h (fun _ h => h.elim) fun a b h ok os hh t l R => by
 cases op
 ·refine wpAny_And2 (Jd.on (s.x _ _ _ h) ok R fun u st1 os1 h1 t1 l1 x e1 R1 cu k1 => ?_)
  revert cu
  refine EM k1 fun b q cu => ?_
  cases cu
  refine Bc ?_
  cases b
  ·exact .un e1 R1 q rfl
  ·exact (s.x _ _ _ q).to ok R1 e1
 ·refine wpAny_Or2 (Jd.on (s.x _ _ _ h) ok R fun u st1 os1 h1 t1 l1 x e1 R1 cu k1 => ?_)
  revert cu
  refine EM k1 fun b q cu => ?_
  cases cu
  refine Bc ?_
  cases b
  ·exact (s.x _ _ _ q).to ok R1 e1
  ·exact .un e1 R1 q rfl
theorem JR (s : Fq c r) {e : Option Expr} (h : NG r e st Q) : Jd c CV (evalPart e c.env) st Q := fun ok os hh t l R => by
 cases e
 ·exact Hr (.at R h rfl)
 ·exact N8 (s.x _ _ _ h ok os hh t l R)
theorem Wz {K : AV -> Prop} {us : List AV} : ∀ {k : Int}, Qm us k K -> (0 <= k /\ k < us.length) /\ ∃ a, us[k.toNat]? = some a /\ K a := by
 induction us with
 | nil => exact fun h => h.elim
 | cons a l ih =>
  intro k h
  by_cases hk : k = 0
  ·rw [hk] at h ⊢; exact ⟨⟨Int.le_refl _, Int.ofNat_lt.mpr (Nat.succ_pos _)⟩, a, rfl, h⟩
  ·replace h : br (decide (k = 0)) (K a) (Qm l (k - 1) K) := h
   rw [decide_eq_false hk] at h
   refine Ak (fun g => Ah fun b e q => ?_) <| ih h
   have e1 : k = (k - 1).toNat + 1 := by rw [Int.toNat_of_nonneg g.1, Int.sub_add_cancel]
   have e2 : k.toNat = (k - 1).toNat + 1 := congrArg Int.toNat e1
   refine ⟨⟨e1 ▸ Int.natCast_nonneg _, ?_⟩, b, by rw [e2]; exact e, q⟩
   have := Int.add_lt_add_right g.2 1
   rw [Int.sub_add_cancel] at this; exact this
theorem DC.get {h : Heap} {as : List AA} {l : List AV} : ∀ {m : List Value} {i : Nat} {a : AV}, DC h as l m -> l[i]? = some a -> ∃ v, m[i]? = some v /\ CV h as a v := by
 induction l with
 | nil => exact fun _ e => AG e
 | cons b l ih =>
  intro m i a c
  refine Bs c fun v vs x c e => ?_
  cases i with
  | zero => exact ⟨v, rfl, Option.some.inj (show some b = some a from e) ▸ x⟩
  | succ i => exact ih (m := vs) (i := i) c e
theorem S9 {us : List AV} {k : Int} {K : AV -> Prop} {h h' : Heap} {as as' : List AA} {xs : List Value} {S D : List Addr} (q : OE us k K) (x : DC h as us xs) (y : DC h' as' us xs) (kw : Kw S D h h') : (0 <= k /\ k < xs.length) /\ ∃ a v, xs[k.toNat]? = some v /\ CV h' as' a v /\ K a :=
 FQ q (fun P e q => by
  have r := AP.ofs_ok x e
  have hx := AP.rel.len r.1
  have hk := q.1.2
  have h0 := q.1.1
  rw [<- hx] at hk
  refine CY (fun a v e1 cv q => ?_) <| AP.item_ok (as := as') (r.1.kw kw) (hx ▸ (Int.toNat_lt q.1.1).mpr hk) q.2
  exact ⟨⟨h0, hk⟩, a, v, e1, cv, q⟩) fun _ q => by
  have g := Wz q
  refine Ah (fun a e q => Ah (fun v e1 cv => ?_) (y.get e)) g.2
  exact ⟨⟨g.1.1, by rw [y.len]; exact g.1.2⟩, a, v, e1, cv, q⟩
theorem QM (s : Fq c r) {es : List Expr} {i : Expr} {p lp : Pos} (hi : E3 i = false) (h : r.l es st fun us st1 => us.length <= 1000 /\ r.x i st1 fun v st2 => Bb v fun k => OE us k fun a => Q a st2) : AE c (.Subscript (.List es lp) i p) st Q := fun ok os hh t l R =>
 Subscript_ (List_ (Jd.on (s.l _ _ _ _ h) ok R fun us st1 os1 h1 t1 l1 xs e1 R1 cvs k1 => have hz : xs.length <= 1000000 := by { rw [cvs.len]; exact Nat.le_trans k1.1 (by decide) }; HT R1.F (fun d h2 F2 K2 hn li => by
  have R2 := R1.grow F2 K2
  have e2 : Ex c os1 os1 h1 h2 := .grow K2
  have hd : d ∉ DT os1 := fun m => by
   refine Ah (fun q mq hq => ?_) <| List.mem_flatMap.mp m
   exact EW hn ((R1.ok q mq).al d (Cb hq)) rfl
  refine Jd.on (s.x _ _ _ k1.2) ok R2 fun v st3 os3 h3 t3 l3 y e3 R3 cv k3 => ?_
  revert cv; refine Au k3 fun k k3 cv => Cm cv fun tk => ?_
  have e23 := e2.trans e3
  refine Ak (fun g => CY fun a v ev ca q => ?_) <| S9 k3 cvs (cvs.ext e23) e23.kp.toKw
  exact GO (li.kp e3.kp hd) hz (Int.le_trans (Int.neg_nonpos_of_nonneg (Int.natCast_nonneg _)) g.1) g.2 (v := v) (by unfold AK; rw [if_neg (Int.not_lt.mpr g.1)]; exact ev) (.un (e1.trans e23) R3 q ca) (HF hi _ _)) hz))
theorem RV (s : Fq c r) {o i : Expr} {p : Pos} (h : XW r o i st Q) : AE c (.Subscript o i p) st Q := FQ h (fun q e h => by
  revert h
  refine Ap (fun p' z => ?_) <| Qd e
  obtain ⟨lo, hi, s'⟩ := q
  subst z
  intro h
  cases s' with
  | some _ => exact h.elim
  | none =>
  intro ok os hh t l R
  refine Subscript_ (Jd.on (s.x _ _ _ h) ok R fun u st1 os1 h1 t1 l1 x e1 R1 cu k1 => KD (Jd.on (JR s k1) ok R1 fun a st2 os2 h2 t2 l2 va e2 R2 ca k2 => Jd.on (JR s k2) ok R2 fun b st3 os3 h3 t3 l3 vb e3 R3 cb k3 => Hr (H2 R3.F fun d h4 F4 K4 hsl => ?_)))
  have e4 : Ex c os3 os3 h3 h4 := .grow K4
  exact wpAny_mono (Uw k3 ok (R3.grow F4 K4) (cu.ext (e2.trans (e3.trans e4))) (ca.ext (e3.trans e4)) (cb.ext e4) hsl) (fun _ _ p => p.back (e1.trans (e2.trans (e3.trans e4)))) fun _ _ x => x) fun e h =>
 have hs : E3 i = false := by unfold E3; rw [e]; rfl
 FQ h (fun es e h => Vd e fun p => QM s hs h) fun _ h ok os hh t l R =>
  Subscript_ (Jd.on (s.x _ _ _ h) ok R fun u st1 os1 h1 t1 l1 x e1 R1 cu k1 => Jd.on (s.x _ _ _ k1) ok R1 fun v st2 os2 h2 t2 l2 y e2 R2 cv k2 => (We hs k2).to ok R2 (cu.ext e2) cv (e1.trans e2))
theorem BQ {e : Expr} {es : List Expr} {env : Env} (h : B1 e = true) : starEach (e :: es) env = (false, eval e env) :: starEach es env := by
 cases e
 case Starred => exact Bool.noConfusion h
 all_goals rfl
theorem DX {pos : Pos} {env : Env} {es : List Expr} : es.all B1 = true -> (backTo pos (starEach es env)).any (·.1) = false := by
 induction es with
 | nil => exact fun _ => rfl
 | cons e es ih =>
  intro h
  refine BV (List.all_cons ▸ h) fun h1 h2 => ?_
  have := ih h2
  unfold backTo at this ⊢
  rw [BQ h1, List.map_cons, List.any_cons, this]; rfl
def CW (fv : Value) : Prop := ∀ {A : Around} {env : Env} {E : Value -> Shared -> Prop} {pos : Pos} {e : Expr} {rest : List Expr} {M : Model} {s : Shared} {Q : Value -> Shared -> Prop}, starEach (e :: rest) env = (false, eval e env) :: starEach rest env -> (backTo pos (starEach rest env)).any (·.1) = false ->
  wpAny M A (spliced (backTo pos (starEach (e :: rest) env))) (fun vs s₁ => wpAny M A (call fv vs) Q E s₁) E s -> wpAny M A (callWith pos fv [] (backTo pos (starEach (e :: rest) env)) []) Q E s
def bn (c : Cx) (p : Str × (AV -> St -> (AV -> St -> Prop) -> Prop)) : Prop := ∃ fv, (c.Ok -> c.mg p.1 = none /\ c.mb p.1 = some fv) /\ CW fv /\ ∀ u st Q, p.2 u st Q -> JL c CV (cl fv) [u] st Q
theorem U6 : ∀ p ∈ bM, bn c p := List.forall_mem_cons.mpr ⟨⟨_, fun ok => ok.W.b_len, I4, fun _ _ _ => Pu⟩, List.forall_mem_cons.mpr ⟨⟨_, fun ok => ok.W.b_tuple, Mw, fun _ _ _ => P6⟩, List.forall_mem_cons.mpr ⟨⟨_, fun ok => ok.W.b_list, Mw, fun _ _ _ => Mm⟩, fun _ m => nomatch m⟩⟩⟩
theorem Qi {u v : AV} {os os0 : Os} {h h0 : Heap} {t : Nat} {l : A9} {xs : List Value} (k : Bb u fun a => Bb v fun b => Q (.int (if b < a then b else a)) st) (ok : c.Ok) (R : BD c st os h l) (e : Ex c os0 os h0 h) (cvs : DC h (Av os) [u, v] xs) :
  wpAny (model c.prog c.w) c.A (call (.builtin "min") xs) (Ep c CV Q os0 h0) c.E (mk c.s h t) := by
 revert cvs; refine Au k fun a k => Au k fun b k cvs => Cu cvs fun x y g0 g1 => Cm g0 fun u => Cm g1 fun v => ?_
 refine PySem.min_two_ints (s := mk c.s h t) ok.hA.handled fun h' tk hk => ?_
 have K : Kp c.B [] [] h h' := .of_keeps hk
 rw [show ∀ {α β : Type} {P : Prop} [Decidable P] (f : α -> β -> Value) (x y : α) (u v : β), (if P then f x u else f y v) = f (if P then x else y) (if P then u else v) from fun f x y u v => by split <;> rfl]
 exact .un (e.trans (.grow K)) (R.grow (R.F.grow K) K) k ⟨_, rfl⟩
theorem Qo {u : AV} {os os0 : Os} {h h0 : Heap} {t : Nat} {l : A9} {v : Value} (k : Yp u fun b => Q (.bool b) st) (R : BD c st os h l) (e : Ex c os0 os h0 h) (cu : CV h (Av os) u v) :
  wpAny (model c.prog c.w) c.A (call (.builtin "isinstance") [v, .type "str"]) (Ep c CV Q os0 h0) c.E (mk c.s h t) := by
 refine Dq (b := True) (eq_true k) (fun _ k => AJ (of_eq_true k) fun p e k => ?_) fun s e k => ?_
 ·revert cu; refine Hc e fun cu => Kk cu fun d x y T _ _ => ?_
  exact MC T fun t' => .un ‹_› R k rfl
 ·revert cu; refine IC e fun cu => Ap (fun u z => ?_) cu
  subst z; exact L7 (.un ‹_› R (of_eq_true k) rfl)
theorem MI (fit : GG c Γ) (s : Fq c r) {f : Str} {fp p : Pos} {args : List Expr} (h : NY Γ r f args st Q) : AE c (.Call (.Name f fp) args [] p) st Q := Ey h fun a as h => B4 h fun hg h => BV hg fun hg g => BV g fun hd g => BV g fun hp1 hp2 => by
 have hd := Tl hd
 have hx : c.sc.names.lookup f = some .globalImplicit := by rw [fit.sc]; exact CJ hg
 have sp := BQ (es := as) (env := c.env) hp1
 have sa := DX (pos := p) (env := c.env) hp2
 refine FQ h (fun T hf h ok os hh t l R => ?_) fun _ h => FQ h (fun op e h ok os hh t l R => ?_) fun _ h => ?_
 ·have F := fit.F _ (Bz hf) ok
  refine Ay rfl (B5 ok.W.gb ok.he R.F hx F.1 (jK ok.W.X F.2.1 sp sa (Jd.on (s.l p _ _ _ h) ok R fun us st1 os1 h1 t1 l1 xs e1 R1 cvs k1 => ⟨R1.F.base, ?_⟩)) hd)
  rw [<- fit.EX] at k1
  exact (JL.call (fun ok => F.2.2) k1).to ok R1 cvs e1
 ·refine FR (fun fv z1 z2 z3 => ?_) (U6 (c := c) _ (Bz e))
  refine Ay rfl (Aq ok.W.gb ok.he R.F hx (z1 ok) (z2 sp sa (Jd.on (s.l p _ _ _ h) ok R fun us st1 os1 h1 t1 l1 xs e1 R1 cvs k1 => ?_)) hd)
  revert cvs; exact Jl k1 fun u q cvs => (z3 _ _ _ q).to ok R1 cvs e1
 cases h4 : f == ("min" : Str) with
 | true =>
  rw [h4] at h
  intro ok os hh t l R
  refine Ay rfl (Aq ok.W.gb ok.he R.F hx (eq_of_beq h4 ▸ ok.W.b_min) (I4 sp sa (Jd.on (s.l p _ _ _ h) ok R fun us st1 os1 h1 t1 l1 xs e1 R1 cvs k1 => ?_)) hd)
  revert cvs; exact Gu k1 (fun _ q => q.elim) fun u v q cvs => Qi q ok R1 e1 cvs
 | false =>
  rw [h4] at h
  refine B4 h fun h5 h => Yj h (fun _ q => q.elim) fun x y e h => AJ h fun n en h => B4 h fun g hq => BV g fun g1 g2 => ?_
  cases e
  revert sp sa; refine BA en fun np sp sa ok os hh t l R => ?_
  have hs : c.sc.names.lookup n = some .globalImplicit := by rw [fit.sc]; exact CJ g2
  have hn := eq_of_beq g1
  subst hn
  exact Ay rfl (Aq ok.W.gb ok.he R.F hx (eq_of_beq h5 ▸ ok.W.b_isinstance) (I4 sp sa (AW sp (Jd.on (s.x _ _ _ hq) ok R fun u st1 os1 h1 t1 l1 x e1 R1 cu k1 => AW rfl (Aq ok.W.gb ok.he R1.F hs ok.W.b_str (args_nil (Qo k1 R1 e1 cu)) (by decide +kernel))))) hd)
theorem L1 {x nm : Str} {xp ap p : Pos} {args : List Expr} {env : Env} (h1 : (ap.endLine == p.line) = true) (h2 : args.all B1 = true) (h3 : args.length < 30) : ∃ pl, eval (.Call (.Attribute (.Name x xp) nm ap) args [] p) env = (do
   let ov <- eval (.Name x xp) env
   standAt ap.atName
   let (f, first) <- holding [ov] (getMethod ov nm pl)
   callWith p f first (backTo p (starEach args env)) []) := by
 have hf : methodCallForm (args.length + 0) (backTo p (starEach args env)) [] = true := by
  have : (backTo p (starEach args env)).all (fun q => !q.1) = true := by
   have := DX (pos := p) (env := env) h2
   rw [List.all_eq_not_any_not]
   simpa using this
  unfold methodCallForm
  rw [this]; simp; omega
 have hp : methodCallPos true (.Name x xp) env ap p = pure p := by
  unfold methodCallPos
  rw [h1]; rfl
 refine ⟨(do return (<- importBound (.Name x xp) env).getD true), ?_⟩
 show (do
  let ov <- eval (.Name x xp) env
  standAt ap.atName
  methodCall (.Name x xp) nm ap p env ov (args.length + 0) (backTo p (starEach args env)) []) = _
 unfold methodCall
 rw [hf, hp]
 rfl
theorem Vc {o : Option AO} (h : UU o = true) : ∃ ps outs, o = some (.feed ps outs) := Ap (fun q e => A2 e fun a e1 e2 => ⟨q.1, q.2, e1.trans (congrArg _ (IU (C := fun a => a = .feed q.1 q.2) e2 rfl))⟩) (Option.isSome_iff_exists.mp h)
theorem Oi {o : Option AO} (h : NQ o = true) : ∃ m, o = some (.mac m) := Ap (fun q e => A2 e fun a e1 e2 => ⟨q, e1.trans (congrArg _ (J0 (C := fun a => a = .mac q) e2 rfl))⟩) (Option.isSome_iff_exists.mp h)
def aJ (c : Cx) (p : Str × Bool × Str) : Prop := ∀ {i : Nat} {st : St} {os : Os} {h : Heap} {t : Nat} {l : A9} {v : Value} {pl : Sem Bool} {E : Value -> Shared -> Prop} {P : Value × List Value -> Shared -> Prop}, BD c st os h l -> CV h (Av os) (.ref i) v -> (bif p.2.1 then UU st.objs[i]? else NQ st.objs[i]?) = true -> P (.ref (c.ad p.2.2), [v]) (mk c.s h t) -> wpAny (model c.prog c.w) c.A (getMethod v p.1 pl) P E (mk c.s h t)
theorem ZS {nm q : Str} (m : ∀ {h : Heap} {t : Nat} {l : A9} {f dx r : Addr} {ps outs : AC} {pl : Sem Bool} {E : Value -> Shared -> Prop} {P : Value × List Value -> Shared -> Prop}, Fx c.B c.h₀ c.S₀ c.outer c.sc c.L h l -> Fd c.B h (c.ad "TokenFeed") f dx r ps outs -> P (.ref (c.ad q), [.ref f]) (mk c.s h t) -> wpAny (model c.prog c.w) c.A (getMethod (.ref f) nm pl) P E (mk c.s h t)) : aJ c (nm, true, q) := fun R cv g k => by
 refine HM (fun ps outs eo => ?_) (Vc g)
 refine Ap (fun x ex => ?_) (R.at eo)
 have := cv.at ex
 subst this
 exact m R.F (R.ok _ (List.mem_of_getElem? ex)) k
theorem a8 {nm q : Str} (ok : c.Ok) (m : findIn c.K (.ref (c.ad "Macro")) nm = some (some (.ref (c.ad q))) /\ isFn c.K (.ref (c.ad q)) = true) (hm : ∀ {h : Heap} {C m dx : Addr} {P Bd : AC} {D : List AC} {long out : Bool}, Mc h C m dx P Bd D long out -> ∃ mm, Ob h m dx C mm /\ mm nm = none) : aJ c (nm, false, q) := fun R cv g k => by
 refine Ap (fun m' eo => ?_) (Oi g)
 refine Ap (fun x ex => ?_) (R.at eo)
 have := cv.at ex
 subst this
 refine Ah (fun mm O b => ?_) (hm (R.ok _ (List.mem_of_getElem? ex)).1)
 exact HG ok.W.X R.F O ok.W.cMa.pl m.1 m.2 b k
theorem Nx (ok : c.Ok) : ∀ p ∈ Tz, aJ c p :=
 List.forall_mem_cons.mpr ⟨ZS (Vq ok.W), List.forall_mem_cons.mpr ⟨ZS (Uy ok.W), List.forall_mem_cons.mpr ⟨ZS (VQ ok.W), List.forall_mem_cons.mpr ⟨ZS (Mi ok.W), List.forall_mem_cons.mpr
  ⟨a8 ok ⟨ok.W.m_has_brace.1, ok.W.m_has_brace.2.1⟩ (fun x => FR (fun mm O b _ => ⟨mm, O, b⟩) x.me), List.forall_mem_cons.mpr ⟨a8 ok ⟨ok.W.m_same.1, ok.W.m_same.2.1⟩ (fun x => FR (fun mm O _ b => ⟨mm, O, b⟩) x.me), fun _ m => nomatch m⟩⟩⟩⟩⟩⟩
theorem Oz (ok : c.Ok) {nm : Str} {u : AV} {k : Prop} {pl : Sem Bool} {os : Os} {h : Heap} {t : Nat} {l : A9} {v : Value} {E : Value -> Shared -> Prop} {P : Value × List Value -> Shared -> Prop} (g : Vo nm u st k) (R : BD c st os h l) (cv : CV h (Av os) u v) (kk : k -> ∀ q, Co nm = some q -> P (.ref (c.ad q.2), [v]) (mk c.s h t)) :
  wpAny (model c.prog c.w) c.A (getMethod v nm pl) P E (mk c.s h t) := by
 revert cv; exact CR g fun i g cv => AJ g fun q e g => B4 g fun gg hk => Nx ok _ (Bz e) R cv gg (kk hk q e)
theorem W1 (s : Fq c r) {op : AV -> AV -> St -> (AV -> St -> Prop) -> Prop} {id : String} {nm : Str} {u : AV} {args : List Expr} {p : Pos} {pl : Sem Bool} (hp : args.all B1 = true) (h : bT r op u args st Q) (ok : c.Ok) {os os0 : Os} {hh h0 : Heap} {t : Nat} {l : A9} {v : Value} (R : BD c st os hh l) (cu : CV hh (Av os) u v) (e : Ex c os0 os h0 hh)
  (gm : ∀ {d : Addr} {vs : List Value} {P : Value × List Value -> Shared -> Prop}, Li hh d vs -> P (.builtin id, [.ref d]) (mk c.s hh t) -> wpAny (model c.prog c.w) c.A (getMethod (.ref d) nm pl) P c.E (mk c.s hh t))
  (ho : ∀ {v : AV} {st : St}, op u v st Q -> J2 c CV (fun x y => call (.builtin id) [x, y]) u v st Q) :
  wpAny (model c.prog c.w) c.A (getMethod v nm pl) (fun fx s₂ => match fx with | (f, first) => wpAny (model c.prog c.w) c.A (callWith p f first (backTo p (starEach args c.env)) []) (Ep c CV Q os0 h0) c.E s₂) c.E (mk c.s hh t) := by
 revert hp; refine Jl h fun a h hp => ?_
 refine BV (List.all_cons ▸ hp) fun hp1 hp2 => ?_
 have cu0 := cu
 revert cu0; refine CR h fun i h cu0 => DG h fun P e1 h => ?_
 revert cu; refine R.lst_c e1 cu0 fun x vs ex T _ _ cu => ?_
 refine gm T (IQ (BQ hp1) (DX hp2) (Jd.on (s.l p _ _ _ h) ok R fun us st2 os2 h2 t2 l2 xs e2 R2 cvs k2 => ?_))
 revert cvs; refine Jl k2 fun w q cvs => B8 cvs fun y cy => ?_
 exact (ho q).to ok R2 (cu.ext e2) cy (e.trans e2)
def bd (c : Cx) (p : Str × (AV -> AV -> St -> (AV -> St -> Prop) -> Prop)) : Prop := ∃ id : String, (∀ {h : Heap} {t : Nat} {d : Addr} {vs : List Value} {pl : Sem Bool} {P : Value × List Value -> Shared -> Prop}, Li h d vs -> P (.builtin id, [.ref d]) (mk c.s h t) -> wpAny (model c.prog c.w) c.A (getMethod (.ref d) p.1 pl) P c.E (mk c.s h t)) /\
 ∀ {u v : AV} {st : St} {Q : AV -> St -> Prop}, p.2 u v st Q -> J2 c CV (fun x y => call (.builtin id) [x, y]) u v st Q
theorem Vt : ∀ p ∈ bZ, bd c p := List.forall_mem_cons.mpr ⟨⟨"list.append", FL, Pe⟩, List.forall_mem_cons.mpr ⟨⟨"list.extend", Pp, Na⟩, fun _ m => nomatch m⟩⟩
theorem Pw (fit : GG c Γ) (s : Fq c r) {x nm : Str} {xp ap p : Pos} {args : List Expr} (h1 : (ap.endLine == p.line) = true) (h2 : args.all B1 = true) (h3 : args.length < 30) (h : HD Γ x st fun u st1 => Tf Γ r nm u args st1 Q) : AE c (.Call (.Attribute (.Name x xp) nm ap) args [] p) st Q := fun ok os hh t l R => by
 refine Ap (fun pl he => ?_) <| L1 (x := x) (nm := nm) (xp := xp) (env := c.env) h1 h2 h3
 refine Y1 he (Jd.on (D1 fit h) ok R fun u st1 os1 hh1 t1 l1 v e1 R1 cu k1 => ?_)
 refine FQ k1 (fun op e k1 => Ah (fun id a b => W1 s h2 k1 ok R1 cu e1 a b) (Vt (c := c) _ (Bz e))) fun _ k1 => ?_
 clear he h1 h3
 cases args with
 | nil =>
  refine Oz ok k1 R1 cu fun k q eq => AJ k fun T eT k => ?_
  have M := fit.M _ (Bz eT) ok q eq
  rw [<- fit.EX] at k
  exact aq ok.W.X R1.F M.1 ((JL.call (fun _ => M.2) k).to ok R1 ⟨cu, trivial⟩ e1)
 | cons a as =>
  refine BV (List.all_cons ▸ h2) fun hp1 hp2 => ?_
  refine Oz ok k1 R1 cu fun k q eq => AJ k fun T eT k => ?_
  have M := fit.M _ (Bz eT) ok q eq
  refine cJ ok.W.X M.1 (BQ hp1) (DX hp2) (Jd.on (s.l p _ _ _ k) ok R1 fun us st2 os2 h2 t2 l2 xs e2 R2 cvs k2 => ⟨R2.F.base, ?_⟩)
  rw [<- fit.EX] at k2
  exact (JL.call (fun _ => M.2) k2).to ok R2 ⟨cu.ext e2, cvs⟩ (e1.trans e2)
theorem VU {p : Str × (BU -> AV)} (m : p ∈ ZP) : (("Macro" : Str), p.1) ∈ Jc := List.mem_of_mem_drop (i := 2) (show (fun p : Str × (BU -> AV) => (("Macro" : Str), p.1)) p ∈ Jc.drop 2 from (show ZP.map (fun p => (("Macro" : Str), p.1)) = Jc.drop 2 by kernel_rfl) ▸ List.mem_map_of_mem m)
theorem YT {o : Option AO} {k : BU -> Prop} {P : Prop} (h : ay o k) (f : ∀ m, o = some (.mac m) -> k m -> P) : P := AJ h fun a e h => AJ h fun m e2 h => f m (e.trans (congrArg _ (J0 (C := fun a => a = .mac m) e2 rfl))) h
theorem cH {h : Heap} {C a dx : Addr} {m : BU} (x : Mc h C a dx m.par m.body m.dl m.long m.outer /\ m.par.length <= 1000 /\ m.body.length <= 1000 /\ m.dl.length <= 1000 /\ ∀ r ∈ m.dl, r.length <= 1000) : ∃ mm, Ob h a dx C mm /\ ∀ p ∈ ZP, ∃ w, mm p.1 = some w /\ handedIn w = true /\ ∀ as, CV h as (p.2 m) w :=
 have le : ∀ {n}, n <= 1000 -> n <= 1000000 := fun h => Nat.le_trans h (by decide)
 EK (fun mm pa bo de tk y => ⟨mm, y.O, List.forall_mem_cons.mpr ⟨⟨_, y.b1, rfl, fun _ => ⟨le x.2.1, Ah (fun vs T r => ⟨pa, vs, rfl, T, r⟩) y.c1⟩⟩, List.forall_mem_cons.mpr ⟨⟨_, y.b2, rfl, fun _ => ⟨le x.2.2.1, Ah (fun vs T r => ⟨bo, vs, rfl, T, r⟩) y.c2⟩⟩,
  List.forall_mem_cons.mpr ⟨⟨_, y.b3, rfl, fun _ => rfl⟩, List.forall_mem_cons.mpr ⟨⟨_, y.b4, rfl, fun _ => rfl⟩, List.forall_mem_cons.mpr ⟨⟨_, y.b5, rfl, fun _ => ⟨_, rfl⟩⟩, List.forall_mem_cons.mpr ⟨⟨_, y.b6, rfl, fun _ => ⟨le x.2.2.2.1, Ah (fun vs T r => ⟨de, vs, rfl, T, r, fun q m => le (x.2.2.2.2 q m)⟩) y.c6⟩⟩, fun _ m => nomatch m⟩⟩⟩⟩⟩⟩⟩) x.1.ob
theorem M4 (fit : GG c Γ) {o : Expr} {nm : Str} {p : Pos} (h : TS Γ o nm st Q) : AE c (.Attribute o nm p) st Q := AJ h fun x e h => BA e fun xp ok os hh t l R => by
 refine Attribute_name (Jd.on (D1 fit h) ok R fun u st1 os1 h1 t1 l1 v e1 R1 cu k1 => ?_)
 revert cu; refine CR k1 fun i k cu => YT k fun m eo k => AJ k fun g eg q => ?_
 refine Ap (fun z ez => ?_) <| R1.at eo
 have := cu.at ez
 subst this
 refine Ah (fun mm O at_ => ?_) (cH (R1.ok _ (List.mem_of_getElem? ez)))
 refine FR (fun w e2 hv cv => ?_) (at_ _ (Bz eg))
 exact OM ok.W.X R1.F O ok.W.cMa.pl ok.W.cMa.hd (ok.W.att _ (VU (Bz eg))).1 e2 hv fun t' => .un e1 R1 q (cv _)
theorem PH (fit : GG c Γ) (s : Fq c r) {f : Expr} {args : List Expr} {kws : List Keyword} {p : Pos} (h : UC Γ r f args kws p st Q) : AE c (.Call f args kws p) st Q := by
 cases kws with
 | cons _ _ => exact h.elim
 | nil =>
  exact FQ h (fun x e h => BA e fun _ => MI fit s h) fun _ h => AJ h fun q e h => VW e (AJ h fun x e h => BA e fun _ => B4 h fun g h => BV g fun g1 g => BV g fun g2 g3 => Pw fit s g1 g2 (of_decide_eq_true g3) h)
theorem Ow (fit : GG c Γ) (s : Fq c r) {e : Expr} (h : Ta Γ r e st Q) : AE c e st Q := by
 cases e
 case Name => exact D1 fit h
 case Constant => exact MD h
 case UnaryOp => exact VJ s h
 case BinOp => exact fun ok os hh t l R => wpAny_BinOp (Jd.on (s.x _ _ _ h) ok R fun u st1 os1 h1 t1 l1 x e1 R1 cu k1 => Jd.on (s.x _ _ _ k1) ok R1 fun v st2 os2 h2 t2 l2 y e2 R2 cv k2 => (Vp k2).to ok R2 (cu.ext e2) cv (e1.trans e2))
 case Compare => exact Sv s h
 case BoolOp => exact PM s h
 case IfExp => exact fun ok os hh t l R => wpAny_IfExp (Jd.on (s.t _ _ _ _ h) ok R fun x st1 os1 h1 t1 l1 y e1 R1 ex q => by
   cases ex
   cases x with
   | true => exact (s.x _ _ _ q).to ok R1 e1
   | false => exact (s.x _ _ _ q).to ok R1 e1)
 case Subscript => exact RV s h
 case Tuple => exact fun ok os hh t l R => Tuple_ (Jd.on (s.l _ _ _ _ h) ok R fun vs st1 os1 h1 t1 l1 xs e1 R1 cvs k1 => (V5 k1).to ok R1 cvs e1)
 case List => exact fun ok os hh t l R => List_ (Jd.on (s.l _ _ _ _ h) ok R fun vs st1 os1 h1 t1 l1 xs e1 R1 cvs k1 => (Wh fit.nil k1).to ok R1 cvs e1)
 case Call => exact PH fit s h
 case Attribute => exact M4 fit h
 all_goals exact h.elim
theorem OS (s : Fq c r) {p : Pos} {es : List Expr} {Q : List AV -> St -> Prop} (h : T5 r es st Q) : AL c p es st Q := fun ok os hh t l R => by
 cases es with
 | nil => exact args_nil (.at R h trivial)
 | cons e es =>
  exact B4 h fun hp h => AW (BQ hp) (Jd.on (s.x _ _ _ h) ok R fun v st1 os1 h1 t1 l1 x e1 R1 cv k1 => Jd.on (s.l _ _ _ _ k1) ok R1 fun vs st2 os2 h2 t2 l2 xs e2 R2 cvs q => .un (e1.trans e2) R2 q ⟨cv.ext e2, cvs⟩)
end
section
variable {c : Cx} {Γ : Gm} {r : Ev} {st : St}
def bQ (KT KF : St -> Prop) (b : Bool) (st : St) : Prop := bif b then KT st else KF st
theorem QQ {op : CmpOp} {u v : AV} {KT KF : Prop} (h : JP op u v st KT KF) : KU op u v st fun b => br b KT KF := by
 cases op
 case NotEq =>
  refine Ah (fun b e q => ?_) <| EF h
  show Af _ _
  rw [e]
  cases b <;> exact q
 all_goals exact h
theorem Mg {op : CmpOp} {u v : AV} {K K' : Bool -> Prop} (kk : ∀ b, K b -> K' b) (h : KU op u v st K) : KU op u v st K' := by
 have o : ∀ {o : Option Bool} {g : Bool -> Bool}, Af o (fun b => K (g b)) -> Af o (fun b => K' (g b)) := fun {o} {g} h => by
  cases o
  ·exact h
  ·exact kk _ h
 have i : ∀ {g : Int -> Int -> Bool}, (Bb u fun x => Bb v fun y => K (g x y)) -> Bb u fun x => Bb v fun y => K' (g x y) := fun {g} h => by
  refine Au h fun x h => ?_
  refine Au h fun y h => ?_
  exact kk _ h
 cases op
 case Eq => exact o h
 case NotEq => exact o h
 case Lt => exact i h
 case LtE => exact i h
 case Gt => exact i h
 case GtE => exact i h
 case In =>
  refine Au h fun x h => ?_
  cases v
  case tin => exact kk _ h
  all_goals exact h.elim
 case Is =>
  cases v
  case none => exact o h
  all_goals exact h.elim
 all_goals exact h.elim
theorem G8 {op : CmpOp} {u v : AV} {KT KF : Prop} (h : JP op u v st KT KF) (ok : c.Ok) {os os0 : Os} {hh h0 : Heap} {t : Nat} {l : A9} {x y : Value} {P : Bool -> Shared -> Prop} (R : BD c st os hh l) (a : CV hh (Av os) u x) (b : CV hh (Av os) v y) (e : Ex c os0 os h0 hh)
  (k : ∀ b os1 h1 t1 l1, br b KT KF -> BD c st os1 h1 l1 -> Ex c os os1 hh h1 -> P b (mk c.s h1 t1)) : wpAny (model c.prog c.w) c.A (compareOp op x y) (fun z s₂ => wpAny (model c.prog c.w) c.A (truthy z) P c.E s₂) c.E (mk c.s hh t) :=
 wpAny_mono (L0 (c := c) (Q := fun a st' => ∃ b, a = .bool b /\ st' = st /\ br b KT KF) (Mg (fun b q => ⟨b, rfl, rfl, q⟩) (QQ h)) ok os hh t l x y R a b) (fun z s p => by
  revert p; refine EK fun w st1 os1 h1 t1 z0 => ?_; revert z0; refine HS fun l1 z1 e1 R1 cw z2 => ?_; obtain rfl := z1; revert z2; refine FR fun b z3 z4 q => ?_; obtain rfl := z3; obtain rfl := z4
  cases cw
  exact Bc (k b os1 h1 t1 l1 q R1 e1)) fun _ _ x => x
theorem Yc {KT KF : St -> Prop} {b : Bool} (q : br b (KT st) (KF st)) : bQ KT KF b st := by cases b <;> exact q
theorem RE (s : Fq c r) {a : Expr} {ops : List CmpOp} {bs : List Expr} {p : Pos} {KT KF : St -> Prop} (h : YS r a ops bs st KT KF) : AT c (.Compare a ops bs p) st (bQ KT KF) := Gu h (fun op h => Jl h fun b h => GA h fun hm h ok os hh t l R =>
  wpAny_isTrue_Compare1 (Jd.on (s.x _ _ _ h) ok R fun u st1 os1 h1 t1 l1 x e1 R1 cu k1 => Jd.on (s.x _ _ _ k1) ok R1 fun v st2 os2 h2 t2 l2 y e2 R2 cv k2 =>
   G8 k2 ok R2 (cu.ext e2) cv (e1.trans e2) fun b os3 h3 t3 l3 q R3 e3 => .un (e1.trans (e2.trans e3)) R3 (Yc q) rfl) hm)
 fun op op2 h => Gu h (fun _ h => h.elim) fun b d h => GA h fun hm h ok os hh t l R =>
  isTrue_chain (Jd.on (s.x _ _ _ h) ok R fun u st1 os1 h1 t1 l1 x e1 R1 cu k1 => test_link (Jd.on (s.x _ _ _ k1) ok R1 fun v st2 os2 h2 t2 l2 y e2 R2 cv k2 =>
   G8 k2 ok R2 (cu.ext e2) cv (e1.trans e2) fun b os3 h3 t3 l3 q R3 e3 => by
    cases b
    ·exact .un (b := false) (e1.trans (e2.trans e3)) R3 q rfl
    ·refine XQ (Jd.on (s.x _ _ _ q) ok R3 fun w st4 os4 h4 t4 l4 z e4 R4 cw k4 => ?_)
     exact G8 k4 ok R4 (cv.ext (e3.trans e4)) cw (e1.trans (e2.trans (e3.trans e4))) fun b os5 h5 t5 l5 q R5 e5 => .un (e1.trans (e2.trans (e3.trans (e4.trans e5)))) R5 (Yc q) rfl)) hm
theorem V4 (s : Fq c r) {op : BoolOp} {es : List Expr} {p : Pos} {KT KF : St -> Prop} (h : bO r op es p st KT KF) : AT c (.BoolOp op es p) st (bQ KT KF) := fun ok os hh t l R => by
 cases es with
 | nil =>
  cases op
  ·exact isTrue_and_nil (.at (b := true) R h rfl)
  ·exact isTrue_or_nil (.at (b := false) R h rfl)
 | cons e es =>
  cases op
  ·refine isTrue_and (Jd.on (s.t _ _ _ _ h) ok R fun b st1 os1 h1 t1 l1 x e1 R1 eb q => ?_)
   cases eb
   cases b with
   | true => exact (s.t _ _ _ _ q).to ok R1 e1
   | false => exact .un (b := false) e1 R1 q rfl
  ·refine isTrue_or (Jd.on (s.t _ _ _ _ h) ok R fun b st1 os1 h1 t1 l1 x e1 R1 eb q => ?_)
   cases eb
   cases b with
   | true => exact .un (b := true) e1 R1 q rfl
   | false => exact (s.t _ _ _ _ q).to ok R1 e1
theorem T4 {e : Expr} {KT KF : St -> Prop} (he : isTrue e c.env (eval e c.env) = (do let v <- eval e c.env; standAt e.pos; holding [v] (truthy v))) (h : AE c e st fun u st1 => GB u fun b => br b (KT st1) (KF st1)) : AT c e st (bQ KT KF) := fun ok os hh t l R =>
 G9 he (Jd.on h ok R fun v st1 os1 h1 t1 l1 x e1 R1 cv k1 => by
  revert cv; refine EM k1 fun b q cv => ?_
  cases cv
  exact Bc (.un e1 R1 q rfl))
theorem PC (fit : GG c Γ) (s : Fq c r) {e : Expr} {KT KF : St -> Prop} (h : Tb Γ r e st KT KF) : AT c e st (bQ KT KF) := by
 cases e
 case UnaryOp op x p =>
  cases op
  case Not => exact fun ok os hh t l R => isTrue_not (Jd.on (s.t _ _ _ _ h) ok R fun b st1 os1 h1 t1 l1 x e1 R1 eb q => by
   cases eb
   cases b
   ·exact .un (b := true) e1 R1 q rfl
   ·exact .un (b := false) e1 R1 q rfl)
  all_goals exact h.elim
 case BoolOp => exact V4 s h
 case Compare => exact RE s h
 case IfExp => exact h.elim
 case Name => exact T4 rfl (D1 fit h)
 all_goals exact T4 rfl (s.x _ _ _ h)
theorem De {v : Expr} {t : Option Expr} {n : Nat} {env : Env} (h : D9 v = false) : swapsWith v t n env = pure false := by
 cases v
 case ListComp => exact Bool.noConfusion h
 case SetComp => exact Bool.noConfusion h
 case DictComp => exact Bool.noConfusion h
 all_goals rfl
theorem NX {v : Expr} {k : Prop} (h : bif D9 v then False else k) : D9 v = false /\ k := GA h fun a b => ⟨a, b⟩
theorem Lc {x : Str} {e : Aa} (h : Pm x = some e) : e.cls = x /\ x ∈ Pn := (show ∀ p ∈ Xb, p.2.cls = p.1 /\ p.1 ∈ Pn by decide +kernel) _ (Bz h)
theorem Kz {x : Str} (h : (!W6 x) = true) : (x == ("__debug__" : Str)) = false := Tl h
theorem MU (fit : GG c Γ) {e k : Option Expr} {pos : Pos} {rest : List Stmt} {Q : Fl -> St -> Prop} (h : Og Γ e k) : AS c (.Raise e k pos :: rest) st Q := by
 cases k with
 | some _ => exact h.elim
 | none =>
  refine AJ h fun e' z h => ?_
  subst z
  refine AJ h fun q eq h => IT eq (AJ h fun x ex h => B4 h fun g h => BV g fun g0 g => BV g fun g1 g => BV g fun g2 g3 => AJ h fun er ee q' => ?_)
  obtain ⟨f, args, kws, p⟩ := q
  refine BA (e := f) ex fun xp => ?_
  cases kws with
  | cons _ _ => cases g0
  | nil =>
   refine Ak (fun e1 e2 => ?_) <| Lc ee
   refine Ap (fun sx ex => ?_) <| Option.isSome_iff_exists.mp g3
   refine A2 ex fun a0 ea eb => ?_
   refine HM (fun k0 p0 ec => ?_) <| Om eb
   rw [show args = [a0] from GZ ea, ec]
   exact AS.raise er e1 (by rw [fit.EX]; exact q') fit.n e2 (by rw [fit.sc]; exact CJ g1) (Kz g2)
end
@[elab_as_elim] theorem Hw {C : Expr -> List Str -> Prop} {e : Expr} {es : List Expr} {xs : List Str} (h : Eu (e :: es) = some xs) (k : ∀ x p ys, Eu es = some ys -> C (.Name x p) (x :: ys)) : C e xs :=
 A2 h fun x h1 h => CU h fun ys h2 h3 => h3 ▸ BA h1 fun p => k x p ys h2
theorem L8 {env : Env} {ts : List Expr} : ∀ {xs : List Str}, Eu ts = some xs -> (assignEach ts env).length = xs.length /\ (assignEach ts env).findIdx? (·.1) = none := by
 induction ts with
 | nil => exact fun h => Option.some.inj h ▸ ⟨rfl, rfl⟩
 | cons e es ih =>
  intro xs h
  refine Hw h fun x p ys h2 => ?_
  have q := ih h2
  refine ⟨congrArg (· + 1) q.1, ?_⟩
  show List.findIdx? (·.1) ((false, assign (.Name x p) env) :: assignEach es env) = none
  rw [List.findIdx?_cons, q.2]; rfl
theorem Ho {t v : Expr} {n : Nat} {env : Env} (h : D9 v = false) : swapsWithSole [t] v n env = pure false := by
 unfold swapsWithSole; exact De h
theorem JA {xs : List Str} : ∀ {us : List AV} {l ll : List (Str × Option AV)}, NJ xs us l = some ll -> xs.length = us.length := by
 induction xs with
 | nil => exact fun h => Gq h fun e _ => List.isEmpty_iff.mp e ▸ rfl
 | cons x xs ih =>
  intro us l ll h
  cases us with
  | nil => exact AG h
  | cons u us => exact Gq h fun _ h => congrArg (· + 1) (ih h)
theorem TH {h : Heap} {as : List AA} {u : AV} {us : List AV} {v : Value} (x : CV h as u v) (e : bI u = some us) : ∃ d vs, v = .ref d /\ IsTup h d vs /\ DC h as us vs.toList := by
 cases u
 case tup2 => rw [<- Option.some.inj e]; exact Kk x fun d x y T a b => ⟨d, _, rfl, T.isTup, a, b, trivial⟩
 case tup3 => rw [<- Option.some.inj e]; revert x; refine Mv fun d x y z z0 => I5 fun T a b c => ?_; exact ⟨d, _, z0, T.isTup, a, b, c, trivial⟩
 case tok => rw [<- Option.some.inj e]; refine Gr (fun d u1 u2 z0 T => ?_) <| LA x; exact ⟨d, _, z0, T, ⟨_, rfl⟩, ⟨_, rfl⟩, trivial⟩
 all_goals exact AG e
section
variable {c : Cx} {Γ : Gm} {r : Ev} {st : St} {rest : List Stmt} {pos : Pos} {Q : Fl -> St -> Prop}
theorem av (ok : c.Ok) {ll : List (Str × Option AV)} {ts : List Expr} : ∀ {xs : List Str} {us : List AV} {vs : List Value} {st : St} {os os0 : Os} {h h0 : Heap} {t : Nat} {l : A9}, Eu ts = some xs -> NJ xs us st.loc = some ll -> DC h (Av os) us vs -> BD c st os h l -> Ex c os0 os h0 h -> AS c rest ⟨ll, st.objs⟩ Q ->
  wpAny (model c.prog c.w) c.A (assignInOrder ((assignEach ts c.env).map (·.2)) vs) (fun _ s₂ => wpAny (model c.prog c.w) c.A (execs rest c.env) (Ep c QF Q os0 h0) c.E s₂) c.E (mk c.s h t) := by
 induction ts with
 | nil =>
  intro xs us vs st os os0 h h0 t l hn hp cvs R e k
  rw [<- Option.some.inj hn] at hp
  refine Gq hp fun e1 e2 => ?_
  rw [List.isEmpty_iff.mp e1] at cvs
  rw [<- Option.some.inj e2] at k
  exact Ck cvs (assignInOrder_nil (k.to ok R e))
 | cons e es ih =>
  intro xs us vs st os os0 h h0 t l hn hp cvs R e0 k
  revert hp; refine Hw hn fun x p ys h2 hp => ?_
  cases us with
  | nil => exact AG hp
  | cons u us =>
   refine Gq hp fun hx hp => Bs cvs fun v vs cv cvs => ?_
   refine Ah (fun m' s lo => ?_) <| BJ.put cv hx R.loc
   refine assignInOrder_cons (Dj ok.he R.F s fun h2' t2 F2 K2 => ?_)
   have e2 : Ex c os os h h2' := .store K2
   exact ih (st := ⟨HR x u st.loc, st.objs⟩) h2 hp (cvs.ext e2) (R.store F2 K2 lo) (e0.trans e2) k
theorem Zk (ok : c.Ok) {ll : List (Str × Option AV)} {xs : List Str} : ∀ {us : List AV} {vs : List Value} {st : St} {os os0 : Os} {h h0 : Heap} {t : Nat} {l : A9}, NJ xs us st.loc = some ll -> DC h (Av os) us vs -> BD c st os h l -> Ex c os0 os h0 h -> AS c rest ⟨ll, st.objs⟩ Q ->
  wpAny (model c.prog c.w) c.A (assignInOrder (xs.map fun n => bindName c.env n) vs) (fun _ s₂ => wpAny (model c.prog c.w) c.A (execs rest c.env) (Ep c QF Q os0 h0) c.E s₂) c.E (mk c.s h t) := by
 induction xs with
 | nil =>
  intro us vs st os os0 h h0 t l hp cvs R e k
  refine Gq hp fun e1 e2 => ?_
  rw [List.isEmpty_iff.mp e1] at cvs
  rw [<- Option.some.inj e2] at k
  exact Ck cvs (assignInOrder_nil (k.to ok R e))
 | cons x xs ih =>
  intro us vs st os os0 h h0 t l hp cvs R e0 k
  cases us with
  | nil => exact AG hp
  | cons u us =>
   refine Gq hp fun hx hp => Bs cvs fun v vs cv cvs => ?_
   refine Ah (fun m' s lo => ?_) <| BJ.put cv hx R.loc
   refine assignInOrder_cons (UH ok.he R.F s fun h2' t2 F2 K2 => ?_)
   have e2 : Ex c os os h h2' := .store K2
   exact ih (st := ⟨HR x u st.loc, st.objs⟩) hp (cvs.ext e2) (R.store F2 K2 lo) (e0.trans e2) k
theorem DC.append {h : Heap} {as : List AA} {l l' : List AV} {m' : List Value} (y : DC h as l' m') : ∀ {m : List Value}, DC h as l m -> DC h as (l ++ l') (m ++ m') := by
 induction l with
 | nil => exact fun c => Ck c y
 | cons a l ih => exact fun c => Bs c fun v vs x c => ⟨x, ih c⟩
theorem DC.rev {h : Heap} {as : List AA} {l : List AV} : ∀ {m : List Value}, DC h as l m -> DC h as l.reverse m.reverse := by
 induction l with
 | nil => exact fun c => Ck c trivial
 | cons a l ih => exact fun c => Bs c fun v vs x c => by rw [List.reverse_cons, List.reverse_cons]; exact DC.append (l' := [a]) (m' := [v]) ⟨x, trivial⟩ (ih c)
theorem aH {sc : Scope} {ts : List Expr} {v : Expr} {k : Nat} {tp : Pos} {sw : Option (List Str)} (h : N4 (swappedStores [.Tuple ts 0 default] v (envOf sc)) = some sw) (env : Env) (he : env.scope = sc) : swappedStores [.Tuple ts k tp] v env = pure sw := by
 subst he; exact (show swappedStores [.Tuple ts k tp] v env = swappedStores [.Tuple ts 0 default] v (envOf env.scope) by kernel_rfl).trans (Qr h)
theorem RA (fit : GG c Γ) (s : Fq c r) {ts : List Expr} {k : Nat} {tp : Pos} {v : Expr} {K : St -> Prop} (h : XH Γ r ts v st K) (hK : ∀ st, K st -> AS c rest st Q) : AS c (.Assign [.Tuple ts k tp] v pos :: rest) st Q := fun ok os hh t l R => by
 refine AJ h fun xs hn g1 => AJ g1 fun sw hw0 g2 => GA g2 fun hc h' => ?_
 have hw : ∀ env : Env, env.scope = c.sc -> swappedStores [.Tuple ts k tp] v env = pure sw := fun env he => aH hw0 env (he.trans fit.sc)
 clear h g1 g2 hw0
 cases sw with
 | none =>
  refine am (Ho hc) (hw _ ok.he.scope) (Jd.on (s.x _ _ _ h') ok R fun u st1 os1 h1 t1 l1 x e1 R1 cu k1 => ?_)
  refine AJ k1 fun us eu k1 => AJ k1 fun ll el k1 => ?_
  refine CY (fun d vs z0 T cvs => ?_) <| TH cu eu; subst z0
  refine Ak (fun a1 a2 => ?_) <| L8 (env := c.env) hn
  refine assign_Tuple_tuple (s := mk c.s h1 t1) ok.hA.handled T (by rw [a1, JA el, <- cvs.len, Array.length_toList]) a2 fun h' e => ?_
  have e2 : Ex c os1 os1 h1 h' := .grow (Gs e)
  exact av ok hn el (cvs.ext e2) (R1.grow (R1.F.grow (Gs e)) (Gs e)) (e1.trans e2) (hK _ k1)
 | some ys =>
  refine Ys (names := ys) ok.he (Ho hc) hw (Jd.on (s.x _ _ _ h') ok R fun u st1 os1 h1 t1 l1 x e1 R1 cu k1 => ?_)
  refine AJ k1 fun us eu k2 => AJ k2 fun ll el0 k3 => Gq el0 fun hy el => ?_
  clear k1 k2 el0
  have hy := eq_of_beq hy; subst hy
  refine CY (fun d vs z0 T cvs => ?_) <| TH cu eu; subst z0
  have hl : ys.length = vs.size := by
   have := JA el
   rw [List.length_reverse, List.length_reverse, <- cvs.len, Array.length_toList] at this
   exact this
  refine UY ok.hA.handled R1.F T hl fun h' F' K' => ?_
  have e2 : Ex c os1 os1 h1 h' := .grow K'
  exact Zk ok el (DC.rev (cvs.ext e2)) (R1.grow F' K') (e1.trans e2) (hK _ k3)
theorem Cf.set {h : Heap} {v : Value} {r : AC} (x : Cf h [v] [r]) {vs : List Value} : ∀ {rs : List AC} {k : Nat}, Cf h vs rs -> Cf h (vs.set k v) (rs.set k r) := by
 induction vs with
 | nil =>
  intro rs k y
  cases rs with
  | nil => exact trivial
  | cons _ _ => exact y.elim
 | cons u vs ih =>
  intro rs k y
  cases rs with
  | nil => exact y.elim
  | cons q rs =>
   cases k with
   | zero => exact ⟨x.1, y.2⟩
   | succ k => exact ⟨y.1, ih y.2⟩
theorem O2 {h : Heap} {P R T : AP} {k : Nat} {vs : List Value} {v : Value} (x : P.rel h vs) (y : R.rel h [v]) (e : P.setAt k R = some T) : T.rel h (vs.set k v) := A2 e fun l e1 e => A2 e fun m e2 e => CU e fun a e3 z => by
 revert x y; refine Ga e1 (Ga e2 fun x y => ?_)
 rw [GZ e3] at y
 exact z ▸ ⟨Cf.set y.1 x.1, fun r m => (List.mem_or_eq_of_mem_set m).elim (x.2 r) fun q => by rw [q]; exact y.2 _ (.head _)⟩
theorem RN (fit : GG c Γ) (s : Fq c r) {o i v : Expr} {p : Pos} {K : St -> Prop} (h : YL Γ r o i v st K) (hK : ∀ st, K st -> AS c rest st Q) : AS c (.Assign [.Subscript o i p] v pos :: rest) st Q := AJ h fun x ex h => BA ex fun xp => GA h fun hc h ok os hh t l R =>
 Qz (wpAny_Assign_Subscript (Jd.on (s.x _ _ _ h) ok R fun a st1 os1 h1 t1 l1 va e1 R1 ca k1 => Jd.on (D1 fit k1) ok R1 fun u st2 os2 h2 t2 l2 vu e2 R2 cu k2 => Jd.on (s.x _ _ _ k2) ok R2 fun k st3 os3 h3 t3 l3 vk e3 R3 ck k3 => by
  revert cu; refine CR k3 fun j k3 cu => ?_
  revert ck; refine Au k3 fun z k3 ck => ?_
  refine DG k3 fun P ej k3 => AJ k3 fun A eA k3 => ?_
  refine Ak (fun g k3 => AJ k3 fun T eT k3 => Cm ck fun tk => R3.lst_c ej (cu.ext e3) fun y vs ey L r1 hz => ?_) k3
  have hl := AP.rel.len r1
  rw [<- hl] at g eT
  have r3 := O2 r1 (AP.one_ok (ca.ext (e2.trans e3)) eA) eT
  refine Vy R3.F (R3.wr _ (List.mem_of_getElem? ey) _ (.head _)) L hz g.1 g.2 fun h4 F4 K4 L4 => ?_
  have e4 : Ex c os3 (os3.set j (y, .lst T)) h3 h4 := Ex.set (o' := .lst T) K4 ey (fun _ m => m) rfl rfl
  exact Fg ((hK _ k3).to ok (R3.set F4 K4 ey (fun _ m => m) rfl (fun _ m => m) ⟨by rw [<- AP.rel.len r3, List.length_set]; exact hz, _, L4, r3.kw K4.toKw⟩) (e1.trans (e2.trans (e3.trans e4))))) (De hc))
theorem S3 (fit : GG c Γ) (s : Fq c r) {ts : List Expr} {v : Expr} {K : St -> Prop} (h : VY Γ r ts v st K) (hK : ∀ st, K st -> AS c rest st Q) : AS c (.Assign ts v pos :: rest) st Q := Jl h fun t h => FQ h (fun x ex h => BA ex fun xp => GA h fun hc h ok os hh t l R => Ce (De hc) (Jd.on (s.x _ _ _ h) ok R fun a st1 os1 h1 t1 l1 v e1 R1 cv k1 => Tr k1 fun hx k1 => KC ok R1 cv hx e1 (hK _ k1)))
 fun _ h => FQ h (fun ts et h => PY et fun k p => RA fit s h hK) fun _ h => AJ h fun q eq h => WX eq fun p => RN fit s h hK
theorem SP (s : Fq c r) {t : Expr} {op : Operator} {v : Expr} {K : St -> Prop} (h : YV r t op v st K) (hK : ∀ st, K st -> AS c rest st Q) : AS c (.AugAssign t op v pos :: rest) st Q := AJ h fun x ex h => BA ex fun xp => AJ h fun o eo h => AJ h fun a ea h ok os hh t l R => by
 subst ea
 refine Ah (fun w mw cw => ?_) <| R.loc.look eo
 refine aR (cI ok.he R.F mw (Jd.on (s.x _ _ _ h) ok R fun b st1 os1 h1 t1 l1 y e1 R1 cy k1 => wpAny_mono (Uv k1 ok os1 h1 t1 l1 w y R1 (cw.ext e1) cy) (fun r s p => ?_) fun _ _ x => x))
 revert p; refine EK fun r' st2 os2 h2 t2 z0 => ?_; revert z0; refine HS fun l2 z1 e2 R2 cr k2 => ?_; subst z1
 exact Tr k2 fun hx k2 => KC ok R2 cr hx (e1.trans e2) (hK _ k2)
theorem Ld {K : St -> Prop} (hK : ∀ st, K st -> AS c rest st Q) (fl : Fl) (st : St) (h : ER K Q fl st) : PX c rest Q fl st := by
 cases fl
 ·exact hK _ h
 ·exact h
@[elab_as_elim] theorem Lu {C : Expr -> List Expr -> Prop} {nm : Str} {e : Expr} {args : List Expr} (h : Je Γ nm e = some args) (k : ∀ fp p a as, Di Γ.sc nm = true -> B1 a = true -> as.all B1 = true -> C (.Call (.Name nm fp) (a :: as) [] p) (a :: as)) : C e args := by
 refine A2 h fun q eq h => IT eq (A2 h fun fn ef h => Gq h fun g z => BV g fun g0 g => BV g fun g1 g => BV g fun g2 g => BV g fun g3 g4 => ?_)
 rw [<- Option.some.inj z, List.isEmpty_iff.mp g0]
 revert g3 g4; refine BA ef fun fp => ?_
 rw [eq_of_beq g1] at g2 ⊢
 cases q.args with
 | nil => exact fun g3 => Bool.noConfusion g3
 | cons a as => exact fun _ g4 => BV (List.all_cons ▸ g4) fun a b => k _ _ _ _ g2 a b
theorem SA (fit : GG c Γ) (s : Fq c r) {x : Str} {xp : Pos} {it : Expr} {args : List Expr} {body : List Stmt} {K : St -> Prop} (ea : Je Γ "range" it = some args) (h : YG r x body args st K Q) (hK : ∀ st, K st -> AS c rest st Q) : AS c (.For (.Name x xp) it body [] pos :: rest) st Q := by
 revert h; refine Lu ea fun fp p a as hg hp1 hp2 h => ?_
 intro ok os hh t l R
 refine PJ (fun _ => rfl) (Ay rfl (Aq ok.W.gb ok.he R.F (by rw [fit.sc]; exact CJ hg) ok.W.b_range (Mw (BQ hp1) (DX hp2) (Jd.on (s.l p _ _ _ h) ok R fun us st1 os1 h1 t1 l1 xs e1 R1 cvs k1 => ?_))))
 revert cvs; refine Gu k1 (fun u k1 => Au k1 fun b k1 cvs => B8 cvs fun v g0 => Cm g0 fun w => ?_) fun u v k1 => Au k1 fun a k1 => Au k1 fun b k1 cvs => Cu cvs fun v v' g0 g1 => Cm g0 fun w => Cm g1 fun w' => ?_
 ·exact Zl R1.F fun d h' t' F K' rg => XA ok (R1.grow F K') (e1.trans (.grow K')) rg k1.1.1 k1.1.2 (s.b _) hK (fun _ _ q => q) k1.2
 ·exact bp R1.F fun d h' t' F K' rg => XA ok (R1.grow F K') (e1.trans (.grow K')) rg k1.1.1 k1.1.2 (s.b _) hK (fun _ _ q => q) k1.2
theorem WG (s : Fq c r) {x : Str} {xp : Pos} {it : Expr} {body : List Stmt} {K : St -> Prop} (h : bL r x body it st K Q) (hK : ∀ st, K st -> AS c rest st Q) : AS c (.For (.Name x xp) it body [] pos :: rest) st Q := B4 h fun hs h ok os hh t l R =>
 PJ (fun y => by
  clear h R ok
  cases it
  case Set => exact Bool.noConfusion hs
  all_goals rfl) (Jd.on (s.x _ _ _ h) ok R fun u st1 os1 h1 t1 l1 v e1 R1 cu k1 => by
  revert cu; exact Px k1 (fun P k1 cu => aw ok R1 e1 cu (s.b _) hK (fun _ _ q => q) k1) fun j P e2 k1 cu => Zd ok R1 e1 cu e2 (s.b _) hK (fun _ _ q => q) k1)
theorem WZ (fit : GG c Γ) (s : Fq c r) {x y : Str} {xp yp p : Pos} {k : Nat} {it e : Expr} {body : List Stmt} {K : St -> Prop} (ea : Je Γ "enumerate" it = some [e]) (h : a9 r x y body e st K Q) (hK : ∀ st, K st -> AS c rest st Q) : AS c (.For (.Tuple [.Name x xp, .Name y yp] k p) it body [] pos :: rest) st Q := by
 generalize eas : [e] = as at ea
 revert eas; refine Lu ea fun fp p a as hg hp1 hp2 eas => ?_
 obtain rfl := (List.cons.inj eas).1
 obtain rfl := (List.cons.inj eas).2
 intro ok os hh t l R
 exact PJ (fun _ => rfl) (Ay rfl (Aq ok.W.gb ok.he R.F (by rw [fit.sc]; exact CJ hg) ok.W.b_enumerate (Mw (BQ hp1) rfl (AW (BQ hp1) (Jd.on (s.x _ _ _ h) ok R fun u st1 os1 h1 t1 l1 v e1 R1 cu k1 => args_nil (by
  revert cu; refine CR k1 fun j k1 cu => DG k1 fun P ej k1 => ?_
  exact Zf ok R1 e1 ej cu (s.b _) hK (fun _ _ q => q) k1.2))))))
theorem S5 (fit : GG c Γ) (s : Fq c r) {t it : Expr} {body : List Stmt} {K : St -> Prop} (h : Xx Γ r t it body st K Q) (hK : ∀ st, K st -> AS c rest st Q) : AS c (.For t it body [] pos :: rest) st Q :=
 FQ h (fun x ex h => BA ex fun xp => FQ h (fun args ea h => SA fit s ea h hK) fun _ h => WG s h hK)
  fun _ h => AJ h fun ts et h => PY et fun k p => Gu h (fun _ h => h.elim) fun t1 t2 h => AJ h fun x ex h => BA ex fun xp => AJ h fun y ey h => BA ey fun yp => AJ h fun as ea h => by
   revert ea; exact Jl h fun e h ea => WZ fit s ea h hK
theorem M6 (fit : GG c Γ) (s : Fq c r) {x : Stmt} {K : St -> Prop} (h : Tm Γ r x st K Q) (hK : ∀ st, K st -> AS c rest st Q) : AS c (x :: rest) st Q := by
 cases x
 case Expr e p =>
  refine Ak (fun hc h => ?_) <| NX h
  exact fun ok os hh t l R => Ib (De hc) ok.he R.F (Jd.on (s.x _ _ _ h) ok R fun v st1 os1 h1 t1 l1 x e1 R1 cv k1 => (hK _ k1).to ok R1 e1)
 case Assign ts v p =>
  replace h : bif OA (.Assign ts v p) then Γ.O (.Assign ts v p) st K else VY Γ r ts v st K := h
  cases hb : OA (.Assign ts v p) with
  | true => rw [hb] at h; exact fit.O _ _ _ _ _ hb h hK
  | false => rw [hb] at h; exact S3 fit s h hK
 case AugAssign => exact SP s h hK
 case If t a b p =>
  exact AS.ite (Jd.mono (s.t _ _ _ _ h) fun x st1 q => by
   cases x with
   | true => exact Jd.mono (s.b _ _ _ q) (Ld hK)
   | false => exact Jd.mono (s.b _ _ _ q) (Ld hK))
 case While t body orelse p =>
  cases orelse
  ·revert h; refine Ap fun N h => ?_
   exact AS.whl (s.t t) (s.b body) hK (fun _ _ q => q) h
  ·exact h.elim
 case For t it body orelse p =>
  cases orelse
  ·exact S5 fit s h hK
  ·exact h.elim
 case Return e p =>
  cases e
  ·exact h.elim
  ·exact fun ok os hh t l R => GI (Jd.on (s.x _ _ _ h) ok R fun v st1 os1 h1 t1 l1 x e1 R1 cv q => .un e1 R1 q ⟨x, rfl, cv⟩)
 case Raise => exact MU fit h
 case Pass => exact fun ok os hh t l R => XR (hK _ h ok os hh t l R)
 all_goals exact h.elim
theorem GM (fit : GG c Γ) : ∀ n, Fq c (V n Γ)
 | 0 => ⟨fun _ _ _ h => h.elim, fun _ _ _ _ h => h.elim, fun _ _ _ _ h => h.elim, fun _ _ _ h => h.elim⟩
 | n + 1 => by
  have s := GM fit n
  refine ⟨fun e st Q h => Ow fit s h, fun e st KT KF h => PC fit s h, fun p es st Q h => OS s h, fun ss st Q h => ?_⟩
  cases ss
  ·exact fun ok os hh t l R => Dm (.at R h rfl)
  ·exact M6 fit s h fun st q => s.b _ _ _ q
end
def FG (prog : Program) (w : World) (K : Frag) (B : Heap) (mg : Str -> Option Value) (ad : Str -> Addr) (n : Nat) (p : Str × CT) : Prop := mg p.1 = some (.ref (ad p.1)) /\ keepIn K (.ref (ad p.1)) = true /\ Sp prog w B ad n (.ref (ad p.1)) p.2
def MG (prog : Program) (w : World) (K : Frag) (B : Heap) (ad : Str -> Addr) (n : Nat) (p : Str × CT) : Prop := ∀ q, Co p.1 = some q -> keepIn K (.ref (ad q.2)) = true /\ Sp prog w B ad n (.ref (ad q.2)) p.2
theorem Sp.mono {prog : Program} {w : World} {B : Heap} {ad : Str -> Addr} {n m : Nat} {fv : Value} {T : CT} (x : Sp prog w B ad n fv T) (h : n <= m) : Sp prog w B ad m fv T := fun us os hh xs EX K a b c d e f => by
 refine Mv (fun m' S R Cs hm y => ?_) <| x us os hh xs EX K a b c d e f
 exact QE m' S R Cs (Nat.le_trans hm h) y
noncomputable def Az (ps : List Str) (us : List AV) (r : List Str) : List (Str × Option AV) := ps.rec (fun _ => r.map (·, none)) (fun p _ ih us => us.casesOn (r.map (·, none)) fun u us => (p, some u) :: ih us) us
noncomputable def Am : Fl -> AV
 | .next => .none
 | .ret v => v
theorem JG {h : Heap} {as : List AA} {rest : List Str} {ps : List Str} : ∀ {us : List AV} {xs : List Value}, us.length = ps.length -> DC h as us xs -> BJ h as (Az ps us rest) (A6 (ps.zip xs) rest) := by
 induction ps with
 | nil =>
  intro us xs _ _
  show BJ h as (rest.map (·, none)) (rest.map (·, none))
  induction rest with
  | nil => rfl
  | cons x r ih => exact ⟨rfl, fun b (e : none = some b) => AG e, ih⟩
 | cons p ps ih =>
  intro us xs hl c
  cases us with
  | nil => exact Nat.noConfusion hl
  | cons u us => exact Bs c fun v vs x c => ⟨rfl, fun b e => ⟨v, rfl, Option.some.inj e ▸ x⟩, ih (Nat.succ.inj hl) c⟩
theorem GD {rest ps : List Str} : ∀ {xs : List Value}, xs.length = ps.length -> (A6 (ps.zip xs) rest).map (·.1) = ps ++ rest := by
 induction ps with
 | nil =>
  intro xs _
  show (rest.map (·, none)).map (·.1) = rest
  rw [List.map_map]; exact List.map_id _
 | cons p ps ih =>
  intro xs h
  cases xs with
  | nil => exact Nat.noConfusion h
  | cons x xs => exact congrArg (p :: ·) (ih (Nat.succ.inj h))
noncomputable def Xu (i : Nat) (l : List Nat) : Nat := l.rec 0 fun j _ r => bif i == j then 0 else r + 1
noncomputable def bP (n : Nat) (is : List Nat) (a : AV) : AV := a.map fun i => bif Nat.blt i n then i else n + Xu i is
def AU (n : Nat) (v : AV) (objs : List AO) (K : AV -> List AO -> Prop) : Prop := Af (GK objs ((Dp v).filter (Nat.ble n))) fun os => bif OJ ((Dp v).filter (Nat.ble n)) then K (bP n ((Dp v).filter (Nat.ble n)) v) (objs.take n ++ os) else False
theorem Ul {i : Nat} {l : List Nat} : i ∈ l -> l[Xu i l]? = some i := by
 induction l with
 | nil => exact fun m => nomatch m
 | cons j l ih =>
  intro m
  show (j :: l)[bif i == j then 0 else Xu i l + 1]? = _
  cases hb : i == j with
  | true => exact congrArg some (eq_of_beq hb).symm
  | false => exact ih ((List.mem_cons.mp m).resolve_left fun q => by rw [q, beq_self_eq_true] at hb; cases hb)
theorem Wc {h : Heap} {as bs : List AA} {n : Nat} {is : List Nat} {a : AV} {v : Value} (H : ∀ i ∈ Dp a, ∀ x, as[i]? = some x -> bs[bif Nat.blt i n then i else n + Xu i is]? = some x) : CV h as a v -> CV h bs (bP n is a) v := CV.map (Kw.refl [] [] h) H
theorem WJ {B : Heap} {ad : Str -> Addr} {h h' : Heap} {os os' : Os} {a : AV} {v : Value} {K : AV -> List AO -> Prop} (af : Bx B ad h os h' os') (cv : CV h' (Av os') a v) (p : AU os.length a (os'.map (·.2)) K) : ∃ a os', Bx B ad h os h' os' /\ CV h' (Av os') a v /\ K a (os'.map (·.2)) := by
 refine AJ p fun ao e p => B4 p fun hn k => ?_
 ·refine Ah (fun sub es z0 => ?_) <| JX _ e; obtain rfl := z0
  have nd := Ja hn
  generalize hi : (Dp a).filter (Nat.ble os.length) = is at *
  have hge : ∀ i ∈ is, os.length <= i := fun i m => by rw [<- hi] at m; exact Nat.le_of_ble_eq_true (List.mem_filter.mp m).2
  have hlen : os.length <= os'.length := Iq af.pre
  have hp : Av os = (Av os').take os.length := by
   have : (Av os).length = os.length := List.length_map ..
   rw [<- this, <- List.prefix_iff_eq_take.mp af.pre]
  have ha : Av (os'.take os.length ++ sub) = Av os ++ Av sub := by rw [hp, <- ED]; exact List.map_append
  have at1 : ∀ i, i < os.length -> (os'.take os.length ++ sub)[i]? = os'[i]? := fun i hi' => by
   rw [List.getElem?_append_left (by rw [List.length_take]; omega), List.getElem?_take_of_lt hi']
  have at2 : ∀ i, os.length <= i -> (os'.take os.length ++ sub)[i]? = sub[i - os.length]? := fun i hi' => by
   have : (os'.take os.length).length = os.length := by rw [List.length_take]; omega
   rw [List.getElem?_append_right (by omega), this]
  have dis := DJ.mp af.dis
  have sl := FE es
  have from_ : ∀ (i : Nat) (p : PO), (os'.take os.length ++ sub)[i]? = some p -> ∃ k, os'[k]? = some p /\ ((i < os.length /\ k = i) \/ (os.length <= i /\ is[i - os.length]? = some k)) := fun i p e => by
   by_cases hi' : i < os.length
   ·rw [at1 i hi'] at e; exact Dx i e (.inl ⟨hi', rfl⟩)
   ·rw [at2 i (by omega)] at e
    have hj : i - os.length < is.length := by rw [<- sl]; exact (List.getElem?_eq_some_iff.mp e).1
    refine Ah (fun o a b => ?_) <| CF es (List.getElem?_eq_getElem hj)
    rw [e] at b; cases b
    exact Dx _ a (.inr ⟨by omega, List.getElem?_eq_getElem hj⟩)
  refine QC _ (os'.take os.length ++ sub) ⟨fun p m => ?_, DJ.mpr fun i j p q ei ej hne => ?_, by rw [ha]; exact List.prefix_append .., fun i p q ei ej => ?_, fun i p hi' ei => ?_⟩ (Wc (is := is) (fun i m x e => ?_) cv) (by rw [List.map_append, List.map_take]; exact k)
  ·refine Ap (fun i e => ?_) <| List.getElem?_of_mem m
   refine Ah (fun k e _ => ?_) <| from_ i p e
   exact af.ok p (List.mem_of_getElem? e)
  ·refine Ah (fun k1 e1 c1 => ?_) <| from_ i p ei
   refine Ah (fun k2 e2 c2 => ?_) <| from_ j q ej
   refine dis k1 k2 p q e1 e2 fun q => ?_
   rcases c1 with ⟨c1, r1⟩ | ⟨c1, r1⟩ <;> rcases c2 with ⟨c2, r2⟩ | ⟨c2, r2⟩
   ·omega
   ·have := hge _ (List.mem_of_getElem? r2); omega
   ·have := hge _ (List.mem_of_getElem? r1); omega
   ·subst q
    have hlt := (List.getElem?_eq_some_iff.mp r1).1
    have := (List.getElem?_inj hlt nd).mp (r1.trans r2.symm)
    omega
  ·have := (List.getElem?_eq_some_iff.mp ei).1
   rw [at1 i this] at ej
   exact af.kind i p q ei ej
  ·refine Ah (fun k1 e1 c1 => ?_) <| from_ i p ei
   rcases c1 with ⟨c1, _⟩ | ⟨_, r1⟩
   ·omega
   ·exact af.new k1 p (hge _ (List.mem_of_getElem? r1)) e1
  ·rw [ha]
   by_cases hi' : i < os.length
   ·rw [show Nat.blt i os.length = true from by simpa using hi']
    show (Av os ++ Av sub)[i]? = _
    rw [List.getElem?_append_left (by unfold Av; rw [List.length_map]; exact hi'), hp, List.getElem?_take_of_lt hi', e]
   ·rw [show Nat.blt i os.length = false from by cases hb : Nat.blt i os.length with | false => rfl | true => exact absurd (by simpa using hb) hi']
    show (Av os ++ Av sub)[os.length + Xu i is]? = _
    have hm : i ∈ is := by rw [<- hi]; exact List.mem_filter.mpr ⟨m, by simpa using hi'⟩
    refine Ah (fun o a b => ?_) <| CF es (Ul hm)
    have hl : (Av os).length = os.length := List.length_map ..
    rw [List.getElem?_append_right (by omega), hl, Nat.add_sub_cancel_left]
    unfold Av at e ⊢
    rw [List.getElem?_map, a] at e
    rw [List.getElem?_map, b]; exact e
def Rt (c : Cx) (os0 : Os) (Kq : AV -> List AO -> Prop) (v : Value) (h' : Heap) : Prop := ∃ a os', Bx c.B c.ad c.h₀ os0 h' os' /\ CV h' (Av os') a v /\ Kq a (os'.map (·.2))
def AF (c : Cx) (body : List Stmt) (os0 : Os) (Kq : AV -> List AO -> Prop) (st : St) : Prop := c.Ok -> ∀ os h t l, BD c st os h l -> Ex c os0 os c.h₀ h ->
 wpAny (model c.prog c.w) c.A (execs body c.env) (fun fl s' => Vx c.B c.S₀ c.h₀ c.s (Rt c os0 Kq) (FK fl) s') c.E (mk c.s h t)
theorem Ex.after {c : Cx} {st : St} {os os' : Os} {h : Heap} {l : A9} (R : BD c st os' h l) (e : Ex c os os' c.h₀ h) : Bx c.B c.ad c.h₀ os h os' := ⟨R.ok, R.dis, e.pre, e.kind, e.new⟩
theorem AF.end_ {c : Cx} {os0 os : Os} {Kq : AV -> List AO -> Prop} {st : St} {h : Heap} {t : Nat} {l : A9} {fl : Fl} {fv : Flow} (R : BD c st os h l) (e : Ex c os0 os c.h₀ h) (r : QF h (Av os) fl fv) (q : AU os0.length (Am fl) st.objs Kq) : Vx c.B c.S₀ c.h₀ c.s (Rt c os0 Kq) (FK fv) (mk c.s h t) := by
 refine R.F.fin (WJ (e.after R) (a := Am fl) ?_ (by rw [<- R.eq]; exact q))
 cases fl with
 | next => cases r; exact rfl
 | ret v => revert r; refine Ah fun x z0 cv => ?_; obtain rfl := z0; exact cv
theorem AF.of {c : Cx} {body : List Stmt} {os0 : Os} {Kq : AV -> List AO -> Prop} {st : St} (j : AS c body st fun fl st' => AU os0.length (Am fl) st'.objs Kq) : AF c body os0 Kq st := fun ok os h t l R e =>
 Jd.on j ok R fun _ _ _ _ _ _ _ e2 R2 r q => AF.end_ R2 (e.trans e2) r q
theorem E6 {env : Env} {b : List Stmt} : ∀ a : List Stmt, execs (a ++ b) env = (execs a env >>= fun f => match f with | .next => execs b env | f => pure f)
 | [] => rfl
 | x :: a => by
  show (exec x env >>= fun f => match f with | .next => execs (a ++ b) env | f => pure f) = ((exec x env >>= fun f => match f with | .next => execs a env | f => pure f) >>= _)
  rw [bind_assoc]
  congr 1
  funext f
  cases f
  ·exact E6 a
  all_goals rfl
theorem MT {M : Model} {A : Around} {env : Env} {E : Value -> Shared -> Prop} {a b : List Stmt} {Q : Flow -> Shared -> Prop} {s : Shared} (h : wpAny M A (execs a env) (QD M A env b Q E) E s) : wpAny M A (execs (a ++ b) env) Q E s := by
 rw [E6]
 refine wpAny_bind (wpAny_mono h (fun f s q => ?_) fun _ _ x => x)
 cases f
 ·exact q
 all_goals exact wpAny_pure q
def XG (fl : Fl) (P : Prop) : Prop := match fl with
 | .next => P
 | .ret _ => False
theorem AF.app {c : Cx} {a b : List Stmt} {os0 : Os} {Kq : AV -> List AO -> Prop} {st : St} (j : AS c a st fun fl st' => XG fl (AF c b os0 Kq st')) : AF c (a ++ b) os0 Kq st := fun ok os h t l R e =>
 MT (Jd.on j ok R fun fl _ _ _ _ _ _ e2 R2 r q => by
  cases fl with
  | next => cases r; exact (show AF c b os0 Kq _ from q) ok _ _ _ _ R2 (e.trans e2)
  | ret _ => exact q.elim)
noncomputable def Cx.calm (c : Cx) : Cx := { c with EX := fun _ => False }
section
variable {c : Cx} {Γ : Gm} {r0 : Ev} {st : St} {os os' : Os} {h h' : Heap} {l : A9}
theorem BD.calm (R : BD c st os h l) : BD c.calm st os h l := ⟨R.F, R.eq, R.loc, R.ok, R.dis, R.wr, R.dL, R.pre⟩
theorem BD.loud (R : BD c.calm st os h l) : BD c st os h l := ⟨R.F, R.eq, R.loc, R.ok, R.dis, R.wr, R.dL, R.pre⟩
theorem Cx.Ok.calm (ok : c.Ok) : c.calm.Ok := ⟨ok.W, ok.he, ok.hf, ok.hA⟩
theorem Jd.calmOn {α β : Type} {rel : Heap -> List AA -> β -> α -> Prop} {x : Sem α} {Q : β -> St -> Prop} {P : α -> Shared -> Prop} {E : Value -> Shared -> Prop} {t : Nat} (j : Jd c.calm rel x st Q) (ok : c.Ok) (R : BD c st os h l)
  (k : ∀ b st' os' h' t' l' v, Ex c os os' h h' -> BD c st' os' h' l' -> rel h' (Av os') b v -> Q b st' -> P v (mk c.s h' t')) : wpAny (model c.prog c.w) c.A x P E (mk c.s h t) :=
 wpAny_mono (j ok.calm os h t l R.calm) (fun v s p => by
  revert p; refine EK fun b st' os' h' t' z0 => ?_; revert z0; refine HS fun l' z1 e R' x q => ?_; obtain rfl := z1
  exact k b st' os' h' t' l' v ⟨e.kp, e.kind, e.new, e.pre⟩ R'.loud x q) fun e s x => by
  revert x; refine DK fun _ _ _ _ _ z0 => ?_; revert z0; refine Ju fun _ _ _ _ z1 => ?_; revert z1; refine CY fun _ _ _ z2 _ => ?_; revert z2; refine Ah fun _ g _ => ?_
  exact g.elim
theorem GG.calm (f : GG c Γ) : GG c.calm Γ.calm :=
 ⟨rfl, f.sc, fun p m ok => f.F p m ⟨ok.W, ok.he, ok.hf, ok.hA⟩, fun p m ok => f.M p m ⟨ok.W, ok.he, ok.hf, ok.hA⟩, f.nil, f.n, f.C, fun _ _ _ _ _ _ q => q.elim⟩
theorem BD.but {S : List Addr} (R : BD c st os h l) (F : Fx c.B c.h₀ c.S₀ c.outer c.sc c.L h' l) (k : Kp c.B S [] h h') (hS : ∀ p ∈ os, ∀ x ∈ DL p, x ∉ S) : BD c st os h' l :=
 ⟨F, R.eq, R.loc.kw k.toKw (List.prefix_refl _), fun p m => (R.ok p m).kw k.toKw (hS p m) fun _ _ => AD, R.dis, R.wr, R.dL, R.pre⟩
theorem ZM {n : Nat} {objs : List AO} {is : List Nat} : Km n objs is = true -> ∀ i ∈ is, NQ objs[i]? = true \/ n <= i := by
 induction is with
 | nil => exact fun _ _ m => nomatch m
 | cons j is ih => exact fun e => BV e fun a b => List.forall_mem_cons.mpr ⟨(Bool.or_eq_true_iff.mp a).imp id Nat.le_of_ble_eq_true, ih b⟩
theorem Q6 {t : Option Expr} {x : Str} (h : OD t = some x) : ∃ p, t = some (.Name x p) := A2 h fun e z h => BA (C := fun e => t = some e -> ∃ p, t = some (.Name x p)) h (fun p z => ⟨p, z⟩) z
theorem P8 {b : List Stmt} {s : Str} (h : P3 b = some s) : ∃ k p q, b = [.Return (some (.Constant (.str s) k p)) q] := A2 h fun a e1 h => A2 h fun e e2 h => by
 refine Ap (fun q z0 => ?_) <| VG e2
 refine HM (fun k p z1 => ?_) <| Om h
 exact bG k p q (by rw [GZ e1, z0, z1])
theorem MN (e : Aa) : e.cls ∈ Pn := by
 cases e <;> decide +kernel
theorem Sb {a b : Aa} (h : a.cls = b.cls) : a = b := by
 have := show decide (a.cls = b.cls) = decide (a = b) from by cases a <;> cases b <;> kernel_rfl
 rw [decide_eq_true h] at this
 exact of_decide_eq_true this.symm
theorem VT (ok : c.Ok) {S : List Addr} {h1 : Heap} {er : Aa} {KS : Str -> Prop} {P : Flow -> Shared -> Prop} {x : Addr} {t' : Nat} (Fe1 : Fe c.B h1 c.outer c.sc c.L) (hF : ∀ h', Kp c.B S [] h1 h' -> Fx c.B c.h₀ c.S₀ c.outer c.sc c.L h' l)
  (fin : ∀ s tk h' t', KS s -> Kp c.B S [] h1 h' -> P (.ret (.str s tk)) (mk c.s h' t')) (z : D0 c.B h1 S c.L c.s (fun v => v = .ref (c.ad er.cls)) true (.ref x) (mk c.s h' t')) :
  ∀ hs : List ExceptHandler, aL c.sc hs = true -> Mu hs er KS -> wpAny (model c.prog c.w) c.A (handleBy (.ref x) c.env hs) P c.E (mk c.s h' t') := by
 intro hs
 induction hs with
 | nil => exact fun _ q => q.elim
 | cons hh hs ih =>
  obtain ⟨t, n, b, p⟩ := hh
  intro hk q
  refine BV hk fun g0 g3 => AJ q fun X eX q1 => B4 q1 fun hn q2 => AJ q2 fun w ew q3 => AJ q3 fun e' ee q4 => ?_
  rw [eX] at g0
  refine BV g0 fun g1 g2 => ?_
  refine Ap (fun xp et => ?_) <| Q6 eX
  have en := Option.isNone_iff_eq_none.mp hn
  refine UG (fun k1 p1 p2 eb => ?_) <| P8 ew
  clear q q1 q2 q3 eX ew hn g0 hk
  subst et en eb
  refine Ak (fun e1 e2 => ?_) <| Lc ee
  refine DK (fun x' hh tt ex es z0 => ?_) <| id z; revert z0; refine Ju fun K hx hL hct z1 => ?_; revert z1; refine CY fun o vs g4 g5 g6 => ?_
  cases ex; cases es
  have F1 := hF _ K
  have LT : Looks (model c.prog c.w) h' (typeOf (.ref x)) o.cls := (Looks.ld g4).andThen .now
  have hm := ok.W.exm er.cls (MN er) X e2
  rw [<- g5] at hm
  refine wpAny_handleBy_cons (codeAny_handlers_test (B5 ok.W.gb ok.he F1 (CJ g1) (ok.W.ex X e2).1 ((exm_one (ok.W.X.keeps F1.base) LT hm).here ?_) (Kz g2))) (fun q => nomatch q)
  by_cases he : e' = er
  ·rw [show decide (e' = er) = true from decide_eq_true he] at q4
   rw [show (er.cls == X) = true by rw [<- e1, he]; exact beq_self_eq_true _]
   refine codeAny_handlers_suite (wpAny_mono (IP Fe1 z _) (fun _ s2 z2 => ?_) fun _ _ q => q)
   revert z2; refine DK fun x' hh tt ex z0 z1 => ?_; obtain rfl := z0; revert z1; refine Ak fun K _ => ?_
   exact GI (Ph (fin _ _ _ _ q4 K))
  ·rw [show decide (e' = er) = false from decide_eq_false he] at q4
   rw [show (er.cls == X) = false from beq_eq_false_iff_ne.mpr fun q => he (Sb (by rw [e1, q]))]
   exact ih g3 q4
@[elab_as_elim] theorem Uo {C : List Stmt -> Str × Str × List Expr -> Prop} {b : List Stmt} {q : Str × Str × List Expr} (h : YE b = some q) (k : ∀ x f args xp fp cp ap, C [.Assign [.Name x xp] (.Call (.Name f fp) args [] cp) ap] (x, f, args)) : C b q :=
 A2 h fun s es h => A2 h fun d ed h => A2 h fun t et h => A2 h fun x ex h => A2 h fun cd ec h => A2 h fun f ef h => Gq h fun g z => by
  rw [GZ es, <- Option.some.inj z]
  refine Vv ed ?_
  rw [GZ et]
  refine BA ex fun xp => IT ec (BA ef fun fp => ?_)
  rw [List.isEmpty_iff.mp g]
  exact k ..
theorem AF.try_ (fit : GG c Γ) (s0 : Fq c.calm r0) (hads : c.ads = []) {tb post : List Stmt} {hs : List ExceptHandler} {pos : Pos} {os0 : Os} {Kq : AV -> List AO -> Prop} (w : WD Γ r0 os0.length tb hs st (fun st2 => AF c post os0 Kq st2) (fun s objs => Kq (.str s) objs)) :
  AF c (.Try tb hs [] [] pos :: post) os0 Kq st := AJ w fun q eq w => by
 revert w; refine Uo eq fun x f args xp fp cp ap w => ?_
 refine Ey (l := args) w fun a as w => B4 w fun g w1 => BV g fun g1 g => BV g fun g2 g => BV g fun g3 g => BV g3 fun hp1 hp2 => BV g fun g4 g5 => AJ w1 fun T eT w2 ok os hh t l R e => ?_
 have F := fit.F _ (Bz eT) ok
 have hx : c.sc.names.lookup f = some .globalImplicit := by rw [fit.sc]; exact CJ g1
 have sp := BQ (es := as) (env := c.env) hp1
 have sa := DX (pos := cp) (env := c.env) hp2
 clear w w1 g
 cases hs with
 | nil => cases g5
 | cons h0 hs =>
 refine Qz (wpAny_Try_except (Ce rfl (Ay rfl (B5 ok.W.gb ok.he R.F hx F.1 (jK ok.W.X F.2.1 sp sa (Jd.calmOn (s0.l cp _ _ _ w2) ok R fun us st1 os1 h1 t1 l1 xs e1 R1 cvs k1 => ⟨R1.F.base, ?_⟩)) (Kz g2)))))
 refine Ak (fun hfar k1 => ?_) <| CL k1
 refine Mv (fun m S R' Cs hm z0 => ?_) <| LH ok F.2.2 k1 R1 cvs; revert z0; refine Ju fun ct hS hSw hC kk => ?_
 refine DK (fun oL es ep eL dL _ => ?_) R1.F.ns
 have fr := Lg ok.he.scope ok.hf R1.F.fe R1.F.kp eL dL
 refine wpAny_mono (ct c.A (c.env :: c.outer) c.s t1 (ok.hA.le hm) R1.F.base fr) (fun v s' p => ?_) (fun ev s' p => ?_)
 ·revert p; refine CY fun h' t' z0 K' r => ?_; obtain rfl := z0
  refine EK (fun a st2 os2 h2 t2 z0 => ?_) <| kk v h' t' (R1.F.step K' hS) K' r; revert z0; refine HS fun l2 eq e2 R2 cv q => ?_
  rw [eq]
  refine Ak (fun hx q => ?_) <| CL q
  refine Ah (fun m' sa' lo => ?_) <| BJ.put cv hx R2.loc
  refine Sn ok.he R2.F sa' fun h3 t3 F3 K3 => Dm (Dm (Fg ?_))
  exact (show AF c post os0 Kq _ from q) ok _ _ _ _ (R2.store F3 K3 lo) (e.trans (e1.trans (e2.trans (.store K3))))
 ·revert p; refine DK fun x' h' t' z0 z1 z2 => ?_; obtain rfl := z0; obtain rfl := z1; revert z2; refine I5 fun K hx' hct ex => ?_
  have Fe1 : Fe c.B h1 c.outer c.sc c.L := ⟨R1.F.fe.notB, R1.F.base, fun env m => fr env (.tail _ m), R1.F.fe.kind⟩
  have hF : ∀ h', Kp c.B S [] h1 h' -> Fx c.B c.h₀ c.S₀ c.outer c.sc c.L h' l1 := fun h' K => R1.F.step K hS
  have z : D0 c.B h1 S c.L c.s Cs true (.ref x') (mk c.s h' t') := ⟨x', h', t', rfl, rfl, K, hx', K.dictOk ⟨_, _, _, eL, dL⟩, hct, ex⟩
  refine wpAny_mono (UV ok.he.scope ok.hf ok.hA Fe1 z c.E) (fun _ s2 z => wpAny_mono (IP Fe1 z c.E) (fun _ s3 z => ?_) fun _ _ q => q) fun _ _ q => q
  revert z; refine DK fun x2 h2 t2 ex2 z0 z1 => ?_; obtain rfl := z0; revert z1; refine Ju fun K2 hx2 hL2 hct2 z2 => ?_; revert z2; refine CY fun o vs g6 g7 g8 => ?_
  cases ex2
  refine Ah (fun er q eo => ?_) <| hC _ g7
  refine VT ok Fe1 hF (KS := fun s => Kq (.str s) (st1.objs.take os0.length)) (fun s tk h3 t3 q K3 => ?_) (er := er) ⟨x', h2, t2, rfl, rfl, K2, hx2, hL2, hct2, o, vs, g6, eo, g8⟩ _ (by rw [fit.sc]; exact g4) q
  have e01 := e.trans e1
  have Rg := R1.gc os0.length (by rw [hads]; exact Nat.zero_le _)
  have hl0 := Iq e01.pre
  have R3 : BD c _ (os1.take os0.length) h3 l1 := Rg.but (hF h3 K3) K3 fun p m y hy hyS => by
   refine CY (fun i pi hi ei hw => ?_) <| hSw y hyS
   have eo : st1.objs[i]? = some pi.2 := by rw [R1.eq, List.getElem?_map, ei]; rfl
   have hge : os0.length <= i := (ZM hfar i hi).resolve_left fun q => by
    refine Ap (fun mm em => ?_) <| Oi q
    rw [eo] at em; obtain ⟨z1, z2⟩ := pi; cases em; cases hw
   refine Ap (fun j ej => ?_) <| List.getElem?_of_mem m
   have hj : j < os0.length := by have := (List.getElem?_eq_some_iff.mp ej).1; rw [List.length_take] at this; omega
   rw [List.getElem?_take_of_lt hj] at ej
   exact DJ.mp R1.dis j i p pi ej ei (by omega) y hy y (Cb hw) rfl
  refine R3.F.fin ⟨.str s, os1.take os0.length, ⟨R3.ok, R3.dis, ?_, fun i p q a b => ?_, D2 (by rw [List.length_take]; omega)⟩, ⟨tk, rfl⟩, by rw [List.map_take, <- R1.eq]; exact q⟩
  ·rw [ED]
   have : (Av os0).length = os0.length := List.length_map ..
   rw [<- this, <- List.prefix_iff_eq_take.mp e01.pre]; exact List.prefix_refl _
  ·rw [List.getElem?_take_of_lt (List.getElem?_eq_some_iff.mp a).1] at b
   exact e01.kind i p q a b
end
section
variable {K : Frag} {B : Heap} {mg mb : Str -> Option Value} {ad : Str -> Addr} {tk : Str -> Tok} {prog : Program} {w : World}
theorem Hh (W : Wd K B mg mb ad tk) {f : Addr} {name qual : Str} {params : Arguments} {body : List Stmt} {scope : Scope} {dV : Value} (hf : Fn B f name qual params body scope dV) (ps rest : List Str) {n : Nat} {T : CT} (du : List AV) (dx : List Value) (hd : ∀ h as, DC h as du dx)
  (hT : ∀ us os EX Kq, T us os EX Kq -> (us ++ du).length = ps.length /\ ∀ A s h S outer L env os0, os0.map (·.2) = os -> AF ⟨prog, w, A, s, B, h, S, outer, scope, L, env, K, mg, mb, ad, tk, n, EX, []⟩ body os0 Kq ⟨Az ps (us ++ du) rest, os⟩)
  (hbind : ∀ xs : List Value, (xs ++ dx).length = ps.length -> ∀ kV doc pm an cdv ct s h t, B.StaysIn h -> BindsTo (mk s h t) (fnOf name qual params body scope dV kV doc pm an cdv ct) ⟨xs, []⟩ (ps.zip (xs ++ dx)))
  (hk : (decide (ps ++ rest).Nodup && (ps ++ rest).all (fun x => scope.names.lookup x == some .local)) = true) (kd : scope.kind = .function)
  (hco : scope.isCoroutine = false) (hgen : scope.isGenerator = false) (hcell : ∀ x ∈ scope.names, x.2 ≠ .cell) : Sp prog w B ad (n + 1) (.ref f) T := fun us os h xs EX Kq hB hok hdis hnb cvs t => by
 refine Ak (fun hl hv => ?_) <| hT us _ EX Kq t
 have cvs' := DC.append (hd h (Av os)) cvs
 have hl2 : (xs ++ dx).length = ps.length := cvs'.len.trans hl
 refine QE (n + 1) (DT os) (fun v h' => ∃ a os', Bx B ad h os h' os' /\ CV h' (Av os') a v /\ Kq a (os'.map (·.2))) (Jm ad EX) (Nat.le_refl _) ⟨?_, fun _ m => m, fun _ x => x, fun v h' K r => r⟩
 refine (CQ (A6 (ps.zip (xs ++ dx)) rest) hf W.gb.lim (fun kV doc pm an cdv ct s t hB => hbind xs hl2 kV doc pm an cdv ct s h t hB) rfl (FF (ps ++ rest) (GD hl2) hk kd) (fun A outer s L env h₁ t₁ he hfr hL Fx K1 hA => ?_) hco hgen hcell).ct
 have R0 : BD ⟨prog, w, A, s, B, h, DT os, outer, scope, L, env, K, mg, mb, ad, tk, n, EX, []⟩ ⟨Az ps (us ++ du) rest, os.map (·.2)⟩ os h₁ (A6 (ps.zip (xs ++ dx)) rest) :=
  ⟨Fx, rfl, (JG hl cvs').kw K1.toKw (List.prefix_refl _), fun p m => (hok p m).kw K1.toKw (fun _ _ => AD) (fun _ _ => AD), hdis, fun p m x hx => ⟨.inl (Bn m hx), hnb p m x hx⟩, fun p m x hx q => (by
   refine Ap (fun oo e => ?_) <| (hok p m).al x hx
   rw [q, hL] at e; cases e), List.nil_prefix⟩
 exact hv A s h (DT os) outer L env os rfl ⟨W, he, hfr, hA⟩ os h₁ t₁ _ R0 (.grow K1)
theorem Hb {F M : List (Str × CT)} {nil : AP} {n : Nat} {O : Stmt -> St -> (St -> Prop) -> Prop} {C : List (Str × Nat × Nat)} {ads : List AA} {EX : Aa -> Prop} {scope : Scope} {A : Around} {s_ : Shared} {h : Heap} {S : List Addr} {outer : List Env} {L : Addr} {env : Env} (hn : 2 <= n) (hnil : nil.isNil = true)
  (hF : ∀ p ∈ F, FG prog w K B mg ad n p) (hM : ∀ p ∈ M, MG prog w K B ad n p) (hC : ∀ p ∈ C, ∃ x y, ads[p.2.1]? = some x /\ ads[p.2.2]? = some y /\ env.cells.lookup p.1 = some x.a /\ x.r = y.a)
  (hO : ∀ st rest s K' Q, OA s = true -> O s st K' -> (∀ st, K' st -> AS ⟨prog, w, A, s_, B, h, S, outer, scope, L, env, K, mg, mb, ad, tk, n, EX, ads⟩ rest st Q) -> AS ⟨prog, w, A, s_, B, h, S, outer, scope, L, env, K, mg, mb, ad, tk, n, EX, ads⟩ (s :: rest) st Q) :
  GG ⟨prog, w, A, s_, B, h, S, outer, scope, L, env, K, mg, mb, ad, tk, n, EX, ads⟩ ⟨EX, scope, F, M, nil, C, O⟩ :=
 ⟨rfl, rfl, fun p m _ => hF p m, fun p m _ => hM p m, hnil, hn, hC, fun s rest st K' Q => hO st rest s K' Q⟩
def GQ : Stmt -> St -> (St -> Prop) -> Prop := fun _ _ _ => False
theorem CI (W : Wd K B mg mb ad tk) {f : Addr} {name qual : Str} {params : Arguments} {body : List Stmt} {scope : Scope} {dV : Value} (hf : Fn B f name qual params body scope dV) (ps rest : List Str) {F M : List (Str × CT)} {nil : AP} {n : Nat} (hn : 2 <= n) (hnil : nil.isNil = true)
  (hF : ∀ p ∈ F, FG prog w K B mg ad n p) (hM : ∀ p ∈ M, MG prog w K B ad n p) {T : CT} (N : Nat)
  (hT : ∀ us os EX Kq, T us os EX Kq -> us.length = ps.length /\ (V N ⟨EX, scope, F, M, nil, [], GQ⟩).b body ⟨Az ps us rest, os⟩ fun fl st' => AU os.length (Am fl) st'.objs Kq)
  (hbind : ∀ xs : List Value, xs.length = ps.length -> ∀ kV doc pm an cdv ct s h t, BindsTo (mk s h t) (fnOf name qual params body scope dV kV doc pm an cdv ct) ⟨xs, []⟩ (ps.zip xs))
  (hk : (decide (ps ++ rest).Nodup && (ps ++ rest).all (fun x => scope.names.lookup x == some .local)) = true) (kd : scope.kind = .function)
  (hco : scope.isCoroutine = false) (hgen : scope.isGenerator = false) (hcell : ∀ x ∈ scope.names, x.2 ≠ .cell) : Sp prog w B ad (n + 1) (.ref f) T :=
 Hh W hf ps rest [] [] (fun _ _ => trivial) (fun us os EX Kq t => ⟨by rw [List.append_nil]; exact (hT us os EX Kq t).1, fun A s h S outer L env os0 e => by
  rw [List.append_nil]
  refine AF.of ((GM (Hb (C := []) (O := GQ) hn hnil hF hM (fun _ m => nomatch m) fun _ _ _ _ _ _ (q : False) => q.elim) N).b body _ _ ?_)
  have hl : os0.length = os.length := by rw [<- e, List.length_map]
  rw [hl]; exact (hT us os EX Kq t).2⟩) (fun xs hl kV doc pm an cdv ct s h t _ => by rw [List.append_nil]; exact hbind xs (by rw [List.append_nil] at hl; exact hl) kV doc pm an cdv ct s h t) hk kd hco hgen hcell
end
section
variable {B : Heap} {ad : Str -> Addr} {os : Os} {h h' : Heap} {i : Nat} {x : AA} {o o' : AO} {S : List Addr}
theorem Bx.same (hok : ∀ p ∈ os, Hg B ad h p) (hdis : os.Pairwise Jv) (K : Kp B [] [] h h') : Bx B ad h os h' os :=
 ⟨fun p m => (hok p m).kw K.toKw (fun _ _ => AD) (fun _ _ => AD), hdis, List.prefix_refl _, CA os, D2 (Nat.le_refl _)⟩
theorem Bx.push {p : PO} (hok : ∀ p ∈ os, Hg B ad h p) (hdis : os.Pairwise Jv) (K : Kp B [] [] h h') (y : Hg B ad h' p) (hn : ∀ x ∈ DL p, h.get? x = none) : Bx B ad h os h' (os ++ [p]) where
 ok := DR (fun q m => (hok q m).kw K.toKw (fun _ _ => AD) (fun _ _ => AD)) y
 dis := List.pairwise_append.mpr ⟨hdis, List.pairwise_singleton _ _, fun q m q' m' => by
  rw [List.mem_singleton.mp m']; exact fun x hx y hy => EW (hn y hy) ((hok q m).al x hx)⟩
 pre := GU ..
 kind := fun i q r a b => by
  rw [List.getElem?_append_left (List.getElem?_eq_some_iff.mp a).1, a] at b; cases b; exact ⟨rfl, rfl⟩
 new := fun i q hi e x m => by
  rw [List.getElem?_append_right hi] at e
  obtain rfl := List.mem_singleton.mp (List.mem_of_getElem? e)
  exact hn x m
theorem Bx.set (hok : ∀ p ∈ os, Hg B ad h p) (hdis : os.Pairwise Jv) (e : os[i]? = some (x, o)) (K : Kp B S [] h h') (hS : ∀ y ∈ S, y ∈ GE (x, o)) (ha : DL (x, o') = DL (x, o)) (hw : GE (x, o') = GE (x, o)) (y : Hg B ad h' (x, o')) : Bx B ad h os h' (os.set i (x, o')) := by
 have at_ : ∀ (j : Nat) (q : PO), (os.set i (x, o'))[j]? = some q -> (j = i /\ q = (x, o')) \/ (j ≠ i /\ os[j]? = some q) := fun j q b => by
  rw [List.getElem?_set] at b
  exact BK b (fun hij b => BK b (fun _ b => .inl ⟨hij.symm, (Option.some.inj b).symm⟩) fun _ b => AG b) fun hij b => .inr ⟨fun q => hij q.symm, b⟩
 have dis := DJ.mp hdis
 refine ⟨fun q m => ?_, DJ.mpr fun j k p q ej ek hn => ?_, by rw [FH e]; exact List.prefix_refl _, fun j p q a b => ?_, D2 (by rw [List.length_set]; exact Nat.le_refl _)⟩
 ·refine Ap (fun j ej => ?_) <| List.getElem?_of_mem m
  rcases at_ j q ej with ⟨_, rfl⟩ | ⟨hj, e2⟩
  ·exact y
  ·exact (hok q (List.mem_of_getElem? e2)).kw K.toKw (fun z hz w => dis j i q (x, o) e2 e hj z hz z (Cb (hS z w)) rfl) (fun _ _ => AD)
 ·rcases at_ j p ej with ⟨e1, rfl⟩ | ⟨hj, e2⟩ <;> rcases at_ k q ek with ⟨e3, rfl⟩ | ⟨hk, e4⟩
  ·exact absurd (e1.trans e3.symm) hn
  ·intro u hu; rw [ha] at hu; exact dis i k _ q e e4 (fun q => hk q.symm) u hu
  ·intro u hu v hv; rw [ha] at hv; exact dis j i p _ e2 e hj u hu v hv
  ·exact dis j k p q e2 e4 hn
 ·rcases at_ j q b with ⟨e1, rfl⟩ | ⟨hj, e2⟩
  ·rw [e1, e] at a; cases a; exact ⟨ha, hw⟩
  ·exact CA os j p q a e2
theorem Xp (e : (os.map (·.2))[i]? = some o) : ∃ x, os[i]? = some (x, o) := by
 rw [List.getElem?_map, Option.map_eq_some_iff] at e
 revert e; refine Ah fun z0 e z1 => ?_; obtain ⟨x, _⟩ := z0; obtain rfl := z1
 exact ⟨x, e⟩
end
theorem Lz {os : Os} {i : Nat} {k : AC -> AC -> Prop} {P : Prop} (h : X8 (os.map (·.2))[i]? k) (f : ∀ x ps outs, os[i]? = some (x, .feed ps outs) -> k ps outs -> P) : P := AJ h fun a e h => AJ h fun q e2 h => Ap (fun x ex => f x q.1 q.2 ex h) (Xp (e.trans (congrArg _ (IU (C := fun a => a = .feed q.1 q.2) e2 rfl))))
theorem Qb {α : Type} {l : List α} {i : Nat} {x : α} (e : l[i]? = some x) : l.set i x = l := ET (fun a b ea k => by rw [k, <- ea]) (G0 e)
section
variable {K : Frag} {B : Heap} {mg mb : Str -> Option Value} {ad : Str -> Addr} {tk : Str -> Tok} {prog : Program} {w : World}
theorem S2 (W : Wd K B mg mb ad tk) : Sp prog w B ad 1 (.ref (ad "TokenFeed.next")) ID := .of fun us os h xs EX Kq t => by
 refine NB t fun i t z => Lz t fun x ps outs ex t => B8 z.cvs fun v cv => ?_
 rw [cv.at ex]
 have m := List.mem_of_getElem? ex
 refine .of (VL W (z.ok _ m)) (Ac (Bn m (.head _))) fun v h' K r => ?_
 cases ps with
 | nil => exact ⟨.none, os.set i (x, .feed [] outs), .set z.ok z.dis ex K (fun _ m => m) rfl rfl r.2, r.1, by rw [Qb ex]; exact t⟩
 | cons p qs => exact ⟨.tok p, os.set i (x, .feed qs outs), .set z.ok z.dis ex K (fun _ m => m) rfl rfl r.2, r.1, by rw [List.map_set]; exact t⟩
theorem I6 (W : Wd K B mg mb ad tk) : Sp prog w B ad 1 (.ref (ad "TokenFeed.is_outer")) Df := .of fun us os h xs EX Kq t => by
 refine JQ t fun i p t z => Lz t fun x ps outs ex t => Cu z.cvs fun v u cv cu => ?_
 rw [cv.at ex]
 exact .of (Jw W (z.ok _ (List.mem_of_getElem? ex)) cu) AH fun v h' K r => ⟨.bool _, os, .same z.ok z.dis K, r, t⟩
theorem Rz (W : Wd K B mg mb ad tk) : Sp prog w B ad 1 (.ref (ad "TokenFeed.left")) Ed := .of fun us os h xs EX Kq t => by
 refine NB t fun i t z => Lz t fun x ps outs ex t => B8 z.cvs fun v cv => ?_
 rw [cv.at ex]
 have F := z.ok _ (List.mem_of_getElem? ex)
 refine .of (U7 W F) AH fun v h' K r => ?_
 revert r; refine Eo fun d vs z0 y q hn => ?_
 refine ⟨.ref os.length, os ++ [(⟨d, d, d⟩, .lst (.toks ps))], .push (p := (⟨d, d, d⟩, .lst (.toks ps))) z.ok z.dis K ⟨Nat.le_trans F.len (by decide), vs, y, q⟩ (Ac hn), ⟨⟨d, d, d⟩, by unfold Av; simp, z0⟩, ?_⟩
 rw [List.map_append]
 rw [List.length_map] at t; exact t
theorem Sc (W : Wd K B mg mb ad tk) : Sp prog w B ad 4 (.ref (ad "TokenFeed.back")) H5 := .of fun us os h xs EX Kq t => by
 refine JQ t fun i p t z => Lz t fun x ps outs ex t => Cu z.cvs fun v u cv cu => ?_
 rw [cv.at ex]
 have m := List.mem_of_getElem? ex
 exact .of (VH W (z.ok _ m) cu (fun h y => (HK W y t.1).mono (by decide) (fun _ _ x => x) fun _ x => x) t.2.1) (Ac (Bn m (.head _))) fun v h' K r => ⟨.none, os.set i (x, .feed (p :: ps) outs), .set z.ok z.dis ex K (fun _ m => m) rfl rfl r.2, r.1, by rw [List.map_set]; exact t.2.2⟩
theorem Zb {n : Nat} {nm q : Str} {T : CT} (e : Co nm = some (true, q)) (k : keepIn K (.ref (ad q)) = true) (s : Sp prog w B ad n (.ref (ad q)) T) : MG prog w K B ad n (nm, T) := fun r er => by
 rw [<- Option.some.inj (e.symm.trans er)]; exact ⟨k, s⟩
theorem VI (W : Wd K B mg mb ad tk) {n : Nat} (hn : 1 <= n) : MG prog w K B ad n ("next", ID) := Zb (q := "TokenFeed.next") (by kernel_rfl) W.m_next.2.2.1 ((S2 W).mono hn)
theorem KY (W : Wd K B mg mb ad tk) {n : Nat} (hn : 1 <= n) : MG prog w K B ad n ("is_outer", Df) := Zb (q := "TokenFeed.is_outer") (by kernel_rfl) W.m_is_outer.2.2.1 ((I6 W).mono hn)
theorem KL (W : Wd K B mg mb ad tk) {n : Nat} (hn : 1 <= n) : MG prog w K B ad n ("left", Ed) := Zb (q := "TokenFeed.left") (by kernel_rfl) W.m_left.2.2.1 ((Rz W).mono hn)
theorem Vz (W : Wd K B mg mb ad tk) {n : Nat} (hn : 4 <= n) : MG prog w K B ad n ("back", H5) := fun q e => by
 have e0 : Co "back" = some (true, ("TokenFeed.back" : Str)) := by kernel_rfl
 have e1 : Co "back" = some q := e
 rw [e0] at e1; cases e1
 exact ⟨W.m_back.2.2.1, (Sc W).mono hn⟩
end
theorem PA {α : Type} {xs : List α} (h : xs.length = 1) : ∃ a, xs = [a] := by
 match xs, h with
 | [a], _ => exact ⟨a, rfl⟩
theorem ex2 {α : Type} {xs : List α} (h : xs.length = 2) : ∃ a b, xs = [a, b] := by
 match xs, h with
 | [a, b], _ => exact bK a b rfl
theorem W5 {α : Type} {xs : List α} (h : xs.length = 3) : ∃ a b c, xs = [a, b, c] := by
 match xs, h with
 | [a, b, c], _ => exact bG a b c rfl
theorem ZZ {α : Type} {xs : List α} (h : xs.length = 4) : ∃ a b c d, xs = [a, b, c, d] := by
 match xs, h with
 | [a, b, c, d], _ => exact cR a b c d rfl
theorem Bo {α : Type} {P : α -> Prop} : ∀ p ∈ ([] : List α), P p := fun _ m => nomatch m
theorem BX {α : Type} {P : α -> Prop} {a : α} {l : List α} (x : P a) (y : ∀ p ∈ l, P p) : ∀ p ∈ a :: l, P p := fun p m => (List.mem_cons.mp m).elim (fun e => e ▸ x) (y p)
theorem Dz {b : Bool} {x y : Prop} (h : b = true) (k : x) : br b x y := by rw [h]; exact k
theorem NT {b : Bool} {x y : Prop} (h : b = false) (k : y) : br b x y := by rw [h]; exact k
theorem Bu {p : Prop} [Decidable p] {x y : Prop} (a : p -> x) (b : ¬ p -> y) : br (decide p) x y := by
 by_cases h : p
 ·exact Dz (decide_eq_true h) (a h)
 ·exact NT (decide_eq_false h) (b h)
theorem DZ {α : Type} {r : Except Aa α} {EX : Aa -> Prop} {k k' : α -> Prop} (h : Bp r EX k) (m : ∀ a, r = .ok a -> k a -> k' a) : Bp r EX k' := by
 cases r
 ·exact h
 ·exact m _ rfl h
theorem Br {jb : St -> (Fl -> St -> Prop) -> Prop} {x : Str} {o : Option (Nat × AP)} {KR : AV -> St -> Prop} {K : St -> Prop} {v : AV} {vs : List AV} {st : St} (st' : St) (h : G1 x st.loc = true) (e : (⟨HR x v st.loc, st.objs⟩ : St) = st')
  (k : jb st' fun fl st2 => match fl with | .next => chk o st2 (FW jb x o KR K vs (gc st.objs.length st2)) | .ret w => KR w st2) : FW jb x o KR K (v :: vs) st := by
 subst e
 show bif G1 x st.loc then jb _ _ else False
 rw [h]; exact k
theorem Et {jt : St -> (St -> Prop) -> (St -> Prop) -> Prop} {jb : St -> (Fl -> St -> Prop) -> Prop} {KR : AV -> St -> Prop} {K : St -> Prop} {n : Nat} {st : St}
  (k : jt st (fun st1 => jb st1 fun fl st2 => match fl with | .next => wN jt jb KR K n (gc st.objs.length st2) | .ret v => KR v st2) K) : wN jt jb KR K (n + 1) st := k
theorem Mf {outs qs : AC} {p : AN} (h : p ∈ outs) : A7 outs (p :: qs) = .error .out := if_pos h
theorem Ka {outs qs : AC} {p : AN} (h : ¬ p ∈ outs) : A7 outs (p :: qs) = .ok (p, qs) := if_neg h
section
variable {K : Frag} {B : Heap} {mg mb : Str -> Option Value} {ad : Str -> Addr} {tk : Str -> Tok} {prog : Program} {w : World}
theorem MP {EX : Aa -> Prop} {Q : AV -> List AO -> Prop} {ps outs : AC} : ((V 30 ⟨EX, AM (st 24), [], [("next", ID), ("is_outer", Df)], .toks [], [], GQ⟩).b (AB (st 24)) ⟨Az ["feed"] [.ref 0] ["token"], [.feed ps outs]⟩ fun fl st' => AU 1 (Am fl) st'.objs Q) =
  T0 ps (EX .run) fun p qs => br (decide (p ∈ outs)) (EX .out) (Q (.tok p) [.feed qs outs]) := by kernel_rfl
theorem DS (W : Wd K B mg mb ad tk) : Sp prog w B ad 3 (.ref (ad "token_wanted")) Bf := by
 refine CI W (W.f_token_wanted).2.2 ["feed"] ["token"] (F := []) (M := [("next", ID), ("is_outer", Df)]) (nil := .toks []) (by decide) rfl Bo (BX (VI W (by decide)) (BX (KY W (by decide)) Bo)) 30 (fun us os EX Kq t => ?_) (fun xs hl _ _ _ _ _ _ _ _ _ => ?_) (by decide +kernel) rfl rfl rfl (by decide +kernel)
 ·refine Ai t fun r t1 => ?_
  refine AI t1 fun t2 => ?_
  refine CG t2 fun ps outs r t3 => ?_
  refine AI t3 fun t4 => ?_
  refine ⟨rfl, Eq.mpr MP ?_⟩
  cases ps with
  | nil => exact t4
  | cons p qs =>
   refine Bu (fun h => ?_) fun h => ?_
   ·rw [Mf h] at t4; exact t4
   ·rw [Ka h] at t4; exact t4
 ·refine Ap (fun a z0 => ?_) <| PA hl; obtain rfl := z0; exact BindsTo.of_eq rfl
theorem M0 {EX : Aa -> Prop} {Q : AV -> List AO -> Prop} {p par : AN} {long : Bool} : ((V 30 ⟨EX, AM (st 30), [], [], .toks [], [], GQ⟩).b (AB (st 30)) ⟨Az ["token", "par", "is_long"] [.tok p, .tok par, .bool long] [], []⟩ fun fl st' => AU 0 (Am fl) st'.objs Q) =
  br (decide (p = par)) (br long (Q .none []) (EX .run)) (Q .none []) := by kernel_rfl
theorem E5 (W : Wd K B mg mb ad tk) : Sp prog w B ad 3 (.ref (ad "check_par")) CK := by
 refine CI W (W.f_check_par).2.2 ["token", "par", "is_long"] [] (F := []) (M := []) (nil := .toks []) (by decide) rfl Bo Bo 30 (fun us os EX Kq t => ?_) (fun xs hl _ _ _ _ _ _ _ _ _ => ?_) (by decide +kernel) rfl rfl rfl (by decide +kernel)
 ·refine CS t fun p r t1 => ?_
  refine CS t1 fun par r t2 => ?_
  refine CH t2 fun long r t3 => ?_
  refine AI t3 fun t4 => ?_
  refine AI t4 fun t5 => ?_
  refine ⟨rfl, Eq.mpr M0 ?_⟩
  unfold DU at t5
  refine Bu (fun h => ?_) fun h => ?_
  ·cases long
   ·rw [if_pos ⟨h, rfl⟩] at t5; exact t5
   ·rw [if_neg fun q => nomatch q.2] at t5; exact t5
  ·rw [if_neg fun q => h q.1] at t5; exact t5
 ·refine UG (fun a b c z0 => ?_) <| W5 hl; obtain rfl := z0; exact BindsTo.of_eq rfl
theorem Sj {EX : Aa -> Prop} {Q : AV -> List AO -> Prop} {p : AN} {n : Int} : ((V 30 ⟨EX, AM (st 26), [], [], .toks [], [], GQ⟩).b (AB (st 26)) ⟨Az ["token", "count"] [.tok p, .int n] [], []⟩ fun fl st' => AU 0 (Am fl) st'.objs Q) =
  br (decide (p.1 = 6)) (Q (.tok p) []) (br (decide (p.1 = 12)) (br (decide (48 < p.2)) (br (decide (p.2 <= 48 + n)) (Q (.tok (5, p.2 - 48)) []) (EX .defn)) (EX .defn)) (EX .defn)) := by kernel_rfl
theorem RS (W : Wd K B mg mb ad tk) : Sp prog w B ad 3 (.ref (ad "parameter_mark")) CC := by
 refine CI W (W.f_parameter_mark).2.2 ["token", "count"] [] (F := []) (M := []) (nil := .toks []) (by decide) rfl Bo Bo 30 (fun us os EX Kq t => ?_) (fun xs hl _ _ _ _ _ _ _ _ _ => ?_) (by decide +kernel) rfl rfl rfl (by decide +kernel)
 ·refine CS t fun p r t1 => ?_
  refine CZ t1 fun n r t2 => ?_
  refine AI t2 fun t3 => ?_
  refine AI t3 fun t4 => ?_
  refine ⟨rfl, Eq.mpr Sj ?_⟩
  unfold B7 at t4
  refine Bu (fun h => ?_) fun h => ?_
  ·rw [if_pos h] at t4; exact t4
  ·rw [if_neg h] at t4
   refine Bu (fun h1 => Bu (fun h2 => Bu (fun h3 => ?_) fun h3 => ?_) fun h2 => ?_) fun h1 => ?_
   ·rw [if_pos ⟨h1, h2, h3⟩] at t4; exact t4
   ·rw [if_neg fun q => h3 q.2.2] at t4; exact t4
   ·rw [if_neg fun q => h2 q.2.1] at t4; exact t4
   ·rw [if_neg fun q => h1 q.1] at t4; exact t4
 ·refine HM (fun a b z0 => ?_) <| ex2 hl; obtain rfl := z0; exact BindsTo.of_eq rfl
noncomputable def EA (D : AC) (m : Int) (p : AN) (s r : Option AV) : St := ⟨[("delimiter", some (.tup (.toks D))), ("matched", some (.int m)), ("token", some (.tok p)), ("shift", s), ("rest", r)], []⟩
def Hk (EX : Aa -> Prop) : St -> (Fl -> St -> Prop) -> Prop := (V 29 ⟨EX, AM (st 29), [], [], .toks [], [], GQ⟩).b (BG (Bl (AB (st 29)) 0))
theorem SC {EX : Aa -> Prop} {Q : AV -> List AO -> Prop} {D : AC} {p : AN} {m : Int} : ((V 30 ⟨EX, AM (st 29), [], [], .toks [], [], GQ⟩).b (AB (st 29)) ⟨Az ["delimiter", "matched", "token"] [.tup (.toks D), .int m, .tok p] ["shift", "rest"], []⟩ fun fl st' => AU 0 (Am fl) st'.objs Q) =
  (((-1000000 <= (1 : Int) /\ (1 : Int) <= 1000000) /\ (-1000000 <= m + 1 /\ m + 1 <= 1000000)) /\ FW (Hk EX) "shift" none (fun v st => AU 0 v st.objs Q) (fun z => (V 29 ⟨EX, AM (st 29), [], [], .toks [], [], GQ⟩).b ((AB (st 29)).drop 1) z fun fl st' => AU 0 (Am fl) st'.objs Q) ((Aw 1 (m + 1 - 1).toNat).map .int) (EA D m p none none)) := by kernel_rfl
theorem M8 {EX : Aa -> Prop} {Q : Fl -> St -> Prop} {D : AC} {p : AN} {m s : Int} {r : Option AV} : Hk EX (EA D m p (some (.int s)) r) Q =
  br (decide (AY (some s) (some m) D = AY none (some (m - s)) D)) ((-(D.length : Int) <= m - s /\ m - s < D.length) /\ ∀ q, D[AK (m - s) D.length]? = some q -> br (decide (p = q)) (Q (.ret (.tok (s, m - s + 1))) (EA D m p (some (.int s)) (some (.int (m - s))))) (Q .next (EA D m p (some (.int s)) (some (.int (m - s)))))) (Q .next (EA D m p (some (.int s)) (some (.int (m - s))))) := by kernel_rfl
theorem M3 {EX : Aa -> Prop} {D : AC} {p : AN} {m : Nat} {KR : AV -> St -> Prop} {K : St -> Prop} (hm : m <= D.length) (hR : ∀ a b s r, BH D m p = (a, b) -> KR (.tok ((a : Int), (b : Int))) (EA D m p s r)) (hK : ∀ s r, BH D m p = (m, 0) -> K (EA D m p s r)) :
  ∀ (k i : Nat) (s r : Option AV), i + k = m -> BH D m p = Eg D m p i k -> FW (Hk EX) "shift" none KR K ((Aw ((i : Int) + 1) k).map .int) (EA D m p s r) := by
 intro k
 induction k with
 | zero => exact fun i s r _ e => hK s r e
 | succ k ih =>
  intro i s r hi e
  have e0 : ((i : Int) + 1) + 1 = ((i + 1 : Nat) : Int) + 1 := by omega
  have hg : D[m - (i + 1)]? = some D[m - (i + 1)] := List.getElem?_eq_getElem (by omega)
  have next : BS D m p (i + 1) = false -> ∀ r', FW (Hk EX) "shift" none KR K ((Aw ((i : Int) + 1 + 1) k).map .int) (EA D m p (some (.int ((i : Int) + 1))) r') := fun h r' => by
   rw [e0]
   exact ih (i + 1) _ _ (by omega) (by rw [e, Ew, h]; rfl)
  show (Hk EX (EA D m p (some (.int ((i : Int) + 1))) r) fun fl st2 => match fl with
   | .next => FW (Hk EX) "shift" none KR K ((Aw ((i : Int) + 1 + 1) k).map .int) (gc 0 st2)
   | .ret w => KR w st2)
  rw [M8]
  have e1 : AY (some ((i : Int) + 1)) (some (m : Int)) D = (D.take m).drop (i + 1) := by
   have := GS (i + 1) m D
   rw [<- this]; rfl
  have e2 : (m : Int) - ((i : Int) + 1) = ((m - (i + 1) : Nat) : Int) := by omega
  rw [e1, e2, Hx _ _ (by omega)]
  refine Bu (fun ha => ⟨⟨by omega, by omega⟩, fun q hq => ?_⟩) fun ha => next ?_ _
  ·have : D[m - (i + 1)] = q := by
    unfold AK at hq
    rw [if_neg (by omega), Int.toNat_natCast, hg] at hq
    exact Option.some.inj hq
   refine Bu (fun hb => ?_) fun hb => next ?_ _
   ·have h : BS D m p (i + 1) = true := by
     unfold BS
     rw [hg, this, hb, decide_eq_true ha, decide_eq_true rfl]; rfl
    exact hR (i + 1) (m - (i + 1) + 1) _ _ (by rw [e, Ew, h]; rfl)
   ·unfold BS
    rw [hg, this, decide_eq_true ha, decide_eq_false fun q => hb (Option.some.inj q).symm]; rfl
  ·unfold BS; rw [decide_eq_false ha]; rfl
theorem Pg {EX : Aa -> Prop} {Q : AV -> List AO -> Prop} {D : AC} {p : AN} {m : Int} {s r : Option AV} : ((V 29 ⟨EX, AM (st 29), [], [], .toks [], [], GQ⟩).b ((AB (st 29)).drop 1) (EA D m p s r) fun fl st' => AU 0 (Am fl) st'.objs Q) = Q (.tok (m, 0)) [] := by kernel_rfl
theorem Sr (W : Wd K B mg mb ad tk) : Sp prog w B ad 3 (.ref (ad "slid")) J7 := by
 refine CI W (W.f_slid).2.2 ["delimiter", "matched", "token"] ["shift", "rest"] (F := []) (M := []) (nil := .toks []) (by decide) rfl Bo Bo 30 (fun us os EX Kq t => ?_) (fun xs hl _ _ _ _ _ _ _ _ _ => ?_) (by decide +kernel) rfl rfl rfl (by decide +kernel)
 ·refine Cl t fun D r t1 => ?_
  refine CZ t1 fun m r t2 => ?_
  refine CS t2 fun p r t3 => ?_
  refine AI t3 fun t4 => ?_
  refine AI t4 fun t5 => ?_
  revert t5; refine Ak fun z0 q => ?_; revert z0; refine C9 fun h0 h1 h2 => ?_
  refine Ap (fun m z0 => ?_) <| Int.eq_ofNat_of_zero_le h0; obtain rfl := z0
  rw [Int.toNat_natCast] at q
  refine ⟨rfl, Eq.mpr SC ⟨by omega, ?_⟩⟩
  rw [show ((m : Int) + 1 - 1).toNat = m from congrArg Int.toNat (Int.add_sub_cancel _ _)]
  refine M3 (D := D) (m := m) (by omega) (fun a b s r e => ?_) (fun s r e => Eq.mpr Pg ?_) m 0 none none (Nat.zero_add m) rfl
  ·rw [e] at q; exact q
  ·rw [e] at q; exact q
 ·refine UG (fun a b c z0 => ?_) <| W5 hl; obtain rfl := z0; exact BindsTo.of_eq rfl
end
theorem D7 {α β : Type} {r : Except Aa α} {k : α -> Except Aa β} {E : Aa -> Prop} {K : β -> Prop} {Y : α -> Prop} (h : Bp (Fs r k) E K) (f : ∀ a, r = .ok a -> Bp (k a) E K -> Y a) : Bp r E Y := by
 cases r
 ·exact h
 ·exact f _ rfl h
theorem UI {α β : Type} {r : Except Aa α} {k : α -> Except Aa β} {b : β} {P : Prop} (h : Fs r k = .ok b) (f : ∀ a, r = .ok a -> k a = .ok b -> P) : P := by
 cases r
 ·exact nomatch h
 ·exact f _ rfl h
theorem Tn {α : Type} {outs qs : AC} {p : AN} {EX : Aa -> Prop} {a : Except Aa α} {K : α -> Prop} {Y : AN × AC -> Prop} (h : Bp (if p ∈ outs then .error .out else a) EX K) (f : Bp a EX K -> Y (p, qs)) : Bp (A7 outs (p :: qs)) EX Y := by
 show Bp (if p ∈ outs then .error .out else .ok (p, qs)) EX Y
 by_cases k : p ∈ outs
 ·rw [if_pos k] at h ⊢; exact h
 ·rw [if_neg k] at h ⊢; exact f h
theorem TG {α : Type} {par p : AN} {long : Bool} {EX : Aa -> Prop} {a : Except Aa α} {K : α -> Prop} {Y : Unit -> Prop} (h : Bp (if p = par /\ long = false then .error .run else a) EX K) (f : Bp a EX K -> Y ()) : Bp (DU p par long) EX Y := by
 unfold DU
 by_cases k : p = par /\ long = false
 ·rw [if_pos k] at h ⊢; exact h
 ·rw [if_neg k] at h ⊢; exact f h
theorem MY {α : Type} {c : Prop} [Decidable c] {a b : Except Aa α} {E : Aa -> Prop} {K : α -> Prop} {X Y : Prop} (h : Bp (if c then a else b) E K) (f : c -> Bp a E K -> X) (g : ¬ c -> Bp b E K -> Y) : br (decide c) X Y :=
 Bu (fun k => f k (by rw [if_pos k] at h; exact h)) fun k => g k (by rw [if_neg k] at h; exact h)
noncomputable def Oy (EX : Aa -> Prop) : Gm := ⟨EX, AM (st 31), [("token_wanted", Bf), ("check_par", CK)], [], .toks [], [], GQ⟩
noncomputable def Ec (f par : AN) (long : Bool) (outs ps l : AC) (d : Int) (tok : Option AV) : St := ⟨[("feed", some (.ref 0)), ("first", some (.tok f)), ("par", some (.tok par)), ("is_long", some (.bool long)), ("found", some (.ref 1)), ("depth", some (.int d)), ("token", tok)], [.feed ps outs, .lst (.toks l)]⟩
noncomputable def JK (EX : Aa -> Prop) := (V 27 (Oy EX)).t (G7 (Bl (AB (st 31)) 2))
noncomputable def PB (EX : Aa -> Prop) := (V 27 (Oy EX)).b (BG (Bl (AB (st 31)) 2))
section
variable {K : Frag} {B : Heap} {mg mb : Str -> Option Value} {ad : Str -> Addr} {tk : Str -> Tok} {prog : Program} {w : World} {EX : Aa -> Prop} {f par : AN} {long : Bool} {outs ps l D : AC}
theorem Vj {Q : AV -> List AO -> Prop} : ((V 30 (Oy EX)).b (AB (st 31)) ⟨Az ["feed", "first", "par", "is_long"] [.ref 0, .tok f, .tok par, .bool long] ["found", "depth", "token"], [.feed ps outs]⟩ fun fl st' => AU 1 (Am fl) st'.objs Q) =
  (1 <= 1000000 /\ ∃ N, wN (JK EX) (PB EX) (fun v st => AU 1 v st.objs Q) (fun z => (V 27 (Oy EX)).b ((AB (st 31)).drop 3) z fun fl st' => AU 1 (Am fl) st'.objs Q) N (Ec f par long outs ps [f] 1 none)) := by kernel_rfl
theorem H0 {d : Int} {tok : Option AV} {KT KF : St -> Prop} : JK EX (Ec f par long outs ps l d tok) KT KF = br (decide (0 < d)) (KT (Ec f par long outs ps l d tok)) (KF (Ec f par long outs ps l d tok)) := by kernel_rfl
theorem Le {d : Int} {tok : Option AV} {Q : Fl -> St -> Prop} : PB EX (Ec f par long outs ps l d tok) Q =
  Bp (A7 outs ps) EX fun r => Bp (DU r.1 par long) EX fun _ => br (decide (r.1.1 = 1)) ((l ++ [r.1]).length <= 1000000 /\ Q .next (Ec f par long outs r.2 (l ++ [r.1]) (d + 1) (some (.tok r.1))))
   (br (decide (r.1.1 = 2)) ((l ++ [r.1]).length <= 1000000 /\ Q .next (Ec f par long outs r.2 (l ++ [r.1]) (d - 1) (some (.tok r.1)))) ((l ++ [r.1]).length <= 1000000 /\ Q .next (Ec f par long outs r.2 (l ++ [r.1]) d (some (.tok r.1))))) := by kernel_rfl
theorem RD {d : Int} {tok : Option AV} {Q : AV -> List AO -> Prop} : ((V 27 (Oy EX)).b ((AB (st 31)).drop 3) (Ec f par long outs ps l d tok) fun fl st' => AU 1 (Am fl) st'.objs Q) = Q (.ref 1) [.feed ps outs, .lst (.toks l)] := by kernel_rfl
theorem SW {l : AC} : Ih outs par long ps 0 l = .ok (l, ps) := by cases ps <;> rfl
theorem L5 {KR : AV -> St -> Prop} {K : St -> Prop} {ps : AC} : ∀ {d : Nat} {l : AC} {tok : Option AV}, l.length + ps.length <= 1000000 -> Bp (Ih outs par long ps d l) EX (fun r => ∀ d' tok', K (Ec f par long outs r.2 r.1 d' tok')) -> wN (JK EX) (PB EX) KR K (ps.length + 1) (Ec f par long outs ps l d tok) := by
 have fin : ∀ {N : Nat} {ps l : AC} {tok : Option AV}, Bp (Ih outs par long ps 0 l) EX (fun r => ∀ d' tok', K (Ec f par long outs r.2 r.1 d' tok')) -> wN (JK EX) (PB EX) KR K (N + 1) (Ec f par long outs ps l 0 tok) := fun h => by
  rw [SW] at h
  show JK EX _ _ K
  rw [H0]
  exact NT (decide_eq_false (by decide)) (h _ _)
 induction ps with
 | nil =>
  intro d l tok _ h
  cases d with
  | zero => exact fin h
  | succ d =>
   show JK EX _ _ K
   rw [H0, Le]
   exact Dz (decide_eq_true (Int.natCast_pos.mpr (Nat.succ_pos d))) h
 | cons p qs ih =>
  intro d l tok hz h
  cases d with
  | zero => exact fin h
  | succ d =>
   have ha : (l ++ [p]).length + qs.length <= 1000000 := by rw [List.length_append, Nat.add_assoc, Nat.add_comm [p].length]; exact hz
   have hq := Nat.le_trans (Nat.le_add_right _ _) ha
   show JK EX _ _ K
   rw [H0, Le]
   refine Dz (decide_eq_true (Int.natCast_pos.mpr (Nat.succ_pos d))) (Tn h fun h => TG h fun h => ?_)
   have fin2 : ∀ {d' : Nat} {z : Int}, z = d' -> Bp (Ih outs par long qs d' (l ++ [p])) EX (fun r => ∀ d' tok', K (Ec f par long outs r.2 r.1 d' tok')) -> (l ++ [p]).length <= 1000000 /\ wN (JK EX) (PB EX) KR K (qs.length + 1) (Ec f par long outs qs (l ++ [p]) z (some (.tok p))) := fun e h => ⟨hq, by rw [e]; exact ih ha h⟩
   refine Bu (fun h1 => ?_) fun h1 => Bu (fun h2 => ?_) fun h2 => ?_
   ·exact fin2 (d' := d + 2) rfl (by rw [if_pos h1] at h; exact h)
   ·exact fin2 (d' := d) (Int.add_sub_cancel d 1) (by rw [if_neg h1, if_pos h2] at h; exact h)
   ·exact fin2 (d' := d + 1) rfl (by rw [if_neg h1, if_neg h2] at h; exact h)
theorem P9 (W : Wd K B mg mb ad tk) : Sp prog w B ad 4 (.ref (ad "group_tokens")) Id := by
 refine CI W (W.f_group_tokens).2.2 ["feed", "first", "par", "is_long"] ["found", "depth", "token"] (F := [("token_wanted", Bf), ("check_par", CK)]) (M := []) (nil := .toks []) (by decide) rfl
  (BX ⟨(W.f_token_wanted).1, (W.f_token_wanted).2.1, (DS W).mono (by decide)⟩ (BX ⟨(W.f_check_par).1, (W.f_check_par).2.1, (E5 W).mono (by decide)⟩ Bo)) Bo 30 (fun us os EX Kq t => ?_) (fun xs hl _ _ _ _ _ _ _ _ _ => ?_) (by decide +kernel) rfl rfl rfl (by decide +kernel)
 ·refine Ai t fun r t1 => ?_
  refine CS t1 fun p r t2 => ?_
  refine CS t2 fun par r t3 => ?_
  refine CH t3 fun long r t4 => ?_
  refine AI t4 fun t5 => ?_
  refine CG t5 fun ps outs r t6 => ?_
  refine AI t6 fun z0 => ?_
  revert z0; refine Ak fun hz t7 => ?_
  refine ⟨rfl, Eq.mpr Vj ⟨by decide, ps.length + 1, L5 (d := 1) (by show 1 + _ <= _; omega) (DZ t7 fun a _ h d' tok' => Eq.mpr RD h)⟩⟩
 ·refine ZR (fun a b c d z0 => ?_) <| ZZ hl; obtain rfl := z0; exact BindsTo.of_eq rfl
end
noncomputable def OO (EX : Aa -> Prop) : Gm := ⟨EX, AM (st 32), [("token_wanted", Bf), ("check_par", CK), ("slid", J7), ("group_tokens", Id)], [], .toks [], [], GQ⟩
noncomputable def ES (D : AC) (par : AN) (long : Bool) (outs ps l : AC) (k m : Int) (go : Bool) (tok giv : Option AV) : St := ⟨[("feed", some (.ref 0)), ("delimiter", some (.tup (.toks D))), ("par", some (.tok par)), ("is_long", some (.bool long)), ("found", some (.ref 1)), ("parts", some (.int k)), ("matched", some (.int m)), ("going", some (.bool go)), ("token", tok), ("given", giv)], [.feed ps outs, .lst (.toks l)]⟩
noncomputable def Mr (EX : Aa -> Prop) := (V 35 (OO EX)).t (G7 (Bl (AB (st 32)) 4))
noncomputable def Ws (EX : Aa -> Prop) := (V 35 (OO EX)).b (BG (Bl (AB (st 32)) 4))
def GW (EX : Aa -> Prop) (D : AC) (par : AN) (long : Bool) (outs : AC) (Q : Fl -> St -> Prop) (ps l : AC) (k a b : Int) (p : AN) : Prop :=
 Bp (DU p par long) EX fun _ => br (decide (p.1 = 2)) (EX .use) (br (decide (p.1 = 1)) (ps.length <= 100000 /\ Bp (Ih outs par long ps 1 [p]) EX fun r => (l ++ r.1).length <= 1000000 /\ Q .next ⟨(ES D par long outs r.2 (l ++ r.1) (k + a + 1) b (!decide (D = [])) (some (.tok p)) (some (.int a))).loc, [.feed r.2 outs, .lst (.toks (l ++ r.1)), .lst (.toks r.1)]⟩)
  ((l ++ [p]).length <= 1000000 /\ Q .next (ES D par long outs ps (l ++ [p]) (k + a + 1) b (!decide (D = [])) (some (.tok p)) (some (.int a)))))
def GR (EX : Aa -> Prop) (D : AC) (par : AN) (long : Bool) (outs : AC) (Q : Fl -> St -> Prop) (ps l : AC) (k m : Int) (go : Bool) (p : AN) (a b : Int) : Prop :=
 (0 <= m /\ m <= D.length /\ D.length <= 1000) /\ (l ++ AY none (some a) D).length <= 1000000 /\ br (decide (b = 0)) (br (decide (D = [])) (br (decide (p = (10, 32))) (Q .next (ES D par long outs ps (l ++ AY none (some a) D) (k + a) b go (some (.tok p)) (some (.int a)))) (GW EX D par long outs Q ps (l ++ AY none (some a) D) k a b p)) (GW EX D par long outs Q ps (l ++ AY none (some a) D) k a b p))
  (Q .next (ES D par long outs ps (l ++ AY none (some a) D) (k + a) b go (some (.tok p)) (some (.int a))))
section
variable {K : Frag} {B : Heap} {mg mb : Str -> Option Value} {ad : Str -> Addr} {tk : Str -> Tok} {prog : Program} {w : World} {EX : Aa -> Prop} {par : AN} {long : Bool} {outs ps l D : AC}
theorem Uc {Q : AV -> List AO -> Prop} : ((V 40 (OO EX)).b (AB (st 32)) ⟨Az ["feed", "delimiter", "par", "is_long"] [.ref 0, .tup (.toks D), .tok par, .bool long] ["found", "parts", "matched", "going", "token", "given"], [.feed ps outs]⟩ fun fl st' => AU 1 (Am fl) st'.objs Q) =
  ∃ N, wN (Mr EX) (Ws EX) (fun v st => AU 1 v st.objs Q) (fun z => (V 35 (OO EX)).b ((AB (st 32)).drop 5) z fun fl st' => AU 1 (Am fl) st'.objs Q) N (ES D par long outs ps [] 0 0 true none none) := by kernel_rfl
theorem H9 {k m : Int} {go : Bool} {tok giv : Option AV} {KT KF : St -> Prop} : Mr EX (ES D par long outs ps l k m go tok giv) KT KF = br go (KT (ES D par long outs ps l k m go tok giv)) (KF (ES D par long outs ps l k m go tok giv)) := by kernel_rfl
theorem Lv {k m : Int} {go : Bool} {tok giv : Option AV} {Q : Fl -> St -> Prop} : Ws EX (ES D par long outs ps l k m go tok giv) Q =
  Bp (A7 outs ps) EX fun r => br (decide (D = [])) (GR EX D par long outs Q r.2 l k m go r.1 (BH D m.toNat r.1).1 (BH D m.toNat r.1).2)
   ((-(D.length : Int) <= m /\ m < D.length) /\ ∀ q, D[AK m D.length]? = some q -> br (decide (r.1 = q)) (Q .next (ES D par long outs r.2 l k (m + 1) (decide (m + 1 < D.length)) (some (.tok r.1)) giv))
    (GR EX D par long outs Q r.2 l k m go r.1 (BH D m.toNat r.1).1 (BH D m.toNat r.1).2)) := by kernel_rfl
theorem Q4 {k m : Int} {go : Bool} {tok giv : Option AV} {Q : AV -> List AO -> Prop} : ((V 35 (OO EX)).b ((AB (st 32)).drop 5) (ES D par long outs ps l k m go tok giv) fun fl st' => AU 1 (Am fl) st'.objs Q) =
  br (decide (k = 1)) ((-(l.length : Int) <= -1 /\ (-1 : Int) < l.length) /\ ∀ p, l[AK (-1) l.length]? = some p -> br (decide (p.1 = 2)) (Q (.tup (.toks (AY (some 1) (some (-1)) l))) [.feed ps outs]) (Q (.tup (.toks l)) [.feed ps outs])) (Q (.tup (.toks l)) [.feed ps outs]) := by kernel_rfl
theorem QN {D : AC} {m : Nat} {p : AN} (k : Nat) : ∀ {i a b : Nat}, Eg D m p i k = (a, b) -> i + k = m -> (a = m /\ b = 0) \/ (a + b = m + 1 /\ 1 <= a /\ 1 <= b) := by
 induction k with
 | zero => exact fun h _ => by cases h; exact .inl ⟨rfl, rfl⟩
 | succ k ih =>
  intro i a b h e
  rw [Ew] at h
  refine BK h (fun _ h => ?_) fun _ h => ih h (by rw [Nat.add_assoc, Nat.add_comm 1]; exact e)
  cases h
  exact .inr ⟨by rw [<- Nat.add_assoc, Nat.add_sub_cancel' (Nat.le_trans (Nat.add_le_add_left (Nat.le_add_left 1 k) i) (Nat.le_of_eq e))], Nat.le_add_left 1 i, Nat.le_add_left 1 _⟩
theorem LC {D : AC} {m : Nat} {p : AN} : (BH D m p).1 <= m /\ (BH D m p).1 + (BH D m p).2 <= m + 1 /\ (BH D m p).2 <= m /\ ((BH D m p).2 = 0 -> (BH D m p).1 = m) := by
 have hs := QN (D := D) (p := p) (a := (BH D m p).1) (b := (BH D m p).2) m (i := 0) rfl (Nat.zero_add m)
 generalize (BH D m p).1 = a at *
 generalize (BH D m p).2 = b at *
 rcases hs with h | h
 ·refine Ak (fun h1 h2 => ?_) h
  rw [h1, h2]; exact ⟨Nat.le_refl _, Nat.le_succ _, Nat.zero_le _, fun _ => rfl⟩
 ·refine C9 (fun h1 h2 h3 => ?_) h
  exact ⟨by omega, Nat.le_of_eq h1, by omega, fun q => by rw [q] at h3; cases h3⟩
theorem Te {p : AN} {qs f : AC} {d : Nat} : Ih outs par long (p :: qs) (d + 1) f = if p ∈ outs then .error .out else if p = par /\ long = false then .error .run else Ih outs par long qs (if p.1 = 1 then d + 2 else if p.1 = 2 then d else d + 1) (f ++ [p]) := rfl
theorem Io {ps : AC} : ∀ {d : Nat} {l : AC} {r : AC × AC}, Ih outs par long ps d l = .ok r -> r.1.length + r.2.length = l.length + ps.length /\ l.length <= r.1.length := by
 induction ps with
 | nil =>
  intro d l r h
  cases d with
  | zero => cases h; exact ⟨rfl, Nat.le_refl _⟩
  | succ d => cases h
 | cons p qs ih =>
  intro d l r h
  cases d with
  | zero => cases h; exact ⟨rfl, Nat.le_refl _⟩
  | succ d =>
   refine BK (Te.symm.trans h) (fun _ h => nomatch h) fun _ h => BK h (fun _ h => nomatch h) fun _ h => ?_
   ·have := ih h
    rw [List.length_append, List.length_singleton, Nat.add_assoc, Nat.add_comm 1] at this
    exact ⟨this.1, Nat.le_of_succ_le this.2⟩
theorem J9 {n : Nat} {p : AN} {qs f : AC} {k m : Nat} : Dv outs D par long (n + 1) (p :: qs) f k m = if p ∈ outs then .error .out else if D ≠ [] /\ D[m]? = some p then (if m + 1 < D.length then Dv outs D par long n qs f k (m + 1) else .ok (f, k, qs)) else ND outs D par long p qs f k (BH D m p) (Dv outs D par long n) := rfl
def aN (EX : Aa -> Prop) (KR : AV -> St -> Prop) (K : St -> Prop) (n : Nat) (z : St) : Prop := wN (Mr EX) (Ws EX) KR K (n + 1) z
def aQ (EX : Aa -> Prop) (KR : AV -> St -> Prop) (K : St -> Prop) (n : Nat) (fl : Fl) (z : St) : Prop := match fl with
 | .next => aN EX KR K n (gc 2 z)
 | .ret v => KR v z
def aK (D : AC) (par : AN) (long : Bool) (outs : AC) (K : St -> Prop) (r : AC × Nat × AC) : Prop := ∀ m' tok giv, K (ES D par long outs r.2.2 r.1 r.2.1 m' false tok giv)
def aI (EX : Aa -> Prop) (KR : AV -> St -> Prop) (K : St -> Prop) (D : AC) (par : AN) (long : Bool) (outs : AC) (n : Nat) : Prop := ∀ (ps l : AC) (k m : Nat) (tok giv : Option AV), ps.length <= n -> (m = 0 \/ m < D.length) -> l.length + m + ps.length <= 100000 -> Bp (Dv outs D par long n ps l k m) EX (aK D par long outs K) -> aN EX KR K n (ES D par long outs ps l k m true tok giv)
section
variable {KR : AV -> St -> Prop} {K : St -> Prop} {n : Nat} {p : AN} {qs : AC}
theorem LU {ps l : AC} {k : Nat} {m : Int} {tok giv : Option AV} (q : aK D par long outs K (l, k, ps)) : aN EX KR K n (ES D par long outs ps l k m false tok giv) := by
 show Mr EX _ _ K
 rw [H9]; exact q _ _ _
theorem Ny {l : AC} {k : Nat} {giv : Option AV} (ih : aI EX KR K D par long outs n) (hn : qs.length <= n) (hz : l.length + (qs.length + 1) <= 100000) {a : Int} {k0 : Int} (hk : k0 + a = k) (h : Bp (TJ outs D par long p qs l k fun q f k => Dv outs D par long n q f k 0) EX (aK D par long outs K)) : GW EX D par long outs (aQ EX KR K n) qs l k0 a 0 p := by
 have turn : ∀ {g q : AC}, g.length + q.length = 1 + qs.length -> 1 <= g.length -> Bp (if D = [] then .ok (l ++ g, k + 1, q) else Dv outs D par long n q (l ++ g) (k + 1) 0) EX (aK D par long outs K) -> (l ++ g).length <= 1000000 /\ aN EX KR K n (ES D par long outs q (l ++ g) (k0 + a + 1) 0 (!decide (D = [])) (some (.tok p)) (some (.int a))) := fun {g q} h1 h2 h => by
  have h3 : (l ++ g).length + q.length <= 100000 := by rw [List.length_append, Nat.add_assoc, h1, Nat.add_comm 1]; exact hz
  have h4 : q.length <= qs.length := Nat.le_of_add_le_add_left (h1 ▸ Nat.add_le_add_right h2 q.length : 1 + q.length <= 1 + qs.length)
  refine ⟨Nat.le_trans (Nat.le_add_right _ _) (Nat.le_trans h3 (by decide)), ?_⟩
  rw [hk]
  by_cases hd : D = []
  ·rw [if_pos hd] at h
   rw [decide_eq_true hd]
   exact LU (k := k + 1) h
  ·rw [if_neg hd] at h
   rw [decide_eq_false hd]
   exact ih q _ (k + 1) 0 _ _ (Nat.le_trans h4 hn) (.inl rfl) h3 h
 refine TG h fun h => MY h (fun _ h => h) fun _ h => Bu (fun h1 => ?_) fun h1 => ?_
 ·rw [if_pos h1] at h
  refine ⟨by omega, ?_⟩
  cases hg : Ih outs par long qs 1 [p] with
  | error e => rw [hg] at h; exact h
  | ok r => rw [hg] at h; exact turn (Io hg).1 (Io hg).2 h
 ·rw [if_neg h1] at h
  exact turn rfl (Nat.le_refl _) h
theorem Jr {l : AC} {k m : Nat} {giv : Option AV} (hD : D.length <= 1000) (hmD : m <= D.length) (ih : aI EX KR K D par long outs n) (hn : qs.length <= n) (hm : m = 0 \/ m < D.length) (hz : l.length + m + (qs.length + 1) <= 100000) (h : Bp (ND outs D par long p qs l k (BH D m p) (Dv outs D par long n)) EX (aK D par long outs K)) :
  GR EX D par long outs (aQ EX KR K n) qs l k m true p (BH D (m : Int).toNat p).1 (BH D (m : Int).toNat p).2 := by
 have ha := LC (D := D) (m := m) (p := p)
 rw [Int.toNat_natCast]
 generalize BH D m p = s at *
 obtain ⟨a, b⟩ := s
 revert ha; refine I5 fun ha hab hb hb0 => ?_
 have hl : (l ++ D.take a).length = l.length + a := by rw [List.length_append, List.length_take, Nat.min_eq_left (Nat.le_trans ha hmD)]
 unfold GR
 rw [Hx _ _ (Nat.le_trans ha hmD)]
 refine ⟨⟨Int.natCast_nonneg _, Int.ofNat_le.mpr hmD, hD⟩, by show (l ++ D.take a).length <= _; rw [hl]; exact Nat.le_trans (Nat.le_trans (Nat.add_le_add_left ha _) (Nat.le_add_right _ _)) (Nat.le_trans hz (by decide)), ?_⟩
 have take : b = 0 -> D ≠ [] \/ p ≠ (10, 32) -> GW EX D par long outs (aQ EX KR K n) qs (l ++ D.take a) k a b p := fun e0 hne => by
  unfold ND at h
  rw [if_pos ⟨e0, hne⟩] at h
  rw [e0]
  exact Ny (giv := giv) ih hn (by rw [hl]; exact Nat.le_trans (Nat.add_le_add_right (Nat.add_le_add_left ha _) _) hz) (k := k + a) rfl h
 have skip : ¬ (b = 0 /\ (D ≠ [] \/ p ≠ (10, 32))) -> aN EX KR K n (ES D par long outs qs (l ++ D.take a) ((k : Int) + a) b true (some (.tok p)) (some (.int a))) := fun q => by
  unfold ND at h
  rw [if_neg q] at h
  exact ih qs _ (k + a) b _ _ hn (hm.elim (fun e => .inl (Nat.le_zero.mp (e ▸ hb))) fun e => .inr (Nat.lt_of_le_of_lt hb e)) (by rw [hl]; omega) h
 refine Bu (fun z0 => Bu (fun hd => Bu (fun hp => skip fun q => q.2.elim (fun z => z hd) fun z => z hp) fun hp => take (Int.ofNat_eq_zero.mp z0) (.inr hp)) fun hd => take (Int.ofNat_eq_zero.mp z0) (.inl hd)) fun z0 => skip fun q => z0 (Int.ofNat_eq_zero.mpr q.1)
theorem Mb (hD : D.length <= 1000) : ∀ n, aI EX KR K D par long outs n := by
 intro n
 induction n with
 | zero =>
  intro ps l k m tok giv hn hm hz h
  rw [List.length_eq_zero_iff.mp (Nat.le_zero.mp hn)] at h ⊢
  show Mr EX _ _ K
  rw [H9, Lv]; exact h
 | succ n ih =>
  intro ps l k m tok giv hn hm hz h
  show Mr EX _ _ K
  rw [H9, Lv]
  cases ps with
  | nil => exact h
  | cons p qs =>
  have hn := Nat.le_of_succ_le_succ hn
  refine Dz rfl (Tn (J9 ▸ h) fun h => Bu (fun hd => ?_) fun hd => ?_)
  ·rw [if_neg (fun q => q.1 hd)] at h
   exact Jr (giv := giv) hD (hm.elim (fun e => e ▸ Nat.zero_le _) Nat.le_of_lt) ih hn hm hz h
  ·have hmD : m < D.length := hm.elim (fun e => e ▸ List.length_pos_iff.mpr hd) id
   refine ⟨⟨Int.le_trans (Int.neg_nonpos_of_nonneg (Int.natCast_nonneg _)) (Int.natCast_nonneg _), Int.ofNat_lt.mpr hmD⟩, fun q hq => ?_⟩
   unfold AK at hq
   rw [if_neg (Int.not_lt.mpr (Int.natCast_nonneg _)), Int.toNat_natCast] at hq
   refine Bu (fun hp => ?_) fun hp => ?_
   ·rw [if_pos ⟨hd, by rw [hq]; exact congrArg some hp.symm⟩] at h
    by_cases hlt : m + 1 < D.length
    ·rw [if_pos hlt] at h
     rw [decide_eq_true (p := (m : Int) + 1 < D.length) (Int.ofNat_lt.mpr hlt)]
     exact ih qs l k (m + 1) _ _ hn (.inr hlt) (by rw [<- Nat.add_assoc, Nat.add_right_comm]; exact hz) h
    ·rw [if_neg hlt] at h
     rw [decide_eq_false (p := (m : Int) + 1 < D.length) (fun z => hlt (Int.ofNat_lt.mp z))]
     exact LU h
   ·rw [if_neg (fun z => hp (by rw [hq] at z; exact (Option.some.inj z.2).symm))] at h
    exact Jr (giv := giv) hD (Nat.le_of_lt hmD) ih hn hm hz h
end
theorem NP {n : Nat} : ∀ {ps l : AC} {k m : Nat} {r : AC × Nat × AC}, m <= D.length -> k <= l.length -> Dv outs D par long n ps l k m = .ok r -> r.2.1 <= r.1.length /\ r.2.2.length <= ps.length := by
 induction n with
 | zero => exact fun _ _ h => nomatch h
 | succ n ih =>
  intro ps l k m r hm hk h
  cases ps with
  | nil => cases h
  | cons p qs =>
  have up : ∀ {ps f : AC} {k m : Nat}, m <= D.length -> k <= f.length -> ps.length <= qs.length -> Dv outs D par long n ps f k m = .ok r -> r.2.1 <= r.1.length /\ r.2.2.length <= (p :: qs).length := fun h1 h2 h3 h => Ak (fun a b => ⟨a, Nat.le_succ_of_le (Nat.le_trans b h3)⟩) (ih h1 h2 h)
  refine BK (J9.symm.trans h) (fun _ h => nomatch h) fun _ h => BK h (fun hh h => BK h (fun h2 h => up (Nat.le_of_lt h2) hk (Nat.le_refl _) h) fun _ h => ?_) fun _ h => ?_
  ·cases h; exact ⟨hk, Nat.le_succ _⟩
  have ha := LC (D := D) (m := m) (p := p)
  have hl : (l ++ D.take (BH D m p).1).length = l.length + (BH D m p).1 := by rw [List.length_append, List.length_take, Nat.min_eq_left (Nat.le_trans ha.1 hm)]
  have hk2 : k + (BH D m p).1 <= (l ++ D.take (BH D m p).1).length := by rw [hl]; exact Nat.add_le_add_right hk _
  refine BK h (fun _ h => BK h (fun _ h => nomatch h) fun _ h => BK h (fun _ h => nomatch h) fun _ h => ?_) fun _ h => up (Nat.le_trans ha.2.2.1 hm) hk2 (Nat.le_refl _) h
  have tk : ∀ {g : AC × AC}, 1 <= g.1.length -> g.2.length <= qs.length -> (if D = [] then .ok (l ++ D.take (BH D m p).1 ++ g.1, k + (BH D m p).1 + 1, g.2) else Dv outs D par long n g.2 (l ++ D.take (BH D m p).1 ++ g.1) (k + (BH D m p).1 + 1) 0) = .ok r -> r.2.1 <= r.1.length /\ r.2.2.length <= (p :: qs).length := fun {g} h1 h2 h => by
   have h3 : k + (BH D m p).1 + 1 <= (l ++ D.take (BH D m p).1 ++ g.1).length := by rw [List.length_append]; exact Nat.add_le_add hk2 h1
   refine BK h (fun _ h => ?_) fun _ h => up (Nat.zero_le _) h3 h2 h
   cases h; exact ⟨h3, Nat.le_succ_of_le h2⟩
  by_cases h1 : p.1 = 1
  ·rw [if_pos h1] at h
   cases hg : Ih outs par long qs 1 [p] with
   | error e => rw [hg] at h; exact nomatch h
   | ok g =>
    rw [hg] at h
    have q := Io hg
    exact tk q.2 (Nat.le_of_add_le_add_left (q.1 ▸ Nat.add_le_add_right q.2 g.2.length : 1 + g.2.length <= 1 + qs.length)) h
  ·rw [if_neg h1] at h
   exact tk (g := ([p], qs)) (Nat.le_refl _) (Nat.le_refl _) h
theorem NI {l : AC} {k : Nat} {Q : AC -> Prop} (hk : k <= l.length) (q : Q (Hd l k)) : br (decide ((k : Int) = 1)) ((-(l.length : Int) <= -1 /\ (-1 : Int) < l.length) /\ ∀ p, l[AK (-1) l.length]? = some p -> br (decide (p.1 = 2)) (Q (AY (some 1) (some (-1)) l)) (Q l)) (Q l) := by
 unfold Hd at q
 refine Bu (fun h1 => ?_) fun h1 => ?_
 ·have h1' : k = 1 := by omega
  have hl : 0 < l.length := by omega
  have hne : l ≠ [] := List.length_pos_iff.mp hl
  refine ⟨⟨by omega, by omega⟩, fun p hp => ?_⟩
  unfold AK at hp
  rw [if_pos (by decide), Xv, <- List.getLast?_eq_getElem?] at hp
  rw [hp] at q
  refine Bu (fun h2 => ?_) fun h2 => ?_
  ·rw [if_pos ⟨h1', by rw [Option.map_some, h2]⟩] at q
   rw [Lh]; exact q
  ·rw [if_neg fun z => h2 (Option.some.inj z.2)] at q; exact q
 ·rw [if_neg fun z => h1 (by omega)] at q; exact q
theorem JO (W : Wd K B mg mb ad tk) : Sp prog w B ad 5 (.ref (ad "argument")) Ea := by
 refine CI W (W.f_argument).2.2 ["feed", "delimiter", "par", "is_long"] ["found", "parts", "matched", "going", "token", "given"] (F := [("token_wanted", Bf), ("check_par", CK), ("slid", J7), ("group_tokens", Id)]) (M := []) (nil := .toks []) (by decide) rfl
  (BX ⟨(W.f_token_wanted).1, (W.f_token_wanted).2.1, (DS W).mono (by decide)⟩ (BX ⟨(W.f_check_par).1, (W.f_check_par).2.1, (E5 W).mono (by decide)⟩
   (BX ⟨(W.f_slid).1, (W.f_slid).2.1, (Sr W).mono (by decide)⟩ (BX ⟨(W.f_group_tokens).1, (W.f_group_tokens).2.1, P9 W⟩ Bo)))) Bo 40 (fun us os EX Kq t => ?_) (fun xs hl _ _ _ _ _ _ _ _ _ => ?_) (by decide +kernel) rfl rfl rfl (by decide +kernel)
 ·refine Ai t fun r t1 => ?_
  refine Cl t1 fun D r t2 => ?_
  refine CS t2 fun par r t3 => ?_
  refine CH t3 fun long r t4 => ?_
  refine AI t4 fun t5 => ?_
  refine CG t5 fun ps outs r t6 => ?_
  refine AI t6 fun z0 => ?_
  revert z0; refine Ak fun hz t7 => ?_
  refine ⟨rfl, Eq.mpr Uc ⟨ps.length + 1, Mb hz.2 ps.length ps [] 0 0 none none (Nat.le_refl _) (.inl rfl) (by show 0 + 0 + _ <= _; omega) ?_⟩⟩
  exact D7 t7 fun r ha h m' tok giv => Eq.mpr Q4 (NI (NP (Nat.zero_le _) (Nat.le_refl _) ha).1 (Q := fun l => Kq (.tup (.toks l)) [.feed r.2.2 outs]) h)
 ·refine ZR (fun a b c d z0 => ?_) <| ZZ hl; obtain rfl := z0; exact BindsTo.of_eq rfl
end
theorem EL {α : Type} {l : List α} {p : α} (h : l[AK (-1) l.length]? = some p) : l.getLast? = some p := by
 have hl : l ≠ [] := fun q => by subst q; cases h
 have := List.length_pos_iff.mpr hl
 unfold AK at h
 rw [if_pos (by decide), Xv, <- List.getLast?_eq_getElem?] at h
 exact h
theorem KH {α : Type} {l : List α} (h : l ≠ []) : -(l.length : Int) <= -1 /\ (-1 : Int) < l.length := by
 have := List.length_pos_iff.mpr h
 omega
theorem bH {b : Bool} {x y : Prop} (h : b = true -> x) (k : b = false -> y) : br b x y := by
 cases b
 ·exact k rfl
 ·exact h rfl
section
variable {K : Frag} {B : Heap} {mg mb : Str -> Option Value} {ad : Str -> Addr} {tk : Str -> Tok} {prog : Program} {w : World} {EX : Aa -> Prop} {par : AN} {long : Bool} {outs ps l D : AC} {m m' : BU}
theorem PR {Q : AV -> List AO -> Prop} : ((V 40 ⟨EX, AM (Bh 23 1), [], [], .toks [], [], GQ⟩).b (AB (Bh 23 1)) ⟨Az ["self"] [.ref 0] [], [.mac m]⟩ fun fl st' => AU 1 (Am fl) st'.objs Q) =
  br (!decide (m.par = [])) ((-(m.par.length : Int) <= -1 /\ (-1 : Int) < m.par.length) /\ ∀ p, m.par[AK (-1) m.par.length]? = some p -> Q (.bool (decide (p.1 = 1))) [.mac m]) (Q (.bool false) [.mac m]) := by kernel_rfl
theorem IG (W : Wd K B mg mb ad tk) : Sp prog w B ad 3 (.ref (ad "Macro.has_brace")) Bw := by
 refine CI W (W.m_has_brace).2.2.2 ["self"] [] (F := []) (M := []) (nil := .toks []) (by decide) rfl Bo Bo 40 (fun us os EX Kq t => ?_) (fun xs hl _ _ _ _ _ _ _ _ _ => ?_) (by decide +kernel) rfl rfl rfl (by decide +kernel)
 ·refine Ai t fun r t1 => ?_
  refine AI t1 fun t2 => ?_
  refine Dg t2 fun m r t3 => ?_
  refine AI t3 fun t4 => ?_
  refine ⟨rfl, Eq.mpr PR ?_⟩
  unfold Bj at t4
  by_cases h : m.par = []
  ·rw [h] at t4
   rw [h]; exact t4
  ·rw [show (!decide (m.par = [])) = true by rw [decide_eq_false h]; rfl]
   refine Dz rfl ⟨KH h, fun p hp => ?_⟩
   rw [EL hp, decide_eq_true h] at t4; exact t4
 ·refine Ap (fun a z0 => ?_) <| PA hl; obtain rfl := z0; exact BindsTo.of_eq rfl
theorem QL {Q : AV -> List AO -> Prop} : ((V 40 ⟨EX, AM (Bh 23 2), [], [], .toks [], [], GQ⟩).b (AB (Bh 23 2)) ⟨Az ["self", "other"] [.ref 0, .ref 1] [], [.mac m, .mac m']⟩ fun fl st' => AU 2 (Am fl) st'.objs Q) =
  br (decide (m.long = m'.long)) (br (decide (m.outer = m'.outer)) (br (decide (m.par = m'.par)) (Q (.bool (decide (m.body = m'.body))) [.mac m, .mac m']) (Q (.bool false) [.mac m, .mac m'])) (Q (.bool false) [.mac m, .mac m'])) (Q (.bool false) [.mac m, .mac m']) := by kernel_rfl
theorem Su (W : Wd K B mg mb ad tk) : Sp prog w B ad 3 (.ref (ad "Macro.same")) H3 := by
 refine CI W (W.m_same).2.2.2 ["self", "other"] [] (F := []) (M := []) (nil := .toks []) (by decide) rfl Bo Bo 40 (fun us os EX Kq t => ?_) (fun xs hl _ _ _ _ _ _ _ _ _ => ?_) (by decide +kernel) rfl rfl rfl (by decide +kernel)
 ·refine Ai t fun r t1 => ?_
  refine Ai t1 fun r t2 => ?_
  refine AI t2 fun t3 => ?_
  refine Dg t3 fun m r t4 => ?_
  refine Dg t4 fun m' r t5 => ?_
  refine AI t5 fun t6 => ?_
  refine ⟨rfl, Eq.mpr QL ?_⟩
  have no : ∀ {p : Prop} [Decidable p], ¬ p -> Kq (.bool (decide p)) [.mac m, .mac m'] -> Kq (.bool false) [.mac m, .mac m'] := fun h k => by rw [decide_eq_false h] at k; exact k
  refine Bu (fun h1 => Bu (fun h2 => Bu (fun h3 => ?_) fun h3 => no (fun q => h3 q.2.2.1) t6) fun h2 => no (fun q => h2 q.2.1) t6) fun h1 => no (fun q => h1 q.1) t6
  rw [show decide (m.long = m'.long /\ m.outer = m'.outer /\ m.par = m'.par /\ m.body = m'.body) = decide (m.body = m'.body) from by
   by_cases h4 : m.body = m'.body
   ·rw [decide_eq_true h4, decide_eq_true ⟨h1, h2, h3, h4⟩]
   ·rw [decide_eq_false h4, decide_eq_false fun q => h4 q.2.2.2]] at t6
  exact t6
 ·refine HM (fun a b z0 => ?_) <| ex2 hl; obtain rfl := z0; exact BindsTo.of_eq rfl
theorem Fk (W : Wd K B mg mb ad tk) {n : Nat} (hn : 3 <= n) : MG prog w K B ad n ("has_brace", Bw) := fun q e => by
 have e0 : Co "has_brace" = some (false, ("Macro.has_brace" : Str)) := by kernel_rfl
 have e1 : Co "has_brace" = some q := e
 rw [e0] at e1; cases e1
 exact ⟨W.m_has_brace.2.2.1, (IG W).mono hn⟩
theorem Us (W : Wd K B mg mb ad tk) {n : Nat} (hn : 3 <= n) : MG prog w K B ad n ("same", H3) := fun q e => by
 have e0 : Co "same" = some (false, ("Macro.same" : Str)) := by kernel_rfl
 have e1 : Co "same" = some q := e
 rw [e0] at e1; cases e1
 exact ⟨W.m_same.2.2.1, (Su W).mono hn⟩
noncomputable def Kg (EX : Aa -> Prop) : Gm := ⟨EX, AM (st 33), [("token_wanted", Bf), ("argument", Ea)], [("has_brace", Bw), ("back", H5)], .tts [], [], GQ⟩
noncomputable def Kt (m : BU) (par : AN) (outs ps : AC) (e f d : Option AV) : St := ⟨[("macro", some (.ref 0)), ("feed", some (.ref 1)), ("par", some (.tok par)), ("expected", e), ("found", f), ("delimiter", d)], [.mac m, .feed ps outs]⟩
noncomputable def Gh (m : BU) (par : AN) (outs ps : AC) (f : List AC) (e d : Option AV) : St := ⟨[("macro", some (.ref 0)), ("feed", some (.ref 1)), ("par", some (.tok par)), ("expected", e), ("found", some (.ref 2)), ("delimiter", d)], [.mac m, .feed ps outs, .lst (.tts f)]⟩
noncomputable def Uk (EX : Aa -> Prop) := (V 39 (Kg EX)).b (BG (Bl (AB (st 33)) 0))
noncomputable def Oo (EX : Aa -> Prop) := (V 37 (Kg EX)).b (BG (Bl (AB (st 33)) 2))
theorem Ur {Q : AV -> List AO -> Prop} : ((V 40 (Kg EX)).b (AB (st 33)) ⟨Az ["macro", "feed", "par"] [.ref 0, .ref 1, .tok par] ["expected", "found", "delimiter"], [.mac m, .feed ps outs]⟩ fun fl st' => AU 2 (Am fl) st'.objs Q) =
  ((-(m.dl.length : Int) <= 0 /\ (0 : Int) < m.dl.length) /\ ∀ r, m.dl[AK 0 m.dl.length]? = some r -> FW (Uk EX) "expected" none (fun v st => AU 2 v st.objs Q) (fun z => (V 39 (Kg EX)).b ((AB (st 33)).drop 1) z fun fl st' => AU 2 (Am fl) st'.objs Q) (r.map .tok) (Kt m par outs ps none none none)) := by kernel_rfl
theorem RK {e : AN} {f d : Option AV} {Q : Fl -> St -> Prop} : Uk EX (Kt m par outs ps (some (.tok e)) f d) Q = Bp (A7 outs ps) EX fun r => br (decide (r.1 = e)) (Q .next (Kt m par outs r.2 (some (.tok e)) f d)) (EX .use) := by kernel_rfl
theorem Rl {e f d : Option AV} {Q : AV -> List AO -> Prop} : ((V 39 (Kg EX)).b ((AB (st 33)).drop 1) (Kt m par outs ps e f d) fun fl st' => AU 2 (Am fl) st'.objs Q) =
  FW (Oo EX) "delimiter" none (fun v st => AU 2 v st.objs Q) (fun z => (V 37 (Kg EX)).b ((AB (st 33)).drop 3) z fun fl st' => AU 2 (Am fl) st'.objs Q) ((AY (some 1) none m.dl).map fun r => .tup (.toks r)) (Gh m par outs ps [] e d) := by kernel_rfl
theorem OP {f : List AC} {e : Option AV} {Q : Fl -> St -> Prop} : Oo EX (Gh m par outs ps f e (some (.tup (.toks D)))) Q =
  ((ps.length <= 100000 /\ D.length <= 1000) /\ Bp (JV outs D par m.long ps) EX fun r => (f ++ [r.1]).length <= 1000000 /\ Q .next (Gh m par outs r.2 (f ++ [r.1]) e (some (.tup (.toks D))))) := by kernel_rfl
theorem Pr {f : List AC} {e d : Option AV} {Q : AV -> List AO -> Prop} : ((V 37 (Kg EX)).b ((AB (st 33)).drop 3) (Gh m par outs ps f e d) fun fl st' => AU 2 (Am fl) st'.objs Q) =
  br (Bj m.par) ((-(m.par.length : Int) <= -1 /\ (-1 : Int) < m.par.length) /\ ∀ p, m.par[AK (-1) m.par.length]? = some p -> A8 p = true /\ ps.length <= 50000 /\ Q (.ref 2) [.mac m, .feed (p :: ps) outs, .lst (.tts f)]) (Q (.ref 2) [.mac m, .feed ps outs, .lst (.tts f)]) := by kernel_rfl
theorem Se {KR : AV -> St -> Prop} {K : St -> Prop} (es : AC) : ∀ {ps : AC} {e : Option AV}, Bp (Dr outs es ps) EX (fun q => ∀ e, K (Kt m par outs q e none none)) -> FW (Uk EX) "expected" none KR K (es.map .tok) (Kt m par outs ps e none none) := by
 induction es with
 | nil => exact fun h => h _
 | cons x es ih =>
  intro ps e h
  refine Br (Kt m par outs ps (some (.tok x)) none none) (by kernel_rfl) rfl ?_
  rw [RK]
  exact D7 h fun r _ h => MY h (fun _ h => ih h) fun _ h => h
theorem Bv {outs ps : AC} {r : AN × AC} (h : A7 outs ps = .ok r) : r.2.length + 1 = ps.length := by
 cases ps with
 | nil => cases h
 | cons a q =>
  replace h : (if a ∈ outs then (Except.error Aa.out : Except Aa (AN × AC)) else .ok (a, q)) = .ok r := h
  exact BK h (fun _ h => nomatch h) fun _ h => Except.ok.inj h ▸ rfl
theorem Mn {outs es : AC} : ∀ {ps q : AC}, Dr outs es ps = .ok q -> q.length <= ps.length := by
 induction es with
 | nil => exact fun h => Except.ok.inj h ▸ Nat.le_refl _
 | cons e es ih => exact fun h => UI h fun r hr h => BK h (fun _ h => Nat.le_trans (ih h) (Bv hr ▸ Nat.le_succ _)) fun _ h => nomatch h
theorem Nt {outs D : AC} {par : AN} {long : Bool} {ps : AC} {r : AC × AC} (h : JV outs D par long ps = .ok r) : r.2.length <= ps.length := UI h fun a ha h => by
 rw [<- Except.ok.inj h]; exact (NP (Nat.zero_le _) (Nat.le_refl _) ha).2
theorem N3 {KR : AV -> St -> Prop} {K : St -> Prop} : ∀ (Ds : List AC) (ps : AC) (f : List AC) (e d : Option AV), ps.length <= 40000 -> f.length + Ds.length <= 1000 -> (∀ r ∈ Ds, r.length <= 1000) -> Bp (Du outs par m.long Ds ps f) EX (fun r => ∀ e d, r.2.length <= ps.length -> K (Gh m par outs r.2 r.1 e d)) ->
  FW (Oo EX) "delimiter" none KR K (Ds.map fun r => .tup (.toks r)) (Gh m par outs ps f e d) := by
 intro Ds
 induction Ds with
 | nil => exact fun ps f e d _ _ _ h => h e d (Nat.le_refl _)
 | cons D Ds ih =>
  intro ps f e d hz hf hD h
  refine Br (Gh m par outs ps f e (some (.tup (.toks D)))) (by kernel_rfl) rfl ?_
  rw [OP]
  have hl : ∀ g : AC, (f ++ [g]).length = f.length + 1 := fun _ => List.length_append
  refine ⟨⟨Nat.le_trans hz (by decide), hD D (.head _)⟩, D7 h fun r ha h => ?_⟩
  have hq := Nt ha
  have hf' : f.length + 1 + Ds.length <= 1000 := by rw [Nat.add_assoc, Nat.add_comm 1]; exact hf
  exact ⟨by rw [hl]; exact Nat.le_trans (Nat.le_add_right _ _) (Nat.le_trans hf' (by decide)), ih r.2 _ _ _ (Nat.le_trans hq hz) (by rw [hl]; exact hf') (fun r m => hD r (.tail _ m)) (DZ h fun a _ k e d hd => k e d (Nat.le_trans hd hq))⟩
theorem FN (W : Wd K B mg mb ad tk) : Sp prog w B ad 6 (.ref (ad "arguments")) DB := by
 refine CI W (W.f_arguments).2.2 ["macro", "feed", "par"] ["expected", "found", "delimiter"] (F := [("token_wanted", Bf), ("argument", Ea)]) (M := [("has_brace", Bw), ("back", H5)]) (nil := .tts []) (by decide) rfl
  (BX ⟨(W.f_token_wanted).1, (W.f_token_wanted).2.1, (DS W).mono (by decide)⟩ (BX ⟨(W.f_argument).1, (W.f_argument).2.1, JO W⟩ Bo)) (BX (Fk W (by decide)) (BX (Vz W (by decide)) Bo)) 40 (fun us os EX Kq t => ?_) (fun xs hl _ _ _ _ _ _ _ _ _ => ?_) (by decide +kernel) rfl rfl rfl (by decide +kernel)
 ·refine Ai t fun r t1 => ?_
  refine Ai t1 fun r t2 => ?_
  refine CS t2 fun par r t3 => ?_
  refine AI t3 fun t4 => ?_
  refine Dg t4 fun m r t5 => ?_
  refine CG t5 fun ps outs r t6 => ?_
  refine AI t6 fun z0 => ?_
  revert z0; refine Ak fun z1 t7 => ?_; revert z1; refine Ak fun z2 hz => ?_; revert z2; refine I5 fun hm1 z3 hm3 hm4 => ?_; revert z3; refine Ak fun hm2 hne => ?_
  have hpos := List.length_pos_iff.mpr hne
  refine ⟨rfl, Eq.mpr Ur ⟨⟨by omega, by omega⟩, fun r hr => Se r ?_⟩⟩
  unfold AK at hr
  rw [if_neg (by decide)] at hr
  have e1 : m.dl.headD [] = r := by
   cases hd : m.dl with
   | nil => exact absurd hd hne
   | cons a l => rw [hd] at hr; exact Option.some.inj hr
  unfold Ao at t7
  rw [e1] at t7
  refine D7 t7 fun q hh t7 e => Eq.mpr Rl ?_
  have hq := Mn hh
  rw [IR]
  refine N3 _ q [] _ none (Nat.le_trans hq hz) (by rw [List.length_drop]; show 0 + _ <= _; omega) (fun r h => hm3 r (List.mem_of_mem_drop h)) ?_
  refine D7 t7 fun r ha t7 e d hl => Eq.mpr Pr (bH (fun hb => ?_) fun hb => ?_)
  ·rw [hb] at t7
   have hp : m.par ≠ [] := fun q => by unfold Bj at hb; rw [q] at hb; cases hb
   refine ⟨KH hp, fun p e => ?_⟩
   have e2 := EL e
   rw [e2] at t7
   exact ⟨hm4 p (List.mem_of_getLast? e2), Nat.le_trans hl (Nat.le_trans hq (Nat.le_trans hz (by decide))), t7⟩
  ·rw [hb] at t7; exact t7
 ·refine UG (fun a b c z0 => ?_) <| W5 hl; obtain rfl := z0; exact BindsTo.of_eq rfl
end
theorem Bt {k : Int} {n : Nat} (h : 0 <= k) : AK k n = k.toNat := by unfold AK; rw [if_neg (by omega)]
theorem DA {α β : Type} {f : α -> List β} {b : Nat} : ∀ {l : List α}, (∀ a ∈ l, (f a).length <= b) -> (l.flatMap f).length <= l.length * b
 | [], _ => by simp
 | a :: l, h => by
  rw [List.flatMap_cons, List.length_append, List.length_cons, Nat.succ_mul]
  have h1 := h a (.head _)
  have h2 := DA (l := l) (f := f) (b := b) fun a m => h a (.tail _ m)
  omega
section
variable {K : Frag} {B : Heap} {mg mb : Str -> Option Value} {ad : Str -> Addr} {tk : Str -> Tok} {prog : Program} {w : World} {EX : Aa -> Prop} {par : AN} {long : Bool} {outs ps l D f : AC} {m m' : BU} {g : List AC}
noncomputable def Rm (EX : Aa -> Prop) : Gm := ⟨EX, AM (st 34), [], [], .toks [], [], GQ⟩
noncomputable def Iy (m : BU) (g : List AC) (f : AC) (t : Option AV) : St := ⟨[("macro", some (.ref 0)), ("given", some (.ref 1)), ("found", some (.ref 2)), ("token", t)], [.mac m, .lst (.tts g), .lst (.toks f)]⟩
noncomputable def QY (EX : Aa -> Prop) := (V 38 (Rm EX)).b (BG (Bl (AB (st 34)) 1))
theorem UX {Q : AV -> List AO -> Prop} : ((V 40 (Rm EX)).b (AB (st 34)) ⟨Az ["macro", "given"] [.ref 0, .ref 1] ["found", "token"], [.mac m, .lst (.tts g)]⟩ fun fl st' => AU 2 (Am fl) st'.objs Q) =
  FW (QY EX) "token" none (fun v st => AU 2 v st.objs Q) (fun z => (V 38 (Rm EX)).b ((AB (st 34)).drop 2) z fun fl st' => AU 2 (Am fl) st'.objs Q) (m.body.map .tok) (Iy m g [] none) := by kernel_rfl
theorem QK {p : AN} {Q : Fl -> St -> Prop} : QY EX (Iy m g f (some (.tok p))) Q =
  br (decide (p.1 = 5)) (br (decide ((g.length : Int) < p.2)) (EX .bad) ((-(g.length : Int) <= p.2 - 1 /\ p.2 - 1 < g.length) /\ ∀ r, g[AK (p.2 - 1) g.length]? = some r -> (f ++ r).length <= 1000000 /\ Q .next (Iy m g (f ++ r) (some (.tok p)))))
   ((f ++ [p]).length <= 1000000 /\ Q .next (Iy m g (f ++ [p]) (some (.tok p)))) := by kernel_rfl
theorem Qu {t : Option AV} {Q : AV -> List AO -> Prop} : ((V 38 (Rm EX)).b ((AB (st 34)).drop 2) (Iy m g f t) fun fl st' => AU 2 (Am fl) st'.objs Q) = Q (.ref 2) [.mac m, .lst (.tts g), .lst (.toks f)] := by kernel_rfl
def NF (g : List AC) (Bd : AC) : Prop := (∀ p ∈ Bd, p.1 = 5 -> 1 <= p.2 /\ p.2 <= g.length) /\ ∀ r ∈ g, r.length <= 1000
theorem Rc {KR : AV -> St -> Prop} {K : St -> Prop} : ∀ (Bd f : AC) (t : Option AV), NF g Bd -> f.length + Bd.length * 1000 <= 1000000 -> (∀ t, K (Iy m g (f ++ DD g Bd) t)) -> FW (QY EX) "token" none KR K (Bd.map .tok) (Iy m g f t) := by
 intro Bd
 induction Bd with
 | nil => exact fun f t _ _ h => by have := h t; rwa [show f ++ DD g [] = f from List.append_nil f] at this
 | cons p Bd ih =>
  intro f t ok hz h
  rw [List.length_cons] at hz
  have ok' : NF g Bd := ⟨fun p m => ok.1 p (.tail _ m), ok.2⟩
  have next : ∀ r : AC, r.length <= 1000 -> (if p.1 = 5 then g.getD (p.2 - 1).toNat [] else [p]) = r -> (f ++ r).length <= 1000000 /\ FW (QY EX) "token" none KR K (Bd.map .tok) (Iy m g (f ++ r) (some (.tok p))) := fun r hr e => by
   have hl : (f ++ r).length = f.length + r.length := List.length_append
   refine ⟨by omega, ih (f ++ r) _ ok' (by omega) fun t => ?_⟩
   have := h t
   unfold DD at this ⊢
   rw [List.flatMap_cons, e, <- List.append_assoc] at this; exact this
  refine Br (Iy m g f (some (.tok p))) (by kernel_rfl) rfl ?_
  rw [QK]
  refine Bu (fun h1 => Bu (fun h2 => ?_) fun h2 => ⟨?_, fun r hr => ?_⟩) fun h1 => next [p] (by show 1 <= 1000; decide) (if_neg h1)
  ·have := ok.1 p (.head _) h1; omega
  ·have := ok.1 p (.head _) h1; omega
  ·have := ok.1 p (.head _) h1
   rw [Bt (by omega)] at hr
   exact next r (ok.2 r (List.mem_of_getElem? hr)) (by rw [if_pos h1, List.getD_eq_getElem?_getD, hr]; rfl)
theorem Hm (W : Wd K B mg mb ad tk) : Sp prog w B ad 3 (.ref (ad "filled")) D4 := by
 refine CI W (W.f_filled).2.2 ["macro", "given"] ["found", "token"] (F := []) (M := []) (nil := .toks []) (by decide) rfl Bo Bo 40 (fun us os EX Kq t => ?_) (fun xs hl _ _ _ _ _ _ _ _ _ => ?_) (by decide +kernel) rfl rfl rfl (by decide +kernel)
 ·refine Ai t fun r t1 => ?_
  refine Ai t1 fun r t2 => ?_
  refine AI t2 fun t3 => ?_
  refine Dg t3 fun m r t4 => ?_
  refine B9 t4 fun P r t5 => ?_
  refine AI t5 fun t6 => ?_
  refine Gy t6 fun g z0 => ?_
  revert z0; refine Ak fun z1 t7 => ?_; revert z1; refine C9 fun h1 h2 h3 => ?_
  exact ⟨rfl, Eq.mpr UX (Rc m.body [] none ⟨h1, h2.2⟩ (by show 0 + _ <= _; omega) fun t => Eq.mpr Qu t7)⟩
 ·refine HM (fun a b z0 => ?_) <| ex2 hl; obtain rfl := z0; exact BindsTo.of_eq rfl
noncomputable def Pj (EX : Aa -> Prop) : Gm := ⟨EX, AM (st 25), [("token_wanted", Bf)], [], .toks [], [], GQ⟩
noncomputable def Eb (outs q f : AC) (c : Int) (p : AN) : St := ⟨[("feed", some (.ref 0)), ("found", some (.ref 1)), ("count", some (.int c)), ("token", some (.tok p))], [.feed q outs, .lst (.toks f)]⟩
noncomputable def JH (EX : Aa -> Prop) := (V 36 (Pj EX)).t (G7 (Bl (AB (st 25)) 3))
noncomputable def JM (EX : Aa -> Prop) := (V 36 (Pj EX)).b (BG (Bl (AB (st 25)) 3))
theorem Vs {Q : AV -> List AO -> Prop} : ((V 40 (Pj EX)).b (AB (st 25)) ⟨Az ["feed"] [.ref 0] ["found", "count", "token"], [.feed ps outs]⟩ fun fl st' => AU 1 (Am fl) st'.objs Q) =
  Bp (A7 outs ps) EX fun r => ∃ N, wN (JH EX) (JM EX) (fun v st => AU 1 v st.objs Q) (fun z => (V 36 (Pj EX)).b ((AB (st 25)).drop 4) z fun fl st' => AU 1 (Am fl) st'.objs Q) N (Eb outs r.2 [] 0 r.1) := by kernel_rfl
theorem R9 {p : AN} {c : Int} {KT KF : St -> Prop} : JH EX (Eb outs ps f c p) KT KF = br (decide (p.1 = 1)) (KF (Eb outs ps f c p)) (KT (Eb outs ps f c p)) := by kernel_rfl
theorem Qe {p : AN} {c : Int} {Q : Fl -> St -> Prop} : JM EX (Eb outs ps f c p) Q =
  br (decide (p.1 = 6)) (Bp (A7 outs ps) EX fun r => br (decide (r.1.1 = 1)) ((f ++ [r.1]).length <= 1000000 /\ Q (.ret (.tup2 (.tup (.toks (f ++ [r.1]))) (.bool true))) (Eb outs r.2 (f ++ [r.1]) c r.1))
    (br (decide (9 < c + 1)) (EX .defn) (br (decide (r.1 = (12, 48 + (c + 1)))) ((f ++ [((9 : Int), c + 1)]).length <= 1000000 /\ Bp (A7 outs r.2) EX fun r => Q .next (Eb outs r.2 (f ++ [((9 : Int), c + 1)]) (c + 1) r.1)) (EX .defn))))
   (br (decide (p.1 = 2)) (EX .defn) (br (decide (p.1 ∈ ([5, 9, 15] : List Int))) (EX .defn) ((f ++ [p]).length <= 1000000 /\ Bp (A7 outs ps) EX fun r => Q .next (Eb outs r.2 (f ++ [p]) c r.1)))) := by kernel_rfl
theorem Rn {p : AN} {c : Int} {Q : AV -> List AO -> Prop} : ((V 36 (Pj EX)).b ((AB (st 25)).drop 4) (Eb outs ps f c p) fun fl st' => AU 1 (Am fl) st'.objs Q) = Q (.tup2 (.tup (.toks f)) (.bool false)) [.feed ps outs] := by kernel_rfl
theorem RB {p : AN} {c : Int} {Q : AV -> List AO -> Prop} : AU 1 (.tup2 (.tup (.toks f)) (.bool true)) (Eb outs ps f c p).objs Q = Q (.tup2 (.tup (.toks f)) (.bool true)) [.feed ps outs] := by kernel_rfl
def WL (outs : AC) (KR : AV -> St -> Prop) (K : St -> Prop) (r : AC × Bool × AC) : Prop := ∀ c p, bif r.2.1 then KR (.tup2 (.tup (.toks r.1)) (.bool true)) (Eb outs r.2.2 r.1 c p) else K (Eb outs r.2.2 r.1 c p)
def aU (EX : Aa -> Prop) (outs : AC) (KR : AV -> St -> Prop) (K : St -> Prop) (N n : Nat) : Prop := ∀ {q f : AC} {c : Nat}, q.length <= n -> f.length + q.length <= 200001 -> Bp (DP outs n q f c) EX (WL outs KR K) -> Bp (A7 outs q) EX fun r => wN (JH EX) (JM EX) KR K N (Eb outs r.2 f c r.1)
theorem JC {KR : AV -> St -> Prop} {K : St -> Prop} {N n : Nat} (go : aU EX outs KR K N n) {p : AN} {q f : AC} {c : Nat} (hn : q.length <= n) (hz : f.length + q.length <= 200000) (h : Bp (GF outs (DP outs n) p q f c) EX (WL outs KR K)) : wN (JH EX) (JM EX) KR K (N + 1) (Eb outs q f c p) := by
 have hl : ∀ {q : AC} (a : AN), f.length + q.length <= 200000 -> (f ++ [a]).length <= 1000000 /\ (f ++ [a]).length + q.length <= 200001 := fun {q} a hq => by
  rw [List.length_append, Nat.add_right_comm]
  exact ⟨Nat.le_trans (Nat.succ_le_succ (Nat.le_trans (Nat.le_add_right _ _) hq)) (by decide), Nat.succ_le_succ hq⟩
 refine Et ?_
 rw [R9, Qe]
 refine MY h (fun _ h => h _ _) fun _ h => MY h (fun _ h => D7 h fun r hr h => ?_) fun _ h => MY h (fun _ h => h) fun _ h => MY h (fun _ h => h) fun _ h => ⟨(hl p hz).1, go hn (hl p hz).2 h⟩
 have hq := Bv hr
 have hz2 : f.length + r.2.length <= 200000 := Nat.le_trans (Nat.add_le_add_left (hq ▸ Nat.le_succ _) _) hz
 exact MY h (fun _ h => ⟨(hl r.1 hz2).1, h _ _⟩) fun _ h => MY h (fun _ h => h) fun _ h => MY h (fun _ h => ⟨(hl _ hz2).1, go (c := c + 1) (Nat.le_trans (hq ▸ Nat.le_succ _) hn) (hl _ hz2).2 h⟩) fun _ h => h
theorem MS {KR : AV -> St -> Prop} {K : St -> Prop} (n : Nat) : ∀ {p : AN} {q f : AC} {c : Nat}, q.length <= n -> f.length + q.length <= 200000 -> Bp (GF outs (DP outs n) p q f c) EX (WL outs KR K) -> wN (JH EX) (JM EX) KR K (n + 1) (Eb outs q f c p) := by
 induction n with
 | zero => exact JC fun h1 _ k => by rw [List.length_eq_zero_iff.mp (Nat.le_zero.mp h1)]; exact k
 | succ n ih =>
  refine JC (N := n + 1) (n := n + 1) fun {q f c} h1 h2 k => D7 (show Bp (Fs (A7 outs q) fun r => GF outs (DP outs n) r.1 r.2 f c) EX _ from k) fun r hr k => ?_
  have hq := Bv hr
  rw [<- hq] at h1 h2
  exact ih (Nat.le_of_succ_le_succ h1) (Nat.le_of_succ_le_succ h2) k
theorem Ek (W : Wd K B mg mb ad tk) : Sp prog w B ad 4 (.ref (ad "read_parameters")) C6 := by
 refine CI W (W.f_read_parameters).2.2 ["feed"] ["found", "count", "token"] (F := [("token_wanted", Bf)]) (M := []) (nil := .toks []) (by decide) rfl
  (BX ⟨(W.f_token_wanted).1, (W.f_token_wanted).2.1, DS W⟩ Bo) Bo 40 (fun us os EX Kq t => ?_) (fun xs hl _ _ _ _ _ _ _ _ _ => ?_) (by decide +kernel) rfl rfl rfl (by decide +kernel)
 ·refine Ai t fun r t1 => ?_
  refine AI t1 fun t2 => ?_
  refine CG t2 fun ps outs r t3 => ?_
  refine AI t3 fun z0 => ?_
  revert z0; refine Ak fun hz t4 => ?_
  refine ⟨rfl, Eq.mpr Vs ?_⟩
  refine D7 t4 fun r hr t4 => ⟨ps.length + 1, MS ps.length (f := []) (c := 0) (Bv hr ▸ Nat.le_succ _) (by show 0 + _ <= _; have := Bv hr; omega) (DZ t4 fun a _ k c p => ?_)⟩
  obtain ⟨a, b, r⟩ := a
  cases b
  ·exact Eq.mpr Rn k
  ·exact Eq.mpr RB k
 ·refine Ap (fun a z0 => ?_) <| PA hl; obtain rfl := z0; exact BindsTo.of_eq rfl
end
section
variable {K : Frag} {B : Heap} {mg mb : Str -> Option Value} {ad : Str -> Addr} {tk : Str -> Tok} {prog : Program} {w : World} {EX : Aa -> Prop} {par : AN} {long : Bool} {outs ps l D f : AC} {m m' : BU} {g : List AC}
theorem JY (W : Wd K B mg mb ad tk) : Sp prog w B ad 1 (.ref (ad "is_whole")) EY := fun us os h xs EX Kq hB hok hdis hnb cvs t => by
 refine ET (fun v r e0 t1 => ?_) <| Kj t; clear t; subst e0
 refine ET (fun lo r e0 t2 => ?_) <| Kj t1; clear t1; subst e0
 refine ET (fun hi r e0 t3 => ?_) <| Kj t2; clear t2; subst e0
 refine Ak (fun e0 t4 => ?_) <| FX t3; clear t3; subst e0
 refine Ak (fun e t5 => ?_) <| FX t4
 have : os = [] := List.map_eq_nil_iff.mp e
 subst this
 refine DK (fun x y z e9 g0 z0 => ?_) <| aV cvs; revert z0; refine Ak fun g1 g2 => ?_; clear cvs; subst e9
 revert g0; refine Ap fun u1 e1 => ?_
 revert g1; refine Ap fun u2 e2 => ?_
 revert g2; refine Ap fun u3 e3 => ?_
 subst e1 e2 e3
 exact QE 1 [] _ BW (Nat.le_refl _) ⟨Ee W, AH, fun _ q => q.elim, fun v h' K r => ⟨.bool (decide (lo <= _ /\ _ <= hi)), [], .same hok hdis K, by rw [Bool.decide_and]; exact r, t5⟩⟩
noncomputable def N5 (EX : Aa -> Prop) : Gm := ⟨EX, AM (st 27), [("token_wanted", Bf), ("is_whole", EY), ("parameter_mark", CC)], [], .toks [], [], GQ⟩
noncomputable def FI (outs q f : AC) (n d : Int) (tok : Option AV) : St := ⟨[("feed", some (.ref 0)), ("count", some (.int n)), ("found", some (.ref 1)), ("depth", some (.int d)), ("token", tok)], [.feed q outs, .lst (.toks f)]⟩
noncomputable def Qt (EX : Aa -> Prop) := (V 36 (N5 EX)).t (G7 (Bl (AB (st 27)) 3))
noncomputable def RH (EX : Aa -> Prop) := (V 36 (N5 EX)).b (BG (Bl (AB (st 27)) 3))
def Ql (Q : Fl -> St -> Prop) (outs q f : AC) (n d : Int) (p : AN) : Prop := br (decide (0 < d)) ((f ++ [p]).length <= 1000000 /\ Q .next (FI outs q (f ++ [p]) n d (some (.tok p)))) (Q .next (FI outs q f n d (some (.tok p))))
theorem UT {n : Int} {Q : AV -> List AO -> Prop} : ((V 40 (N5 EX)).b (AB (st 27)) ⟨Az ["feed", "count"] [.ref 0, .int n] ["found", "depth", "token"], [.feed ps outs]⟩ fun fl st' => AU 1 (Am fl) st'.objs Q) =
  br (decide (0 <= n /\ n <= 9)) (∃ N, wN (Qt EX) (RH EX) (fun v st => AU 1 v st.objs Q) (fun z => (V 36 (N5 EX)).b ((AB (st 27)).drop 4) z fun fl st' => AU 1 (Am fl) st'.objs Q) N (FI outs ps [] n 1 none)) (EX .bad) := by kernel_rfl
theorem I0 {n d : Int} {tok : Option AV} {KT KF : St -> Prop} : Qt EX (FI outs ps f n d tok) KT KF = br (decide (0 < d)) (KT (FI outs ps f n d tok)) (KF (FI outs ps f n d tok)) := by kernel_rfl
theorem Lp {n d : Int} {tok : Option AV} {Q : Fl -> St -> Prop} : RH EX (FI outs ps f n d tok) Q =
  Bp (A7 outs ps) EX fun r => br (decide (r.1.1 = 6)) (Bp (A7 outs r.2) EX fun r => Bp (B7 r.1 n) EX fun q => (f ++ [q]).length <= 1000000 /\ Q .next (FI outs r.2 (f ++ [q]) n d (some (.tok q))))
   (br (decide (r.1.1 ∈ ([5, 9, 15] : List Int))) (EX .defn) (br (decide (r.1.1 = 1)) (Ql Q outs r.2 f n (d + 1) r.1) (br (decide (r.1.1 = 2)) (Ql Q outs r.2 f n (d - 1) r.1) (Ql Q outs r.2 f n d r.1)))) := by kernel_rfl
theorem Qv {n d : Int} {tok : Option AV} {Q : AV -> List AO -> Prop} : ((V 36 (N5 EX)).b ((AB (st 27)).drop 4) (FI outs ps f n d tok) fun fl st' => AU 1 (Am fl) st'.objs Q) = Q (.tup (.toks f)) [.feed ps outs] := by kernel_rfl
def Yn (outs : AC) (K : St -> Prop) (c : Int) (r : AC × AC) : Prop := ∀ d tok, K (FI outs r.2 r.1 c d tok)
theorem MR {KR : AV -> St -> Prop} {K : St -> Prop} {c : Int} (n : Nat) : ∀ {q f : AC} {d : Nat} {tok : Option AV}, q.length <= n -> f.length + q.length <= 200000 ->
  Bp (Bg outs c n q d f) EX (Yn outs K c) -> wN (Qt EX) (RH EX) KR K (n + 1) (FI outs q f c (d + 1) tok) := by
 have pos : ∀ {d : Nat}, decide (0 < (d : Int) + 1) = true := fun {d} => decide_eq_true (Int.natCast_pos.mpr (Nat.succ_pos d))
 induction n with
 | zero =>
  intro q f d tok hn hz h
  rw [List.length_eq_zero_iff.mp (Nat.le_zero.mp hn)]
  refine Et ?_
  rw [I0, Lp]
  exact Dz pos h
 | succ n ih =>
  intro q f d tok hn hz h
  have hl : ∀ {q' : AC} (a : AN), q'.length + 1 <= q.length -> (f ++ [a]).length <= 1000000 /\ (f ++ [a]).length + q'.length <= 200000 := fun {q'} a hq => by
   rw [List.length_append, Nat.add_assoc, Nat.add_comm [a].length]
   have := Nat.le_trans (Nat.add_le_add_left hq f.length) hz
   exact ⟨Nat.le_trans (Nat.add_le_add_left (Nat.le_add_left 1 _) _) (Nat.le_trans this (by decide)), this⟩
  refine Et ?_
  rw [I0, Lp]
  refine Dz pos (D7 h fun r hr h => ?_)
  have hq := Bv hr
  have hr2 : r.2.length <= n := Nat.le_of_succ_le_succ (Nat.le_trans (Nat.le_of_eq hq) hn)
  have next : ∀ {d' : Nat}, Bp (Bg outs c n r.2 d' (f ++ [r.1])) EX (Yn outs K c) -> Ql (fun fl st2 => match fl with | .next => wN (Qt EX) (RH EX) KR K (n + 1) (gc 2 st2) | .ret v => KR v st2) outs r.2 f c (d' + 1) r.1 := fun k =>
   Dz pos ⟨(hl r.1 (Nat.le_of_eq hq)).1, ih hr2 (hl r.1 (Nat.le_of_eq hq)).2 k⟩
  refine MY h (fun _ h => D7 h fun r2 hr3 h => D7 h fun t _ h => ?_) fun _ h => MY h (fun _ h => h) fun _ h => MY h (fun _ h => next (d' := d + 1) h) fun _ h => MY h (fun _ h => ?_) fun _ h => next h
  ·have hq2 := Bv hr3
   have hq3 : r2.2.length + 1 <= q.length := by rw [hq2, <- hq]; exact Nat.le_succ _
   exact ⟨(hl t hq3).1, ih (Nat.le_trans (hq2 ▸ Nat.le_succ _) hr2) (hl t hq3).2 h⟩
  ·cases d with
   | zero =>
    refine NT (decide_eq_false (by decide)) ?_
    refine Et ?_
    rw [show gc (FI outs q f c ((0 : Nat) + 1) tok).objs.length (FI outs r.2 f c (((0 : Nat) : Int) + 1 - 1) (some (.tok r.1))) = FI outs r.2 f c 0 (some (.tok r.1)) from rfl, I0]
    exact NT (decide_eq_false (by decide)) (h _ _)
   | succ d =>
    rw [show (((d + 1 : Nat) : Int) + 1 - 1) = (d : Int) + 1 from Int.add_sub_cancel _ 1]
    exact next h
theorem IW (W : Wd K B mg mb ad tk) : Sp prog w B ad 4 (.ref (ad "read_body")) Fm := by
 refine CI W (W.f_read_body).2.2 ["feed", "count"] ["found", "depth", "token"] (F := [("token_wanted", Bf), ("is_whole", EY), ("parameter_mark", CC)]) (M := []) (nil := .toks []) (by decide) rfl
  (BX ⟨(W.f_token_wanted).1, (W.f_token_wanted).2.1, DS W⟩ (BX ⟨(W.f_is_whole).1, (W.f_is_whole).2.1, (JY W).mono (by decide)⟩ (BX ⟨(W.f_parameter_mark).1, (W.f_parameter_mark).2.1, RS W⟩ Bo))) Bo 40 (fun us os EX Kq t => ?_) (fun xs hl _ _ _ _ _ _ _ _ _ => ?_) (by decide +kernel) rfl rfl rfl (by decide +kernel)
 ·refine Ai t fun r t1 => ?_
  refine CZ t1 fun c r t2 => ?_
  refine AI t2 fun t3 => ?_
  refine CG t3 fun ps outs r t4 => ?_
  refine AI t4 fun z0 => ?_
  revert z0; refine Ak fun z1 t5 => ?_; revert z1; refine Ak fun hc hz => ?_
  exact ⟨rfl, Eq.mpr UT (Dz (decide_eq_true hc) ⟨ps.length + 1 + 1, MR (ps.length + 1) (d := 0) (Nat.le_succ _) (by show 0 + _ <= _; omega) (DZ t5 fun a _ k d tok => Eq.mpr Qv k)⟩)⟩
 ·refine HM (fun a b z0 => ?_) <| ex2 hl; obtain rfl := z0; exact BindsTo.of_eq rfl
noncomputable def KQ : CT := fun us os EX K => BF 0 us fun us => BF 1 us fun us => FV us fun par us => Ab us <| HV os fun m os => Dt os fun ps outs os => Ab os <| (CM m /\ ps.length <= 40000) /\ Bp (Ao outs par m ps) EX fun r =>
 ((∀ p ∈ m.body, p.1 = 5 -> 1 <= p.2 /\ p.2 <= r.1.length) /\ (r.1.length <= 1000 /\ ∀ x ∈ r.1, x.length <= 1000) /\ m.body.length <= 900) /\ K (.ref 2) [.mac m, .feed r.2 outs, .lst (.toks (DD r.1 m.body))]
noncomputable def Y3 (EX : Aa -> Prop) : Gm := ⟨EX, AM (st 35), [("arguments", DB), ("filled", D4)], [], .toks [], [], GQ⟩
theorem S0 {Q : AV -> List AO -> Prop} : ((V 40 (Y3 EX)).b (AB (st 35)) ⟨Az ["macro", "feed", "par"] [.ref 0, .ref 1, .tok par] ["given"], [.mac m, .feed ps outs]⟩ fun fl st' => AU 2 (Am fl) st'.objs Q) =
  ((CM m /\ ps.length <= 40000) /\ Bp (Ao outs par m ps) EX fun r => ((∀ p ∈ m.body, p.1 = 5 -> 1 <= p.2 /\ p.2 <= r.1.length) /\ (r.1.length <= 1000 /\ ∀ x ∈ r.1, x.length <= 1000) /\ m.body.length <= 900) /\ Q (.ref 2) [.mac m, .feed r.2 outs, .lst (.toks (DD r.1 m.body))]) := by kernel_rfl
theorem RI (W : Wd K B mg mb ad tk) : Sp prog w B ad 7 (.ref (ad "call")) KQ := by
 refine CI W (W.f_call).2.2 ["macro", "feed", "par"] ["given"] (F := [("arguments", DB), ("filled", D4)]) (M := []) (nil := .toks []) (by decide) rfl
  (BX ⟨(W.f_arguments).1, (W.f_arguments).2.1, FN W⟩ (BX ⟨(W.f_filled).1, (W.f_filled).2.1, (Hm W).mono (by decide)⟩ Bo)) Bo 40 (fun us os EX Kq t => ?_) (fun xs hl _ _ _ _ _ _ _ _ _ => ?_) (by decide +kernel) rfl rfl rfl (by decide +kernel)
 ·refine Ai t fun r t1 => ?_
  refine Ai t1 fun r t2 => ?_
  refine CS t2 fun par r t3 => ?_
  refine AI t3 fun t4 => ?_
  refine Dg t4 fun m r t5 => ?_
  refine CG t5 fun ps outs r t6 => ?_
  refine AI t6 fun t7 => ?_
  exact ⟨rfl, Eq.mpr S0 t7⟩
 ·refine UG (fun a b c z0 => ?_) <| W5 hl; obtain rfl := z0; exact BindsTo.of_eq rfl
end
theorem MW {P : AC} : ∀ {rs : List AC} {r : AC} {D : List AC}, A0 P rs r = some D -> D.length <= rs.length + 1 + P.length := by
 induction P with
 | nil => exact fun h => by rw [<- Option.some.inj h, List.length_append]; exact Nat.le_refl _
 | cons p P ih =>
  intro rs r D h
  replace h : (if p.1 = 9 then (if p.2 ≠ rs.length + 1 \/ 9 < rs.length + 1 then none else A0 P (rs ++ [r]) []) else A0 P rs (r ++ [p])) = some D := h
  refine BK h (fun _ h => BK h (fun _ h => AG h) fun _ h => ?_) fun _ h => Nat.le_succ_of_le (ih h)
  have := ih h
  rw [List.length_append, Nat.add_right_comm (rs.length + _)] at this; exact this
theorem Oq {h : Heap} {ns : List Int} : ∀ {vs : List Value}, ReadsAll h vs (ns.map .int) [] -> IntsAre vs ns := by
 induction ns with
 | nil => intro vs r; cases r; exact .nil
 | cons n ns ih =>
  intro vs r
  cases vs with
  | nil => cases r
  | cons v vs =>
   refine Ah (fun w e y => ?_) <| Bi (i := 0) (d := .int n) r rfl
   cases e
   cases y
   exact .cons _ _ (ih (DE 1 r))
@[elab_as_elim] theorem PS {C : Os -> Prop} {os : Os} {o : AO} (e : os.map (·.2) = [o]) (f : ∀ x, C [(x, o)]) : C os := by
 cases os with
 | nil => cases e
 | cons p os =>
  obtain ⟨x, q⟩ := p
  rw [List.map_eq_nil_iff.mp (List.cons.inj e).2, show q = o from (List.cons.inj e).1]; exact f x
theorem os1 {os : Os} {o : AO} (e : os.map (·.2) = [o]) : ∃ x, os = [(x, o)] := PS e fun x => ⟨x, rfl⟩
@[elab_as_elim] theorem TX {C : Os -> Prop} {os : Os} {k : Prop} (h : Ab (os.map (·.2)) k) (f : k -> C []) : C os := Ak (fun e q => by rw [List.map_eq_nil_iff.mp e]; exact f q) (FX h)
@[elab_as_elim] theorem KO {C : Os -> Prop} {os : Os} {k : AP -> Prop} (h : Dw (os.map (·.2)) fun P r => Ab r (k P)) (f : ∀ x P, k P -> C [(x, .lst P)]) : C os := by
 refine ET (fun P r e q => Ak (fun z q => ?_) (FX q)) (VP h)
 rw [z] at e
 exact PS e fun x => f x P q
@[elab_as_elim] theorem Ui {C : Os -> Prop} {os : Os} {k : Nat -> Prop} (h : GN (os.map (·.2)) fun P r => Ab r (k P)) (f : ∀ x P, k P -> C [(x, .src P)]) : C os := by
 refine ET (fun P r e q => Ak (fun z q => ?_) (FX q)) (Ot h)
 rw [z] at e
 exact PS e fun x => f x P q
theorem ZX {h : Heap} {x : AA} {o : AO} {v : Value} (cv : CV h (Av [(x, o)]) (.ref 0) v) : v = .ref x.a := cv.at (os := [(x, o)]) (i := 0) rfl
section
variable {K : Frag} {B : Heap} {mg mb : Str -> Option Value} {ad : Str -> Addr} {tk : Str -> Tok} {prog : Program} {w : World}
theorem Ip (W : Wd K B mg mb ad tk) : Sp prog w B ad 4 (.ref (ad "TokenFeed")) GY := .of fun us os h xs EX Kq t => by
 refine Ai t fun r t => Cl t fun outs r t => AI t fun t => ?_
 refine KO (os := os) t fun x P t => ?_
 refine DI t fun ps t z => Cu z.cvs fun v u cv cu => DQ cu fun d2 us T2 r2 _ => ?_
 have e0 := ZX cv
 rw [e0]
 refine .of (Rx W (z.ok _ (.head _)).2 ⟨us, T2, r2⟩ t.1.1 t.1.2) AH fun v h' K r => ?_
 revert r; refine Eo fun y dx z0 hy hdx => Ah fun a hz F => ?_
 exact ⟨.ref 1, _, .push (p := (⟨y, dx, a⟩, .feed ps outs)) z.ok z.dis K F (List.forall_mem_cons.mpr ⟨hy, Ei hdx hz⟩), ⟨⟨y, dx, a⟩, rfl, z0⟩, t.2⟩
theorem Gf (W : Wd K B mg mb ad tk) : Sp prog w B ad 2 (.ref (ad "Macro")) FJ := .of fun us os h xs EX Kq t => by
 refine Cl t fun P r t => Cl t fun Bd r t => ?_
 have main : ∀ {long out : Bool} {xs : List Value}, ((P.length <= 900 /\ Bd.length <= 900) /\ Af (A0 P [] []) fun D => Kq (.ref 0) [.mac ⟨P, Bd, D, long, out⟩]) -> (∀ p ∈ ([] : Os), Hg B ad h p) -> ([] : Os).Pairwise Jv -> (∀ {D : List AC}, A0 P [] [] = some D -> Ct prog w B 2 (.ref (ad "Macro")) xs [] h (fun v h' => ∃ x dx, v = .ref x /\ h.get? x = none /\ h.get? dx = none /\ Mc h' (ad "Macro") x dx P Bd D long out) BW) -> Yy prog w B ad 2 (.ref (ad "Macro")) [] h xs EX Kq := fun t hok hdis ct => by
  refine AJ t.2 fun D hD q => .of (ct hD) AH fun v h' K r => ?_
  revert r; refine Eo fun y dx z0 hy hdx M => ?_
  have hc : D.length <= 1 + P.length := Nat.zero_add 1 ▸ MW hD
  have hl := HY (N := 900) P [] [] hD (fun x m => by rw [List.mem_singleton.mp m]; exact Nat.zero_add _ ▸ t.1.1)
  exact ⟨.ref 0, _, .push (p := (⟨y, dx, y⟩, .mac ⟨P, Bd, D, _, _⟩)) hok hdis K ⟨M, Nat.le_trans t.1.1 (by decide), Nat.le_trans t.1.2 (by decide), Nat.le_trans hc (Nat.add_le_add (Nat.le_refl 1) (Nat.le_trans t.1.1 (by decide : 900 <= 999))), fun r m => Nat.le_trans (hl r m) (by decide)⟩ (Ei hy hdx), ⟨⟨y, dx, y⟩, rfl, z0⟩, q⟩
 refine Lm t (fun t => TX (os := os) t fun t z => Cu z.cvs fun v u cv cu => ?_) fun a b t => TX (os := os) t fun t z => Bs z.cvs fun v vs cv c => Kb c fun u x3 x4 cu e3 e4 => ?_
 ·exact main t z.ok z.dis fun hD => DQ cv fun d1 vs T1 r1 _ => DQ cu fun d2 us T2 r2 _ => Ou W ⟨vs, T1, r1⟩ ⟨us, T2, r2⟩ t.1.1 t.1.2 hD
 ·rw [show x3 = .bool a from e3, show x4 = .bool b from e4]
  exact main t z.ok z.dis fun hD => DQ cv fun d1 vs T1 r1 _ => DQ cu fun d2 us T2 r2 _ => Pf W ⟨vs, T1, r1⟩ ⟨us, T2, r2⟩ t.1.1 t.1.2 hD
theorem EJ (W : Wd K B mg mb ad tk) : Sp prog w B ad 1 (.ref (ad "_law_take")) CD := .of fun us os h xs EX Kq t => by
 refine Ai t fun r t => CZ t fun m r t => AI t fun t => ?_
 refine Ui (os := os) t fun x n t => ?_
 refine fun z => Cu z.cvs fun v u cv cu => Cm cu fun tk => ?_
 have e0 := ZX cv
 rw [e0]
 have S : Da h x.a (n - 1 + 1) := by rw [Nat.sub_add_cancel t.1.1]; exact z.ok _ (.head _)
 refine .of (Ku W S t.1.2.1 t.1.2.2 (z.nb _ (.head _) _ (.head _))) (Ac (.head _)) fun v h' K r => ?_
 revert r; refine Eo fun y ty z0 y0 y1 q => ?_
 exact ⟨.int y, _, .set (i := 0) (x := x) (o := .src n) (o' := .src (n - 1)) z.ok z.dis rfl K (fun _ m => m) rfl rfl q, ⟨ty, z0⟩, t.2 y y0 y1⟩
theorem Re (W : Wd K B mg mb ad tk) : Sp prog w B ad 1 (.ref (ad "_law_cell")) PW := .of fun us os h xs EX Kq t => by
 refine Ai t fun r t => CZ t fun k r t => AI t fun t => ?_
 refine KO (os := os) t fun x P t => ?_
 refine AJ t fun ns e t => IA e fun z => Cu z.cvs fun v u cv cu => Cm cu fun tk => ?_
 have e0 := ZX cv
 rw [e0]
 refine Ah (fun vs L r1 => ?_) (z.ok _ (.head _)).2
 refine .of (U9 W L (Oq r1) (by rw [AP.rel.len (P := .ints ns) r1]; exact t.1.1) t.1.2.1 t.1.2.2) AH fun v h' K r => ?_
 revert r; refine FR fun y z0 S hy => ?_
 exact ⟨.ref 1, _, .push (p := (⟨y, y, y⟩, .src 100000)) z.ok z.dis K S (Ac hy), ⟨⟨y, y, y⟩, rfl, z0⟩, t.2⟩
end
def ZB (a : Option AV) (k : AC -> Prop) : Prop := Af a fun v => Qn v fun P => HB P k
theorem WF {a : Option AV} {k : AC -> Prop} (h : ZB a k) : ∃ l, a = some (.tup (.toks l)) /\ k l := AJ h fun v e h => by
 revert e; exact KP h fun P h => DI h fun l q e => ⟨l, e, q⟩
def Xk : Stmt -> St -> (St -> Prop) -> Prop := fun s z k => s = Bl (AB (st 28)) 1 /\ Af (MV "parameters" z.loc) fun a => ZB a fun P => P.length <= 1000 /\ (bif G1 "count" z.loc then k ⟨HR "count" (.int (BI P).length) z.loc, z.objs⟩ else False)
theorem Ks {P : AC} {i : Nat} {p : AN} (h : P[i]? = some p) : BI (P.take (i + 1)) = BI (P.take i) ++ if p.1 = 9 then [p] else [] := by
 rw [List.take_add_one, h]; unfold BI; rw [List.filter_append]
 by_cases e : p.1 = 9 <;> simp [e]
theorem Ra {c : Cx} (hsc : c.sc = AM (st 28)) {s : Stmt} {rest : List Stmt} {z : St} {K : St -> Prop} {Q : Fl -> St -> Prop} (h : Xk s z K) (hK : ∀ st, K st -> AS c rest st Q) : AS c (s :: rest) z Q := by
 revert h; refine Ak fun z0 h => ?_; obtain rfl := z0
 refine Ah (fun a ea h => ?_) <| EF h
 refine FR (fun P z0 hz g => ?_) <| WF h; obtain rfl := z0
 refine Ak (fun hx k => ?_) <| CL g
 refine fun ok os hh t l R => ?_
 refine FR (fun v mv _ z0 => ?_) <| R.loc.look ea; revert z0; refine CY fun d vs z1 T r => ?_; obtain rfl := z1
 have hl := Cr r
 have g : ∀ {x : Str}, (AM (st 28)).names.lookup x = some .globalImplicit -> c.sc.names.lookup x = some .globalImplicit := fun h => by rw [hsc]; exact h
 refine Ce rfl (Ay rfl (Aq ok.W.gb ok.he R.F (g (by kernel_rfl)) ok.W.b_len (I4 rfl rfl (AW rfl (FO (cl := []) rfl rfl (by decide +kernel) (fun _ => rfl) (AQ ok.he R.F mv ?_ (by decide +kernel)))))))
 refine Xd (.inr ⟨_, rfl⟩) ok.he ok.hf ok.hA (by kernel_rfl) rfl (by decide +kernel) T (fun i ys hq => Ts hq ys (BI (P.take i))) [] AH (by omega) R.F (fun h' K' => .nil) ?_ ?_
 ·intro i ys ac ia C cenv hq h4 t4 v hi hys hJ hac hia hC kw K4 hec hcl FC fr hv
  have hJ4 : Ts h4 ys (BI (P.take i)) := ReadsAll.kw kw hJ
  refine Ah (fun p hp tp => ?_) <| H4 r hv
  have tp4 : Tk h4 v p := Reads.kp K4 tp
  have hn := Ks hp
  have nv : ∀ {Q : Value -> Shared -> Prop} {E : Value -> Shared -> Prop} {pos : Pos} {t : Nat}, Q v (mk c.s h4 t) -> wpAny (model c.prog c.w) c.A (eval (.Name "token" pos) cenv) Q E (mk c.s h4 t) := fun q => AQ hec FC (.head _) q (by decide +kernel)
  show wpAny _ _ _ _ _ _
  refine wpAny_isTrue_Compare1 (Subscript_ (nv (Ag (Mp (fun _ => by with_unfolding_all rfl) tp4 fun tk => ?_))))
  refine B5 ok.W.gb hec FC (by kernel_rfl) ok.W.i_MATCH (Zt (Bc (PV (fun h9 => nv ?_) fun h9 => ?_))) (by decide +kernel)
  ·rw [if_pos h9] at hn
   refine JS h4 _ [] rfl (Kp.refl ..) ⟨AH, ?_⟩
   rw [hn]; exact Gv hJ4 (Iw tp4)
  ·rw [if_neg h9, List.append_nil] at hn
   refine JS h4 _ [] rfl (Kp.refl ..) ⟨AH, ?_⟩
   rw [hn]; exact hJ4
 ·intro ys ac ia C hq h4 t4 hys hJ hac hia hC kw K4 F4 La
  rw [hl, List.take_length] at hJ
  have hyl := Cr hJ
  refine args_nil (Jx La (by omega) fun tk t' => ?_)
  rw [hyl]
  have K4' : Kp c.B [] [] hh h4 := K4
  exact KC ok (R.grow F4 K4') (a := .int (BI P).length) ⟨tk, rfl⟩ hx (.grow K4') (hK _ k)
noncomputable def Wl (EX : Aa -> Prop) : Gm := ⟨EX, AM (st 28), [("read_parameters", C6), ("read_body", Fm), ("Macro", FJ)], [], .toks [], [], Xk⟩
section
variable {K : Frag} {B : Heap} {mg mb : Str -> Option Value} {ad : Str -> Addr} {tk : Str -> Tok} {prog : Program} {w : World} {EX : Aa -> Prop} {ps outs : AC} {long out : Bool}
theorem Uf {Q : AV -> List AO -> Prop} : ((V 40 (Wl EX)).b (AB (st 28)) ⟨Az ["feed", "is_long", "is_outer"] [.ref 0, .bool long, .bool out] ["parameters", "has_brace", "count", "body"], [.feed ps outs]⟩ fun fl st' => AU 1 (Am fl) st'.objs Q) =
  (ps.length <= 100000 /\ Bp (DP outs (ps.length + 1) ps [] 0) EX fun r => Bl (AB (st 28)) 1 = Bl (AB (st 28)) 1 /\ r.1.length <= 1000 /\ ((0 <= ((BI r.1).length : Int) /\ ((BI r.1).length : Int) <= 9) /\ r.2.2.length <= 100000) /\ Bp (Bg outs (BI r.1).length (r.2.2.length + 1) r.2.2 0 []) EX fun s =>
   (r.1.length <= 900 /\ s.1.length <= 900) /\ Af (A0 r.1 [] []) fun D => Q (.ref 1) [.feed s.2 outs, .mac ⟨r.1, s.1, D, long, out⟩]) := by kernel_rfl
theorem LV {Q : AV -> List AO -> Prop} (h : Ig ps outs long out EX Q) : ((V 40 (Wl EX)).b (AB (st 28)) ⟨Az ["feed", "is_long", "is_outer"] [.ref 0, .bool long, .bool out] ["parameters", "has_brace", "count", "body"], [.feed ps outs]⟩ fun fl st' => AU 1 (Am fl) st'.objs Q) :=
 Eq.mpr Uf ⟨Nat.le_trans h.1 (by decide), DZ h.2 fun r _ k => ⟨rfl, by omega, ⟨⟨by omega, by omega⟩, k.1.2.2⟩, DZ k.2 fun s _ k2 => ⟨⟨k.1.2.1, k2.1⟩, k2.2⟩⟩⟩
theorem Od (W : Wd K B mg mb ad tk) {A : Around} {s : Shared} {h : Heap} {S : List Addr} {outer : List Env} {L : Addr} {env : Env} : GG ⟨prog, w, A, s, B, h, S, outer, AM (st 28), L, env, K, mg, mb, ad, tk, 4, EX, []⟩ (Wl EX) :=
 Hb (by decide) rfl (BX ⟨(W.f_read_parameters).1, (W.f_read_parameters).2.1, Ek W⟩ (BX ⟨(W.f_read_body).1, (W.f_read_body).2.1, IW W⟩ (BX ⟨W.cMa.g, W.cMa.k, (Gf W).mono (by decide)⟩ Bo))) Bo (fun _ m => nomatch m) fun st rest s K' Q _ h hK => Ra rfl h hK
theorem SH (W : Wd K B mg mb ad tk) : Sp prog w B ad 5 (.ref (ad "definition")) (fun us os EX K => BF 0 us fun us => EE us fun long us => EE us fun out us => Ab us <| Dt os fun ps outs os => Ab os <| Ig ps outs long out EX K) := by
 refine Hh W W.fDf.2.2.1 ["feed", "is_long", "is_outer"] ["parameters", "has_brace", "count", "body"] [] [] (fun _ _ => trivial) (fun us os EX Kq t => ?_) (fun xs hl _ _ _ _ _ _ _ _ _ base => ?_) (by decide +kernel) rfl rfl rfl (by decide +kernel)
 ·refine Ai t fun r t1 => ?_
  refine CH t1 fun long r t2 => ?_
  refine CH t2 fun out r t3 => ?_
  refine AI t3 fun t4 => ?_
  refine CG t4 fun ps outs r t5 => ?_
  refine AI t5 fun t6 => ?_
  refine ⟨rfl, fun A s h S outer L env os0 e => AF.of ((GM (Od W) 40).b _ _ _ ?_)⟩
  have hl : os0.length = 1 := by rw [<- List.length_map (f := (·.2)), e]; rfl
  rw [hl]
  exact LV t6
 ·refine UG (fun a b c z0 => ?_) <| W5 (by rw [List.append_nil] at hl; exact hl); obtain rfl := z0
  refine Ap (fun n e2 => ?_) W.fDf.2.2.2
  exact BindsTo.of_defaults rfl (base _ _ e2) rfl rfl rfl
theorem RX (W : Wd K B mg mb ad tk) : Sp prog w B ad 5 (.ref (ad "definition")) (fun us os EX K => BF 0 us fun us => Ab us <| Dt os fun ps outs os => Ab os <| Ig ps outs false false EX K) := by
 refine Hh W W.fDf.2.2.1 ["feed", "is_long", "is_outer"] ["parameters", "has_brace", "count", "body"] [.bool false, .bool false] [.bool false, .bool false] (fun _ _ => ⟨rfl, rfl, trivial⟩) (fun us os EX Kq t => ?_) (fun xs hl _ _ _ _ _ _ _ _ _ base => ?_) (by decide +kernel) rfl rfl rfl (by decide +kernel)
 ·refine Ai t fun r t1 => ?_
  refine AI t1 fun t4 => ?_
  refine CG t4 fun ps outs r t5 => ?_
  refine AI t5 fun t6 => ?_
  refine ⟨rfl, fun A s h S outer L env os0 e => AF.of ((GM (Od W) 40).b _ _ _ ?_)⟩
  have hl : os0.length = 1 := by rw [<- List.length_map (f := (·.2)), e]; rfl
  rw [hl]
  exact LV t6
 ·refine Ap (fun a z0 => ?_) <| PA (by rw [List.length_append] at hl; exact Nat.add_right_cancel (m := 2) hl); obtain rfl := z0
  refine Ap (fun n e2 => ?_) W.fDf.2.2.2
  exact BindsTo.of_defaults rfl (base _ _ e2) rfl rfl rfl
theorem Sp.case {n : Nat} {fv : Value} {T T1 T2 : CT} (x : Sp prog w B ad n fv T1) (y : Sp prog w B ad n fv T2) (k : ∀ us os EX K, T us os EX K -> T1 us os EX K \/ T2 us os EX K) : Sp prog w B ad n fv T := fun us os h xs EX K a b c d e f => (k _ _ _ _ f).elim (x us os h xs EX K a b c d e) (y us os h xs EX K a b c d e)
theorem EU (W : Wd K B mg mb ad tk) : Sp prog w B ad 5 (.ref (ad "definition")) Cd :=
 (RX W).case (SH W) fun us os EX K t => by
  refine Ai t fun r t1 => ?_
  rcases LW t1 with ⟨rfl, t2⟩ | ⟨a, b, rfl, t2⟩
  ·exact .inl t2
  ·exact .inr t2
end
theorem J3 {jb : St -> (Fl -> St -> Prop) -> Prop} {x : Str} {KR : AV -> St -> Prop} {K : St -> Prop} (S : AC -> Option AV -> St) (F : AN -> AC) (N n : Nat) (hS : ∀ f t p, G1 x (S f t).loc = true /\ (⟨HR x (.tok p) (S f t).loc, (S f t).objs⟩ : St) = S f (some (.tok p)) /\ (S f t).objs.length = n) :
  ∀ (l f : AC) (t : Option AV), (∀ p ∈ l, ∀ f Q, f.length + (F p).length <= N -> (∀ st2, gc n st2 = S (f ++ F p) (some (.tok p)) -> Q .next st2) -> jb (S f (some (.tok p))) Q) -> f.length + (l.flatMap F).length <= N -> (∀ t, K (S (f ++ l.flatMap F) t)) -> FW jb x none KR K (l.map .tok) (S f t) := by
 intro l
 induction l with
 | nil => exact fun f t _ _ h => by have := h t; rwa [List.flatMap_nil, List.append_nil] at this
 | cons p l ih =>
  intro f t turn hz h
  rw [List.flatMap_cons, List.length_append] at hz
  have hl : (f ++ F p).length = f.length + (F p).length := List.length_append
  refine C9 (fun h1 h2 h3 => ?_) <| hS f t p
  refine Br _ h1 h2 (turn p (.head _) f _ (by omega) fun st2 e => ?_)
  show FW jb x none KR K (l.map .tok) (gc (S f t).objs.length st2)
  rw [h3, e]
  refine ih (f ++ F p) _ (fun q m => turn q (.tail _ m)) (by omega) fun t => ?_
  have := h t
  rwa [List.flatMap_cons, <- List.append_assoc] at this
section
variable {K : Frag} {B : Heap} {mg mb : Str -> Option Value} {ad : Str -> Addr} {tk : Str -> Tok} {prog : Program} {w : World} {EX : Aa -> Prop} {ps outs f Bd P : AC} {long : Bool} {g : List AC} {p : AN}
noncomputable def m0 (EX : Aa -> Prop) (i : Nat) (F : List (Str × CT)) : Gm := ⟨EX, AM (st i), F, [], .toks [], [], GQ⟩
theorem Mo {Q : AV -> List AO -> Prop} : ((V 40 (m0 EX 52 [])).b (AB (st 52)) ⟨Az ["token"] [.tok p] [], []⟩ fun fl st' => AU 0 (Am fl) st'.objs Q) = br (decide (p.1 = 1)) (Q (.int 1) []) (br (decide (p.1 = 2)) (Q (.int (-1)) []) (Q (.int 0) [])) := by kernel_rfl
theorem Hi (W : Wd K B mg mb ad tk) : Sp prog w B ad 3 (.ref (ad "_law_deeper")) D6 := by
 refine CI W (W.f_law_deeper).2.2 ["token"] [] (F := []) (M := []) (nil := .toks []) (by decide) rfl Bo Bo 40 (fun us os EX Kq t => ?_) (fun xs hl _ _ _ _ _ _ _ _ _ => ?_) (by decide +kernel) rfl rfl rfl (by decide +kernel)
 ·refine CS t fun p r t1 => ?_
  refine AI t1 fun t2 => ?_
  refine AI t2 fun t3 => ?_
  refine ⟨rfl, Eq.mpr (Mo (EX := EX)) ?_⟩
  unfold Ae at t3
  refine Bu (fun h => ?_) fun h => Bu (fun h2 => ?_) fun h2 => ?_
  ·rw [if_pos h] at t3; exact t3
  ·rw [if_neg h, if_pos h2] at t3; exact t3
  ·rw [if_neg h, if_neg h2] at t3; exact t3
 ·refine Ap (fun a z0 => ?_) <| PA hl; obtain rfl := z0; exact BindsTo.of_eq rfl
def cC (p : AN) (long : Bool) (o r n : Prop) : Prop := br (decide (p = AR)) o (br (decide (p = A3)) (br long n r) n)
noncomputable def Wq : CT := fun us os EX K => FV us fun p us => EE us fun long us => Ab us <| Ab os <| cC p long (K (.str "outer") []) (K (.str "runaway") []) (K (.str "") [])
theorem NM {Q : AV -> List AO -> Prop} : ((V 40 (m0 EX 51 [])).b (AB (st 51)) ⟨Az ["token", "is_long"] [.tok p, .bool long] [], []⟩ fun fl st' => AU 0 (Am fl) st'.objs Q) =
  br (decide (p = AR)) (Q (.str "outer") []) (br (decide (p = A3)) (br long (Q (.str "") []) (Q (.str "runaway") [])) (Q (.str "") [])) := by kernel_rfl
theorem Oj (W : Wd K B mg mb ad tk) : Sp prog w B ad 3 (.ref (ad "_law_event")) Wq := by
 refine CI W (W.f_law_event).2.2 ["token", "is_long"] [] (F := []) (M := []) (nil := .toks []) (by decide) rfl Bo Bo 40 (fun us os EX Kq t => ?_) (fun xs hl _ _ _ _ _ _ _ _ _ => ?_) (by decide +kernel) rfl rfl rfl (by decide +kernel)
 ·refine CS t fun p r t1 => ?_
  refine CH t1 fun long r t2 => ?_
  refine AI t2 fun t3 => ?_
  refine AI t3 fun t4 => ?_
  exact ⟨rfl, Eq.mpr (NM (EX := EX)) t4⟩
 ·refine HM (fun a b z0 => ?_) <| ex2 hl; obtain rfl := z0; exact BindsTo.of_eq rfl
noncomputable def MB (Bd : AC) (g : List AC) (f : AC) (t : Option AV) : St := ⟨[("body", some (.tup (.toks Bd))), ("given", some (.ref 0)), ("found", some (.ref 1)), ("token", t)], [.lst (.tts g), .lst (.toks f)]⟩
noncomputable def YW (EX : Aa -> Prop) := (V 38 (m0 EX 57 [])).b (BG (Bl (AB (st 57)) 1))
theorem VM {Q : AV -> List AO -> Prop} : ((V 40 (m0 EX 57 [])).b (AB (st 57)) ⟨Az ["body", "given"] [.tup (.toks Bd), .ref 0] ["found", "token"], [.lst (.tts g)]⟩ fun fl st' => AU 1 (Am fl) st'.objs Q) =
  FW (YW EX) "token" none (fun v st => AU 1 v st.objs Q) (fun z => (V 38 (m0 EX 57 [])).b ((AB (st 57)).drop 2) z fun fl st' => AU 1 (Am fl) st'.objs Q) (Bd.map .tok) (MB Bd g [] none) := by kernel_rfl
theorem Qw {Q : Fl -> St -> Prop} : YW EX (MB Bd g f (some (.tok p))) Q =
  br (decide (p.1 = 5)) ((-(g.length : Int) <= p.2 - 1 /\ p.2 - 1 < g.length) /\ ∀ r, g[AK (p.2 - 1) g.length]? = some r -> (f ++ r).length <= 1000000 /\ Q .next (MB Bd g (f ++ r) (some (.tok p))))
   (1 <= 1000000 /\ (f ++ [p]).length <= 1000000 /\ Q .next ⟨(MB Bd g (f ++ [p]) (some (.tok p))).loc, [.lst (.tts g), .lst (.toks (f ++ [p])), .lst (.toks [p])]⟩) := by kernel_rfl
theorem RR {t : Option AV} {Q : AV -> List AO -> Prop} : ((V 38 (m0 EX 57 [])).b ((AB (st 57)).drop 2) (MB Bd g f t) fun fl st' => AU 1 (Am fl) st'.objs Q) = Q (.ref 1) [.lst (.tts g), .lst (.toks f)] := by kernel_rfl
theorem MX {g : List AC} {Bd : AC} (h : ∀ r ∈ g, r.length <= 1000) : (DD g Bd).length <= Bd.length * 1000 := DA fun p _ => by
 split
 ·rw [List.getD_eq_getElem?_getD]
  cases e : g[(p.2 - 1).toNat]? with
  | none => exact Nat.zero_le _
  | some r => exact h r (List.mem_of_getElem? e)
 ·show 1 <= 1000; decide
theorem HO (W : Wd K B mg mb ad tk) : Sp prog w B ad 3 (.ref (ad "_law_filled")) Dc := by
 refine CI W (W.f_law_filled).2.2 ["body", "given"] ["found", "token"] (F := []) (M := []) (nil := .toks []) (by decide) rfl Bo Bo 40 (fun us os EX Kq t => ?_) (fun xs hl _ _ _ _ _ _ _ _ _ => ?_) (by decide +kernel) rfl rfl rfl (by decide +kernel)
 ·refine Cl t fun Bd r t1 => ?_
  refine Ai t1 fun r t2 => ?_
  refine AI t2 fun t3 => ?_
  refine B9 t3 fun P r t4 => ?_
  refine AI t4 fun t5 => ?_
  refine Gy t5 fun g z0 => ?_
  revert z0; refine Ak fun z1 t6 => ?_; revert z1; refine C9 fun h1 h2 h3 => ?_
  refine ⟨rfl, Eq.mpr (VM (EX := EX)) (J3 (MB Bd g) (fun p => if p.1 = 5 then g.getD (p.2 - 1).toNat [] else [p]) 1000000 2 (fun f t p => ⟨by kernel_rfl, rfl, rfl⟩) Bd [] none (fun p hp f Q hz q => ?_) (by have := MX (Bd := Bd) h2.2; show 0 + (DD g Bd).length <= _; omega) fun t => Eq.mpr (RR (EX := EX)) t6)⟩
  rw [Qw]
  refine Bu (fun h => ⟨?_, fun r hr => ?_⟩) fun h => ?_
  ·have := h1 p hp h; omega
  ·have := h1 p hp h
   rw [Bt (by omega)] at hr
   simp only [if_pos h, List.getD_eq_getElem?_getD, hr, Option.getD_some] at hz q
   exact ⟨by rw [List.length_append]; exact hz, q _ rfl⟩
  ·simp only [if_neg h] at hz q
   exact J6 (by decide) (by rw [List.length_append]; exact hz) (q _ rfl)
 ·refine HM (fun a b z0 => ?_) <| ex2 hl; obtain rfl := z0; exact BindsTo.of_eq rfl
noncomputable def Js (g : List AC) (f : AC) (t : Option AV) : St := ⟨[("rows", some (.ref 0)), ("found", some (.ref 1)), ("n", t)], [.lst (.tts g), .lst (.toks f)]⟩
noncomputable def Uh (EX : Aa -> Prop) := (V 38 (m0 EX 48 [])).b (BG (Bl (AB (st 48)) 1))
theorem Wx {Q : AV -> List AO -> Prop} : ((V 40 (m0 EX 48 [])).b (AB (st 48)) ⟨Az ["rows"] [.ref 0] ["found", "n"], [.lst (.tts g)]⟩ fun fl st' => AU 1 (Am fl) st'.objs Q) =
  ((-(g.length : Int) <= 0 /\ (0 : Int) < g.length) /\ ∀ r, g[AK 0 g.length]? = some r -> ((-1000000 <= (1 : Int) /\ (1 : Int) <= 1000000) /\ (-1000000 <= (g.length : Int) /\ (g.length : Int) <= 1000000)) /\
   FW (Uh EX) "n" none (fun v st => AU 1 v st.objs Q) (fun z => (V 38 (m0 EX 48 [])).b ((AB (st 48)).drop 2) z fun fl st' => AU 1 (Am fl) st'.objs Q) ((Aw 1 ((g.length : Int) - 1).toNat).map .int) (Js g r none)) := by kernel_rfl
theorem RG {n : Int} {Q : Fl -> St -> Prop} : Uh EX (Js g f (some (.int n))) Q =
  ((f ++ [((9 : Int), n)]).length <= 1000000 /\ (-(g.length : Int) <= n /\ n < g.length) /\ ∀ r, g[AK n g.length]? = some r -> (f ++ [((9 : Int), n)] ++ r).length <= 1000000 /\ Q .next (Js g (f ++ [((9 : Int), n)] ++ r) (some (.int n)))) := by kernel_rfl
theorem QP {t : Option AV} {Q : AV -> List AO -> Prop} : ((V 38 (m0 EX 48 [])).b ((AB (st 48)).drop 2) (Js g f t) fun fl st' => AU 1 (Am fl) st'.objs Q) = Q (.tup (.toks f)) [.lst (.tts g)] := by kernel_rfl
theorem Rv {KR : AV -> St -> Prop} {K : St -> Prop} (hg : ∀ r ∈ g, r.length <= 10) : ∀ (k n : Nat) (f : AC) (t : Option AV), n + k = g.length -> f.length + k * 11 <= 1000 -> (∀ t, K (Js g (f ++ AZ n (g.drop n)) t)) -> FW (Uh EX) "n" none KR K ((Aw n k).map .int) (Js g f t) := by
 intro k
 induction k with
 | zero =>
  intro n f t hn _ h
  have := h t
  rw [List.drop_eq_nil_of_le (by omega)] at this
  rwa [show f ++ AZ n [] = f from List.append_nil f] at this
 | succ k ih =>
  intro n f t hn hz h
  have hlt : n < g.length := by omega
  refine Br (Js g f (some (.int n))) (by kernel_rfl) rfl ?_
  rw [RG]
  have h1 : (f ++ [((9 : Int), (n : Int))]).length = f.length + 1 := List.length_append
  refine J6 (by omega) ⟨by omega, by omega⟩ (fun r hr => ?_)
  rw [Bt (by omega), Int.toNat_natCast] at hr
  have hrl := hg r (List.mem_of_getElem? hr)
  have h2 : (f ++ [((9 : Int), (n : Int))] ++ r).length = f.length + 1 + r.length := by rw [List.length_append, h1]
  refine ⟨by omega, ?_⟩
  have := ih (n + 1) (f ++ [((9 : Int), (n : Int))] ++ r) (some (.int n)) (by omega) (by omega) fun t => by
   have := h t
   rw [List.drop_eq_getElem_cons hlt] at this
   have e : g[n] = r := by rw [List.getElem?_eq_getElem hlt] at hr; exact Option.some.inj hr
   rw [e] at this
   show K (Js g (f ++ [((9 : Int), (n : Int))] ++ r ++ AZ (n + 1) (g.drop (n + 1))) t)
   rw [List.append_assoc, List.append_assoc]
   exact this
  exact this
theorem HX (W : Wd K B mg mb ad tk) : Sp prog w B ad 3 (.ref (ad "_law_parameters")) Dd := by
 refine CI W (W.f_law_parameters).2.2 ["rows"] ["found", "n"] (F := []) (M := []) (nil := .toks []) (by decide) rfl Bo Bo 40 (fun us os EX Kq t => ?_) (fun xs hl _ _ _ _ _ _ _ _ _ => ?_) (by decide +kernel) rfl rfl rfl (by decide +kernel)
 ·refine Ai t fun r t1 => ?_
  refine AI t1 fun t2 => ?_
  refine B9 t2 fun P r t3 => ?_
  refine AI t3 fun t4 => ?_
  refine Gy t4 fun g z0 => ?_
  revert z0; refine Ak fun z1 t5 => ?_; revert z1; refine C9 fun h1 h2 h3 => ?_
  have hp := List.length_pos_iff.mpr h2
  refine ⟨rfl, Eq.mpr (Wx (EX := EX)) ⟨⟨by omega, by omega⟩, fun r hr => ⟨⟨by omega, by omega⟩, ?_⟩⟩⟩
  rw [Bt (by omega)] at hr
  have hrl := h3 r (List.mem_of_getElem? hr)
  have e : g.headD [] = r := by
   cases g with
   | nil => cases hr
   | cons a l => exact Option.some.inj hr
  rw [e] at t5
  rw [show ((g.length : Int) - 1).toNat = g.length - 1 from Int.toNat_sub g.length 1]
  exact Rv h3 (g.length - 1) 1 r none (by omega) (by omega) fun t => Eq.mpr (QP (EX := EX)) t5
 ·refine Ap (fun a z0 => ?_) <| PA hl; obtain rfl := z0; exact BindsTo.of_eq rfl
end
section
variable {K : Frag} {B : Heap} {mg mb : Str -> Option Value} {ad : Str -> Addr} {tk : Str -> Tok} {prog : Program} {w : World} {EX : Aa -> Prop} {ps outs f Bd P : AC} {long : Bool} {g : List AC} {p : AN}
noncomputable def FT (P Bd f : AC) (t : Option AV) : St := ⟨[("parameters", some (.tup (.toks P))), ("body", some (.tup (.toks Bd))), ("found", some (.ref 0)), ("token", t)], [.lst (.toks f)]⟩
noncomputable def Yr (EX : Aa -> Prop) := (V 38 (m0 EX 49 [])).b (BG (Bl (AB (st 49)) 1))
noncomputable def JF (EX : Aa -> Prop) := (V 36 (m0 EX 49 [])).b (BG (Bl (AB (st 49)) 3))
def Jp (EX : Aa -> Prop) (Q : AV -> List AO -> Prop) (z : St) : Prop := (V 36 (m0 EX 49 [])).b ((AB (st 49)).drop 4) z fun fl st' => AU 0 (Am fl) st'.objs Q
def KG (Q : Fl -> St -> Prop) (P Bd f : AC) (p : AN) (l : AC) : Prop := (f ++ l).length <= 1000000 /\ Q .next ⟨(FT P Bd (f ++ l) (some (.tok p))).loc, [.lst (.toks (f ++ l)), .lst (.toks l)]⟩
theorem V8 {Q : AV -> List AO -> Prop} : ((V 40 (m0 EX 49 [])).b (AB (st 49)) ⟨Az ["parameters", "body"] [.tup (.toks P), .tup (.toks Bd)] ["found", "token"], []⟩ fun fl st' => AU 0 (Am fl) st'.objs Q) =
  FW (Yr EX) "token" none (fun v st => AU 0 v st.objs Q) (fun z => (V 38 (m0 EX 49 [])).b ((AB (st 49)).drop 2) z fun fl st' => AU 0 (Am fl) st'.objs Q) (P.map .tok) (FT P Bd [] none) := by kernel_rfl
theorem S8 {Q : Fl -> St -> Prop} : Yr EX (FT P Bd f (some (.tok p))) Q =
  br (decide (p.1 = 9)) (2 <= 1000000 /\ KG Q P Bd f p [Bm, (12, 48 + p.2)]) (br (decide (p = AX)) (2 <= 1000000 /\ KG Q P Bd f p [Bm, p]) (1 <= 1000000 /\ KG Q P Bd f p [p])) := by kernel_rfl
theorem Q2 {t : Option AV} {Q : AV -> List AO -> Prop} : ((V 38 (m0 EX 49 [])).b ((AB (st 49)).drop 2) (FT P Bd f t) fun fl st' => AU 0 (Am fl) st'.objs Q) =
  br (decide (P = [])) ((f ++ [AX]).length <= 1000000 /\ FW (JF EX) "token" none (fun v st => AU 0 v st.objs Q) (Jp EX Q) (Bd.map .tok) (FT P Bd (f ++ [AX]) t))
   ((-(P.length : Int) <= -1 /\ (-1 : Int) < P.length) /\ ∀ q, P[AK (-1) P.length]? = some q -> br (decide (q = AX)) (FW (JF EX) "token" none (fun v st => AU 0 v st.objs Q) (Jp EX Q) (Bd.map .tok) (FT P Bd f t))
    ((f ++ [AX]).length <= 1000000 /\ FW (JF EX) "token" none (fun v st => AU 0 v st.objs Q) (Jp EX Q) (Bd.map .tok) (FT P Bd (f ++ [AX]) t))) := by kernel_rfl
theorem Nr {Q : Fl -> St -> Prop} : JF EX (FT P Bd f (some (.tok p))) Q =
  br (decide (p.1 = 5)) (2 <= 1000000 /\ KG Q P Bd f p [Bm, (12, 48 + p.2)]) (br (decide (p.1 = 6)) (2 <= 1000000 /\ KG Q P Bd f p [Bm, p]) (1 <= 1000000 /\ KG Q P Bd f p [p])) := by kernel_rfl
theorem Sq {t : Option AV} {Q : AV -> List AO -> Prop} : Jp EX Q (FT P Bd f t) = (1 <= 1000000 /\ (f ++ [BM]).length <= 1000000 /\ Q (.ref 0) [.lst (.toks (f ++ [BM]))]) := by kernel_rfl
theorem Nn : (P.flatMap BN).length <= P.length * 2 := DA fun p _ => by
 unfold BN; split
 ·exact Nat.le_refl _
 ·split
  ·exact Nat.le_refl _
  ·show 1 <= 2; decide
theorem Jz : (P.flatMap A5).length <= P.length * 2 := DA fun p _ => by
 unfold A5; split
 ·exact Nat.le_refl _
 ·split
  ·exact Nat.le_refl _
  ·show 1 <= 2; decide
theorem EG {Q : Fl -> St -> Prop} {l : AC} (hz : f.length + l.length <= 1000000) (q : ∀ st2, gc 1 st2 = FT P Bd (f ++ l) (some (.tok p)) -> Q .next st2) : KG Q P Bd f p l := ⟨by rw [List.length_append]; exact hz, q _ rfl⟩
theorem KJ (W : Wd K B mg mb ad tk) : Sp prog w B ad 3 (.ref (ad "_law_written")) Fa := by
 refine CI W (W.f_law_written).2.2 ["parameters", "body"] ["found", "token"] (F := []) (M := []) (nil := .toks []) (by decide) rfl Bo Bo 40 (fun us os EX Kq t => ?_) (fun xs hl _ _ _ _ _ _ _ _ _ => ?_) (by decide +kernel) rfl rfl rfl (by decide +kernel)
 ·refine Cl t fun P r t1 => ?_
  refine Cl t1 fun Bd r t2 => ?_
  refine AI t2 fun t3 => ?_
  refine AI t3 fun z0 => ?_
  revert z0; refine Ak fun z1 t4 => ?_; revert z1; refine Ak fun h1 h2 => ?_
  have hp := Nn (P := P)
  have hb := Jz (P := Bd)
  refine ⟨rfl, Eq.mpr (V8 (EX := EX)) (J3 (FT P Bd) BN 1000000 1 (fun f t p => ⟨by kernel_rfl, rfl, rfl⟩) P [] none (fun p _ f Q hz q => ?_) (by show 0 + _ <= _; omega) fun t => Eq.mpr (Q2 (EX := EX)) ?_)⟩
  ·rw [S8]
   unfold BN at hz q
   refine Bu (fun h => ⟨by decide, ?_⟩) fun h => Bu (fun h2 => ⟨by decide, ?_⟩) fun h2 => ⟨by decide, ?_⟩
   ·rw [if_pos h] at hz q; exact EG hz q
   ·rw [if_neg h, if_pos h2] at hz q; exact EG hz q
   ·rw [if_neg h, if_neg h2] at hz q; exact EG hz q
  ·have body : ∀ (x : AC) (t : Option AV), x.length <= 401 -> Kq (.ref 0) [.lst (.toks (x ++ Bd.flatMap A5 ++ [BM]))] -> FW (JF EX) "token" none (fun v st => AU 0 v st.objs Kq) (Jp EX Kq) (Bd.map .tok) (FT P Bd x t) := fun x t hx k => by
    have hl : (x ++ Bd.flatMap A5).length = x.length + (Bd.flatMap A5).length := List.length_append
    refine J3 (FT P Bd) A5 1000000 1 (fun f t p => ⟨by kernel_rfl, rfl, rfl⟩) Bd x t (fun p _ f Q hz q => ?_) (by omega) fun t => Eq.mpr Sq ⟨by decide, by rw [List.length_append, hl]; show _ + 1 <= _; omega, k⟩
    rw [Nr]
    unfold A5 at hz q
    refine Bu (fun h => ⟨by decide, ?_⟩) fun h => Bu (fun h2 => ⟨by decide, ?_⟩) fun h2 => ⟨by decide, ?_⟩
    ·rw [if_pos h] at hz q; exact EG hz q
    ·rw [if_neg h, if_pos h2] at hz q; exact EG hz q
    ·rw [if_neg h, if_neg h2] at hz q; exact EG hz q
   have h1' : ([] ++ P.flatMap BN ++ [AX]).length = (P.flatMap BN).length + 1 := by rw [List.length_append, List.nil_append]; rfl
   unfold DN at t4
   refine Bu (fun h => ⟨by omega, body _ _ (by omega) ?_⟩) fun h => ⟨KH h, fun q hq => Bu (fun h3 => body _ _ (by rw [List.nil_append]; omega) ?_) fun h3 => ⟨by omega, body _ _ (by omega) ?_⟩⟩
   ·rw [if_pos (.inl h)] at t4; exact t4
   ·rw [if_neg (fun z => z.elim h fun z => z (by rw [EL hq, h3])), List.append_nil] at t4; exact t4
   ·rw [if_pos (.inr (by rw [EL hq]; exact fun z => h3 (Option.some.inj z)))] at t4; exact t4
 ·refine HM (fun a b z0 => ?_) <| ex2 hl; obtain rfl := z0; exact BindsTo.of_eq rfl
noncomputable def TP (b : Int) : CT := fun us os EX K => BF 0 us fun us => EQ us fun m us => EQ us fun l us => Ab us <| GN os fun n os => Ab os <| ((0 <= m /\ m <= 4) /\ (b <= l /\ l <= 3) /\ m.toNat * A1 l <= n) /\ ∀ (n1 : Nat) (f : AC), n <= n1 + m.toNat * A1 l -> f.length <= m.toNat * A1 l -> (∀ p ∈ f, B3 p = true) -> K (.ref 1) [.src n1, .lst (.toks f)]
noncomputable def QS (b : Int) (EX : Aa -> Prop) : Gm := m0 EX 45 [("_law_take", CD), ("_law_pieces", TP (b + 1))]
noncomputable def H6 (n : Nat) (m l : Int) (f : AC) (k w : Option AV) : St := ⟨[("source", some (.ref 0)), ("many", some (.int m)), ("level", some (.int l)), ("found", some (.ref 1)), ("k", k), ("way", w)], [.src n, .lst (.toks f)]⟩
noncomputable def O3 (b : Int) (EX : Aa -> Prop) := (V 38 (QS b EX)).b (BG (Bl (AB (st 45)) 1))
noncomputable def Xe : AC := [(11, 97), (11, 98), (11, 99), (0, 3), (10, 32), (11, 97), (11, 98)]
def V9 (Q : Fl -> St -> Prop) (n : Nat) (m l : Int) (f : AC) (k : Option AV) (d : Int) : Prop := 7 <= 1000 /\ (0 <= d /\ d < (7 : Nat)) /\ ∀ p, Xe[d.toNat]? = some p -> (f ++ [p]).length <= 1000000 /\ Q .next (H6 (n - 1) m l (f ++ [p]) k (some (.int d)))
def Zz (b : Int) (Q : Fl -> St -> Prop) (n : Nat) (m l : Int) (f : AC) (k : Option AV) (d : Int) : Prop := 1 <= 1000000 /\ (1 <= n - 1 /\ (1 : Int) <= 3 /\ (3 : Int) <= 1000) /\ ∀ e : Int, 0 <= e -> e < 3 -> ((0 <= e /\ e <= 4) /\ (b + 1 <= l + 1 /\ l + 1 <= 3) /\ e.toNat * A1 (l + 1) <= n - 1 - 1) /\ ∀ (n1 : Nat) (h : AC), n - 1 - 1 <= n1 + e.toNat * A1 (l + 1) -> h.length <= e.toNat * A1 (l + 1) -> (∀ p ∈ h, B3 p = true) ->
 ([((1 : Int), (123 : Int))] ++ h).length <= 1000000 /\ 1 <= 1000000 /\ ([((1 : Int), (123 : Int))] ++ h ++ [((2 : Int), (125 : Int))]).length <= 1000000 /\ (f ++ ([((1 : Int), (123 : Int))] ++ h ++ [((2 : Int), (125 : Int))])).length <= 1000000 /\
  Q .next ⟨(H6 n1 m l (f ++ ([(1, 123)] ++ h ++ [(2, 125)])) k (some (.int d))).loc, [.src n1, .lst (.toks (f ++ ([(1, 123)] ++ h ++ [(2, 125)]))), .lst (.toks [(1, 123)]), .lst (.toks h), .lst (.toks ([(1, 123)] ++ h)), .lst (.toks [(2, 125)]), .lst (.toks ([(1, 123)] ++ h ++ [(2, 125)]))]⟩
theorem UW {b : Int} {n : Nat} {m l : Int} {Q : AV -> List AO -> Prop} : ((V 40 (QS b EX)).b (AB (st 45)) ⟨Az ["source", "many", "level"] [.ref 0, .int m, .int l] ["found", "k", "way"], [.src n]⟩ fun fl st' => AU 1 (Am fl) st'.objs Q) =
  (((-1000000 <= (0 : Int) /\ (0 : Int) <= 1000000) /\ (-1000000 <= m /\ m <= 1000000)) /\ FW (O3 b EX) "k" none (fun v st => AU 1 v st.objs Q) (fun z => (V 38 (QS b EX)).b ((AB (st 45)).drop 2) z fun fl st' => AU 1 (Am fl) st'.objs Q) ((Aw 0 (m - 0).toNat).map .int) (H6 n m l [] none none)) := by kernel_rfl
theorem SZ {b : Int} {n : Nat} {m l k : Int} {w : Option AV} {Q : Fl -> St -> Prop} : O3 b EX (H6 n m l f (some (.int k)) w) Q =
  ((1 <= n /\ (1 : Int) <= 7 /\ (7 : Int) <= 1000) /\ ∀ d : Int, 0 <= d -> d < 7 -> br (decide (d < 6)) (V9 Q n m l f (some (.int k)) d) (br (decide (2 < l)) (V9 Q n m l f (some (.int k)) d) (Zz b Q n m l f (some (.int k)) d))) := by kernel_rfl
theorem RW {b : Int} {n : Nat} {m l : Int} {k w : Option AV} {Q : AV -> List AO -> Prop} : ((V 38 (QS b EX)).b ((AB (st 45)).drop 2) (H6 n m l f k w) fun fl st' => AU 1 (Am fl) st'.objs Q) = Q (.ref 1) [.src n, .lst (.toks f)] := by kernel_rfl
theorem B2 {f g : AC} {Z : AN -> Bool} (h : ∀ p ∈ f, Z p = true) (k : ∀ p ∈ g, Z p = true) : ∀ p ∈ f ++ g, Z p = true := fun p m => (List.mem_append.mp m).elim (h p) (k p)
theorem Q8 {b : Int} {m l : Int} (hl : b <= l /\ l <= 3) (hb : 0 <= b) {KR : AV -> St -> Prop} {K : St -> Prop} : ∀ (j : Nat) (i : Int) (n : Nat) (f : AC) (k w : Option AV), j * A1 l <= n -> f.length + j * A1 l <= 1000 -> (∀ p ∈ f, B3 p = true) ->
  (∀ n1 f', n <= n1 + j * A1 l -> f'.length <= f.length + j * A1 l -> (∀ p ∈ f', B3 p = true) -> ∀ k w, K (H6 n1 m l f' k w)) -> FW (O3 b EX) "k" none KR K ((Aw i j).map .int) (H6 n m l f k w) := by
 intro j
 induction j with
 | zero => exact fun i n f k w _ _ ho h => h n f (by omega) (by omega) ho k w
 | succ j ih =>
  intro i n f k w hn hz ho h
  rw [Nat.succ_mul] at hn hz h
  have hc : 1 <= A1 l := by unfold A1; split <;> (try split) <;> (try split) <;> decide
  refine Br (H6 n m l f (some (.int i)) w) (by kernel_rfl) rfl ?_
  rw [SZ]
  refine ⟨⟨by omega, by decide, by decide⟩, fun d h0 h1 => ?_⟩
  have next : ∀ (n1 : Nat) (x : AC), n <= n1 + A1 l -> x.length <= A1 l -> (∀ p ∈ x, B3 p = true) -> FW (O3 b EX) "k" none KR K ((Aw (i + 1) j).map .int) (H6 n1 m l (f ++ x) (some (.int i)) (some (.int d))) := fun n1 x a c e => by
   have hlx : (f ++ x).length = f.length + x.length := List.length_append
   exact ih (i + 1) n1 (f ++ x) _ _ (by omega) (by omega) (B2 ho e) fun n2 f' a2 b2 => h n2 f' (by omega) (by omega)
  have one : V9 (fun fl st2 => match fl with | .next => FW (O3 b EX) "k" none KR K ((Aw (i + 1) j).map .int) (gc 2 st2) | .ret w => KR w st2) n m l f (some (.int i)) d :=
   ⟨by decide, ⟨h0, h1⟩, fun p hp => ⟨by rw [List.length_append]; show _ + 1 <= _; omega, next (n - 1) [p] (by omega) hc fun q mq => by
    rw [List.mem_singleton.mp mq]
    exact (show ∀ p ∈ Xe, B3 p = true by decide) p (List.mem_of_getElem? hp)⟩⟩
  refine Bu (fun _ => one) fun h6 => Bu (fun _ => one) fun h2 => ?_
  have e2 : A1 l = 2 + 2 * A1 (l + 1) := by
   have : l = 0 \/ l = 1 \/ l = 2 := by omega
   rcases this with rfl | rfl | rfl <;> decide
  refine J6 (by decide) ⟨by omega, by decide, by decide⟩ (fun e e0 e3 => ?_)
  have em : e.toNat * A1 (l + 1) <= 2 * A1 (l + 1) := Nat.mul_le_mul_right _ (by omega)
  refine ⟨⟨⟨by omega, by omega⟩, ⟨by omega, by omega⟩, by omega⟩, fun n1 x a c o => ?_⟩
  have l1 : ([((1 : Int), (123 : Int))] ++ x).length = 1 + x.length := List.length_append
  have l2 : ([((1 : Int), (123 : Int))] ++ x ++ [((2 : Int), (125 : Int))]).length = 1 + x.length + 1 := by rw [List.length_append, l1]; rfl
  exact bU (by omega) (by decide) (by omega) (by rw [List.length_append, l2]; omega) (next n1 _ (by omega) (by omega) (B2 (B2 (fun p m => by rw [List.mem_singleton.mp m]; decide) o) fun p m => by rw [List.mem_singleton.mp m]; decide))
theorem Tx (W : Wd K B mg mb ad tk) : ∀ j : Nat, j <= 4 -> Sp prog w B ad (2 + j) (.ref (ad "_law_pieces")) (TP (4 - j))
 | 0, _ => fun us os h xs EX Kq hB hok hdis hnb cvs t => by
  refine Ai t fun r t1 => ?_
  refine CZ t1 fun m r t2 => ?_
  refine CZ t2 fun l r t3 => ?_
  refine AI t3 fun t4 => ?_
  refine ET (fun n r e t5 => ?_) <| Ot t4
  refine AI t5 fun z0 => ?_
  revert z0; refine Ak fun z1 _ => ?_; revert z1; refine C9 fun _ hl _ => ?_
  omega
 | j + 1, hj => by
  have ih := Tx W j (by omega)
  have e : ((4 - (j : Int))) = (4 - ((j + 1 : Nat) : Int)) + 1 := by omega
  rw [e] at ih
  have hb : 0 <= (4 - ((j + 1 : Nat) : Int)) := by omega
  generalize (4 - ((j + 1 : Nat) : Int)) = b at *
  refine CI W (W.f_law_pieces).2.2 ["source", "many", "level"] ["found", "k", "way"] (F := [("_law_take", CD), ("_law_pieces", TP (b + 1))]) (M := []) (nil := .toks []) (by omega) rfl
   (BX ⟨(W.f_law_take).1, (W.f_law_take).2.1, (EJ W).mono (by omega)⟩ (BX ⟨(W.f_law_pieces).1, (W.f_law_pieces).2.1, ih⟩ Bo)) Bo 40 (fun us os EX Kq t => ?_) (fun xs hl _ _ _ _ _ _ _ _ _ => ?_) (by decide +kernel) rfl rfl rfl (by decide +kernel)
  ·refine Ai t fun r t1 => ?_
   refine CZ t1 fun m r t2 => ?_
   refine CZ t2 fun l r t3 => ?_
   refine AI t3 fun t4 => ?_
   refine EB t4 fun n r t5 => ?_
   refine AI t5 fun z0 => ?_
   revert z0; refine Ak fun z1 t6 => ?_; revert z1; refine C9 fun hm hl hn => ?_
   have hc : A1 l <= 22 := by unfold A1; split <;> (try split) <;> (try split) <;> decide
   have hmc : m.toNat * A1 l <= 4 * 22 := Nat.mul_le_mul (by omega) hc
   refine ⟨rfl, Eq.mpr (UW (EX := EX) (b := b)) ⟨⟨by omega, by omega⟩, ?_⟩⟩
   rw [Int.sub_zero]
   exact Q8 hl hb m.toNat 0 n [] none none hn (by show 0 + _ <= _; omega) Bo fun n1 f' a c o k w => Eq.mpr (RW (EX := EX) (b := b)) (t6 n1 f' a (by rw [List.length_nil] at c; omega) o)
  ·refine UG (fun a b c z0 => ?_) <| W5 hl; obtain rfl := z0; exact BindsTo.of_eq rfl
theorem MK (W : Wd K B mg mb ad tk) : Sp prog w B ad 6 (.ref (ad "_law_pieces")) Gz := Tx W 4 (by decide)
end
section
variable {K : Frag} {B : Heap} {mg mb : Str -> Option Value} {ad : Str -> Addr} {tk : Str -> Tok} {prog : Program} {w : World} {EX : Aa -> Prop} {ps outs f Bd P : AC} {long : Bool} {g : List AC} {p : AN}
noncomputable def Q9 (EX : Aa -> Prop) : Gm := m0 EX 47 [("_law_take", CD)]
noncomputable def HN (n : Nat) (c : Int) (f : AC) (k w : Option AV) : St := ⟨[("source", some (.ref 0)), ("count", some (.int c)), ("found", some (.ref 1)), ("k", k), ("way", w)], [.src n, .lst (.toks f)]⟩
noncomputable def Ps (EX : Aa -> Prop) := (V 38 (Q9 EX)).b (BG (Bl (AB (st 47)) 1))
noncomputable def Xc : AC := [(11, 97), (0, 1), (11, 99), (6, 64), (11, 97), (0, 3)]
def Uu (Q : Fl -> St -> Prop) (n : Nat) (c : Int) (f : AC) (k : Option AV) (d : Int) : Prop := br (decide (d = 4))
 (3 <= 1000000 /\ (f ++ [((1 : Int), (123 : Int)), (11, 98), (2, 125)]).length <= 1000000 /\ Q .next ⟨(HN (n - 1) c (f ++ [(1, 123), (11, 98), (2, 125)]) k (some (.int d))).loc, [.src (n - 1), .lst (.toks (f ++ [(1, 123), (11, 98), (2, 125)])), .lst (.toks [(1, 123), (11, 98), (2, 125)])]⟩)
 (6 <= 1000 /\ (0 <= d /\ d < (6 : Nat)) /\ ∀ p, Xc[d.toNat]? = some p -> (f ++ [p]).length <= 1000000 /\ Q .next (HN (n - 1) c (f ++ [p]) k (some (.int d))))
theorem WT {n : Nat} {c : Int} {Q : AV -> List AO -> Prop} : ((V 40 (Q9 EX)).b (AB (st 47)) ⟨Az ["source", "count"] [.ref 0, .int c] ["found", "k", "way"], [.src n]⟩ fun fl st' => AU 1 (Am fl) st'.objs Q) =
  ((1 <= n /\ (1 : Int) <= 6 /\ (6 : Int) <= 1000) /\ ∀ d : Int, 0 <= d -> d < 6 -> ((-1000000 <= (0 : Int) /\ (0 : Int) <= 1000000) /\ (-1000000 <= d /\ d <= 1000000)) /\ FW (Ps EX) "k" none (fun v st => AU 1 v st.objs Q) (fun z => (V 38 (Q9 EX)).b ((AB (st 47)).drop 2) z fun fl st' => AU 1 (Am fl) st'.objs Q) ((Aw 0 (d - 0).toNat).map .int) (HN (n - 1) c [] none none)) := by kernel_rfl
theorem Qa {n : Nat} {c k : Int} {w : Option AV} {Q : Fl -> St -> Prop} : Ps EX (HN n c f (some (.int k)) w) Q =
  ((1 <= n /\ (1 : Int) <= 6 /\ (6 : Int) <= 1000) /\ ∀ d : Int, 0 <= d -> d < 6 -> br (decide (d < 3)) (br (decide (0 < c))
   ((1 <= n - 1 /\ (1 : Int) <= c /\ c <= 1000) /\ ∀ e : Int, 0 <= e -> e < c -> (f ++ [((5 : Int), 1 + e)]).length <= 1000000 /\ Q .next (HN (n - 1 - 1) c (f ++ [(5, 1 + e)]) (some (.int k)) (some (.int d))))
   (Uu Q n c f (some (.int k)) d)) (Uu Q n c f (some (.int k)) d)) := by kernel_rfl
theorem RJ {n : Nat} {c : Int} {k w : Option AV} {Q : AV -> List AO -> Prop} : ((V 38 (Q9 EX)).b ((AB (st 47)).drop 2) (HN n c f k w) fun fl st' => AU 1 (Am fl) st'.objs Q) = Q (.tup (.toks f)) [.src n] := by kernel_rfl
theorem QU {c : Int} {b : AC} (h : QB c b) : b.length <= 3 := by
 rcases h with ⟨k, rfl, _⟩ | rfl | ⟨p, _, rfl⟩
 ·show 1 <= 3; decide
 ·decide
 ·show 1 <= 3; decide
theorem Sh {c : Int} (hc : 0 <= c /\ c <= 3) {KR : AV -> St -> Prop} {K : St -> Prop} : ∀ (j : Nat) (i : Int) (n : Nat) (bs : List AC) (k w : Option AV), j * 2 <= n -> bs.length + j <= 5 -> bs.flatten.length <= bs.length * 3 -> (∀ b ∈ bs, QB c b) ->
  (∀ n1 (bs' : List AC), n <= n1 + j * 2 -> bs'.length <= 5 -> (∀ b ∈ bs', QB c b) -> ∀ k w, K (HN n1 c bs'.flatten k w)) -> FW (Ps EX) "k" none KR K ((Aw i j).map .int) (HN n c bs.flatten k w) := by
 intro j
 induction j with
 | zero => exact fun i n bs k w _ hz _ ho h => h n bs (by omega) (by omega) ho k w
 | succ j ih =>
  intro i n bs k w hn hz hl ho h
  refine Br (HN n c bs.flatten (some (.int i)) w) (by kernel_rfl) rfl ?_
  rw [Qa]
  refine ⟨⟨by omega, by decide, by decide⟩, fun d h0 h1 => ?_⟩
  have next : ∀ (n1 : Nat) (b : AC), n <= n1 + 2 -> QB c b -> FW (Ps EX) "k" none KR K ((Aw (i + 1) j).map .int) (HN n1 c (bs.flatten ++ b) (some (.int i)) (some (.int d))) := fun n1 b a hb => by
   have := QU hb
   have e : bs.flatten ++ b = (bs ++ [b]).flatten := by rw [List.flatten_append, List.flatten_cons, List.flatten_nil, List.append_nil]
   have hl2 : (bs ++ [b]).length = bs.length + 1 := List.length_append
   rw [e]
   refine ih (i + 1) n1 (bs ++ [b]) _ _ (by omega) (by omega) (by rw [<- e, List.length_append]; omega) (fun x m => (List.mem_append.mp m).elim (ho x) fun m => by rw [List.mem_singleton.mp m]; exact hb) fun n2 f' a2 b2 => h n2 f' (by omega) (by omega)
  have hX : ¬ (d < 3 /\ 0 < c) -> Uu (fun fl st2 => match fl with | .next => FW (Ps EX) "k" none KR K ((Aw (i + 1) j).map .int) (gc 2 st2) | .ret w => KR w st2) n c bs.flatten (some (.int i)) d := fun _ => by
   refine Bu (fun _ => ⟨by decide, by rw [List.length_append]; show _ + 3 <= _; omega, next (n - 1) [AX, (11, 98), BM] (by omega) (.inr (.inl rfl))⟩) fun h4 => ⟨by decide, ⟨h0, h1⟩, fun p hp => ⟨by rw [List.length_append]; show _ + 1 <= _; omega, next (n - 1) [p] (by omega) (.inr (.inr ⟨p, ?_, rfl⟩))⟩⟩
   exact (show ∀ p ∈ Xc, p ∈ ([(11, 97), A3, (11, 99), (6, 64), (0, 3)] : AC) by decide) p (List.mem_of_getElem? hp)
  refine Bu (fun h3 => Bu (fun hc0 => ⟨⟨by omega, by omega, by omega⟩, fun e e0 e1 => ⟨by rw [List.length_append]; show _ + 1 <= _; omega, next (n - 1 - 1) [(5, 1 + e)] (by omega) (.inl ⟨1 + e, rfl, by omega, by omega⟩)⟩⟩) fun hc0 => hX fun z => hc0 z.2) fun h3 => hX fun z => h3 z.1
theorem SS (W : Wd K B mg mb ad tk) : Sp prog w B ad 3 (.ref (ad "_law_body")) KA := by
 refine CI W (W.f_law_body).2.2 ["source", "count"] ["found", "k", "way"] (F := [("_law_take", CD)]) (M := []) (nil := .toks []) (by decide) rfl
  (BX ⟨(W.f_law_take).1, (W.f_law_take).2.1, (EJ W).mono (by decide)⟩ Bo) Bo 40 (fun us os EX Kq t => ?_) (fun xs hl _ _ _ _ _ _ _ _ _ => ?_) (by decide +kernel) rfl rfl rfl (by decide +kernel)
 ·refine Ai t fun r t1 => ?_
  refine CZ t1 fun c r t2 => ?_
  refine AI t2 fun t3 => ?_
  refine EB t3 fun n r t4 => ?_
  refine AI t4 fun z0 => ?_
  revert z0; refine Ak fun z1 t5 => ?_; revert z1; refine Ak fun hc hn => ?_
  refine ⟨rfl, Eq.mpr (WT (EX := EX)) ⟨⟨by omega, by decide, by decide⟩, fun d h0 h1 => ⟨⟨by omega, by omega⟩, ?_⟩⟩⟩
  exact Sh hc _ 0 (n - 1) [] none none (by omega) (by show 0 + _ <= _; omega) (Nat.le_refl _) (fun _ m => nomatch m) fun n1 bs a b o k w => Eq.mpr (RJ (EX := EX)) (t5 n1 bs (by omega) b o)
 ·refine HM (fun a b z0 => ?_) <| ex2 hl; obtain rfl := z0; exact BindsTo.of_eq rfl
end
section
variable {K : Frag} {B : Heap} {mg mb : Str -> Option Value} {ad : Str -> Addr} {tk : Str -> Tok} {prog : Program} {w : World} {EX : Aa -> Prop} {ps outs f Bd P r : AC} {long : Bool} {g g1 : List AC} {p : AN}
noncomputable def VR (EX : Aa -> Prop) : Gm := m0 EX 50 [("_law_take", CD), ("_law_pieces", Gz)]
noncomputable def JJ (n : Nat) (g : List AC) (f : AC) (r : Option AV) : St := ⟨[("source", some (.ref 0)), ("rows", some (.ref 1)), ("found", some (.ref 2)), ("row", r), ("way", none), ("spot", none)], [.src n, .lst (.tts g), .lst (.toks f), .lst (.tts (AY (some 1) none g))]⟩
noncomputable def Sk (EX : Aa -> Prop) := (V 38 (VR EX)).b (BG (Bl (AB (st 50)) 1))
def X1 (EX : Aa -> Prop) (Q : AV -> List AO -> Prop) (z : St) : Prop := (V 38 (VR EX)).b ((AB (st 50)).drop 2) z fun fl st' => AU 2 (Am fl) st'.objs Q
def V7 (Q : Fl -> St -> Prop) (n1 : Nat) (g : List AC) (f x : AC) (r : AC) (l : List AO) : Prop := (f ++ x).length <= 1000000 /\ Q .next ⟨(JJ n1 g (f ++ x) (some (.tup (.toks r)))).loc, (JJ n1 g (f ++ x) none).objs ++ l⟩
theorem U3 {n : Nat} {Q : AV -> List AO -> Prop} : ((V 40 (VR EX)).b (AB (st 50)) ⟨Az ["source", "rows"] [.ref 0, .ref 1] ["found", "row", "way", "spot"], [.src n, .lst (.tts g)]⟩ fun fl st' => AU 2 (Am fl) st'.objs Q) =
  ((-(g.length : Int) <= 0 /\ (0 : Int) < g.length) /\ ∀ r, g[AK 0 g.length]? = some r -> FW (Sk EX) "row" (some (3, .tts (AY (some 1) none g))) (fun v st => AU 2 v st.objs Q) (X1 EX Q) ((AY (some 1) none g).map fun r => .tup (.toks r)) (JJ n g r none)) := by kernel_rfl
theorem QJ {n : Nat} {Q : Fl -> St -> Prop} : Sk EX (JJ n g f (some (.tup (.toks r)))) Q =
  br (decide (r = [])) (1 <= 1000000 /\ (1 <= n /\ (1 : Int) <= 2 /\ (2 : Int) <= 1000) /\ ∀ d : Int, 0 <= d -> d < 2 -> 0 <= d /\ d <= 1000 /\ 1 <= 1000 /\ (List.replicate d.toNat [((10 : Int), (32 : Int))]).flatten.length <= 1000000 /\
    (((0 : Int) <= 1 /\ (1 : Int) <= 4) /\ ((0 : Int) <= 0 /\ (0 : Int) <= 3) /\ Int.toNat 1 * A1 0 <= n - 1) /\ ∀ (n1 : Nat) (h : AC), n - 1 <= n1 + Int.toNat 1 * A1 0 -> h.length <= Int.toNat 1 * A1 0 -> (∀ p ∈ h, B3 p = true) ->
     ((List.replicate d.toNat [((10 : Int), (32 : Int))]).flatten ++ h).length <= 1000000 /\ V7 Q n1 g f ((List.replicate d.toNat [(10, 32)]).flatten ++ h) r [.lst (.toks [(10, 32)]), .lst (.toks (List.replicate d.toNat [(10, 32)]).flatten), .lst (.toks h), .lst (.toks ((List.replicate d.toNat [(10, 32)]).flatten ++ h))])
   ((1 <= n /\ (1 : Int) <= 5 /\ (5 : Int) <= 1000) /\ ∀ d : Int, 0 <= d -> d < 5 -> ((0 <= d /\ d <= 4) /\ ((0 : Int) <= 0 /\ (0 : Int) <= 3) /\ d.toNat * A1 0 <= n - 1) /\ ∀ (n1 : Nat) (h : AC), n - 1 <= n1 + d.toNat * A1 0 -> h.length <= d.toNat * A1 0 -> (∀ p ∈ h, B3 p = true) ->
     (h ++ r).length <= 1000000 /\ V7 Q n1 g f (h ++ r) r [.lst (.toks h), .lst (.toks r), .lst (.toks (h ++ r))]) := by kernel_rfl
noncomputable def Xm : AC := [(0, 1), (0, 9), (2, 125), (1, 123)]
theorem Q0 {n : Nat} {r : Option AV} {Q : AV -> List AO -> Prop} : X1 EX Q (JJ n g f r) =
  ((1 <= n /\ (1 : Int) <= 4 /\ (4 : Int) <= 1000) /\ ∀ d : Int, 0 <= d -> d < 4 -> ((0 <= d /\ d <= 4) /\ ((0 : Int) <= 0 /\ (0 : Int) <= 3) /\ d.toNat * A1 0 <= n - 1) /\ ∀ (n1 : Nat) (h : AC), n - 1 <= n1 + d.toNat * A1 0 -> h.length <= d.toNat * A1 0 -> (∀ p ∈ h, B3 p = true) ->
   (f ++ h).length <= 1000000 /\ (1 <= n1 /\ (1 : Int) <= 12 /\ (12 : Int) <= 1000) /\ ∀ d1 : Int, 0 <= d1 -> d1 < 12 -> (1 <= n1 - 1 /\ 1 <= ((f ++ h).length : Int) + 1 /\ ((f ++ h).length : Int) + 1 <= 1000) /\ ∀ d2 : Int, 0 <= d2 -> d2 < ((f ++ h).length : Int) + 1 ->
    br (decide (d1 = 4)) (Q (.ref 2) [.src (n1 - 1 - 1), .lst (.tts g), .lst (.toks (AY none (some d2) (f ++ h)))])
     (br (decide (d1 < 4)) (4 <= 1000 /\ (0 <= d1 /\ d1 < (4 : Nat)) /\ ∀ p, Xm[d1.toNat]? = some p -> 1 <= 1000000 /\ (AY none (some d2) (f ++ h) ++ [p]).length <= 1000000 /\ (AY none (some d2) (f ++ h) ++ [p] ++ AY (some d2) none (f ++ h)).length <= 1000000 /\
      Q (.ref 2) [.src (n1 - 1 - 1), .lst (.tts g), .lst (.toks (AY none (some d2) (f ++ h) ++ [p] ++ AY (some d2) none (f ++ h)))])
     (Q (.ref 2) [.src (n1 - 1 - 1), .lst (.tts g), .lst (.toks (f ++ h))]))) := by kernel_rfl
theorem Q7 (d : Nat) : (List.replicate d [((10 : Int), (32 : Int))]).flatten.length = d := by
 rw [List.length_flatten, List.map_replicate]
 induction d with
 | zero => rfl
 | succ n ih => rw [List.replicate_succ, List.sum_cons, ih]; show 1 + n = n + 1; omega
theorem Wn (d : Nat) : ∀ p ∈ (List.replicate d [((10 : Int), (32 : Int))]).flatten, B3 p = true := fun p m => by
 refine Ah (fun l m1 m2 => ?_) <| List.mem_flatten.mp m
 rw [(List.mem_replicate.mp m1).2] at m2
 rw [List.mem_singleton.mp m2]; decide
theorem QO {KR : AV -> St -> Prop} {K : St -> Prop} : ∀ (l : List AC) (n : Nat) (f : AC) (t : Option AV), l.length * 89 <= n -> f.length + l.length * 92 <= 1000 -> (∀ p ∈ f, B3 p = true) -> (∀ r ∈ l, r.length <= 4) -> (∀ r ∈ l, ∀ p ∈ r, B3 p = true) ->
  (∀ n1 f' t, n <= n1 + l.length * 89 -> f'.length <= f.length + l.length * 92 -> (∀ p ∈ f', B3 p = true) -> K (JJ n1 g f' t)) -> FW (Sk EX) "row" (some (3, .tts (AY (some 1) none g))) KR K (l.map fun r => .tup (.toks r)) (JJ n g f t) := by
 intro l
 induction l with
 | nil => exact fun n f t _ _ ho _ _ h => h n f t (by omega) (by omega) ho
 | cons r l ih =>
  intro n f t hn hz ho hr hk h
  rw [List.length_cons] at hn hz h
  refine Br (JJ n g f (some (.tup (.toks r)))) (by kernel_rfl) rfl ?_
  rw [QJ]
  have hr0 := hr r (.head _)
  have c0 : A1 0 = 22 := rfl
  have i1 : Int.toNat 1 * A1 0 = 22 := rfl
  have next : ∀ (n1 : Nat) (x : AC) (ll : List AO), n <= n1 + 89 -> x.length <= 92 -> (∀ p ∈ x, B3 p = true) -> V7 (fun fl st2 => match fl with | .next => chk (some (3, .tts (AY (some 1) none g))) st2 (FW (Sk EX) "row" (some (3, .tts (AY (some 1) none g))) KR K (l.map fun r => .tup (.toks r)) (gc 4 st2)) | .ret w => KR w st2) n1 g f x r ll := fun n1 x ll a c e => by
   have hlx : (f ++ x).length = f.length + x.length := List.length_append
   exact J6 (by omega) rfl (ih n1 (f ++ x) _ (by omega) (by omega) (B2 ho e) (fun r m => hr r (.tail _ m)) (fun r m => hk r (.tail _ m)) fun n2 f' t a2 b2 => h n2 f' t (by omega) (by omega))
  refine Bu (fun h1 => ⟨by decide, ⟨by omega, by decide, by decide⟩, fun d d0 d1 => ?_⟩) fun h1 => ⟨⟨by omega, by decide, by decide⟩, fun d d0 d1 => ?_⟩
  ·have hrep := Q7 d.toNat
   refine ZV d0 (by omega) (by decide) (by omega) ⟨by decide, by decide, by omega⟩ (fun n1 x a c e => ?_)
   have hl : ((List.replicate d.toNat [((10 : Int), (32 : Int))]).flatten ++ x).length = d.toNat + x.length := by rw [List.length_append, hrep]
   exact ⟨by omega, next n1 _ _ (by omega) (by omega) (B2 (Wn _) e)⟩
  ·have em : d.toNat * A1 0 <= 4 * 22 := Nat.mul_le_mul_right _ (by omega)
   refine ⟨⟨by omega, by decide, by omega⟩, fun n1 x a c e => ?_⟩
   have hl : (x ++ r).length = x.length + r.length := List.length_append
   exact ⟨by omega, next n1 _ _ (by omega) (by omega) (B2 e (hk r (.head _)))⟩
theorem OU {f : AC} {a b : Option Int} (h : ∀ p ∈ f, B3 p = true) : ∀ p ∈ AY a b f, B3 p = true := fun p m => h p (E4 m)
theorem RQ (W : Wd K B mg mb ad tk) : Sp prog w B ad 7 (.ref (ad "_law_text")) Jy := by
 refine CI W (W.f_law_text).2.2 ["source", "rows"] ["found", "row", "way", "spot"] (F := [("_law_take", CD), ("_law_pieces", Gz)]) (M := []) (nil := .toks []) (by decide) rfl
  (BX ⟨(W.f_law_take).1, (W.f_law_take).2.1, (EJ W).mono (by decide)⟩ (BX ⟨(W.f_law_pieces).1, (W.f_law_pieces).2.1, MK W⟩ Bo)) Bo 40 (fun us os EX Kq t => ?_) (fun xs hl _ _ _ _ _ _ _ _ _ => ?_) (by decide +kernel) rfl rfl rfl (by decide +kernel)
 ·refine Ai t fun r t1 => ?_
  refine Ai t1 fun r t2 => ?_
  refine AI t2 fun t3 => ?_
  refine EB t3 fun n r t4 => ?_
  refine B9 t4 fun P r t5 => ?_
  refine AI t5 fun t6 => ?_
  refine Gy t6 fun g z0 => ?_
  revert z0; refine Ak fun z1 t7 => ?_; revert z1; refine I5 fun hn z2 hr hk => ?_; revert z2; refine Ak fun hg hg0 => ?_
  have hp := List.length_pos_iff.mpr hg0
  refine ⟨rfl, Eq.mpr (U3 (EX := EX)) ⟨⟨by omega, by omega⟩, fun r e => ?_⟩⟩
  rw [Bt (by omega)] at e
  have m0 := List.mem_of_getElem? e
  have hr0 := hr r m0
  have hl : (AY (some 1) none g).length + 1 = g.length := by rw [IR, List.length_drop]; exact Nat.sub_add_cancel hp
  refine QO (AY (some 1) none g) n r none (by omega) (by omega) (hk r m0) (fun r m => hr r (E4 m)) (fun r m => hk r (E4 m)) fun n1 f t a c o => ?_
  rw [Q0]
  refine ⟨⟨by omega, by decide, by decide⟩, fun d d0 d1 => ?_⟩
  have em : d.toNat * A1 0 <= 3 * 22 := Nat.mul_le_mul_right _ (by omega)
  refine ⟨⟨by omega, by decide, by omega⟩, fun n2 h a2 c2 o2 => ?_⟩
  have a2 := Nat.sub_le_iff_le_add.mp a2
  have hlf : (f ++ h).length = f.length + h.length := List.length_append
  have o3 := B2 o o2
  generalize f ++ h = F at *
  refine J6 (by omega) ⟨by omega, by decide, by decide⟩ (fun e1 e0 e2 => ⟨⟨by omega, by omega, by omega⟩, fun s s0 s1 => ?_⟩)
  have q1 := CN none (some s) F
  have q2 := CN (some s) none F
  refine Bu (fun _ => t7 _ _ (by omega) (by omega) (OU o3)) fun _ => Bu (fun z => ⟨by decide, ⟨by omega, by omega⟩, fun p hp => ⟨by decide, ?_⟩⟩) fun _ => t7 _ _ (by omega) (by omega) o3
  have l1 : (AY none (some s) F ++ [p]).length = (AY none (some s) F).length + 1 := List.length_append
  have l2 : (AY none (some s) F ++ [p] ++ AY (some s) none F).length = (AY none (some s) F).length + 1 + (AY (some s) none F).length := by rw [List.length_append, l1]
  have l3 : (AY none (some s) F).length + (AY (some s) none F).length <= F.length * 2 := by omega
  refine J6 (by omega) (by omega) (t7 _ _ (by omega) ?_ (B2 (B2 (OU o3) fun q mq => ?_) (OU o3)))
  ·have q3 := Qk F s0
   have q4 := SB F s0
   omega
  ·rw [List.mem_singleton.mp mq]
   exact (show ∀ p ∈ Xm, B3 p = true by decide) p (List.mem_of_getElem? hp)
 ·refine HM (fun a b z0 => ?_) <| ex2 hl; obtain rfl := z0; exact BindsTo.of_eq rfl
end
noncomputable def Bq (row x : AC) (n : Nat) : Nat -> Nat := n.rec id fun _ ih b => if row = [] /\ x[b]? = some CX then ih (b + 1) else b
noncomputable def Fw (x row : AC) (b : Nat) (long : Bool) (j : Nat) : Nat -> Int -> Except Aa (AC × Nat) := j.rec (fun _ l => if l = 0 /\ row = [] /\ b < x.length then .ok (x.drop b, x.length) else .error .run)
 fun _ ih s l => if l = 0 /\ row ≠ [] /\ (x.drop s).take row.length = row then .ok ((x.take s).drop b, s + row.length) else if l = 0 /\ row = [] /\ b < s then .ok ((x.take s).drop b, s)
  else (x[s]?).elim (.error .run) fun p => if p = AR then .error .out else if p = A3 /\ long = false then .error .run else if l = 0 /\ p = BM then .error .use else ih (s + 1) (l + Ae p)
section
variable {x row : AC} {b n j s : Nat} {long : Bool} {l : Int}
theorem EO : Bq row x (n + 1) b = if row = [] /\ x[b]? = some CX then Bq row x n (b + 1) else b := rfl
theorem IZ : Fw x row b long 0 s l = if l = 0 /\ row = [] /\ b < x.length then .ok (x.drop b, x.length) else .error .run := rfl
theorem IJ : Fw x row b long (j + 1) s l = if l = 0 /\ row ≠ [] /\ (x.drop s).take row.length = row then .ok ((x.take s).drop b, s + row.length) else if l = 0 /\ row = [] /\ b < s then .ok ((x.take s).drop b, s)
  else (x[s]?).elim (.error .run) fun p => if p = AR then .error .out else if p = A3 /\ long = false then .error .run else if l = 0 /\ p = BM then .error .use else Fw x row b long j (s + 1) (l + Ae p) := rfl
end
noncomputable def G2 (x row : AC) (b : Nat) (long : Bool) : Except Aa (AC × Nat) :=
 Fw x row (Bq row x (x.length + 1) b) long (x.length - Bq row x (x.length + 1) b) (Bq row x (x.length + 1) b) 0
def D3 {α : Type} (r : Except Aa α) (k : α -> Prop) (u o n : Prop) : Prop := match r with
 | .ok a => k a
 | .error .use => u
 | .error .run => n
 | .error _ => o
noncomputable def KI : CT := fun us os EX K => BF 0 us fun us => EQ us fun b us => FU us fun row us => EE us fun long us => Ab us <| Dw os fun P os => Ab os <| HB P fun x => (0 <= b /\ b <= x.length /\ x.length <= 1000) /\
 D3 (G2 x row b.toNat long) (fun r => K (.tup3 (.ref 1) (.int r.2) (.str "")) [.lst (.toks x), .lst (.toks r.1)]) (∀ s : Int, K (.tup3 (.ref 1) (.int s) (.str "use")) [.lst (.toks x), .lst (.toks [])])
  (∀ s : Int, K (.tup3 (.ref 1) (.int s) (.str "outer")) [.lst (.toks x), .lst (.toks [])]) (∀ s : Int, K (.tup3 (.ref 1) (.int s) (.str "runaway")) [.lst (.toks x), .lst (.toks [])])
noncomputable def BO (x : AC) (s : Nat) (l : Int) (r : AC) : AC := r.rec (fun _ _ => x) (fun p _ ih s l => if l + Ae p = 0 then (if p = BM /\ s + 1 = x.length then AY (some 1) (some (-1)) x else x) else ih (s + 1) (l + Ae p)) s l
theorem Ir {x r : AC} {s : Nat} {l : Int} {p : AN} : BO x s l (p :: r) = if l + Ae p = 0 then (if p = BM /\ s + 1 = x.length then AY (some 1) (some (-1)) x else x) else BO x (s + 1) (l + Ae p) r := rfl
noncomputable def Ki : CT := fun us os EX K => BF 0 us fun us => Ab us <| Dw os fun P os => Ab os <| HB P fun x => K (.tup (.toks (BO x 0 0 x))) [.lst (.toks x)]
section
variable {K : Frag} {B : Heap} {mg mb : Str -> Option Value} {ad : Str -> Addr} {tk : Str -> Tok} {prog : Program} {w : World} {EX : Aa -> Prop} {x row y : AC} {b : Int} {long : Bool} {l s : Int} {e : Option AV}
noncomputable def Mh (EX : Aa -> Prop) : Gm := m0 EX 53 [("_law_event", Wq), ("_law_deeper", D6)]
noncomputable def Cv (x row : AC) (b : Int) (long : Bool) (l s e : Option AV) (ex : List AO) : St := ⟨[("text", some (.ref 0)), ("begin", some (.int b)), ("row", some (.tup (.toks row))), ("is_long", some (.bool long)), ("level", l), ("spot", s), ("event", e)], .lst (.toks x) :: ex⟩
noncomputable def PF (EX : Aa -> Prop) := (V 39 (Mh EX)).b (BG (Bl (AB (st 53)) 0))
noncomputable def N9 (EX : Aa -> Prop) := (V 39 (Mh EX)).t (G7 (Bl (AB (st 53)) 0))
def XC (EX : Aa -> Prop) (Q : AV -> List AO -> Prop) (z : St) : Prop := (V 39 (Mh EX)).b ((AB (st 53)).drop 1) z fun fl st' => AU 1 (Am fl) st'.objs Q
noncomputable def Kc (EX : Aa -> Prop) := (V 37 (Mh EX)).b (BG (Bl (AB (st 53)) 2))
def Jg (EX : Aa -> Prop) (Q : AV -> List AO -> Prop) (z : St) : Prop := (V 37 (Mh EX)).b ((AB (st 53)).drop 3) z fun fl st' => AU 1 (Am fl) st'.objs Q
def G6 (x : AC) (s : Int) (k : AN -> Prop) : Prop := (-(x.length : Int) <= s /\ s < x.length) /\ ∀ p, x[AK s x.length]? = some p -> k p
theorem VF {Q : AV -> List AO -> Prop} : ((V 40 (Mh EX)).b (AB (st 53)) ⟨Az ["text", "begin", "row", "is_long"] [.ref 0, .int b, .tup (.toks row), .bool long] ["level", "spot", "event"], [.lst (.toks x)]⟩ fun fl st' => AU 1 (Am fl) st'.objs Q) =
  ∃ N, wN (N9 EX) (PF EX) (fun v st => AU 1 v st.objs Q) (XC EX Q) N (Cv x row b long none none none []) := by kernel_rfl
theorem PQ {Q R : St -> Prop} : N9 EX (Cv x row b long none none none []) Q R = br (decide (row = [])) (br (decide (b < (x.length : Int))) (G6 x b fun p => br (decide (p = (10, 32))) (Q (Cv x row b long none none none [])) (R (Cv x row b long none none none []))) (R (Cv x row b long none none none []))) (R (Cv x row b long none none none [])) := by kernel_rfl
theorem OG {Q : Fl -> St -> Prop} : PF EX (Cv x row b long none none none []) Q = Q .next (Cv x row (b + 1) long none none none []) := by kernel_rfl
theorem Rb {Q : AV -> List AO -> Prop} : XC EX Q (Cv x row b long none none none []) = (((-1000000 <= b /\ b <= 1000000) /\ (-1000000 <= (x.length : Int) /\ (x.length : Int) <= 1000000)) /\
  FW (Kc EX) "spot" none (fun v st => AU 1 v st.objs Q) (Jg EX Q) ((Aw b ((x.length : Int) - b).toNat).map .int) (Cv x row b long (some (.int 0)) none none [])) := by kernel_rfl
def P7 (Q : Fl -> St -> Prop) (x row : AC) (b : Int) (long : Bool) (l s : Int) (e : Option AV) (s' : Int) (nm : Str) (n : Nat) (ex : List AO) : Prop := Q (.ret (.tup3 (.ref n) (.int s') (.str nm))) (Cv x row b long (some (.int l)) (some (.int s)) e ex)
def X9 (Q : Fl -> St -> Prop) (x row : AC) (b : Int) (long : Bool) (l s : Int) (ex : List AO) : Prop := G6 x s fun p => Q .next (Cv x row b long (some (.int (l + Ae p))) (some (.int s)) (some (.str "")) ex)
def Wk (Q : Fl -> St -> Prop) (x row : AC) (b : Int) (long : Bool) (l s : Int) (n : Nat) (ex : List AO) : Prop := br (decide (l = 0)) (G6 x s fun p => br (decide (p = (2, 125))) (P7 Q x row b long l s (some (.str "use")) s "use" n (ex ++ [.lst (.toks [])])) (X9 Q x row b long l s ex)) (X9 Q x row b long l s ex)
def Q5 (Q : Fl -> St -> Prop) (x row : AC) (b : Int) (long : Bool) (l s : Int) (n : Nat) (ex : List AO) : Prop := G6 x s fun p => br (decide (p = AR)) (P7 Q x row b long l s (some (.str "outer")) s "outer" n (ex ++ [.lst (.toks [])]))
 (br (decide (p = A3)) (br long (Wk Q x row b long l s n ex) (P7 Q x row b long l s (some (.str "runaway")) s "runaway" n (ex ++ [.lst (.toks [])]))) (Wk Q x row b long l s n ex))
def QH (Q : Fl -> St -> Prop) (x row : AC) (b : Int) (long : Bool) (l s : Int) (e : Option AV) (n : Nat) (ex : List AO) : Prop := br (decide (l = 0)) (br (decide (row = [])) (br (decide (b < s)) (P7 Q x row b long l s e s "" n (ex ++ [.lst (.toks (AY (some b) (some s) x))])) (Q5 Q x row b long l s n ex)) (Q5 Q x row b long l s n ex)) (Q5 Q x row b long l s n ex)
theorem Ry {Q : Fl -> St -> Prop} : Kc EX (Cv x row b long (some (.int l)) (some (.int s)) e []) Q =
  br (decide (l = 0)) (br (decide (row = [])) (QH Q x row b long l s e 1 []) (br (decide (AY (some s) (some (s + (row.length : Int))) x = row))
   (P7 Q x row b long l s e (s + (row.length : Int)) "" 2 [.lst (.toks (AY (some s) (some (s + (row.length : Int))) x)), .lst (.toks (AY (some b) (some s) x))]) (QH Q x row b long l s e 2 [.lst (.toks (AY (some s) (some (s + (row.length : Int))) x))]))) (QH Q x row b long l s e 1 []) := by kernel_rfl
def Iz (Q : AV -> List AO -> Prop) (x y : AC) (s : Int) (nm : Str) : Prop := Q (.tup3 (.ref 1) (.int s) (.str nm)) [.lst (.toks x), .lst (.toks y)]
theorem SV {so : Option AV} {Q : AV -> List AO -> Prop} : Jg EX Q (Cv x row b long (some (.int l)) so e []) =
  br (decide (l = 0)) (br (decide (row = [])) (br (decide (b < (x.length : Int))) (Iz Q x (AY (some b) none x) x.length "") (Iz Q x [] x.length "runaway")) (Iz Q x [] x.length "runaway")) (Iz Q x [] x.length "runaway") := by kernel_rfl
theorem Ci {s : Nat} {k : AN -> Prop} (h : s < x.length) (q : k x[s]) : G6 x (s : Int) k := ⟨by omega, fun p e => by
 rw [Bt (by omega), Int.toNat_natCast, List.getElem?_eq_getElem h] at e
 rw [<- Option.some.inj e]; exact q⟩
def Qh (Q : AV -> List AO -> Prop) (x : AC) (r : Except Aa (AC × Nat)) : Prop := D3 r (fun r => Iz Q x r.1 r.2 "") (∀ s : Int, Iz Q x [] s "use") (∀ s : Int, Iz Q x [] s "outer") (∀ s : Int, Iz Q x [] s "runaway")
theorem S7 {b : Nat} {Q : AV -> List AO -> Prop} : ∀ (j s : Nat) (l : Int) (so e : Option AV), s + j = x.length -> b <= s -> Qh Q x (Fw x row b long j s l) ->
  FW (Kc EX) "spot" none (fun v st => AU 1 v st.objs Q) (Jg EX Q) ((Aw s j).map .int) (Cv x row b long (some (.int l)) so e []) := by
 intro j
 induction j with
 | zero =>
  intro s l so e hs hb h
  show Jg EX Q (Cv x row b long (some (.int l)) so e [])
  rw [SV, DY]
  rw [IZ] at h
  refine Bu (fun h1 => Bu (fun h2 => Bu (fun h3 => ?_) fun h3 => ?_) fun h2 => ?_) fun h1 => ?_
  ·rw [if_pos ⟨h1, h2, by omega⟩] at h; exact h
  ·rw [if_neg fun z => h3 (by omega)] at h; exact h _
  ·rw [if_neg fun z => h2 z.2.1] at h; exact h _
  ·rw [if_neg fun z => h1 z.1] at h; exact h _
 | succ j ih =>
  intro s l so e hs hb h
  refine Br (Cv x row b long (some (.int l)) (some (.int s)) e []) (by kernel_rfl) rfl ?_
  rw [Ry]
  have hlt : s < x.length := by omega
  rw [IJ] at h
  have C : ∀ (n : Nat) (ex : List AO), (n = 1 /\ ex = [] \/ ∃ y, n = 2 /\ ex = [.lst (.toks y)]) -> ¬ (l = 0 /\ row ≠ [] /\ (x.drop s).take row.length = row) ->
    QH (fun fl st2 => match fl with | .next => chk none st2 (FW (Kc EX) "spot" none (fun v st => AU 1 v st.objs Q) (Jg EX Q) ((Aw ((s : Int) + 1) j).map .int) (gc 1 st2)) | .ret w => AU 1 w st2.objs Q) x row b long l s e n ex := fun n ex he hn => by
   rw [if_neg hn] at h
   have N : Qh Q x (Fw x row b long j (s + 1) (l + Ae x[s])) -> chk none (Cv x row b long (some (.int (l + Ae x[s]))) (some (.int s)) (some (.str "")) ex) (FW (Kc EX) "spot" none (fun v st => AU 1 v st.objs Q) (Jg EX Q) ((Aw ((s : Int) + 1) j).map .int) (gc 1 (Cv x row b long (some (.int (l + Ae x[s]))) (some (.int s)) (some (.str "")) ex))) := fun q => by
    have := ih (s + 1) (l + Ae x[s]) (some (.int s)) (some (.str "")) (by omega) (by omega) q
    rw [show ((s + 1 : Nat) : Int) = (s : Int) + 1 from rfl] at this
    rcases he with ⟨rfl, rfl⟩ | ⟨y, rfl, rfl⟩ <;> exact this
   have R : ∀ (e' : Option AV) (s' : Int) (y : AC) (nm : Str), Iz Q x y s' nm -> AU 1 (.tup3 (.ref n) (.int s') (.str nm)) (Cv x row b long (some (.int l)) (some (.int s)) e' (ex ++ [.lst (.toks y)])).objs Q := fun e' s' y nm q => by
    rcases he with ⟨rfl, rfl⟩ | ⟨y, rfl, rfl⟩ <;> exact q
   have D : ¬ (l = 0 /\ row = [] /\ b < s) -> Q5 (fun fl st2 => match fl with | .next => chk none st2 (FW (Kc EX) "spot" none (fun v st => AU 1 v st.objs Q) (Jg EX Q) ((Aw ((s : Int) + 1) j).map .int) (gc 1 st2)) | .ret w => AU 1 w st2.objs Q) x row b long l s n ex := fun hn => by
    rw [if_neg hn, List.getElem?_eq_getElem hlt] at h
    refine Ci hlt (Bu (fun h1 => R _ _ _ _ ?_) fun h1 => ?_)
    ·replace h : Qh Q x (if x[s] = AR then _ else _) := h
     rw [if_pos h1] at h; exact h _
    ·replace h : Qh Q x (if x[s] = AR then _ else _) := h
     rw [if_neg h1] at h
     have E : ¬ (x[s] = A3 /\ long = false) -> Wk (fun fl st2 => match fl with | .next => chk none st2 (FW (Kc EX) "spot" none (fun v st => AU 1 v st.objs Q) (Jg EX Q) ((Aw ((s : Int) + 1) j).map .int) (gc 1 st2)) | .ret w => AU 1 w st2.objs Q) x row b long l s n ex := fun hn => by
      rw [if_neg hn] at h
      refine Bu (fun h2 => Ci hlt (Bu (fun h3 => R _ _ _ _ ?_) fun h3 => Ci hlt (N ?_))) fun h2 => Ci hlt (N ?_)
      ·rw [if_pos ⟨h2, h3⟩] at h; exact h _
      ·rw [if_neg fun z => h3 z.2] at h; exact h
      ·rw [if_neg fun z => h2 z.1] at h; exact h
     refine Bu (fun h2 => bH (fun h3 => E fun z => by rw [h3] at z; cases z.2) fun h3 => R _ _ _ _ ?_) fun h2 => E fun z => h2 z.1
     rw [if_pos ⟨h2, h3⟩] at h; exact h _
   refine Bu (fun h1 => Bu (fun h2 => Bu (fun h3 => R _ _ _ _ ?_) fun h3 => D fun z => h3 (by omega)) fun h2 => D fun z => h2 z.2.1) fun h1 => D fun z => h1 z.1
   rw [if_pos ⟨h1, h2, by omega⟩] at h
   rw [GS]; exact h
  have e1 : AY (some (s : Int)) (some ((s : Int) + (row.length : Int))) x = (x.drop s).take row.length := by
   rw [show (s : Int) + (row.length : Int) = ((s + row.length : Nat) : Int) by omega, GS, List.drop_take, Nat.add_sub_cancel_left]
  refine Bu (fun h1 => Bu (fun h2 => C _ _ (.inl ⟨rfl, rfl⟩) fun z => z.2.1 h2) fun h2 => Bu (fun h3 => ?_) fun h3 => C _ _ (.inr ⟨_, rfl, rfl⟩) fun z => h3 (by rw [e1]; exact z.2.2)) fun h1 => C _ _ (.inl ⟨rfl, rfl⟩) fun z => h1 z.1
  rw [if_pos ⟨h1, h2, by rw [<- e1]; exact h3⟩] at h
  rw [GS, show (s : Int) + (row.length : Int) = ((s + row.length : Nat) : Int) by omega]
  exact h
theorem Gl (n : Nat) : ∀ b : Nat, b <= Bq row x n b /\ (b <= x.length -> Bq row x n b <= x.length) := by
 induction n with
 | zero => exact fun b => ⟨Nat.le_refl _, id⟩
 | succ n ih =>
  intro b
  rw [EO]
  by_cases h : row = [] /\ x[b]? = some CX
  ·rw [if_pos h]
   exact ⟨Nat.le_of_succ_le (ih (b + 1)).1, fun _ => (ih (b + 1)).2 (List.getElem?_eq_some_iff.mp h.2).1⟩
  ·rw [if_neg h]; exact ⟨Nat.le_refl _, id⟩
theorem O0 {KR : AV -> St -> Prop} {K : St -> Prop} : ∀ (n b : Nat), b <= x.length -> x.length < b + n -> K (Cv x row (Bq row x n b) long none none none []) -> wN (N9 EX) (PF EX) KR K n (Cv x row b long none none none []) := by
 intro n
 induction n with
 | zero => exact fun b h1 h2 _ => absurd h2 (by omega)
 | succ n ih =>
  intro b h1 h2 h
  refine Et ?_
  rw [PQ]
  rw [EO] at h
  refine Bu (fun h3 => Bu (fun h4 => Ci (by omega) (Bu (fun h5 => ?_) fun h5 => ?_)) fun h4 => ?_) fun h3 => ?_
  ·rw [if_pos ⟨h3, by rw [List.getElem?_eq_getElem (by omega), h5]; rfl⟩] at h
   rw [OG]
   exact ih (b + 1) (by omega) (by omega) h
  ·rw [if_neg fun z => h5 (by rw [List.getElem?_eq_getElem (by omega)] at z; exact Option.some.inj z.2)] at h; exact h
  ·rw [if_neg fun z => by have := (List.getElem?_eq_some_iff.mp z.2).1; omega] at h; exact h
  ·rw [if_neg fun z => h3 z.1] at h; exact h
theorem Qq (W : Wd K B mg mb ad tk) : Sp prog w B ad 4 (.ref (ad "_law_argument")) KI := by
 refine CI W (W.f_law_argument).2.2 ["text", "begin", "row", "is_long"] ["level", "spot", "event"] (F := [("_law_event", Wq), ("_law_deeper", D6)]) (M := []) (nil := .toks []) (by decide) rfl
  (BX ⟨(W.f_law_event).1, (W.f_law_event).2.1, Oj W⟩ (BX ⟨(W.f_law_deeper).1, (W.f_law_deeper).2.1, Hi W⟩ Bo)) Bo 40 (fun us os EX Kq t => ?_) (fun xs hl _ _ _ _ _ _ _ _ _ => ?_) (by decide +kernel) rfl rfl rfl (by decide +kernel)
 ·refine Ai t fun r t1 => ?_
  refine CZ t1 fun b r t2 => ?_
  refine Cl t2 fun row r t3 => ?_
  refine CH t3 fun long r t4 => ?_
  refine AI t4 fun t5 => ?_
  refine B9 t5 fun P r t6 => ?_
  refine AI t6 fun t7 => ?_
  refine DI t7 fun x z0 => ?_
  revert z0; refine Ak fun z1 t8 => ?_; revert z1; refine C9 fun h0 h1 h2 => ?_
  refine Ap (fun b z0 => ?_) <| Int.eq_ofNat_of_zero_le h0; obtain rfl := z0
  have hs := Gl (row := row) (x := x) (x.length + 1) b
  refine ⟨rfl, Eq.mpr (VF (EX := EX)) ⟨x.length + 1, O0 _ b (by omega) (by omega) ?_⟩⟩
  rw [Rb]
  unfold G2 at t8
  rw [Int.toNat_natCast] at t8
  generalize Bq row x (x.length + 1) b = b1 at *
  refine ⟨⟨by omega, by omega⟩, ?_⟩
  rw [Int.toNat_sub]
  exact S7 (x.length - b1) b1 0 none none (by omega) (Nat.le_refl _) t8
 ·refine ZR (fun a b c d z0 => ?_) <| ZZ hl; obtain rfl := z0; exact BindsTo.of_eq rfl
noncomputable def U4 (EX : Aa -> Prop) : Gm := m0 EX 54 [("_law_deeper", D6)]
noncomputable def IV (x : AC) (l : Int) (s t : Option AV) (ex : List AO) : St := ⟨[("piece", some (.ref 0)), ("level", some (.int l)), ("spot", s), ("token", t)], .lst (.toks x) :: ex⟩
noncomputable def Wj (EX : Aa -> Prop) := (V 38 (U4 EX)).b (BG (Bl (AB (st 54)) 1))
def VZ (EX : Aa -> Prop) (Q : AV -> List AO -> Prop) (z : St) : Prop := (V 38 (U4 EX)).b ((AB (st 54)).drop 2) z fun fl st' => AU 1 (Am fl) st'.objs Q
theorem WN {Q : AV -> List AO -> Prop} : ((V 40 (U4 EX)).b (AB (st 54)) ⟨Az ["piece"] [.ref 0] ["level", "spot", "token"], [.lst (.toks x)]⟩ fun fl st' => AU 1 (Am fl) st'.objs Q) =
  (True /\ F2 (Wj EX) "spot" "token" (some (0, .toks x)) (fun v st => AU 1 v st.objs Q) (VZ EX Q) 0 (x.map .tok) (IV x 0 none none [])) := by kernel_rfl
theorem Rq {p : AN} {Q : Fl -> St -> Prop} : Wj EX (IV x l (some (.int s)) (some (.tok p)) []) Q =
  br (decide (l + Ae p = 0)) (br (decide (p = (2, 125))) (br (decide (s = (x.length : Int) - 1)) (Q (.ret (.tup (.toks (AY (some 1) (some (-1)) x)))) (IV x (l + Ae p) (some (.int s)) (some (.tok p)) [.lst (.toks (AY (some 1) (some (-1)) x))]))
    (Q (.ret (.tup (.toks x))) (IV x (l + Ae p) (some (.int s)) (some (.tok p)) []))) (Q (.ret (.tup (.toks x))) (IV x (l + Ae p) (some (.int s)) (some (.tok p)) [])))
   (Q .next (IV x (l + Ae p) (some (.int s)) (some (.tok p)) [])) := by kernel_rfl
theorem SJ {so t : Option AV} {Q : AV -> List AO -> Prop} : VZ EX Q (IV x l so t []) = Q (.tup (.toks x)) [.lst (.toks x)] := by kernel_rfl
theorem S1 {jb : St -> (Fl -> St -> Prop) -> Prop} {a c : Str} {o : Option (Nat × AP)} {KR : AV -> St -> Prop} {K : St -> Prop} {i : Nat} {v : AV} {vs : List AV} {st : St} (st' : St) (h : (G1 a st.loc && G1 c st.loc) = true) (e : (⟨HR c v (HR a (.int i) st.loc), st.objs⟩ : St) = st')
  (k : jb st' fun fl st2 => match fl with | .next => chk o st2 (F2 jb a c o KR K (i + 1) vs (gc st.objs.length st2)) | .ret w => KR w st2) : F2 jb a c o KR K i (v :: vs) st := by
 subst e
 show bif G1 a st.loc && G1 c st.loc then jb _ _ else False
 rw [h]; exact k
theorem Rr {Q : AV -> List AO -> Prop} : ∀ (r : AC) (s : Nat) (l : Int) (so t : Option AV), Q (.tup (.toks (BO x s l r))) [.lst (.toks x)] ->
  F2 (Wj EX) "spot" "token" (some (0, .toks x)) (fun v st => AU 1 v st.objs Q) (VZ EX Q) s (r.map .tok) (IV x l so t []) := by
 intro r
 induction r with
 | nil => exact fun s l so t h => Eq.mpr SJ h
 | cons p r ih =>
  intro s l so t h
  refine S1 (IV x l (some (.int s)) (some (.tok p)) []) (by kernel_rfl) rfl ?_
  rw [Rq]
  rw [Ir] at h
  refine Bu (fun h1 => Bu (fun h2 => Bu (fun h3 => ?_) fun h3 => ?_) fun h2 => ?_) fun h1 => ⟨rfl, ?_⟩
  ·rw [if_pos h1, if_pos ⟨h2, by omega⟩] at h; exact h
  ·rw [if_pos h1, if_neg fun z => h3 (by omega)] at h; exact h
  ·rw [if_pos h1, if_neg fun z => h2 z.1] at h; exact h
  ·rw [if_neg h1] at h
   exact ih (s + 1) _ _ _ h
theorem SU (W : Wd K B mg mb ad tk) : Sp prog w B ad 4 (.ref (ad "_law_bare")) Ki := by
 refine CI W (W.f_law_bare).2.2 ["piece"] ["level", "spot", "token"] (F := [("_law_deeper", D6)]) (M := []) (nil := .toks []) (by decide) rfl
  (BX ⟨(W.f_law_deeper).1, (W.f_law_deeper).2.1, Hi W⟩ Bo) Bo 40 (fun us os EX Kq t => ?_) (fun xs hl _ _ _ _ _ _ _ _ _ => ?_) (by decide +kernel) rfl rfl rfl (by decide +kernel)
 ·refine Ai t fun r t1 => ?_
  refine AI t1 fun t5 => ?_
  refine B9 t5 fun P r t6 => ?_
  refine AI t6 fun t7 => ?_
  refine DI t7 fun x t8 => ?_
  exact ⟨rfl, Eq.mpr (WN (EX := EX)) ⟨trivial, Rr x 0 0 none none t8⟩⟩
 ·refine Ap (fun a z0 => ?_) <| PA hl; obtain rfl := z0; exact BindsTo.of_eq rfl
end
noncomputable def CE (x r : AC) : Nat -> Except Aa Nat := r.rec (fun s => .ok s) fun p _ ih s => (x[s]?).elim (.error .run) fun q => if q = p then ih (s + 1) else if q = AR then .error .out else .error .use
theorem FB {x r : AC} {p : AN} {s : Nat} : CE x (p :: r) s = (x[s]?).elim (.error .run) fun q => if q = p then CE x r (s + 1) else if q = AR then .error .out else .error .use := rfl
noncomputable def Dh (x : AC) (long : Bool) (rs : List AC) : Nat -> List AC -> Except Aa (List AC × Nat) := rs.rec (fun s f => .ok (f, s)) fun row _ ih s f => Fs (G2 x row s long) fun r => ih r.2 (f ++ [BO r.1 0 0 r.1])
theorem JD {x row : AC} {long : Bool} {rs f : List AC} {s : Nat} : Dh x long (row :: rs) s f = Fs (G2 x row s long) fun r => Dh x long rs r.2 (f ++ [BO r.1 0 0 r.1]) := rfl
noncomputable def Ba (x : AC) (rows : List AC) (long : Bool) : Except Aa (List AC × Nat) := Fs (CE x (rows.headD []) 0) fun s => Dh x long (rows.drop 1) s []
noncomputable def CP (x : AC) (hb : Bool) (s : Nat) : AC := AY (some (bif hb then (s : Int) - 1 else (s : Int))) none x
noncomputable def II : CT := fun us os EX K => BF 0 us fun us => BF 1 us fun us => EE us fun hb us => EE us fun long us => Ab us <| Dw os fun P os => Dw os fun R os => Ab os <| HB P fun x => MQ R fun rows => (x.length <= 1000 /\ rows ≠ [] /\ rows.length <= 10) /\
 D3 (Ba x rows long) (fun r => K (.tup2 (.ref 2) (.ref 3)) [.lst (.toks x), .lst (.tts rows), .lst (.tts r.1), .lst (.toks (CP x hb r.2))]) (K (.str "use") [.lst (.toks x), .lst (.tts rows)]) (K (.str "outer") [.lst (.toks x), .lst (.tts rows)]) (K (.str "runaway") [.lst (.toks x), .lst (.tts rows)])
section
variable {K : Frag} {B : Heap} {mg mb : Str -> Option Value} {ad : Str -> Addr} {tk : Str -> Tok} {prog : Program} {w : World} {EX : Aa -> Prop} {x row y : AC} {b : Int} {hb long : Bool} {l s : Int} {rows g : List AC} {p : AN}
noncomputable def OZ (EX : Aa -> Prop) : Gm := ⟨EX, AM (st 55), [("_law_argument", KI), ("_law_bare", Ki)], [], .tts [], [], GQ⟩
noncomputable def HL (x : AC) (rows : List AC) (hb long : Bool) (s : Int) (p f r y e : Option AV) (ex : List AO) : St := ⟨[("text", some (.ref 0)), ("rows", some (.ref 1)), ("has_brace", some (.bool hb)), ("is_long", some (.bool long)), ("spot", some (.int s)), ("token", p), ("found", f), ("row", r), ("piece", y), ("event", e)], .lst (.toks x) :: .lst (.tts rows) :: ex⟩
noncomputable def V1 (EX : Aa -> Prop) := (V 38 (OZ EX)).b (BG (Bl (AB (st 55)) 1))
def Yt (EX : Aa -> Prop) (Q : AV -> List AO -> Prop) (z : St) : Prop := (V 38 (OZ EX)).b ((AB (st 55)).drop 2) z fun fl st' => AU 2 (Am fl) st'.objs Q
noncomputable def NK (EX : Aa -> Prop) := (V 36 (OZ EX)).b (BG (Bl (AB (st 55)) 3))
def WM (EX : Aa -> Prop) (Q : AV -> List AO -> Prop) (z : St) : Prop := (V 36 (OZ EX)).b ((AB (st 55)).drop 4) z fun fl st' => AU 2 (Am fl) st'.objs Q
theorem WC {Q : AV -> List AO -> Prop} : ((V 40 (OZ EX)).b (AB (st 55)) ⟨Az ["text", "rows", "has_brace", "is_long"] [.ref 0, .ref 1, .bool hb, .bool long] ["spot", "token", "found", "row", "piece", "event"], [.lst (.toks x), .lst (.tts rows)]⟩ fun fl st' => AU 2 (Am fl) st'.objs Q) =
  ((-(rows.length : Int) <= 0 /\ (0 : Int) < rows.length) /\ ∀ r, rows[AK 0 rows.length]? = some r -> FW (V1 EX) "token" none (fun v st => AU 2 v st.objs Q) (Yt EX Q) (r.map .tok) (HL x rows hb long 0 none none none none none [])) := by kernel_rfl
theorem SM {Q : Fl -> St -> Prop} : V1 EX (HL x rows hb long s (some (.tok p)) none none none none []) Q = br (decide (s = (x.length : Int))) (Q (.ret (.str "runaway")) (HL x rows hb long s (some (.tok p)) none none none none []))
  (G6 x s fun q => br (decide (q = p)) (Q .next (HL x rows hb long (s + 1) (some (.tok p)) none none none none []))
   (G6 x s fun q => br (decide (q = (0, 9))) (Q (.ret (.str "outer")) (HL x rows hb long s (some (.tok p)) none none none none [])) (Q (.ret (.str "use")) (HL x rows hb long s (some (.tok p)) none none none none [])))) := by kernel_rfl
noncomputable def Ij (x : AC) (rows : List AC) (hb long : Bool) (s : Int) (p r y e : Option AV) (g : List AC) (ex : List AO) : St := HL x rows hb long s p (some (.ref 2)) r y e (.lst (.tts g) :: .lst (.tts (AY (some 1) none rows)) :: ex)
theorem Rj {po : Option AV} {Q : AV -> List AO -> Prop} : Yt EX Q (HL x rows hb long s po none none none none []) = FW (NK EX) "row" (some (3, .tts (AY (some 1) none rows))) (fun v st => AU 2 v st.objs Q) (WM EX Q) ((AY (some 1) none rows).map fun r => .tup (.toks r)) (Ij x rows hb long s po none none none [] []) := by kernel_rfl
theorem NW {po yo eo : Option AV} {Q : Fl -> St -> Prop} : NK EX (Ij x rows hb long s po (some (.tup (.toks row))) yo eo g []) Q =
  ((0 <= s /\ s <= x.length /\ x.length <= 1000) /\ D3 (G2 x row s.toNat long)
   (fun r => (g ++ [BO r.1 0 0 r.1]).length <= 1000000 /\ Q .next (Ij x rows hb long r.2 po (some (.tup (.toks row))) (some (.ref 4)) (some (.str "")) (g ++ [BO r.1 0 0 r.1]) [.lst (.toks r.1)]))
   (∀ s : Int, Q (.ret (.str "use")) (Ij x rows hb long s po (some (.tup (.toks row))) (some (.ref 4)) (some (.str "use")) g [.lst (.toks [])]))
   (∀ s : Int, Q (.ret (.str "outer")) (Ij x rows hb long s po (some (.tup (.toks row))) (some (.ref 4)) (some (.str "outer")) g [.lst (.toks [])]))
   (∀ s : Int, Q (.ret (.str "runaway")) (Ij x rows hb long s po (some (.tup (.toks row))) (some (.ref 4)) (some (.str "runaway")) g [.lst (.toks [])]))) := by kernel_rfl
theorem Sz {po ro yo eo : Option AV} {Q : AV -> List AO -> Prop} : WM EX Q (Ij x rows hb long s po ro yo eo g []) = br hb (Q (.tup2 (.ref 2) (.ref 3)) [.lst (.toks x), .lst (.tts rows), .lst (.tts g), .lst (.toks (AY (some (s - 1)) none x))])
  (Q (.tup2 (.ref 2) (.ref 3)) [.lst (.toks x), .lst (.tts rows), .lst (.tts g), .lst (.toks (AY (some s) none x))]) := by kernel_rfl
theorem Mq {r : AC} : ∀ {s s' : Nat}, CE x r s = .ok s' -> s <= x.length -> s' <= x.length := by
 induction r with
 | nil => exact fun h hs => Except.ok.inj h ▸ hs
 | cons p r ih =>
  intro s s' h hs
  exact Dq (FB.symm.trans h) (fun _ h => nomatch h) fun q e h => BK h (fun _ h => ih h (List.getElem?_eq_some_iff.mp e).1) fun _ h => BK h (fun _ h => nomatch h) fun _ h => nomatch h
theorem Pa {b j : Nat} : ∀ {s : Nat} {l : Int} {r : AC × Nat}, Fw x row b long j s l = .ok r -> s + j <= x.length -> r.2 <= x.length := by
 induction j with
 | zero => exact fun h hs => BK (IZ.symm.trans h) (fun _ h => Except.ok.inj h ▸ Nat.le_refl _) fun _ h => nomatch h
 | succ j ih =>
  intro s l r h hs
  have hs1 : s + 1 + j <= x.length := by rw [Nat.add_assoc, Nat.add_comm 1]; exact hs
  refine BK (IJ.symm.trans h) (fun h1 h => ?_) fun _ h => BK h (fun _ h => Except.ok.inj h ▸ Nat.le_trans (Nat.le_add_right _ _) hs) fun _ h => Dq h (fun _ h => nomatch h) fun q _ h => BK h (fun _ h => nomatch h) fun _ h => BK h (fun _ h => nomatch h) fun _ h => BK h (fun _ h => nomatch h) fun _ h => ih h hs1
  have := congrArg List.length h1.2.2
  rw [List.length_take, List.length_drop] at this
  rw [<- Except.ok.inj h]
  have h3 : row.length <= x.length - s := this ▸ Nat.min_le_right ..
  have h4 := Nat.add_le_add_left h3 s
  rw [Nat.add_sub_cancel' (Nat.le_trans (Nat.le_add_right _ _) hs)] at h4
  exact h4
theorem LN {s : Nat} {r : AC × Nat} (h : G2 x row s long = .ok r) (hs : s <= x.length) : r.2 <= x.length := by
 have := Gl (row := row) (x := x) (x.length + 1) s
 exact Pa h (by omega)
theorem NH {K : St -> Prop} {Q : AV -> List AO -> Prop} : ∀ (r : AC) (s : Nat) (po : Option AV), s <= x.length -> D3 (CE x r s) (fun s' => ∀ po, K (HL x rows hb long s' po none none none none [])) (Q (.str "use") [.lst (.toks x), .lst (.tts rows)]) (Q (.str "outer") [.lst (.toks x), .lst (.tts rows)]) (Q (.str "runaway") [.lst (.toks x), .lst (.tts rows)]) ->
  FW (V1 EX) "token" none (fun v st => AU 2 v st.objs Q) K (r.map .tok) (HL x rows hb long s po none none none none []) := by
 intro r
 induction r with
 | nil => exact fun s po _ h => h po
 | cons p r ih =>
  intro s po hs h
  refine Br (HL x rows hb long s (some (.tok p)) none none none none []) (by kernel_rfl) rfl ?_
  rw [SM]
  rw [FB] at h
  refine Bu (fun h1 => ?_) fun h1 => ?_
  ·rw [List.getElem?_eq_none (by omega)] at h; exact h
  ·have hlt : s < x.length := by omega
   rw [List.getElem?_eq_getElem hlt] at h
   replace h : D3 (if x[s] = p then CE x r (s + 1) else if x[s] = AR then .error .out else .error .use) _ _ _ _ := h
   refine Ci hlt (Bu (fun h2 => ?_) fun h2 => Ci hlt (Bu (fun h3 => ?_) fun h3 => ?_))
   ·rw [if_pos h2] at h
    have := ih (s + 1) (some (.tok p)) (by omega) h
    rw [show ((s + 1 : Nat) : Int) = (s : Int) + 1 from rfl] at this
    exact this
   ·rw [if_neg h2, if_pos (show x[s] = AR from h3)] at h; exact h
   ·rw [if_neg h2, if_neg (show ¬ x[s] = AR from h3)] at h; exact h
theorem Nz {Q : AV -> List AO -> Prop} (hx : x.length <= 1000) : ∀ (rs : List AC) (s : Nat) (g : List AC) (po ro eo : Option AV), s <= x.length -> g.length + rs.length <= 1000 ->
  D3 (Dh x long rs s g) (fun r => Q (.tup2 (.ref 2) (.ref 3)) [.lst (.toks x), .lst (.tts rows), .lst (.tts r.1), .lst (.toks (CP x hb r.2))]) (Q (.str "use") [.lst (.toks x), .lst (.tts rows)]) (Q (.str "outer") [.lst (.toks x), .lst (.tts rows)]) (Q (.str "runaway") [.lst (.toks x), .lst (.tts rows)]) ->
  FW (NK EX) "row" (some (3, .tts (AY (some 1) none rows))) (fun v st => AU 2 v st.objs Q) (WM EX Q) (rs.map fun r => .tup (.toks r)) (Ij x rows hb long s po ro none eo g []) := by
 intro rs
 induction rs with
 | nil =>
  intro s g po ro eo hs hz h
  refine Eq.mpr Sz ?_
  cases hb
  ·exact h
  ·exact h
 | cons row rs ih =>
  intro s g po ro eo hs hz h
  rw [List.length_cons] at hz
  refine Br (Ij x rows hb long s po (some (.tup (.toks row))) none eo g []) (by kernel_rfl) rfl ?_
  rw [NW]
  refine ⟨⟨by omega, by omega, hx⟩, ?_⟩
  rw [Int.toNat_natCast]
  rw [JD] at h
  cases e : G2 x row s long with
  | error e1 =>
   rw [e] at h
   cases e1 <;> exact fun _ => h
  | ok r =>
   rw [e] at h
   have hr := LN e hs
   have hl : (g ++ [BO r.1 0 0 r.1]).length = g.length + 1 := List.length_append
   exact ⟨by omega, rfl, ih r.2 (g ++ [BO r.1 0 0 r.1]) _ _ _ hr (by omega) h⟩
theorem NC (W : Wd K B mg mb ad tk) : Sp prog w B ad 5 (.ref (ad "_law_wanted")) II := by
 refine CI W (W.f_law_wanted).2.2 ["text", "rows", "has_brace", "is_long"] ["spot", "token", "found", "row", "piece", "event"] (F := [("_law_argument", KI), ("_law_bare", Ki)]) (M := []) (nil := .tts []) (by decide) rfl
  (BX ⟨(W.f_law_argument).1, (W.f_law_argument).2.1, Qq W⟩ (BX ⟨(W.f_law_bare).1, (W.f_law_bare).2.1, SU W⟩ Bo)) Bo 40 (fun us os EX Kq t => ?_) (fun xs hl _ _ _ _ _ _ _ _ _ => ?_) (by decide +kernel) rfl rfl rfl (by decide +kernel)
 ·refine Ai t fun r t1 => ?_
  refine Ai t1 fun r t2 => ?_
  refine CH t2 fun hb r t3 => ?_
  refine CH t3 fun long r t4 => ?_
  refine AI t4 fun t5 => ?_
  refine B9 t5 fun P r t6 => ?_
  refine B9 t6 fun P2 r t7 => ?_
  refine AI t7 fun t8 => ?_
  refine DI t8 fun x t9 => ?_
  refine Gy t9 fun rows z0 => ?_
  revert z0; refine Ak fun z1 t10 => ?_; revert z1; refine C9 fun h1 h2 h3 => ?_
  have hp := List.length_pos_iff.mpr h2
  refine ⟨rfl, Eq.mpr (WC (EX := EX)) ⟨⟨by omega, by omega⟩, fun r e => ?_⟩⟩
  rw [Bt (by omega)] at e
  have e2 : rows.headD [] = r := by
   cases rows with
   | nil => cases e
   | cons a l => exact Option.some.inj e
  unfold Ba at t10
  rw [e2] at t10
  refine NH r 0 none (Nat.zero_le _) ?_
  cases eh : CE x r 0 with
  | error e1 => rw [eh] at t10; cases e1 <;> exact t10
  | ok s =>
   rw [eh] at t10
   refine fun po => Eq.mpr (Rj (EX := EX)) ?_
   rw [IR]
   have := Nz (EX := EX) (rows := rows) (Q := Kq) h1 (rows.drop 1) s [] po none none (Mq eh (Nat.zero_le _)) (by rw [List.length_drop]; show 0 + _ <= _; omega) t10
   rw [IR] at this
   exact this
 ·refine ZR (fun a b c d z0 => ?_) <| ZZ hl; obtain rfl := z0; exact BindsTo.of_eq rfl
end
def Yo (e : Aa) (u o n : Prop) : Prop := match e with
 | .use => u
 | .out => o
 | .run => n
 | _ => False
noncomputable def PG : CT := fun us os EX K => BF 0 us fun us => BF 1 us fun us => Ab us <| HV os fun m os => Dw os fun P os => Ab os <| HB P fun x => (CM m /\ x.length <= 20000 /\ ∀ p ∈ x, A8 p = true) /\
 Bp (Ao [AR] A3 m x) (fun e => Yo e (K (.str "use") [.mac m, .lst (.toks x)]) (K (.str "outer") [.mac m, .lst (.toks x)]) (K (.str "runaway") [.mac m, .lst (.toks x)]))
  fun r => K (.tup2 (.ref 2) (.ref 3)) [.mac m, .lst (.toks x), .lst (.tts r.1), .lst (.toks r.2)]
def Va (e : Aa) (d o n : Prop) : Prop := match e with
 | .defn => d
 | .out => o
 | .run => n
 | _ => False
def Pk (os : List AO) (k : AC -> BU -> Prop) : Prop := Dt os fun f _ os => HV os fun m os => Ab os (k f m)
noncomputable def UK : CT := fun us os EX K => BF 0 us fun us => Ab us <| Dw os fun P os => Ab os <| HB P fun x => (x.length <= 800 /\ ∀ p ∈ x, A8 p = true) /\
 Ig x [AR] false false (fun e => Va e (K (.str "wrong") [.lst (.toks x)]) (K (.str "outer") [.lst (.toks x)]) (K (.str "runaway") [.lst (.toks x)]))
  fun _ os => Pk os fun f m => br (decide ((m.dl.length : Int) - 1 = 9)) (br (decide (m.body = [(5, 9)])) (K (.str "well") [.lst (.toks x)]) (K (.str "other") [.lst (.toks x)])) (K (.str "other") [.lst (.toks x)])
noncomputable def SY : Stmt -> List Stmt
 | .Try b _ _ _ _ => b
 | _ => []
noncomputable def FA : Stmt -> List ExceptHandler
 | .Try _ h _ _ _ => h
 | _ => []
noncomputable def XB : Stmt -> Pos
 | .Try _ _ _ _ p => p
 | _ => default
section
variable {K : Frag} {B : Heap} {mg mb : Str -> Option Value} {ad : Str -> Addr} {tk : Str -> Tok} {prog : Program} {w : World} {EX : Aa -> Prop} {x : AC} {m : BU}
noncomputable def NS (EX : Aa -> Prop) : Gm := ⟨EX, AM (st 56), [("arguments", DB), ("TokenFeed", GY)], [("left", Ed)], .toks [], [], GQ⟩
noncomputable def Rk (f g : Option AV) : List (Str × Option AV) := [("macro", some (.ref 0)), ("text", some (.ref 1)), ("feed", f), ("given", g)]
theorem Nw : AB (st 56) = (AB (st 56)).take 1 ++ (.Try (SY (Bl (AB (st 56)) 1)) (FA (Bl (AB (st 56)) 1)) [] [] (XB (Bl (AB (st 56)) 1)) :: (AB (st 56)).drop 2) := by kernel_rfl
theorem TA {Q : Fl -> St -> Prop} : ((V 40 (NS EX)).b ((AB (st 56)).take 1) ⟨Az ["macro", "text"] [.ref 0, .ref 1] ["feed", "given"], [.mac m, .lst (.toks x)]⟩ Q) =
  (1 <= 1000000 /\ (x.length <= 20000 /\ ∀ p ∈ x, A8 p = true) /\ Q .next ⟨Rk (some (.ref 2)) none, [.mac m, .lst (.toks x), .feed x [AR]]⟩) := by kernel_rfl
theorem Qc {KN : St -> Prop} {KS : Str -> List AO -> Prop} : WD (NS EX) (V 30 (NS fun _ => False)) 2 (SY (Bl (AB (st 56)) 1)) (FA (Bl (AB (st 56)) 1)) ⟨Rk (some (.ref 2)) none, [.mac m, .lst (.toks x), .feed x [AR]]⟩ KN KS =
  ((CM m /\ x.length <= 40000) /\ Bp (Ao [AR] A3 m x) (fun e => Mu (FA (Bl (AB (st 56)) 1)) e fun s => KS s [.mac m, .lst (.toks x)]) fun r => KN ⟨Rk (some (.ref 2)) (some (.ref 3)), [.mac m, .lst (.toks x), .feed r.2 [AR], .lst (.tts r.1)]⟩) := by kernel_rfl
theorem Yx {KS : Str -> Prop} (e : Aa) (h : Yo e (KS "use") (KS "outer") (KS "runaway")) : Mu (FA (Bl (AB (st 56)) 1)) e KS := by
 cases e with
 | use => exact Eq.mpr (show Mu (FA (Bl (AB (st 56)) 1)) .use KS = KS "use" by kernel_rfl) h
 | out => exact Eq.mpr (show Mu (FA (Bl (AB (st 56)) 1)) .out KS = KS "outer" by kernel_rfl) h
 | run => exact Eq.mpr (show Mu (FA (Bl (AB (st 56)) 1)) .run KS = KS "runaway" by kernel_rfl) h
 | defn => exact h.elim
 | bad => exact h.elim
theorem SI {f : AC} {g : List AC} {Q : AV -> List AO -> Prop} : ((V 40 (NS EX)).b ((AB (st 56)).drop 2) ⟨Rk (some (.ref 2)) (some (.ref 3)), [.mac m, .lst (.toks x), .feed f [AR], .lst (.tts g)]⟩ fun fl st' => AU 2 (Am fl) st'.objs Q) =
  Q (.tup2 (.ref 2) (.ref 3)) [.mac m, .lst (.toks x), .lst (.tts g), .lst (.toks f)] := by kernel_rfl
theorem Ic (W : Wd K B mg mb ad tk) {A : Around} {s : Shared} {h : Heap} {S : List Addr} {outer : List Env} {L : Addr} {env : Env} : GG ⟨prog, w, A, s, B, h, S, outer, AM (st 56), L, env, K, mg, mb, ad, tk, 6, EX, []⟩ (NS EX) :=
 Hb (by decide) rfl (BX ⟨(W.f_arguments).1, (W.f_arguments).2.1, FN W⟩ (BX ⟨W.cTF.g, W.cTF.k, (Ip W).mono (by decide)⟩ Bo)) (BX (KL W (by decide)) Bo) (fun _ m => nomatch m) fun _ _ _ _ _ _ q => q.elim
theorem Sy (W : Wd K B mg mb ad tk) : Sp prog w B ad 7 (.ref (ad "_law_told")) PG := by
 refine Hh W (W.f_law_told).2.2 ["macro", "text"] ["feed", "given"] [] [] (fun _ _ => trivial) (fun us os EX Kq t => ?_) (fun xs hl _ _ _ _ _ _ _ _ _ _ => ?_) (by decide +kernel) rfl rfl rfl (by decide +kernel)
 ·refine Ai t fun r t1 => ?_
  refine Ai t1 fun r t2 => ?_
  refine AI t2 fun t3 => ?_
  refine Dg t3 fun m r t4 => ?_
  refine B9 t4 fun P r t5 => ?_
  refine AI t5 fun t6 => ?_
  refine DI t6 fun x z0 => ?_
  revert z0; refine Ak fun z1 t7 => ?_; revert z1; refine C9 fun hm hx hk => ?_
  refine ⟨rfl, fun A s h S outer L env os0 e => ?_⟩
  have hl : os0.length = 2 := by rw [<- List.length_map (f := (·.2)), e]; rfl
  rw [Nw]
  refine AF.app ?_
  refine (GM (Ic W) 40).b _ _ _ ?_
  refine Eq.mpr (TA (EX := EX)) ?_
  refine J6 (by decide) ⟨hx, hk⟩ ?_
  show AF _ _ _ _ _
  refine AF.try_ (Ic W) (GM (Ic W).calm 30) rfl ?_
  rw [hl]
  refine Eq.mpr (Qc (EX := EX)) ⟨⟨hm, by omega⟩, ?_⟩
  cases ea : Ao [AR] A3 m x with
  | error e1 => rw [ea] at t7; exact Yx e1 t7
  | ok r =>
   rw [ea] at t7
   refine AF.of ((GM (Ic W) 40).b _ _ _ ?_)
   rw [hl]
   exact Eq.mpr (SI (EX := EX)) t7
 ·refine HM (fun a b z0 => ?_) <| ex2 (by rw [List.append_nil] at hl; exact hl); obtain rfl := z0; exact BindsTo.of_eq rfl
noncomputable def RU (EX : Aa -> Prop) : Gm := ⟨EX, AM (st 60), [("definition", Cd), ("TokenFeed", GY)], [], .toks [], [], GQ⟩
theorem Np : AB (st 60) = .Try (SY (Bl (AB (st 60)) 0)) (FA (Bl (AB (st 60)) 0)) [] [] (XB (Bl (AB (st 60)) 0)) :: (AB (st 60)).drop 1 := by kernel_rfl
theorem Ug {KN : St -> Prop} {KS : Str -> List AO -> Prop} : WD (RU EX) (V 30 (RU fun _ => False)) 1 (SY (Bl (AB (st 60)) 0)) (FA (Bl (AB (st 60)) 0)) ⟨Az ["tokens"] [.ref 0] ["macro"], [.lst (.toks x)]⟩ KN KS =
  (1 <= 1000000 /\ (x.length <= 20000 /\ ∀ p ∈ x, A8 p = true) /\ Ig x [AR] false false (fun e => Mu (FA (Bl (AB (st 60)) 0)) e fun s => KS s [.lst (.toks x)])
   fun _ os => Pk os fun f m => KN ⟨[("tokens", some (.ref 0)), ("macro", some (.ref 2))], [.lst (.toks x), .feed f [AR], .mac m]⟩) := by kernel_rfl
theorem XM {KS : Str -> Prop} (e : Aa) (h : Va e (KS "wrong") (KS "outer") (KS "runaway")) : Mu (FA (Bl (AB (st 60)) 0)) e KS := by
 cases e with
 | defn => exact Eq.mpr (show Mu (FA (Bl (AB (st 60)) 0)) .defn KS = KS "wrong" by kernel_rfl) h
 | out => exact Eq.mpr (show Mu (FA (Bl (AB (st 60)) 0)) .out KS = KS "outer" by kernel_rfl) h
 | run => exact Eq.mpr (show Mu (FA (Bl (AB (st 60)) 0)) .run KS = KS "runaway" by kernel_rfl) h
 | use => exact h.elim
 | bad => exact h.elim
theorem Qp {f : AC} {Q : AV -> List AO -> Prop} : ((V 40 (RU EX)).b ((AB (st 60)).drop 1) ⟨[("tokens", some (.ref 0)), ("macro", some (.ref 2))], [.lst (.toks x), .feed f [AR], .mac m]⟩ fun fl st' => AU 1 (Am fl) st'.objs Q) =
  br (decide ((m.dl.length : Int) - 1 = 9)) (1 <= 1000000 /\ br (decide (m.body = [(5, 9)])) (Q (.str "well") [.lst (.toks x)]) (Q (.str "other") [.lst (.toks x)])) (Q (.str "other") [.lst (.toks x)]) := by kernel_rfl
theorem KV (W : Wd K B mg mb ad tk) {A : Around} {s : Shared} {h : Heap} {S : List Addr} {outer : List Env} {L : Addr} {env : Env} : GG ⟨prog, w, A, s, B, h, S, outer, AM (st 60), L, env, K, mg, mb, ad, tk, 5, EX, []⟩ (RU EX) :=
 Hb (by decide) rfl (BX ⟨W.fDf.1, W.fDf.2.1, EU W⟩ (BX ⟨W.cTF.g, W.cTF.k, (Ip W).mono (by decide)⟩ Bo)) Bo (fun _ m => nomatch m) fun _ _ _ _ _ _ q => q.elim
theorem Lf {α : Type} {r : Except Aa α} {E E' : Aa -> Prop} {k k' : α -> Prop} (h : Bp r E k) (he : ∀ e, E e -> E' e) (hk : ∀ a, k a -> k' a) : Bp r E' k' := by
 cases r with
 | ok a => exact hk a h
 | error e => exact he e h
theorem PN {long out : Bool} {ps outs : AC} {E E' : Aa -> Prop} {K K' : AV -> List AO -> Prop} (h : Ig ps outs long out E K) (he : ∀ e, E e -> E' e) (hk : ∀ a os, K a os -> K' a os) : Ig ps outs long out E' K' :=
 ⟨h.1, Lf h.2 he fun _ q => ⟨q.1, Lf q.2 he fun _ q => ⟨q.1, by
  refine Ah (fun D e q => ?_) <| EF q.2
  rw [e]; exact hk _ _ q⟩⟩⟩
theorem M1 {os : List AO} {k k' : AC -> BU -> Prop} (h : Pk os k) (hk : ∀ f m, k f m -> k' f m) : Pk os k' := CG h fun f _ os h => Dg h fun m os h => AI h fun q => hk _ _ q
theorem UO (W : Wd K B mg mb ad tk) : Sp prog w B ad 6 (.ref (ad "_law_definition")) UK := by
 refine Hh W (W.f_law_definition).2.2 ["tokens"] ["macro"] [] [] (fun _ _ => trivial) (fun us os EX Kq t => ?_) (fun xs hl _ _ _ _ _ _ _ _ _ _ => ?_) (by decide +kernel) rfl rfl rfl (by decide +kernel)
 ·refine Ai t fun r t1 => ?_
  refine AI t1 fun t3 => ?_
  refine B9 t3 fun P r t5 => ?_
  refine AI t5 fun t6 => ?_
  refine DI t6 fun x z0 => ?_
  revert z0; refine Ak fun z1 t7 => ?_; revert z1; refine Ak fun hx hk => ?_
  refine ⟨rfl, fun A s h S outer L env os0 e => ?_⟩
  have hl : os0.length = 1 := by rw [<- List.length_map (f := (·.2)), e]; rfl
  rw [Np]
  refine AF.try_ (KV W) (GM (KV W).calm 30) rfl ?_
  rw [hl]
  refine Eq.mpr (Ug (EX := EX)) ⟨by decide, ⟨by omega, hk⟩, PN t7 (fun e q => XM e q) fun _ os q => M1 q fun f m q => ?_⟩
  refine AF.of ((GM (KV W) 40).b _ _ _ ?_)
  rw [hl]
  refine Eq.mpr (Qp (EX := EX)) ?_
  unfold br at q ⊢
  cases hd : decide ((m.dl.length : Int) - 1 = 9)
  ·rw [hd] at q; exact q
  ·rw [hd] at q; exact ⟨by decide, q⟩
 ·refine Ap (fun a z0 => ?_) <| PA (by rw [List.append_nil] at hl; exact hl); obtain rfl := z0; exact BindsTo.of_eq rfl
end
noncomputable def IL : CT := fun us os EX K => BF 0 us fun us => Ab us <| Dw os fun P os => Ab os <| HB P fun ps => (ps.length <= 20000 /\ ∀ p ∈ ps, A8 p = true) /\ K (.ref 1) [.lst (.toks ps), .feed ps []]
noncomputable def He : CT := fun us os EX K => BF 0 us fun us => Ab us <| GN os fun n os => Ab os <| 1 <= n /\ K (.bool true) [.src (n - 1)]
noncomputable def WS : BU := ⟨[(9, 1), (11, 97), (11, 97), (11, 98)], [(5, 1), (12, 45), (5, 1)], [[], [(11, 97), (11, 97), (11, 98)]], false, false⟩
noncomputable def Tv (d : Int) : AC := (List.replicate (3 + d).toNat [((11 : Int), (97 : Int))]).flatten ++ [(11, 98), (11, 99)]
noncomputable def My (d : Int) : AC := (List.replicate (3 + d - 2).toNat [((11 : Int), (97 : Int))]).flatten
noncomputable def ZO (d : Int) : AC := My d ++ [(12, 45)] ++ My d
section
variable {K : Frag} {B : Heap} {mg mb : Str -> Option Value} {ad : Str -> Addr} {tk : Str -> Tok} {prog : Program} {w : World} {EX : Aa -> Prop} {n : Nat}
theorem Pq (W : Wd K B mg mb ad tk) : Sp prog w B ad 4 (.ref (ad "TokenFeed")) IL := .of fun us os h xs EX Kq t => by
 refine Ai t fun r t => AI t fun t => ?_
 refine KO (os := os) t fun x P t => ?_
 refine DI t fun ps t z => B8 z.cvs fun v cv => ?_
 have e0 := ZX cv
 rw [e0]
 refine .of (QR W z.hB (z.ok _ (.head _)).2 t.1.1 t.1.2) AH fun v h' K r => ?_
 revert r; refine Eo fun y dx z0 hy hdx => Ah fun a hz F => ?_
 exact ⟨.ref 1, _, .push (p := (⟨y, dx, a⟩, .feed ps [])) z.ok z.dis K F (List.forall_mem_cons.mpr ⟨hy, Ei hdx hz⟩), ⟨⟨y, dx, a⟩, rfl, z0⟩, t.2⟩
noncomputable def cB (EX : Aa -> Prop) : Gm := ⟨EX, AM (st 59), [("_law_take", CD), ("TokenFeed", IL), ("Macro", FJ), ("call", KQ)], [("left", Ed)], .toks [], [], GQ⟩
theorem Y4 {Q : AV -> List AO -> Prop} : ((V 40 (cB EX)).b (AB (st 59)) ⟨Az ["source"] [.ref 0] ["many", "feed", "macro"], [.src n]⟩ fun fl st' => AU 1 (Am fl) st'.objs Q) =
  ((1 <= n /\ (1 : Int) <= 4 /\ (4 : Int) <= 1000) /\ ∀ d : Int, 0 <= d -> d < 4 -> 1 <= 1000000 /\ 0 <= 3 + d /\ 3 + d <= 1000 /\ 1 <= 1000 /\ (List.replicate (3 + d).toNat [((11 : Int), (97 : Int))]).flatten.length <= 1000000 /\ 2 <= 1000000 /\ (Tv d).length <= 1000000 /\
   ((Tv d).length <= 20000 /\ ∀ p ∈ Tv d, A8 p = true) /\ 4 <= 1000000 /\ 3 <= 1000000 /\ (4 <= 900 /\ 3 <= 900) /\ (CM WS /\ (Tv d).length <= 40000) /\ Bp (Ao [] A3 WS (Tv d)) EX fun r =>
    ((∀ p ∈ WS.body, p.1 = 5 -> 1 <= p.2 /\ p.2 <= r.1.length) /\ (r.1.length <= 1000 /\ ∀ x ∈ r.1, x.length <= 1000) /\ WS.body.length <= 900) /\ 1 <= 1000000 /\ 0 <= 3 + d - 2 /\ 3 + d - 2 <= 1000 /\ 1 <= 1000 /\ (My d).length <= 1000000 /\ 1 <= 1000000 /\ (My d ++ [(12, 45)]).length <= 1000000 /\
     1 <= 1000000 /\ 0 <= 3 + d - 2 /\ 3 + d - 2 <= 1000 /\ 1 <= 1000 /\ (My d).length <= 1000000 /\ (ZO d).length <= 1000000 /\
      br (decide (DD r.1 WS.body = ZO d)) (1 <= 1000000 /\ Q (.bool (decide (r.2 = [(11, 99)]))) [.src (n - 1)]) (Q (.bool false) [.src (n - 1)])) := by kernel_rfl
theorem YZ {d : Int} (h0 : 0 <= d) (h1 : d < 4) : Ao [] A3 WS (Tv d) = .ok ([My d], [(11, 99)]) := by
 have : d = 0 \/ d = 1 \/ d = 2 \/ d = 3 := by omega
 rcases this with rfl | rfl | rfl | rfl <;> kernel_rfl
theorem Op (m : Nat) : (List.replicate m [((11 : Int), (97 : Int))]).flatten.length = m /\ ∀ p ∈ (List.replicate m [((11 : Int), (97 : Int))]).flatten, A8 p = true := by
 induction m with
 | zero => exact ⟨rfl, fun _ m => nomatch m⟩
 | succ m ih =>
  rw [List.replicate_succ, List.flatten_cons]
  exact ⟨by rw [List.length_append, ih.1]; show 1 + m = m + 1; omega, B2 (fun p m => by rw [List.mem_singleton.mp m]; decide) ih.2⟩
theorem Kr (W : Wd K B mg mb ad tk) : Sp prog w B ad 8 (.ref (ad "_law_overlap_right")) He := by
 refine CI W (W.f_law_overlap_right).2.2 ["source"] ["many", "feed", "macro"] (F := [("_law_take", CD), ("TokenFeed", IL), ("Macro", FJ), ("call", KQ)]) (M := [("left", Ed)]) (nil := .toks []) (by decide) rfl
  (BX ⟨(W.f_law_take).1, (W.f_law_take).2.1, (EJ W).mono (by decide)⟩ (BX ⟨W.cTF.g, W.cTF.k, (Pq W).mono (by decide)⟩ (BX ⟨W.cMa.g, W.cMa.k, (Gf W).mono (by decide)⟩ (BX ⟨(W.f_call).1, (W.f_call).2.1, RI W⟩ Bo)))) (BX (KL W (by decide)) Bo) 40 (fun us os EX Kq t => ?_) (fun xs hl _ _ _ _ _ _ _ _ _ => ?_) (by decide +kernel) rfl rfl rfl (by decide +kernel)
 ·refine Ai t fun r t1 => ?_
  refine AI t1 fun t2 => ?_
  refine EB t2 fun n r t3 => ?_
  refine AI t3 fun z0 => ?_
  revert z0; refine Ak fun hn t4 => ?_
  refine ⟨rfl, Eq.mpr (Y4 (EX := EX)) ⟨⟨hn, by decide, by decide⟩, fun d h0 h1 => ?_⟩⟩
  have a1 := Op (3 + d).toNat
  have a2 := Op (3 + d - 2).toNat
  have lF : (Tv d).length = (3 + d).toNat + 2 := by unfold Tv; rw [List.length_append, a1.1]; rfl
  have lP : (My d).length = (3 + d - 2).toNat := a2.1
  have lQ : (My d ++ [(12, 45)]).length = (3 + d - 2).toNat + 1 := by rw [List.length_append, lP]; rfl
  have lR : (ZO d).length = (3 + d - 2).toNat + 1 + (3 + d - 2).toNat := by unfold ZO; rw [List.length_append, lQ, lP]
  refine ZV (by decide) (by omega) (by omega) (by decide) (by omega) ⟨by decide, by omega, ⟨by omega, B2 a1.2 (by decide)⟩, by decide, by decide, by decide, ⟨⟨⟨by decide, by decide⟩, ⟨by decide, by decide⟩, by decide, by decide⟩, by omega⟩, ?_⟩
  rw [YZ h0 h1]
  refine ZV ⟨show ∀ p ∈ WS.body, p.1 = 5 -> 1 <= p.2 /\ p.2 <= ((1 : Nat) : Int) by decide, ⟨show 1 <= 1000 by decide, fun x m => by rw [List.mem_singleton.mp m, lP]; omega⟩, by decide⟩ (by decide) (by omega) (by omega) (by decide) ⟨by omega, by decide, by omega, by decide, by omega, by omega, by decide, by omega, by omega, Dz (decide_eq_true ?_) ⟨by decide, t4⟩⟩
  show My d ++ ([(12, 45)] ++ (My d ++ [])) = My d ++ [(12, 45)] ++ My d
  rw [List.append_nil, List.append_assoc]
 ·refine Ap (fun a z0 => ?_) <| PA hl; obtain rfl := z0; exact BindsTo.of_eq rfl
end
noncomputable def WV : Aa -> Option Str
 | .defn => some "wrong"
 | .run => some "runaway"
 | .out => some "outer"
 | _ => none
noncomputable def Tq (x : AC) : Option Str := match DP [AR] (x.length + 1) x [] 0 with
 | .error e => WV e
 | .ok r => bif Nat.ble (BI r.1).length 9 && (Nat.ble r.1.length 900 && Nat.ble r.2.2.length 100000) then
   match Bg [AR] (BI r.1).length (r.2.2.length + 1) r.2.2 0 [] with
   | .error e => WV e
   | .ok s => bif Nat.ble s.1.length 900 then (A0 r.1 [] []).map fun D => bif decide ((D.length : Int) - 1 = 9) then (bif decide (s.1 = [(5, 9)]) then "well" else "other") else "other" else none
  else none
noncomputable def Oh : CT := fun us os EX K => BF 0 us fun us => Ab us <| Dw os fun P os => Ab os <| HB P fun x => bif Nat.ble x.length 800 && x.all A8 then Af (Tq x) fun s => K (.str s) [.lst (.toks x)] else False
noncomputable def Hv : CT := fun us os EX K => BF 0 us fun us => Ab us <| GN os fun n os => Ab os <| 1 <= n /\ K (.bool true) [.src (n - 1)]
def Nh : List (Nat × Nat) -> Prop -> Prop
 | [], k => k
 | (a, b) :: l, k => a <= b /\ Nh l k
theorem GX : ∀ {l : List (Nat × Nat)} {k : Prop}, (l.all fun p => Nat.ble p.1 p.2) = true -> k -> Nh l k
 | [], _, _, h => h
 | (a, b) :: l, _, e, h => by
  refine Ak (fun e1 e2 => ?_) <| Bool.and_eq_true_iff.mp (List.all_cons ▸ e)
  exact ⟨Nat.le_of_ble_eq_true e1, GX e2 h⟩
noncomputable def HQ : AC := [(6, 35), (12, 49)]
noncomputable def Sx : AC := [(6, 35), (12, 50)]
noncomputable def OY : AC := [(6, 35), (12, 49), (6, 35), (12, 50), (6, 35), (12, 51), (6, 35), (12, 52), (6, 35), (12, 53), (6, 35), (12, 54), (6, 35), (12, 55), (6, 35), (12, 56), (6, 35), (12, 57)]
noncomputable def VO : List Str := ["wrong", "wrong", "wrong", "wrong", "wrong", "wrong", "runaway", "runaway", "outer", "wrong", "well"]
noncomputable def XF : List AO := ([[(1, 123), (2, 125)], Sx ++ [(1, 123), (2, 125)], HQ ++ HQ, [(1, 123), (2, 125)], HQ ++ HQ ++ [(1, 123), (2, 125)], [(11, 97), (2, 125)], [(6, 35), (12, 58), (1, 123), (2, 125)], OY ++ [(6, 35), (12, 58), (1, 123), (2, 125)],
 [(1, 123)], HQ ++ [(1, 123)], HQ ++ [(1, 123)] ++ Sx, [(2, 125)], HQ ++ [(1, 123)] ++ Sx ++ [(2, 125)], [(6, 35), (11, 97), (1, 123), (2, 125)], [(1, 123), (11, 97)], HQ ++ [(1, 123), (11, 97)], [(1, 123), (11, 97), (0, 9), (2, 125)],
 [(1, 123), (6, 35), (2, 125), (2, 125)], HQ ++ [(1, 123), (6, 35), (2, 125), (2, 125)], [(1, 123), (6, 35), (12, 57), (2, 125)], OY ++ [(1, 123), (6, 35), (12, 57), (2, 125)]] : List AC).map fun l => .lst (.toks l)
section
variable {K : Frag} {B : Heap} {mg mb : Str -> Option Value} {ad : Str -> Addr} {tk : Str -> Tok} {prog : Program} {w : World} {EX : Aa -> Prop} {n : Nat} {k : Int} {x : AC} {s : Str}
noncomputable def UZ (EX : Aa -> Prop) : Gm := ⟨EX, AM (st 61), [("_law_take", CD), ("_law_definition", Oh)], [], .toks [], [], GQ⟩
noncomputable def Xq (n : Nat) (k : Int) (t d : Option AV) (os : List AO) : St := ⟨[("source", some (.ref 0)), ("one", some (.ref 1)), ("two", some (.ref 2)), ("nine", some (.ref 3)), ("n", some (.int 9)), ("way", some (.int k)), ("tokens", t), ("due", d)], .src n :: .lst (.toks HQ) :: .lst (.toks Sx) :: .lst (.toks OY) :: os⟩
def VD (EX : Aa -> Prop) (Q : AV -> List AO -> Prop) (n : Nat) (k : Int) : Prop := (V 36 (UZ EX)).b ((AB (st 61)).drop 4) (Xq n k none none []) fun fl st' => AU 1 (Am fl) st'.objs Q
def E8 (EX : Aa -> Prop) (Q : AV -> List AO -> Prop) (n : Nat) (k : Int) (t : AV) (d : Str) : Prop := (V 34 (UZ EX)).b ((AB (st 61)).drop 6) (Xq n k (some t) (some (.str d)) XF) fun fl st' => AU 1 (Am fl) st'.objs Q
theorem WU {Q : AV -> List AO -> Prop} : ((V 40 (UZ EX)).b (AB (st 61)) ⟨Az ["source"] [.ref 0] ["one", "two", "nine", "n", "way", "tokens", "due"], [.src n]⟩ fun fl st' => AU 1 (Am fl) st'.objs Q) =
  Nh [(2, 1000000), (2, 1000000)] (((-1000000 <= (1 : Int) /\ (1 : Int) <= 1000000) /\ (-1000000 <= (10 : Int) /\ (10 : Int) <= 1000000)) /\
   Nh [(2, 1000000), (2, 1000000), (2, 1000000), (4, 1000000), (2, 1000000), (6, 1000000), (2, 1000000), (8, 1000000), (2, 1000000), (10, 1000000), (2, 1000000), (12, 1000000), (2, 1000000), (14, 1000000), (2, 1000000), (16, 1000000), (2, 1000000), (18, 1000000)]
    ((1 <= n /\ (1 : Int) <= 11 /\ (11 : Int) <= 1000) /\ ∀ d : Int, 0 <= d -> d < 11 -> VD EX Q (n - 1) d)) := by kernel_rfl
theorem Si {Q : AV -> List AO -> Prop} : VD EX Q n k = Nh [(2, 1000000), (4, 1000000), (4, 1000000), (2, 1000000), (6, 1000000), (2, 1000000), (4, 1000000), (22, 1000000), (1, 1000000), (3, 1000000), (5, 1000000), (1, 1000000), (6, 1000000), (4, 1000000), (2, 1000000), (4, 1000000), (4, 1000000), (4, 1000000), (6, 1000000), (4, 1000000), (22, 1000000), (11, 1000)]
  (Qm [.ref 5, .ref 8, .ref 9, .ref 11, .ref 16, .ref 17, .ref 19, .ref 1, .ref 20, .ref 22, .ref 24] k fun a => 11 <= 1000 /\ (0 <= k /\ k < (11 : Nat)) /\ ∀ p, VO[k.toNat]? = some p -> E8 EX Q n k a p) := by kernel_rfl
theorem Xi {Q : AV -> List AO -> Prop} : E8 EX Q n 0 (.ref 5) "wrong" = Q (.bool true) [.src n] := by kernel_rfl
theorem Yf {Q : AV -> List AO -> Prop} : E8 EX Q n 1 (.ref 8) "wrong" = Q (.bool true) [.src n] := by kernel_rfl
theorem XX {Q : AV -> List AO -> Prop} : E8 EX Q n 2 (.ref 9) "wrong" = Q (.bool true) [.src n] := by kernel_rfl
theorem Xa {Q : AV -> List AO -> Prop} : E8 EX Q n 3 (.ref 11) "wrong" = Q (.bool true) [.src n] := by kernel_rfl
theorem XO {Q : AV -> List AO -> Prop} : E8 EX Q n 4 (.ref 16) "wrong" = Q (.bool true) [.src n] := by kernel_rfl
theorem Xj {Q : AV -> List AO -> Prop} : E8 EX Q n 5 (.ref 17) "wrong" = Q (.bool true) [.src n] := by kernel_rfl
theorem Yl {Q : AV -> List AO -> Prop} : E8 EX Q n 6 (.ref 19) "runaway" = Q (.bool true) [.src n] := by kernel_rfl
theorem YU {Q : AV -> List AO -> Prop} : E8 EX Q n 7 (.ref 1) "runaway" = Q (.bool true) [.src n] := by kernel_rfl
theorem ZC {Q : AV -> List AO -> Prop} : E8 EX Q n 8 (.ref 20) "outer" = Q (.bool true) [.src n] := by kernel_rfl
theorem YN {Q : AV -> List AO -> Prop} : E8 EX Q n 9 (.ref 22) "wrong" = Q (.bool true) [.src n] := by kernel_rfl
theorem Wi {Q : AV -> List AO -> Prop} : E8 EX Q n 10 (.ref 24) "well" = Q (.bool true) [.src n] := by kernel_rfl
theorem RP {Q : AV -> List AO -> Prop} (h0 : 0 <= k) (h1 : k < 11) (h : Q (.bool true) [.src n]) : VD EX Q n k := by
 refine Eq.mpr Si (GX (by decide +kernel) ?_)
 have : k = 0 \/ k = 1 \/ k = 2 \/ k = 3 \/ k = 4 \/ k = 5 \/ k = 6 \/ k = 7 \/ k = 8 \/ k = 9 \/ k = 10 := by omega
 have go : ∀ {j : Nat} {a : AV} {d : Str}, j < 11 -> VO[j]? = some d -> (E8 EX Q n (j : Int) a d = Q (.bool true) [.src n]) -> 11 <= 1000 /\ (0 <= (j : Int) /\ (j : Int) < (11 : Nat)) /\ ∀ p, VO[(j : Int).toNat]? = some p -> E8 EX Q n (j : Int) a p := fun hj hd e => ⟨by decide, ⟨by omega, by omega⟩, fun p hp => by
  rw [Int.toNat_natCast, hd] at hp
  cases hp
  exact Eq.mpr e h⟩
 rcases this with rfl | rfl | rfl | rfl | rfl | rfl | rfl | rfl | rfl | rfl | rfl
 ·exact go (j := 0) (a := .ref 5) (by decide) rfl Xi
 ·exact go (j := 1) (a := .ref 8) (by decide) rfl Yf
 ·exact go (j := 2) (a := .ref 9) (by decide) rfl XX
 ·exact go (j := 3) (a := .ref 11) (by decide) rfl Xa
 ·exact go (j := 4) (a := .ref 16) (by decide) rfl XO
 ·exact go (j := 5) (a := .ref 17) (by decide) rfl Xj
 ·exact go (j := 6) (a := .ref 19) (by decide) rfl Yl
 ·exact go (j := 7) (a := .ref 1) (by decide) rfl YU
 ·exact go (j := 8) (a := .ref 20) (by decide) rfl ZC
 ·exact go (j := 9) (a := .ref 22) (by decide) rfl YN
 ·exact go (j := 10) (a := .ref 24) (by decide) rfl Wi
theorem Lx {e : Aa} {K : AV -> Prop} (h : WV e = some s) (q : K (.str s)) : Va e (K (.str "wrong")) (K (.str "outer")) (K (.str "runaway")) := by
 cases e <;> cases h <;> exact q
theorem QT {us : List AV} {os : List AO} {Kq : AV -> List AO -> Prop} (t : Oh us os EX Kq) : UK us os EX Kq := by
 refine Ai t fun r t1 => ?_
 refine AI t1 fun t3 => ?_
 refine B9 t3 fun P r t5 => ?_
 refine AI t5 fun t6 => ?_
 refine DI t6 fun x t7 => ?_
 refine Ak (fun hb t8 => ?_) <| CL t7
 refine Ah (fun s hs t9 => ?_) <| EF t8
 refine Ak (fun hx hk => ?_) <| Bool.and_eq_true_iff.mp hb
 have hx := Nat.le_of_ble_eq_true hx
 refine show (x.length <= 800 /\ ∀ p ∈ x, A8 p = true) /\ _ from ⟨⟨hx, List.all_eq_true.mp hk⟩, hx, ?_⟩
 unfold Tq at hs
 cases e1 : DP [AR] (x.length + 1) x [] 0 with
 | error e => rw [e1] at hs; exact Lx (K := fun a => Kq a [.lst (.toks x)]) hs t9
 | ok r =>
  rw [e1] at hs
  refine Ak (fun g hs => ?_) <| B0 hs
  refine Ak (fun g1 g => ?_) <| Bool.and_eq_true_iff.mp g
  refine Ak (fun g2 g3 => ?_) <| Bool.and_eq_true_iff.mp g
  refine ⟨⟨Nat.le_of_ble_eq_true g1, Nat.le_of_ble_eq_true g2, Nat.le_of_ble_eq_true g3⟩, ?_⟩
  cases e2 : Bg [AR] (BI r.1).length (r.2.2.length + 1) r.2.2 0 [] with
  | error e => rw [e2] at hs; exact Lx (K := fun a => Kq a [.lst (.toks x)]) hs t9
  | ok z =>
   rw [e2] at hs
   refine Ak (fun g4 hs => ?_) <| B0 hs
   refine Ah (fun D eD hD => ?_) <| Option.map_eq_some_iff.mp hs
   refine ⟨Nat.le_of_ble_eq_true g4, ?_⟩
   rw [eD]
   show br _ (br _ _ _) _
   subst hD
   show br (decide ((D.length : Int) - 1 = 9)) (br (decide (z.1 = [(5, 9)])) _ _) _
   unfold br
   cases hd : decide ((D.length : Int) - 1 = 9)
   ·rw [hd] at t9; exact t9
   ·rw [hd] at t9
    cases hd2 : decide (z.1 = [(5, 9)])
    ·rw [hd2] at t9; exact t9
    ·rw [hd2] at t9; exact t9
theorem Ko (W : Wd K B mg mb ad tk) : Sp prog w B ad 7 (.ref (ad "_law_refused_right")) Hv := by
 refine CI W (W.f_law_refused_right).2.2 ["source"] ["one", "two", "nine", "n", "way", "tokens", "due"] (F := [("_law_take", CD), ("_law_definition", Oh)]) (M := []) (nil := .toks []) (by decide) rfl
  (BX ⟨(W.f_law_take).1, (W.f_law_take).2.1, (EJ W).mono (by decide)⟩ (BX ⟨(W.f_law_definition).1, (W.f_law_definition).2.1, fun us os h xs EX K a b c d e f => UO W us os h xs EX K a b c d e (QT f)⟩ Bo)) Bo 40 (fun us os EX Kq t => ?_) (fun xs hl _ _ _ _ _ _ _ _ _ => ?_) (by decide +kernel) rfl rfl rfl (by decide +kernel)
 ·refine Ai t fun r t1 => ?_
  refine AI t1 fun t2 => ?_
  refine EB t2 fun n r t3 => ?_
  refine AI t3 fun z0 => ?_
  revert z0; refine Ak fun hn t4 => ?_
  exact ⟨rfl, Eq.mpr (WU (EX := EX)) (GX (by decide +kernel) ⟨by decide, GX (by decide +kernel) ⟨⟨hn, by decide, by decide⟩, fun d h0 h1 => RP h0 h1 t4⟩⟩)⟩
 ·refine Ap (fun a z0 => ?_) <| PA hl; obtain rfl := z0; exact BindsTo.of_eq rfl
end
section
variable {K : Frag} {B : Heap} {mg mb : Str -> Option Value} {ad : Str -> Addr} {tk : Str -> Tok} {prog : Program} {w : World}
theorem XN (W : Wd K B mg mb ad tk) {f : Addr} {name qual x : Str} {params : Arguments} {body : List Stmt} {scope : Scope} {dV : Value} (hf : Fn B f name qual params body scope dV) (rest : List Str) {F M : List (Str × CT)} {nil : AP} {n : Nat} {O : Stmt -> St -> (St -> Prop) -> Prop} (hn : 2 <= n) (hnil : nil.isNil = true)
  (hF : ∀ p ∈ F, FG prog w K B mg ad n p) (hM : ∀ p ∈ M, MG prog w K B ad n p)
  (hO : ∀ A s_ h S outer L env EX (y z : AA), env.cells = [(x, z.a)] -> z.r = y.a -> ∀ s st rest K' Q, O s st K' -> (∀ st, K' st -> AS ⟨prog, w, A, s_, B, h, S, outer, scope, L, env, K, mg, mb, ad, tk, n, EX, [y, z]⟩ rest st Q) -> AS ⟨prog, w, A, s_, B, h, S, outer, scope, L, env, K, mg, mb, ad, tk, n, EX, [y, z]⟩ (s :: rest) st Q)
  {T : CT} (N : Nat)
  (hT : ∀ us os EX Kq, T us os EX Kq -> us = [.ref 0] /\ ∃ k, os = [.src k] /\ (V N ⟨EX, scope, F, M, nil, [(x, 1, 0)], O⟩).b body ⟨Az [] [] rest, [.src k, .cel]⟩ fun fl st' => AU 1 (Am fl) st'.objs Kq)
  (hbind : ∀ v kV doc pm an cdv ct, bindArgs (fnOf name qual params body scope dV kV doc pm an cdv ct) ⟨[v], []⟩ = pure [(x, v)])
  (hk : (decide rest.Nodup && rest.all (fun x => scope.names.lookup x == some .local)) = true) (kd : scope.kind = .function) (hco : scope.isCoroutine = false) (hgen : scope.isGenerator = false)
  (hcx : scope.names.lookup x = some .cell) (hcl : ∀ n, cellsFrom n scope.names [] = [(x, n)]) : Sp prog w B ad (n + 1) (.ref f) T := fun us os h xs EX Kq hB hok hdis hnb cvs t => by
 refine Ak (fun z0 z1 => ?_) <| hT us _ EX Kq t; obtain rfl := z0; revert z1; refine Ah fun k e hv => ?_
 refine Ap (fun y z0 => ?_) <| os1 e; obtain rfl := z0
 refine Ah (fun v e9 cv => ?_) <| Zx cvs; clear cvs; subst e9
 obtain rfl := cv.at (os := [(y, .src k)]) (i := 0) rfl
 have hy := hok _ (.head _)
 refine QE (n + 1) (DT [(y, .src k)]) (fun v h' => ∃ a os', Bx B ad h [(y, .src k)] h' os' /\ CV h' (Av os') a v /\ Kq a (os'.map (·.2))) (Jm ad EX) (Nat.le_refl _) ⟨?_, fun _ m => m, fun _ x => x, fun v h' K r => r⟩
 refine (UE (x := x) (rest := rest) (A6 [] rest) hf W.gb.lim (fun kV doc pm an cdv ct => hbind _ kV doc pm an cdv ct) rfl (FF rest (GD (ps := []) (xs := []) rfl) hk kd) hcx hcl (fun A outer s L c env h₁ t₁ he hfr hcs hL hcf hc Fx K1 hA => ?_) hco hgen).ct
 have ha : Al h y.a := Da.al hy
 have hcy : y.a ≠ c := fun q => by
  revert ha; refine Ap fun o e => ?_
  rw [q, hcf] at e; cases e
 have hcL : c ≠ L := by
  revert hc; refine Ah fun o e d => ?_
  refine DK (fun o' es ep e' d' _ => ?_) Fx.ns
  intro q; rw [q, e'] at e; cases e; rw [d] at d'; cases d'
 have R0 : BD ⟨prog, w, A, s, B, h, DT [(y, .src k)], outer, scope, L, env, K, mg, mb, ad, tk, n, EX, [y, ⟨c, 0, y.a⟩]⟩ ⟨Az [] [] rest, [.src k, .cel]⟩ [(y, .src k), (⟨c, 0, y.a⟩, .cel)] h₁ (A6 [] rest) :=
  ⟨Fx, rfl, JG (ps := []) (us := []) (xs := []) rfl trivial, fun p m => by
   rcases List.mem_cons.mp m with rfl | m
   ·exact hy.kp K1 AD
   ·rw [List.mem_singleton.mp m]; exact hc,
   .cons (fun p m a m1 b m2 => by
    rw [List.mem_singleton.mp m] at m2
    rw [List.mem_singleton.mp m1, List.mem_singleton.mp m2]; exact hcy) (.cons (fun _ m => nomatch m) .nil),
   fun p m a m1 => by
    rcases List.mem_cons.mp m with rfl | m
    ·exact ⟨.inl (Bn (.head _) m1), hnb _ (.head _) a m1⟩
    ·rw [List.mem_singleton.mp m] at m1; exact (nomatch m1),
   fun p m a m1 q => by
    rcases List.mem_cons.mp m with rfl | m
    ·rw [List.mem_singleton.mp m1] at q
     revert ha; refine Ap fun o e => ?_
     rw [q, hL] at e; cases e
    ·rw [List.mem_singleton.mp m] at m1
     rw [List.mem_singleton.mp m1] at q
     exact hcL q,
   List.prefix_refl _⟩
 refine AF.of ((GM (Hb (C := [(x, 1, 0)]) (O := O) hn hnil hF hM (fun p m => ?_) fun st' rest' sm K' Q _ g hK => hO A s h (DT [(y, .src k)]) outer L env EX y ⟨c, 0, y.a⟩ hcs rfl sm st' rest' K' Q g hK) N).b body _ _ hv) ⟨W, he, hfr, hA⟩ _ h₁ t₁ _ R0 ?_
 ·rw [List.mem_singleton.mp m]
  exact V6 ⟨c, 0, y.a⟩ y rfl rfl (by rw [hcs]; exact List.lookup_cons_self) rfl
 ·exact Ex.push (c := ⟨prog, w, A, s, B, h, DT [(y, .src k)], outer, scope, L, env, K, mg, mb, ad, tk, n, EX, [y, ⟨c, 0, y.a⟩]⟩) (os := [(y, .src k)]) (p := (⟨c, 0, y.a⟩, .cel)) K1 fun a m => by rw [List.mem_singleton.mp m]; exact hcf
end
section
variable {prog : Program} {w : World} {A : Around} {E : Value -> Shared -> Prop} {s : Shared} {h : Heap} {t : Nat}
 {B h₀ : Heap} {S₀ : List Addr} {outer : List Env} {sc : Scope} {L : Addr} {l : A9} {env : Env} {mg mb : Str -> Option Value} {n : Nat} {Cs : Value -> Prop}
theorem O4 {elt iter : Expr} {x : Str} {xp pos : Pos} {ifs : List Expr} {cscope : Scope} {cl : List (Str × Addr)} {u : Value -> Sem Unit} (hifs : ifs = [] \/ ∃ c, ifs = [c])
  (he : Ax env sc L) (hf : env.frame = some L) (hA : Db A (env :: outer) n) (hx : cscope.names.lookup x = some .local)
  {ia : Addr} {fp : List Addr} {N : Nat} {V : Nat -> Value -> Prop} {It : Nat -> Heap -> Prop} (hI : Wp prog w A s (.ref ia) [ia] fp N V It) (hF : ∀ i h, It i h -> GH h ia)
  (J : Nat -> List Value -> Heap -> Prop) (Tw : List Addr) {hp : Heap} (hnew : hp.get? ia = none) (hTw : ∀ b ∈ Tw, Al hp b /\ (b ∈ S₀ \/ h₀.get? b = none) /\ b ∉ fp) (hfp : ∀ b ∈ fp, Al hp b) (hN : N <= 1000)
  (Fp : Fx B h₀ S₀ outer sc L hp l) {Q : Value -> Shared -> Prop} (hkind : cscope.kind = .function) (hcell : ∀ x ∈ cscope.names, x.2 ≠ .cell) (hself : ∀ h t Q E, It 0 h -> Q (.ref ia) (mk s h t) -> wpAny (model prog w) A (pyIter (.ref ia)) Q E (mk s h t))
  (F : Fx B h₀ S₀ outer sc L h l) (K0 : Kp B Tw [] hp h) (i0 : It 0 h) (j0 : J 0 [] h)
  (turn : ∀ i ys ac C cenv hq h₃ t₃ v, i < N -> ys.length <= i -> J i ys hq -> hp.get? ac = none -> hp.get? ia = none -> hp.get? C = none -> Kw [ac, ia] [C] hq h₃ -> Kp B Tw [] hp h₃ -> Ax cenv (relabel cscope env) C -> cenv.cells = cl -> Fx B h₀ S₀ outer (relabel cscope env) C h₃ [(x, some v)] -> Dn B (env :: outer) h₃ -> V i v ->
   EC (model prog w) A ifs cenv (fun ok s₂ => if ok then wpAny (model prog w) A (eval elt cenv) (fun y s₃ => Ch B s Tw h₃ (J (i + 1)) (ys ++ [y]) s₃) (fun _ _ => False) s₂ else Ch B s Tw h₃ (J (i + 1)) ys s₂) (mk s h₃ t₃))
  (fin : ∀ ys ac C hq h₂ t₂ m, ys.length <= N -> J N ys hq -> hp.get? ac = none -> hp.get? ia = none -> hp.get? C = none -> Kw [ac, ia] [C] hq h₂ -> Kp B Tw [] hp h₂ -> Fx B h₀ S₀ outer sc L h₂ l -> Li h₂ ac ys -> h₂.Ns C m -> h₀.get? C = none -> B.get? C = none -> C ≠ L ->
   wpAny (model prog w) A (u (.ref ac)) (fun _ s'' => ∃ m, s''.heap.Ns C m /\ ∀ h', Heap.SameBut C s''.heap h' -> Q .none { s'' with heap := h' }) E (mk s h₂ t₂)) :
  DH prog w A E env elt x xp iter ifs cscope pos cl (some u) Q (.ref ia) (mk s h t) := by
 unfold DH
 refine HT F (fun ac h1 F1 K1 hnac hac => ?_) (by simp)
 have hac0 : hp.get? ac = none := K0.alive hnac
 have hC1 : h1.get? h1.objs.size = none := Heap.get?_none_of_le (Nat.le_refl _)
 refine wpAny_newFunctionEnv (s := mk s h1 t) hcell (fun _ m => nomatch m) (fun h2 hns hsb => ?_) hkind
 have hns : h2.Ns h1.objs.size (lk [(x, none)]) := by
  have e : lk [(x, none)] = fun y => ([] : List (Str × Value)).reverse.lookup y := by
   funext y
   exact Ix [x] y
  rw [e]; exact hns
 have hk12 : ∀ b o, h1.get? b = some o -> h2.get? b = some o := fun b o e => (hsb.2 b (Nat.ne_of_lt (Heap.lt_size e))).trans (Heap.get?_push_of_some _ e)
 have K2 : Kp B [] [] h1 h2 := .of_keeps hk12
 have hC0 : hp.get? h1.objs.size = none := K0.alive (K1.alive hC1)
 have hCh : h₀.get? h1.objs.size = none := Fp.kp.alive hC0
 have F2 := F1.grow K2
 have hLC : L ≠ h1.objs.size := fun q => by
  refine Gr (fun o es ep e _ => ?_) F1.ns
  rw [q, hC1] at e; cases e
 have nmC : Nm (relabel cscope env) [(x, (none : Option Value))] := ⟨by simp, fun y hy => by
  simp only [List.map_cons, List.map_nil, List.mem_singleton] at hy
  subst hy
  exact lookup_relabel_local hx, hkind⟩
 have FC2 : Fx B h₀ S₀ outer (relabel cscope env) h1.objs.size h2 [(x, none)] := ⟨hns, nmC, hCh, F2.kp, F2.base₀, F2.fr⟩
 have I2 : It 0 h2 := hI.keep _ _ _ _ _ _ (hI.keep _ _ _ _ _ _ i0 K1 (fun _ _ => AD) (fun _ _ => AD)) K2 (fun _ _ => AD) (fun _ _ => AD)
 have Kp2 : Kp B Tw [] hp h2 := (K0.trans K1 AH AH).trans K2 AH AH
 have WA : Wr B h₀ S₀ ac := F.wr hnac
 have hCB := BT Fp hC0
 have loop := fun (R : Result -> Shared -> Prop) (cenv : Env) (hec : Ax cenv (relabel cscope env) h1.objs.size) (hcl : cenv.cells = cl) => Fr (xp := xp) (pos := pos) (elt := elt) (iter := iter) (R := R) hifs he hf hA hx hI hF J Tw hnew hTw hfp hN Fp hac0 hC0 hec hcl hLC WA (h2 := h2) j0 (((K1.toKw.andThen K2.toKw AH AH).mono AH AH)) Kp2 I2 (hac.kp K2 AD) FC2 F2 (fun i ys hq h₃ t₃ v a b c d e f g hv => turn i ys ac h1.objs.size cenv hq h₃ t₃ v a b c hac0 hnew hC0 d e hec hcl f g hv)
 have done := fun cenv hec hcl => loop (compPost (model prog w) A E (some u) Q (.ref ac) h1.objs.size) cenv hec hcl (fun ys hq h₂ t₂ hys Ji kw kp F2' La m hm => fin ys ac _ hq h₂ t₂ _ hys Ji hac0 hnew hC0 kw kp F2' La hm hCh hCB hLC.symm)
 refine codeAny_compStart_list ?_ (hself h2 _ _ _ I2 ?_) <;> exact done _ (by exact ⟨rfl, rfl, he.globals, he.builtins⟩) rfl _
theorem WI {d : Addr} {a b : Int} {elt iter : Expr} {x : Str} {xp pos : Pos} {ifs : List Expr} {cscope : Scope} {cl : List (Str × Addr)} {u : Value -> Sem Unit} {Q : Value -> Shared -> Prop} (hifs : ifs = [] \/ ∃ c, ifs = [c])
  (he : Ax env sc L) (hf : env.frame = some L) (hA : Db A (env :: outer) n) (hx : cscope.names.lookup x = some .local) (hkind : cscope.kind = .function) (hcell : ∀ x ∈ cscope.names, x.2 ≠ .cell)
  (y : L9 h d a b) (ha : -1000 <= a /\ a <= 1000) (hb : -1000 <= b /\ b <= 1000) (hN : (b - a).toNat <= 1000) (J : Nat -> List Value -> Heap -> Prop) (Tw : List Addr) (hTw : ∀ b ∈ Tw, Al h b /\ (b ∈ S₀ \/ h₀.get? b = none)) (F : Fx B h₀ S₀ outer sc L h l) (j0 : ∀ h', Kp B [] [] h h' -> J 0 [] h')
  (turn : ∀ i ys ac ia C cenv hq h₃ t₃ v, i < (b - a).toNat -> ys.length <= i -> J i ys hq -> h.get? ac = none -> h.get? ia = none -> h.get? C = none -> Kw [ac, ia] [C] hq h₃ -> Kp B Tw [] h h₃ -> Ax cenv (relabel cscope env) C -> cenv.cells = cl -> Fx B h₀ S₀ outer (relabel cscope env) C h₃ [(x, some v)] -> Dn B (env :: outer) h₃ -> (∃ tk, v = .int (a + i) tk) ->
   EC (model prog w) A ifs cenv (fun ok s₂ => if ok then wpAny (model prog w) A (eval elt cenv) (fun y s₃ => Ch B s Tw h₃ (J (i + 1)) (ys ++ [y]) s₃) (fun _ _ => False) s₂ else Ch B s Tw h₃ (J (i + 1)) ys s₂) (mk s h₃ t₃))
  (fin : ∀ ys ac ia C hq h₂ t₂ m, ys.length <= (b - a).toNat -> J (b - a).toNat ys hq -> h.get? ac = none -> h.get? ia = none -> h.get? C = none -> Kw [ac, ia] [C] hq h₂ -> Kp B Tw [] h h₂ -> Fx B h₀ S₀ outer sc L h₂ l -> Li h₂ ac ys -> h₂.Ns C m -> h₀.get? C = none -> B.get? C = none -> C ≠ L ->
   wpAny (model prog w) A (u (.ref ac)) (fun _ s'' => ∃ m, s''.heap.Ns C m /\ ∀ h', Heap.SameBut C s''.heap h' -> Q .none { s'' with heap := h' }) E (mk s h₂ t₂)) :
  wpAny (model prog w) A (pyIter (.ref d)) (fun it s₂ => DH prog w A E env elt x xp iter ifs cscope pos cl (some u) Q it s₂) E (mk s h t) :=
 U0 hA.handled F y (by omega) (by omega) fun ia h' F' K' hia hI i0 => O4 hifs he hf hA hx (hI s) (fun i h x => Gi x) J Tw hia (fun b m => ⟨(hTw b m).1, (hTw b m).2, AD⟩) AH hN F hkind hcell (fun h t Q E I q => wpAny_pyIter_rangeiter (s := mk s h t) I q) F' (K'.mono AH AH) i0 (j0 _ K')
  (fun i ys ac C cenv hq h₃ t₃ v a b c d e f => turn i ys ac ia C cenv hq h₃ t₃ v a b c d e f) (fun ys ac C hq h₂ t₂ m a b c d e => fin ys ac ia C hq h₂ t₂ m a b c d e)
theorem Ua {elt iter : Expr} {x y : Str} {xp py pos spos : Pos} {ifs : List Expr} {cscope : Scope} {cl : List (Str × Addr)} {rest : List Stmt} {Q : Flow -> Shared -> Prop} (hsw : swapsWith (.ListComp elt [⟨.Name x xp, iter, ifs, 0⟩] cscope pos) (some (.Name y py)) spos.line env = pure true)
  (hclos : closureFor cscope env = pure cl) (hkind : cscope.kind = .function) (hnames : ∀ x ∈ cscope.names, x.2 = .local -> cscope.names.lookup x.1 = some .local) (hs : ∀ x, foldedSetIterable iter env x = pure x)
  (h : wpAny (model prog w) A (eval iter env) (fun v s₁ => wpAny (model prog w) A (pyIter v) (fun it s₂ => DH prog w A E env elt x xp iter ifs cscope pos cl (some (assign (.Name y py) env)) (fun _ s' => wpAny (model prog w) A (execs rest env) Q E s') it s₂) E s₁) E s) :
  wpAny (model prog w) A (execs (.Assign [.Name y py] (.ListComp elt [⟨.Name x xp, iter, ifs, 0⟩] cscope pos) spos :: rest) env) Q E s := by
 refine wpAny_execs_cons ?_
 rw [exec_Assign_Name_used _ _ _ _ hsw]
 refine wpAny_bind (wpAny_standAt (wpAny_bind ?_))
 rw [arm_evalThenUse_ListComp]
 exact wpAny_bind (wpAny_mono (wpAny_comprehension_free (g := ⟨.Name x xp, iter, ifs, 0⟩) (gs := []) (use := some (assign (.Name y py) env)) (Q := fun _ s' => wpAny (model prog w) A (execs rest env) Q E s') rfl hs hclos hkind hnames h) (fun _ s' hq => wpAny_pure (wpAny_pure hq)) fun _ _ e => e)
end
def Xw (a : Option AV) (k : Int -> Prop) : Prop := Af a fun v => Bb v k
theorem Vb {a : Option AV} {k : Int -> Prop} (h : Xw a k) : ∃ c, a = some (.int c) /\ k c := AJ h fun v e h => by
 revert e; exact Au h fun c q e => ⟨c, e, q⟩
def M2 (os : List AO) (k : Nat -> List AO -> Prop) : Prop := GN os fun n os => cP os fun a os => bif Ux a then k n os else False
theorem Py {os : List AO} {k : Nat -> List AO -> Prop} (h : M2 os k) : ∃ n r, os = .src n :: .cel :: r /\ k n r := EB h fun n os h => Ey h fun a os h => B4 h fun e h => OC e ⟨n, os, rfl, h⟩
def aE : Stmt -> St -> (St -> Prop) -> Prop := fun s z k => s = Bl (AB (st 58)) 1 /\ Af (MV "count" z.loc) fun a => Xw a fun c => (0 <= c /\ c <= 3) /\ M2 z.objs fun n r => 16 <= n /\
 (bif G1 "rows" z.loc then ∀ rows : List AC, rows.length = c.toNat + 1 -> (∀ x ∈ rows, x.length <= 3 /\ ∀ p ∈ x, p ∈ D8) -> k ⟨HR "rows" (.ref z.objs.length) z.loc, .src (n - 16) :: .cel :: (r ++ [.lst (.tts rows)])⟩ else False)
noncomputable def Vf (s : Stmt) : List Expr × Expr × Pos := (S6 s).getD ([], .Constant .none 0 default, default)
noncomputable def Z5 (s : Stmt) : Expr := (Vf s).2.1
noncomputable def aY (s : Stmt) : Expr := (Vf s).1.headD (.Constant .none 0 default)
noncomputable def Zh (s : Stmt) : Pos := (Vf s).2.2
theorem XK {env : Env} (e : env.scope = AM (st 58)) : swapsWith (Z5 (Bl (AB (st 58)) 1)) (some (aY (Bl (AB (st 58)) 1))) (Zh (Bl (AB (st 58)) 1)).line env = pure true := by
 rcases env with ⟨⟩
 cases e
 kernel_rfl
theorem Ud {α : Type} {ys : List α} (l : List α) : ∀ k : Nat, DW [0] ys (k + 1) l = l := by
 induction l with
 | nil => exact fun _ => rfl
 | cons p l ih =>
  intro k
  show (pos [0] ys (k + 1)).getD p :: DW [0] ys (k + 2) l = _
  rw [ih]
  cases ys <;> rfl
theorem WK {c : Cx} {y zc : AA} (hn : 2 <= c.n) (hsc : c.sc = AM (st 58)) (hads : c.ads = [y, zc]) (hcs : c.env.cells = [(("source" : Str), zc.a)]) (hr : zc.r = y.a) {s : Stmt} {rest : List Stmt} {z : St} {K : St -> Prop} {Q : Fl -> St -> Prop} (h : aE s z K) (hK : ∀ st, K st -> AS c rest st Q) : AS c (s :: rest) z Q := by
 revert h; refine Ak fun z0 h => ?_; obtain rfl := z0
 refine Ah (fun a ea h => ?_) <| EF h
 refine FR (fun cn z0 z1 g => ?_) <| Vb h; obtain rfl := z0; revert z1; refine Ak fun c0 c3 => ?_
 refine CY (fun n r eo hn16 h => ?_) <| Py g
 refine Ak (fun hx k => ?_) <| CL h
 refine fun ok os hh t l R => ?_
 refine Ah (fun v mv z0 => ?_) <| R.loc.look ea; revert z0; refine Ap fun u z1 => ?_; obtain rfl := z1
 have g : ∀ {x : Str}, (AM (st 58)).names.lookup x = some .globalImplicit -> c.sc.names.lookup x = some .globalImplicit := fun h => by rw [hsc]; exact h
 have hq := R.eq
 rw [eo] at hq
 have hpre := R.pre
 rw [hads] at hpre
 match os, hq, hpre, R with
 | [], hq, _, _ => cases hq
 | [_], hq, _, _ => exact nomatch (List.cons.inj hq).2
 | (p0, o0) :: (p1, o1) :: os', hq, hpre, R =>
 have q1 : AO.src n = o0 := (List.cons.inj hq).1
 have q2 : AO.cel = o1 := (List.cons.inj (List.cons.inj hq).2).1
 have q3 : r = os'.map (·.2) := (List.cons.inj (List.cons.inj hq).2).2
 subst q1 q2 q3
 revert hpre; refine Ap fun tl et => ?_
 have e1 : y = p0 := (List.cons.inj et).1
 have e2 : zc = p1 := (List.cons.inj (List.cons.inj et).2).1
 subst e1 e2
 have hsrc : Da hh y.a n := R.ok _ (.head _)
 have hcel : hh.IsCell zc.a (some (.ref zc.r)) := R.ok _ (.tail _ (.head _))
 rw [hr] at hcel
 have wy := R.wr _ (.head _) y.a (.head _)
 refine Ua (cl := [("source", zc.a)]) (XK (by rw [ok.he.scope, hsc])) (by
  have := hcs
  rcases c with ⟨_, _, _, _, _, _, _, _, _, _, ⟨⟩⟩
  cases this; rfl) rfl (by decide +kernel) (fun _ => rfl) ?_
 refine Ay rfl (Aq ok.W.gb ok.he R.F (g (by kernel_rfl)) ok.W.b_range (Mw rfl rfl (AW rfl (wpAny_BinOp (AQ ok.he R.F mv (Ag (Ze fun tk t1 => args_nil (Zl R.F fun d h1 t2 F1 K1 rg => ?_))) (by decide +kernel))))))
 have hz : ((cn + 1 - 0).toNat) = cn.toNat + 1 := by omega
 refine WI (.inl rfl) ok.he ok.hf ok.hA (by kernel_rfl) rfl (by decide +kernel) rg (by omega) (by omega) (by omega) (fun i ys hq => ∃ rows, Cf hq ys rows /\ rows.length = i /\ (∀ x ∈ rows, x.length <= 3 /\ ∀ p ∈ x, p ∈ D8) /\ Da hq y.a (n - 4 * i) /\ hq.IsCell zc.a (some (.ref y.a))) [y.a]
  (fun b m => ⟨List.mem_singleton.mp m ▸ (hsrc.kp K1 AD).al, by rw [List.mem_singleton.mp m]; exact wy.1⟩) F1 (fun h' K' => ⟨[], trivial, rfl, (fun _ m => nomatch m), ((hsrc.kp K1 AD).kp K' AD).mono (by omega), IsCell.kp K' (IsCell.kp K1 hcel AD) AD⟩) ?_ ?_
 ·intro i ys ac ia C cenv hq h6 t6 v hi hys hJ hac hia hC kw K6 hec hcl2 FC fr hv'
  revert hJ; refine HS fun rows hts hrl hrm x6 c6 => ?_
  have hdx : y.a ∉ [ac, ia] := Ef (EW hac (hsrc.kp K1 AD).al) (EW hia (hsrc.kp K1 AD).al)
  have hcx : zc.a ∉ [ac, ia] := Ef (EW hac (IsCell.al (IsCell.kp K1 hcel AD))) (EW hia (IsCell.al (IsCell.kp K1 hcel AD)))
  have x7 : Da h6 y.a ((n - 4 * (i + 1)) + 4) := (x6.kw kw hdx).mono (by omega)
  have c7 : h6.IsCell zc.a (some (.ref y.a)) := IsCell.kw kw c6 hcx
  have hcl3 : cenv.cells.lookup ("source" : Str) = some zc.a := by rw [hcl2]; rfl
  have hsx := Ht (x := "source") FC ok.he (by rw [hsc]; rfl) (by rw [hsc]; decide +kernel) (by decide +kernel)
  have hyz : y.a ≠ zc.a := (List.pairwise_cons.mp R.dis).1 _ (.head _) y.a (.head _) zc.a (.head _)
  show wpAny _ _ (eval _ cenv) _ _ _
  refine Ay rfl (B5 ok.W.gb hec FC (by kernel_rfl) (ok.W.f_law_row).1 (jK ok.W.X (ok.W.f_law_row).2.1 rfl rfl (AW rfl (Lw hec rfl hsx hcl3 c7 (args_nil ⟨FC.base, NN (Yu ok.W x7 wy.2) ok.hA FC fr hn (Ac wy.1) fun a h8 t8 F8 K8 e8 => ?_⟩) (by decide +kernel)))) (by decide +kernel))
  revert e8; refine Eo fun e r z0 tt hr1 z1 => ?_; obtain rfl := z0; revert z1; refine Ak fun hr2 x8 => ?_
  exact JS h8 t8 [y.a] rfl K8 ⟨fun b m => m, rows ++ [r], Cf.snoc tt (Cf.kp K8 (hts.kw kw)), by rw [List.length_append, hrl]; rfl, (fun x m => (List.mem_append.mp m).elim (hrm x) fun q => by rw [List.mem_singleton.mp q]; exact ⟨hr1, hr2⟩), x8, IsCell.kp K8 c7 (Ar hyz.symm)⟩
 ·intro ys ac ia C hq h6 t6 m hys hJ hac hia hC kw K6 F6 La hm hC0 hCB hCL
  revert hJ; refine HS fun rows hts hrl hrm x6 c6 => ?_
  have hal := (hsrc.kp K1 AD).al
  have hdx : y.a ∉ [ac, ia] := Ef (EW hac hal) (EW hia hal)
  have x7 : Da h6 y.a (n - 16) := (x6.kw kw hdx).mono (by omega)
  have L6 : Hg c.B c.ad h6 (⟨ac, 0, 0⟩, .lst (.tts rows)) := ⟨by show rows.length <= _; omega, ys, La, hts.kw kw, fun r m => by have := (hrm r m).1; omega⟩
  have hd : Jv (y, .src (n - 16)) (⟨ac, 0, 0⟩, .lst (.tts rows)) := fun a m1 b m2 => by
   rw [List.mem_singleton.mp m1, List.mem_singleton.mp m2]
   exact fun q => hdx (q ▸ .head _)
  have kind : ∀ (i : Nat) (p q : PO), [(y, AO.src n)][i]? = some p -> [(y, AO.src (n - 16)), ((⟨ac, 0, 0⟩ : AA), AO.lst (.tts rows))][i]? = some q -> DL q = DL p /\ GE q = GE p := fun i p q e1 e2 => by
   cases i with
   | zero => cases e1; cases e2; exact ⟨rfl, rfl⟩
   | succ i => cases e1
  have new : ∀ (i : Nat) (p : PO), 1 <= i -> [(y, AO.src (n - 16)), ((⟨ac, 0, 0⟩ : AA), AO.lst (.tts rows))][i]? = some p -> ∀ x ∈ DL p, h1.get? x = none := fun i p hi e x m => by
   rcases i with _ | _ | i
   ·exact absurd hi (by decide)
   ·cases e; rw [List.mem_singleton.mp m]; exact hac
   ·cases e
  have af : Bx c.B c.ad h1 [(y, .src n)] h6 [(y, .src (n - 16)), (⟨ac, 0, 0⟩, .lst (.tts rows))] := ⟨fun p m => (List.mem_cons.mp m).elim (fun q => q ▸ x7) fun m => List.mem_singleton.mp m ▸ L6,
   .cons (fun p m => List.mem_singleton.mp m ▸ hd) (.cons (fun _ m => nomatch m) .nil), ⟨[⟨ac, 0, 0⟩], rfl⟩, kind, new⟩
  have M := Ha (is := [0]) (sub := [(y, .src n)]) (by decide) rfl (R.grow F1 K1) F6 K6 (fun b m => by rw [List.mem_singleton.mp m]; exact .head _) af
  have em : Cy [0] ((y, .src n) :: (zc, .cel) :: os') [(y, .src (n - 16)), (⟨ac, 0, 0⟩, .lst (.tts rows))] = (y, .src (n - 16)) :: (zc, .cel) :: (os' ++ [(⟨ac, 0, 0⟩, .lst (.tts rows))]) := by
   unfold Cy
   show (y, AO.src (n - 16)) :: (zc, AO.cel) :: (DW [0] _ 2 os' ++ _) = _
   rw [Ud]; rfl
  rw [em] at M
  revert M; refine Ak fun R2 E2 => ?_
  have hlen : z.objs.length = os'.length + 2 := by rw [eo]; show (os'.map _).length + 1 + 1 = _; rw [List.length_map]
  have hget : (Av ((y, AO.src (n - 16)) :: (zc, AO.cel) :: (os' ++ [((⟨ac, 0, 0⟩ : AA), AO.lst (.tts rows))])))[z.objs.length]? = some ⟨ac, 0, 0⟩ := by
   rw [hlen]
   show (Av (os' ++ [((⟨ac, 0, 0⟩ : AA), AO.lst (.tts rows))]))[os'.length]? = _
   unfold Av
   rw [List.map_append, List.getElem?_append_right (by rw [List.length_map]; exact Nat.le_refl _), List.length_map, Nat.sub_self]; rfl
  refine Ah (fun l' sa lo => ?_) <| BJ.put (a := .ref z.objs.length) (v := .ref ac) ⟨_, hget, rfl⟩ hx R2.loc
  refine Dj ok.he F6 sa fun h7 t7 F7 K7 => ?_
  revert hm; refine DK fun oC es ep eC dC rC => ?_
  refine Ap (fun sl eC' => ?_) <| K7.toKw.keepD C oC es ep eC dC (Ar hCL)
  have ns7 : h7.Ns C m := ⟨_, es, ep, eC', dC, rC⟩
  refine Dx m ns7 (fun h8 hs8 => ?_)
  have hk8 : ∀ b o, b ∉ [C] -> h7.get? b = some o -> h8.get? b = some o := fun b o hb e => (hs8.2 b fun q => hb (q ▸ .head _)).trans e
  have R3 := R2.store F7 K7 lo
  have kwC := IM ns7 hk8
  have F8 := F7.thenBut hk8 (Ac ⟨hC0, hCB, hCL⟩)
  have hacC : ac ≠ C := fun q => by
   revert La; refine Ap fun nn e => ?_
   rw [q, eC] at e; cases e
   cases dC
  have e3 : ((y, AO.src (n - 16)) :: (zc, AO.cel) :: (os' ++ [((⟨ac, 0, 0⟩ : AA), AO.lst (.tts rows))])).map (·.2) = .src (n - 16) :: .cel :: (os'.map (·.2) ++ [.lst (.tts rows)]) := by
   show _ :: _ :: List.map _ (_ ++ _) = _
   rw [List.map_append]; rfl
  have neC : ∀ p ∈ (y, AO.src (n - 16)) :: (zc, AO.cel) :: (os' ++ [((⟨ac, 0, 0⟩ : AA), AO.lst (.tts rows))]), ∀ x ∈ DL p, x ∉ [C] := fun p m x hx => Ar fun q => by
   have old : ∀ p ∈ (y, AO.src n) :: (zc, AO.cel) :: os', x ∈ DL p -> False := fun p m hx => by
    refine Ap (fun o e => ?_) <| ((R.grow F1 K1).ok p m).al x hx
    rw [q, hC] at e; cases e
   rcases List.mem_cons.mp m with rfl | m
   ·exact old (y, .src n) (.head _) hx
   rcases List.mem_cons.mp m with rfl | m
   ·exact old _ (.tail _ (.head _)) hx
   rcases List.mem_append.mp m with m | m
   ·exact old p (.tail _ (.tail _ m)) hx
   ·rw [List.mem_singleton.mp m] at hx
    exact hacC ((List.mem_singleton.mp hx).symm.trans q)
  have R4 : BD c ⟨HR "rows" (.ref z.objs.length) z.loc, .src (n - 16) :: .cel :: (os'.map (·.2) ++ [.lst (.tts rows)])⟩ _ h8 l' := ⟨F8, e3.symm, R3.loc.kw kwC (List.prefix_refl _), fun p m => (R3.ok p m).kw kwC (fun _ _ => AD) (neC p m), R3.dis, R3.wr, R3.dL, R3.pre⟩
  exact (hK _ (k rows (by omega) hrm)).to ok R4 ((((Ex.grow K1).trans E2).trans (.store K7)).ias hk8 (Ac ⟨K1.alive hC, hCB⟩))
noncomputable def BC (row : AC) (long : Bool) (x : AC) : AC -> Int -> Except Aa (AC × AC) := x.rec (fun f l => if l = 0 /\ row = [] /\ f ≠ [] then .ok (f, []) else .error .run)
 fun p r ih f l => if l = 0 /\ row ≠ [] /\ (p :: r).take row.length = row then .ok (f, (p :: r).drop row.length) else if l = 0 /\ row = [] /\ f ≠ [] then .ok (f, p :: r)
  else if p = AR then .error .out else if p = A3 /\ long = false then .error .run else if l = 0 /\ p = BM then .error .use else ih (f ++ [p]) (l + Ae p)
def e3 (e : Aa) : Prop := e = .use \/ e = .out \/ e = .run
def Ru (p : AN) : Prop := p.1 ≠ 1 /\ p.1 ≠ 2 /\ p ≠ AR /\ p ≠ A3
theorem NE {p : AN} (h : Ru p) : Ae p = 0 := by unfold Ae; rw [if_neg h.1, if_neg h.2.1]
theorem Sd {p : AN} (h : Ru p) : p ≠ BM := fun q => h.2.1 (by rw [q]; rfl)
structure Dl (D : AC) : Prop where
 a : ∀ i p, D[i]? = some p -> i + 1 < D.length -> Ru p
 z : ∀ p ∈ D, p.1 ≠ 2 /\ p ≠ AR /\ p ≠ A3
def En (x : AC) : Prop := ∀ p ∈ x, p.1 = 2 -> p = BM
noncomputable def Lr (x : AC) : AC := AY (some 1) (some (-1)) x
def QX (g : AC) : Prop := (∃ p, g = [p] /\ p.1 ≠ 1 /\ p.1 ≠ 2) \/ (g.getLast?.map (·.1) = some 2 /\ g ≠ [] /\ ∀ x s t, BO x s 0 (g ++ t) = if s + g.length = x.length then Lr x else x)
def Cn (f : AC) (k : Nat) : Prop := ∃ l : List AC, f = l.flatten /\ k = l.length /\ ∀ g ∈ l, QX g
theorem Cn.nil : Cn [] 0 := ⟨[], rfl, rfl, fun _ m => nomatch m⟩
theorem Cn.snoc {f g : AC} {k : Nat} (h : Cn f k) (y : QX g) : Cn (f ++ g) (k + 1) := by
 revert h; refine FR fun l z0 z1 a => ?_; obtain rfl := z0; obtain rfl := z1
 exact bS (l ++ [g]) (by rw [List.flatten_append]; simp) (by simp) (fun x m => (List.mem_append.mp m).elim (a x) fun q => by rw [List.mem_singleton.mp q]; exact y)
theorem Cn.neus {f : AC} {k : Nat} (h : Cn f k) : ∀ t : AC, (∀ p ∈ t, Ru p) -> Cn (f ++ t) (k + t.length)
 | [], _ => by simpa using h
 | p :: t, a => by
  have := Cn.neus (h.snoc (.inl ⟨p, rfl, (a p (.head _)).1, (a p (.head _)).2.1⟩)) t fun q m => a q (.tail _ m)
  rw [List.append_assoc] at this
  rw [List.length_cons, show k + (t.length + 1) = k + 1 + t.length by omega]
  exact this
theorem OV (x : AC) : Lr x = (x.drop 1).dropLast := Lh x
theorem RC {f : AC} {k : Nat} (h : Cn f k) : BO f 0 0 f = Hd f k := by
 revert h; refine FR fun l z0 z1 a => ?_; obtain rfl := z0; obtain rfl := z1
 unfold Hd
 match l, a with
 | [], _ => rfl
 | g :: l, a =>
  have hn : ∀ g ∈ l, g ≠ [] := fun g m => by
   rcases a g (.tail _ m) with ⟨p, rfl, _⟩ | h
   ·exact fun q => nomatch q
   ·exact h.2.1
  rcases a g (.head _) with ⟨p, rfl, h1, h2⟩ | ⟨h1, h2, h3⟩
  ·have hd : Ae p = 0 := by unfold Ae; rw [if_neg h1, if_neg h2]
   rw [if_neg]
   ·show BO _ 0 0 ([p] ++ l.flatten) = _
    show BO _ 0 0 (p :: l.flatten) = _
    rw [Ir]
    show (if (0 : Int) + Ae p = 0 then _ else _) = _
    rw [hd, if_pos (by decide), if_neg]
    rintro ⟨q, _⟩
    exact h2 (by rw [q]; rfl)
   ·rintro ⟨q1, q2⟩
    have : l = [] := List.length_eq_zero_iff.mp (Nat.succ.inj q1)
    subst this
    exact h2 (Option.some.inj q2)
  ·have hz := h3 (g :: l).flatten 0 l.flatten
   show BO (g :: l).flatten 0 0 (g ++ l.flatten) = _
   rw [hz]
   have hl : (g :: l).flatten.length = g.length + l.flatten.length := by rw [List.flatten_cons, List.length_append]
   cases l with
   | nil =>
    rw [if_pos (by rw [hl]; simp), if_pos ⟨rfl, by simpa using h1⟩, OV]
   | cons g2 l =>
    have : 0 < g2.length := List.length_pos_iff.mpr (hn g2 (.head _))
    rw [if_neg (by rw [hl, List.flatten_cons, List.length_append]; omega), if_neg (by rintro ⟨q, _⟩; rw [List.length_cons, List.length_cons] at q; omega)]
section
variable {D f ps qs : AC} {long : Bool} {p : AN} {d n k m : Nat} {l : Int}
theorem Hy : BC D long [] f l = if l = 0 /\ D = [] /\ f ≠ [] then .ok (f, []) else .error .run := rfl
theorem Fz : BC D long (p :: qs) f l = if l = 0 /\ D ≠ [] /\ (p :: qs).take D.length = D then .ok (f, (p :: qs).drop D.length)
  else if l = 0 /\ D = [] /\ f ≠ [] then .ok (f, p :: qs)
  else if p = AR then .error .out else if p = A3 /\ long = false then .error .run else if l = 0 /\ p = BM then .error .use else BC D long qs (f ++ [p]) (l + Ae p) := rfl
theorem VV (h : l ≠ 0) : BC D long (p :: qs) f l = if p = AR then .error .out else if p = A3 /\ long = false then .error .run else BC D long qs (f ++ [p]) (l + Ae p) := by
 rw [Fz, if_neg fun q => h q.1, if_neg fun q => h q.1, if_neg (c := l = 0 /\ p = BM) fun q => h q.1]
theorem N2 (h : ¬ (D ≠ [] /\ (p :: qs).take D.length = D)) (h2 : ¬ (D = [] /\ f ≠ [])) : BC D long (p :: qs) f 0 = if p = AR then .error .out else if p = A3 /\ long = false then .error .run else if p = BM then .error .use else BC D long qs (f ++ [p]) (Ae p) := by
 rw [Fz, if_neg fun q => h q.2, if_neg fun q => h2 q.2, Int.zero_add]
 simp only [true_and]
theorem Gk : Dv [AR] D A3 long (n + 1) (p :: qs) f k m = if p = AR then .error .out
  else if D ≠ [] /\ D[m]? = some p then (if m + 1 < D.length then Dv [AR] D A3 long n qs f k (m + 1) else .ok (f, k, qs))
  else if (BH D m p).2 = 0 /\ (D ≠ [] \/ p ≠ CX) then
   if p = A3 /\ long = false then .error .run else if p.1 = 2 then .error .use else Ty D (f ++ D.take (BH D m p).1) (k + (BH D m p).1) (fun q f k => Dv [AR] D A3 long n q f k 0) (if p.1 = 1 then Ih [AR] A3 long qs 1 [p] else .ok ([p], qs))
  else Dv [AR] D A3 long n qs (f ++ D.take (BH D m p).1) (k + (BH D m p).1) (BH D m p).2 :=
 J9.trans (Fc (R := Eq) List.mem_singleton (fun _ => rfl) fun _ => rfl)
end
def RO (D : AC) (long : Bool) (x0 : AC) (d : Int) (f acc : AC) (a b : Except Aa (AC × AC)) : Prop := (∃ e, e3 e /\ a = .error e /\ b = .error e) \/
  ∃ h q, a = .ok (f ++ h, q) /\ x0 = h ++ q /\ b = BC D long q (acc ++ h) 0 /\ (h.getLast?.map (·.1) = some 2 /\ h ≠ []) /\ ∀ x s t, BO x s d (h ++ t) = if s + h.length = x.length then Lr x else x
theorem RO.err {D : AC} {long : Bool} {x0 : AC} {d : Int} {f acc : AC} (e : Aa) (h : e3 e) : RO D long x0 d f acc (.error e) (.error e) := .inl ⟨e, h, rfl, rfl⟩
theorem LX (d : Nat) : ¬ ((d : Int) + 1 = 0) := fun q => Nat.succ_ne_zero d (Int.ofNat.inj q)
theorem PZ {D : AC} {long : Bool} (ps : AC) : ∀ (d : Nat) (f acc : AC), En ps -> RO D long ps ((d : Int) + 1) f acc (Ih [AR] A3 long ps (d + 1) f) (BC D long ps acc ((d : Int) + 1)) := by
 induction ps with
 | nil => exact fun d f acc _ => .inl ⟨.run, .inr (.inr rfl), rfl, by rw [Hy, if_neg fun q => LX d q.1]⟩
 | cons p ps ih =>
  intro d f acc he
  have e0 := LX d
  rw [Te, VV e0]
  refine Fc List.mem_singleton (fun _ => .err .out (.inr (.inl rfl))) fun h1 => Fc Iff.rfl (fun _ => .err .run (.inr (.inr rfl))) fun h2 => ?_
  have he' : En ps := fun q m => he q (.tail _ m)
  have step : ∀ d' : Nat, (d : Int) + 1 + Ae p = (d' : Int) + 1 -> (if p.1 = 1 then d + 2 else if p.1 = 2 then d else d + 1) = d' + 1 ->
    RO D long (p :: ps) ((d : Int) + 1) f acc (Ih [AR] A3 long ps (if p.1 = 1 then d + 2 else if p.1 = 2 then d else d + 1) (f ++ [p])) (BC D long ps (acc ++ [p]) ((d : Int) + 1 + Ae p)) := fun d' e1 e2 => by
   rw [e1, e2]
   rcases ih d' (f ++ [p]) (acc ++ [p]) he' with z | z
   ·exact .inl z
   ·revert z; refine Eo fun h q a b c z => ?_; revert z; refine Ak fun g g3 => ?_
    refine .inr ⟨p :: h, q, by rw [a, List.append_assoc]; rfl, by rw [b]; rfl, by rw [c, List.append_assoc]; rfl, ⟨?_, fun q => nomatch q⟩, fun x s t => ?_⟩
    ·rw [List.getLast?_cons_of_ne_nil g.2]; exact g.1
    ·show (if (d : Int) + 1 + Ae p = 0 then _ else BO x (s + 1) ((d : Int) + 1 + Ae p) (h ++ t)) = _
     rw [e1, if_neg (by omega), g3, List.length_cons, Nat.add_right_comm]; rfl
  by_cases h3 : p.1 = 1
  ·have hd : Ae p = 1 := if_pos h3
   exact step (d + 1) (by rw [hd]; omega) (if_pos h3)
  have hi : ∀ {a b c : Nat}, (if p.1 = 1 then a else b) = c ↔ b = c := fun {a b c} => by rw [if_neg h3]
  by_cases h4 : p.1 = 2
  ·have hd : Ae p = -1 := (if_neg h3).trans (if_pos h4)
   cases d with
   | succ d => exact step d (by rw [hd]; omega) (hi.mpr (if_pos h4))
   | zero =>
    have hp := he p (.head _) h4
    refine .inr ⟨[p], ps, ?_, rfl, ?_, ⟨?_, fun q => nomatch q⟩, fun x s t => ?_⟩
    ·rw [if_neg h3, if_pos h4]; cases ps <;> rfl
    ·rw [hd]; rfl
    ·show some p.1 = _; rw [h4]
    ·show (if (0 : Int) + 1 + Ae p = 0 then (if p = BM /\ s + 1 = x.length then _ else _) else _) = (if s + 1 = x.length then _ else _)
     rw [hd, if_pos (by decide)]
     by_cases hs : s + 1 = x.length
     ·rw [if_pos ⟨hp, hs⟩, if_pos hs]; rfl
     ·rw [if_neg fun q => hs q.2, if_neg hs]
  ·have hd : Ae p = 0 := (if_neg h3).trans (if_neg h4)
   exact step d (by rw [hd]; omega) (hi.mpr (if_neg h4))
theorem Fy {D : AC} {m : Nat} {p : AN} : ∀ (k i : Nat), i + k = m -> (∀ j, 1 <= j -> j <= i -> BS D m p j = false) ->
  (Eg D m p i k = (m, 0) /\ ∀ j, 1 <= j -> j <= m -> BS D m p j = false) \/ ∃ g, 1 <= g /\ g <= m /\ Eg D m p i k = (g, m - g + 1) /\ BS D m p g = true /\ ∀ j, 1 <= j -> j < g -> BS D m p j = false
 | 0, i, e, h => .inl ⟨rfl, fun j a b => h j a (by omega)⟩
 | k + 1, i, e, h => by
  rw [Ew]
  by_cases hs : BS D m p (i + 1) = true
  ·rw [if_pos hs]
   exact .inr ⟨i + 1, by omega, by omega, rfl, hs, fun j a b => h j a (by omega)⟩
  ·rw [if_neg hs]
   refine Fy k (i + 1) (by omega) fun j a b => ?_
   by_cases hj : j = i + 1
   ·rw [hj]; exact Bool.eq_false_iff.mpr hs
   ·exact h j a (by omega)
theorem Dl.neus {D : AC} (h : Dl D) {m : Nat} (hm : m < D.length) : ∀ p ∈ D.take m, Ru p := fun p hp => by
 refine Ap (fun i e => ?_) <| List.getElem?_of_mem hp
 have hi := (List.getElem?_eq_some_iff.mp e).1
 rw [List.length_take] at hi
 rewrite [List.getElem?_take_of_lt (by omega)] at e
 exact h.a i p e (by omega)
theorem Lb {D : AC} {long : Bool} {p : AN} {r f : AC} (hD : D ≠ []) (hp : Ru p) (h : (p :: r).take D.length ≠ D) : BC D long (p :: r) f 0 = BC D long r (f ++ [p]) 0 := by
 rw [Fz, if_neg fun q => h q.2.2, if_neg fun q => hD q.2.1, if_neg hp.2.2.1, if_neg fun q => hp.2.2.2 q.1, if_neg fun q => Sd hp q.2, NE hp]; rfl
theorem HZ {D : AC} {long : Bool} (hD : D ≠ []) : ∀ (t f : AC), (∀ p ∈ t, Ru p) -> t.length < D.length -> BC D long t f 0 = .error .run
 | [], f, _, _ => by rw [Hy, if_neg fun q => hD q.2.1]
 | p :: t, f, h, hl => by
  rw [Lb hD (h p (.head _)), HZ hD t _ (fun q m => h q (.tail _ m)) (Nat.lt_of_succ_lt hl)]
  intro q
  have := congrArg List.length q
  rw [List.length_take] at this
  omega
theorem Fh {D : AC} {long : Bool} {p : AN} {qs : AC} (hd : Dl D) {m : Nat} (hm : m < D.length) (h0 : D[m]? ≠ some p) : ∀ (g : Nat) (f : AC), g <= m -> (∀ j, 1 <= j -> j < g -> BS D m p j = false) ->
  BC D long (D.take m ++ p :: qs) f 0 = BC D long ((D.take m).drop g ++ p :: qs) (f ++ D.take g) 0
 | 0, f, _, _ => by simp
 | g + 1, f, hg, h => by
  rw [Fh hd hm h0 g f (by omega) fun j a b => h j a (by omega)]
  have hl : g < (D.take m).length := by rw [List.length_take]; omega
  have e1 : (D.take m).drop g = (D.take m)[g] :: (D.take m).drop (g + 1) := List.drop_eq_getElem_cons hl
  have e2 : D.take (g + 1) = D.take g ++ [(D.take m)[g]] := by
   rw [List.take_add_one, List.getElem?_eq_getElem (by omega), List.getElem_take]; rfl
  rw [e1, e2, <- List.append_assoc]
  refine Lb (fun q => by rw [q] at hm; exact Nat.not_lt_zero _ hm) (hd.neus hm _ (List.getElem_mem hl)) fun q => ?_
  replace q : (((D.take m)[g] :: (D.take m).drop (g + 1)) ++ p :: qs).take D.length = D := q
  rw [<- e1] at q
  have ha : D.take (m - g) = (D.take m).drop g := by
   have := congrArg (List.take (m - g)) q
   rw [List.take_take, Nat.min_eq_left (by omega), List.take_append_of_le_length (by rw [List.length_drop, List.length_take]; omega), List.take_of_length_le (by rw [List.length_drop, List.length_take]; omega)] at this
   exact this.symm
  have hb : D[m - g]? = some p := by
   have := congrArg (·[m - g]?) q
   have e3 : ((D.take m).drop g).length = m - g := by rw [List.length_drop, List.length_take]; omega
   rw [List.getElem?_take_of_lt (by omega), List.getElem?_append_right (by omega), e3, Nat.sub_self] at this
   exact this.symm
  by_cases hg0 : g = 0
  ·rw [hg0] at hb; exact h0 hb
  ·have := h g (by omega) (by omega)
   unfold BS at this
   rw [decide_eq_true ha.symm, decide_eq_true hb] at this
   cases this
def WB (a : Except Aa (AC × Nat × AC)) (b : Except Aa (AC × AC)) : Prop := (∃ e, e3 e /\ a = .error e /\ b = .error e) \/ ∃ f k q, a = .ok (f, k, q) /\ b = .ok (f, q) /\ Cn f k
theorem En.app {x y : AC} (h : En (x ++ y)) : En y := fun p m => h p (List.mem_append_right _ m)
theorem QX.grp {p : AN} {h : AC} (h1 : p.1 = 1) (g1 : h.getLast?.map (·.1) = some 2) (g2 : h ≠ []) (g3 : ∀ x s t, BO x s ((0 : Nat) + 1 : Int) (h ++ t) = if s + h.length = x.length then Lr x else x) : QX (p :: h) :=
 .inr ⟨by rw [List.getLast?_cons_of_ne_nil g2]; exact g1, (fun q => nomatch q), fun x s t => by
  show (if (0 : Int) + Ae p = 0 then _ else BO x (s + 1) (0 + Ae p) (h ++ t)) = _
  have hd : Ae p = 1 := by unfold Ae; rw [if_pos h1]
  rw [hd, if_neg (by decide)]
  have := g3 x (s + 1) t
  rw [List.length_cons, show s + (h.length + 1) = s + 1 + h.length by omega]
  exact this⟩
theorem WB.err {a : Except Aa (AC × Nat × AC)} {b : Except Aa (AC × AC)} (e : Aa) (h : e3 e) (ha : a = .error e) (hb : b = .error e) : WB a b := .inl ⟨e, h, ha, hb⟩
theorem Vh {D : AC} {long : Bool} (hd : Dl D) (hD : D ≠ []) : ∀ (n : Nat) (ps f : AC) (k m : Nat), ps.length <= n -> m < D.length -> En ps -> Cn f k -> WB (Dv [AR] D A3 long n ps f k m) (BC D long (D.take m ++ ps) f 0) := by
 have e0 : ∀ {f : AC} {m : Nat}, m < D.length -> BC D long (D.take m ++ []) f 0 = .error .run := fun hm => by
  rw [List.append_nil]
  exact HZ hD _ _ (hd.neus hm) (by rw [List.length_take]; exact Nat.lt_of_le_of_lt (Nat.min_le_left ..) hm)
 intro n
 induction n with
 | zero =>
  intro ps f k m hn hm _ _
  rw [List.length_eq_zero_iff.mp (Nat.le_zero.mp hn)]
  exact .err .run (.inr (.inr rfl)) rfl (e0 hm)
 | succ n ih =>
  intro ps f k m hn hm hx hP
  cases ps with
  | nil => exact .err .run (.inr (.inr rfl)) rfl (e0 hm)
  | cons p qs =>
  have hq : qs.length <= n := Nat.le_of_succ_le_succ hn
  have hxq : En qs := fun q mq => hx q (.tail _ mq)
  by_cases hDm : D[m]? = some p
  ·have hpD := List.mem_of_getElem? hDm
   have ho : p ≠ AR := (hd.z p hpD).2.1
   rw [Gk.trans ((if_neg ho).trans (if_pos ⟨hD, hDm⟩))]
   have e1 : D.take m ++ p :: qs = D.take (m + 1) ++ qs := by
    rw [List.take_add_one, hDm, List.append_assoc]; rfl
   rw [e1]
   by_cases hl : m + 1 < D.length
   ·rw [if_pos hl]
    exact ih qs f k (m + 1) hq hl hxq hP
   ·rw [if_neg hl, List.take_of_length_le (by omega)]
    refine .inr ⟨f, k, qs, rfl, ?_, hP⟩
    cases D with
    | nil => exact absurd rfl hD
    | cons a D =>
     show BC (a :: D) long (a :: (D ++ qs)) f 0 = _
     rw [Fz, if_pos ⟨rfl, hD, List.take_left (l₁ := a :: D)⟩]
     exact congrArg (fun z => Except.ok (f, z)) (List.drop_left (l₁ := a :: D))
  ·have sp := Fy (D := D) (p := p) m 0 (Nat.zero_add m) fun j a b => by omega
   change (BH D m p = _ /\ _) \/ _ at sp
   have slideAll : (∀ j, 1 <= j -> j <= m -> BS D m p j = false) -> BC D long (D.take m ++ p :: qs) f 0 = BC D long (p :: qs) (f ++ D.take m) 0 /\ (p :: qs).take D.length ≠ D := fun h => by
    constructor
    ·rw [Fh hd hm hDm m f (Nat.le_refl _) fun j a b => h j a (by omega), List.drop_eq_nil_of_le (by rw [List.length_take]; omega)]; rfl
    ·intro q
     have h0 : D[0]? = some p := by
      have := congrArg (·[0]?) q
      rw [List.getElem?_take_of_lt (by omega)] at this
      exact this.symm
     by_cases hm0 : m = 0
     ·rw [hm0] at hDm; exact hDm h0
     ·have := h m (by omega) (Nat.le_refl _)
      unfold BS at this
      rw [Nat.sub_self, decide_eq_true h0, decide_eq_true (by rw [List.drop_eq_nil_of_le (by rw [List.length_take]; omega)]; rfl)] at this
      cases this
   by_cases ho : p = AR
   ·refine .err .out (.inr (.inl rfl)) (Gk.trans (if_pos ho)) ?_
    have hb : ∀ j, 1 <= j -> j <= m -> BS D m p j = false := fun j _ _ => by
     unfold BS
     rw [decide_eq_false (p := D[m - j]? = some p) fun q => (hd.z p (List.mem_of_getElem? q)).2.1 ho, Bool.and_false]
    rw [(slideAll hb).1, N2 (fun q => (slideAll hb).2 q.2) fun q => hD q.1, if_pos ho]
   have ea := (Gk (D := D) (long := long) (qs := qs) (f := f) (n := n) (k := k) (m := m)).trans ((if_neg ho).trans (if_neg fun q => hDm q.2))
   rcases sp with ⟨e, hs⟩ | ⟨g, g1, gm, e, hok, hs⟩
   ·rw [ea, e, if_pos ⟨rfl, .inl hD⟩]
    refine Ak (fun s1 s2 => ?_) <| slideAll hs
    rw [s1, N2 (fun q => s2 q.2) fun q => hD q.1, if_neg ho]
    refine Fc Iff.rfl (fun _ => .err .run (.inr (.inr rfl)) rfl rfl) fun h2 => Fc ⟨hx p (.head _), fun q => by rw [q]; rfl⟩ (fun _ => .err .use (.inl rfl) rfl rfl) fun h3 => ?_
    have hPm : Cn (f ++ D.take m) (k + m) := by
     have := hP.neus (D.take m) (hd.neus hm)
     rw [List.length_take, Nat.min_eq_left (by omega)] at this
     exact this
    by_cases h4 : p.1 = 1
    ·rw [if_pos h4]
     have hdp : Ae p = 1 := if_pos h4
     rcases PZ (D := D) (long := long) qs 0 [p] (f ++ D.take m ++ [p]) hxq with z | z
     ·revert z; refine FR fun x a b c => ?_
      rw [show Ih [AR] A3 long qs 1 [p] = _ from b]
      exact .err x a rfl (by rw [hdp]; exact c)
     ·revert z; refine Eo fun h q b c d z => ?_; revert z; refine Ak fun g g3 => ?_; refine Ak (fun g1 g2 => ?_) g
      rw [show Ih [AR] A3 long qs 1 [p] = _ from b, hdp, show BC D long qs (f ++ D.take m ++ [p]) 1 = _ from d]
      show WB (if D = [] then _ else _) _
      rw [if_neg hD]
      have hlen : q.length <= n := by rw [c, List.length_append] at hq; omega
      have := ih q (f ++ D.take m ++ ([p] ++ h)) (k + m + 1) 0 hlen (by omega) (by rw [c] at hxq; exact hxq.app) (hPm.snoc (.grp h4 g1 g2 g3))
      rw [List.append_assoc _ [p] h]
      exact this
    ·rw [if_neg h4, show Ae p = 0 from (if_neg h4).trans (if_neg h3)]
     show WB (if D = [] then _ else _) _
     rw [if_neg hD]
     exact ih qs (f ++ D.take m ++ [p]) (k + m + 1) 0 hq (by omega) hxq (hPm.snoc (.inl ⟨p, rfl, h4, h3⟩))
   ·rw [ea, show BH D m p = _ from e, if_neg fun q => absurd q.1 (Nat.succ_ne_zero _), Fh hd hm hDm g f gm hs]
    unfold BS at hok
    refine Ak (fun o1 o2 => ?_) <| Bool.and_eq_true_iff.mp hok
    rw [of_decide_eq_true o1]
    have e1 : D.take (m - g) ++ p :: qs = D.take (m - g + 1) ++ qs := by
     rw [List.take_add_one, of_decide_eq_true o2, List.append_assoc]; rfl
    rw [e1]
    have hg := hP.neus (D.take g) (hd.neus (by omega))
    rw [List.length_take, Nat.min_eq_left (by omega)] at hg
    exact ih qs (f ++ D.take g) (k + g) (m - g + 1) hq (by omega) hxq hg
theorem Sf {long : Bool} (n : Nat) : ∀ (ps : AC), ps.length <= n -> En ps -> WB (Dv [AR] [] A3 long n ps [] 0 0) (BC [] long (ps.dropWhile fun p => decide (p = CX)) [] 0) := by
 induction n with
 | zero =>
  intro ps hn _
  rw [List.length_eq_zero_iff.mp (Nat.le_zero.mp hn)]
  exact .err .run (.inr (.inr rfl)) rfl rfl
 | succ n ih =>
  intro ps hn hx
  cases ps with
  | nil => exact .err .run (.inr (.inr rfl)) rfl rfl
  | cons p qs =>
  have hq : qs.length <= n := Nat.le_of_succ_le_succ hn
  have hxq : En qs := fun q mq => hx q (.tail _ mq)
  by_cases hb : p = CX
  ·rw [List.dropWhile_cons_of_pos (p := fun p => decide (p = CX)) (decide_eq_true hb), Gk.trans ((if_neg (by rw [hb]; decide)).trans ((if_neg fun q => q.1 rfl).trans (if_neg fun q => q.2.elim (fun z => z rfl) fun z => z hb)))]
   exact ih qs hq hxq
  ·rw [List.dropWhile_cons_of_neg (by simpa using hb), N2 (fun q => q.1 rfl) fun q => q.2 rfl, Gk]
   refine Fc Iff.rfl (fun _ => .err .out (.inr (.inl rfl)) rfl rfl) fun ho => ?_
   rw [(if_neg fun q => q.1 rfl).trans (if_pos ⟨rfl, .inr hb⟩)]
   refine Fc Iff.rfl (fun _ => .err .run (.inr (.inr rfl)) rfl rfl) fun h2 => Fc ⟨hx p (.head _), fun q => by rw [q]; rfl⟩ (fun _ => .err .use (.inl rfl) rfl rfl) fun h3 => ?_
   have fin : ∀ (q g : AC), g ≠ [] -> BC [] long q g 0 = .ok (g, q) := fun q g hg => by
    cases q with
    | nil => rw [Hy, if_pos ⟨rfl, rfl, hg⟩]
    | cons a q => rw [Fz, if_neg fun z => z.2.1 rfl, if_pos ⟨rfl, rfl, hg⟩]
   by_cases h4 : p.1 = 1
   ·rw [if_pos h4]
    have hdp : Ae p = 1 := if_pos h4
    rcases PZ (D := []) (long := long) qs 0 [p] [p] hxq with z | z
    ·revert z; refine FR fun x a b c => ?_
     rw [show Ih [AR] A3 long qs 1 [p] = _ from b]
     exact .err x a rfl (by rw [hdp]; exact c)
    ·revert z; refine Eo fun h q b c d z => ?_; revert z; refine Ak fun g g3 => ?_; refine Ak (fun g1 g2 => ?_) g
     rw [show Ih [AR] A3 long qs 1 [p] = _ from b, hdp]
     refine .inr ⟨p :: h, 1, q, rfl, ?_, Cn.nil.snoc (.grp h4 g1 g2 g3)⟩
     exact (show BC [] long qs [p] 1 = _ from d).trans (fin q _ fun z => nomatch z)
   ·rw [if_neg h4]
    rw [show Ae p = 0 from (if_neg h4).trans (if_neg h3)]
    exact .inr ⟨[p], 1, qs, rfl, fin qs _ fun z => (nomatch z), Cn.nil.snoc (.inl ⟨p, rfl, h4, h3⟩)⟩
noncomputable def HC (x : AC) (r : Except Aa (AC × Nat)) : Except Aa (AC × AC) := match r with
 | .error e => .error e
 | .ok (f, s) => .ok (f, x.drop s)
theorem LG {row : AC} {long : Bool} (pre : AC) : ∀ (rest acc : AC) (l : Int), HC (pre ++ acc ++ rest) (Fw (pre ++ acc ++ rest) row pre.length long rest.length (pre.length + acc.length) l) = BC row long rest acc l
 | [], acc, l => by
  rw [List.append_nil, List.length_nil, IZ, Hy]
  have e1 : (pre ++ acc).drop pre.length = acc := List.drop_left ..
  have hl : (pre ++ acc).length = pre.length + acc.length := List.length_append
  by_cases h : l = 0 /\ row = [] /\ acc ≠ []
  ·have hp := List.length_pos_iff.mpr h.2.2
   rw [if_pos h, if_pos ⟨h.1, h.2.1, by rw [hl]; omega⟩, e1]
   show Except.ok (acc, List.drop _ _) = _
   rw [List.drop_length]
  ·rw [if_neg h, if_neg fun q => h ⟨q.1, q.2.1, fun z => by have := q.2.2; rw [hl, z] at this; simp at this⟩]; rfl
 | p :: r, acc, l => by
  have hl : (pre ++ acc).length = pre.length + acc.length := List.length_append
  have e1 : (pre ++ acc ++ p :: r).drop (pre.length + acc.length) = p :: r := by rw [<- hl]; exact List.drop_left ..
  have e2 : (pre ++ acc ++ p :: r).take (pre.length + acc.length) = pre ++ acc := by rw [<- hl]; exact List.take_left ..
  have e3 : (pre ++ acc ++ p :: r)[pre.length + acc.length]? = some p := by
   rw [List.getElem?_append_right (by omega), hl, Nat.sub_self]; rfl
  have e4 : (pre ++ acc).drop pre.length = acc := List.drop_left ..
  have hb : pre.length < pre.length + acc.length ↔ acc ≠ [] := by
   rw [<- List.length_pos_iff]; omega
  rw [Fz, List.length_cons, IJ, e1, e2, e3, e4]
  refine Fc (R := fun u v => HC _ u = v) Iff.rfl (fun h1 => ?_) fun h1 => ?_
  ·show Except.ok (acc, List.drop _ _) = _
   rw [<- List.drop_drop, e1]
  refine Fc (R := fun u v => HC _ u = v) ⟨fun h2 => ⟨h2.1, h2.2.1, hb.mp h2.2.2⟩, fun h2 => ⟨h2.1, h2.2.1, hb.mpr h2.2.2⟩⟩ (fun h2 => ?_) fun h2 => ?_
  ·show Except.ok (acc, List.drop _ _) = _
   rw [e1]
  refine Fc (R := fun u v => HC _ u = v) Iff.rfl (fun _ => rfl) fun h3 => Fc (R := fun u v => HC _ u = v) Iff.rfl (fun _ => rfl) fun h4 => Fc (R := fun u v => HC _ u = v) Iff.rfl (fun _ => rfl) fun h5 => ?_
  have := LG (row := row) (long := long) pre r (acc ++ [p]) (l + Ae p)
  rw [List.length_append, show pre ++ (acc ++ [p]) ++ r = pre ++ acc ++ p :: r by simp] at this
  exact this
theorem Ft {x : AC} : ∀ (n b : Nat), b <= x.length -> x.length - b < n -> ∃ c, Bq [] x n b = c /\ b <= c /\ c <= x.length /\ x.drop c = (x.drop b).dropWhile fun p => decide (p = CX)
 | 0, _, _, h => absurd h (Nat.not_lt_zero _)
 | n + 1, b, hb, h => by
  rw [EO]
  by_cases hq : x[b]? = some CX
  ·rw [if_pos ⟨rfl, hq⟩]
   have hlt := (List.getElem?_eq_some_iff.mp hq).1
   refine b9 (fun c a1 a2 a3 a4 => ?_) <| Ft (x := x) n (b + 1) (by omega) (by omega)
   refine Zv c a1 (by omega) a3 ?_
   rw [a4, List.drop_eq_getElem_cons hlt, List.dropWhile_cons_of_pos]
   exact decide_eq_true (List.getElem?_eq_some_iff.mp hq).2
  ·rw [if_neg fun q => hq q.2]
   refine Zv b rfl (Nat.le_refl _) hb ?_
   by_cases hlt : b < x.length
   ·rw [List.drop_eq_getElem_cons hlt, List.dropWhile_cons_of_neg]
    intro q
    exact hq (by rw [List.getElem?_eq_getElem hlt, of_decide_eq_true q])
   ·rw [List.drop_eq_nil_of_le (by omega)]; rfl
theorem IX {row x : AC} (h : row ≠ []) : ∀ (n b : Nat), Bq row x n b = b
 | 0, _ => rfl
 | n + 1, b => by rw [EO, if_neg fun q => h q.1]
noncomputable def HP (row ps : AC) : AC := if row = [] then ps.dropWhile fun p => decide (p = CX) else ps
theorem PL {x row : AC} {b : Nat} {long : Bool} (hb : b <= x.length) : HC x (G2 x row b long) = BC row long (HP row (x.drop b)) [] 0 := by
 obtain ⟨c, e, hbc, hc, hd⟩ : ∃ c, Bq row x (x.length + 1) b = c /\ b <= c /\ c <= x.length /\ x.drop c = HP row (x.drop b) := by
  unfold HP
  by_cases h : row = []
  ·rw [if_pos h, h]; exact Ft (x := x) (x.length + 1) b hb (by omega)
  ·rw [if_neg h]; exact Zv b (IX h _ _) (Nat.le_refl _) hb rfl
 unfold G2
 rw [e, <- hd]
 have := LG (row := row) (long := long) (x.take c) (x.drop c) [] 0
 rw [List.append_nil, List.take_append_drop, List.length_drop, List.length_take, Nat.min_eq_left hc] at this
 exact this
theorem Qg {row : AC} {long : Bool} (hr : row ≠ []) {rest : AC} : ∀ {acc : AC} {l : Int} {f q : AC}, BC row long rest acc l = .ok (f, q) -> acc ++ rest = f ++ row ++ q := by
 induction rest with
 | nil => exact fun h => BK (Hy.symm.trans h) (fun z => absurd z.2.1 hr) fun _ h => nomatch h
 | cons p r ih =>
  intro acc l f q h
  refine BK (Fz.symm.trans h) (fun h1 h => ?_) fun _ h => BK h (fun z => absurd z.2.1 hr) fun _ h => BK h (fun _ h => nomatch h) fun _ h => BK h (fun _ h => nomatch h) fun _ h => BK h (fun _ h => nomatch h) fun _ h => ?_
  ·have e := Prod.mk.inj (Except.ok.inj h)
   rw [<- e.1, <- e.2, List.append_assoc]
   congr 1
   have := List.take_append_drop row.length (p :: r)
   rw [h1.2.2] at this
   exact this.symm
  ·have := ih h
   rw [List.append_assoc] at this
   exact this
theorem Ss {row : AC} {long : Bool} {rest : AC} : ∀ {acc : AC} {l : Int} {f q : AC}, BC row long rest acc l = .ok (f, q) -> f.length <= acc.length + rest.length := by
 induction rest with
 | nil => exact fun h => BK (Hy.symm.trans h) (fun _ h => (Prod.mk.inj (Except.ok.inj h)).1 ▸ Nat.le_add_right _ _) fun _ h => nomatch h
 | cons p r ih =>
  intro acc l f q h
  have now : ∀ {q' : AC}, Except.ok (ε := Aa) (acc, q') = .ok (f, q) -> f.length <= acc.length + (p :: r).length := fun h => (Prod.mk.inj (Except.ok.inj h)).1 ▸ Nat.le_add_right _ _
  refine BK (Fz.symm.trans h) (fun _ => now) fun _ h => BK h (fun _ => now) fun _ h => BK h (fun _ h => nomatch h) fun _ h => BK h (fun _ h => nomatch h) fun _ h => BK h (fun _ h => nomatch h) fun _ h => ?_
  have := ih h
  rw [List.length_append, Nat.add_assoc, Nat.add_comm [p].length] at this
  exact this
theorem Nf {D ps : AC} {long : Bool} (hd : Dl D) (hx : En ps) : (∃ e, e3 e /\ JV [AR] D A3 long ps = .error e /\ BC D long (HP D ps) [] 0 = .error e) \/ ∃ f g q, JV [AR] D A3 long ps = .ok (g, q) /\ BC D long (HP D ps) [] 0 = .ok (f, q) /\ BO f 0 0 f = g := by
 have A : WB (Dv [AR] D A3 long ps.length ps [] 0 0) (BC D long (HP D ps) [] 0) := by
  unfold HP
  by_cases h : D = []
  ·rw [if_pos h, h]; exact Sf _ _ (Nat.le_refl _) hx
  ·rw [if_neg h]
   have := Vh (long := long) hd h ps.length ps [] 0 0 (Nat.le_refl _) (List.length_pos_iff.mpr h) hx .nil
   exact this
 unfold JV
 rcases A with ⟨e, a, b, c⟩ | ⟨f, k, q, a, b, c⟩
 ·exact .inl ⟨e, a, by rw [b]; rfl, c⟩
 ·exact .inr ⟨f, Hd f k, q, by rw [a]; rfl, b, RC c⟩
section
variable {x D r : AC} {long hb : Bool} {s : Nat}
theorem SE {s : Nat} {l : Int} : ∀ {r : AC}, (BO x s l r).length <= x.length := by
 intro r
 induction r generalizing s l with
 | nil => exact Nat.le_refl _
 | cons p r ih =>
  rw [Ir]
  by_cases h : l + Ae p = 0
  ·rw [if_pos h]
   by_cases h2 : p = BM /\ s + 1 = x.length
   ·rw [if_pos h2]; exact CN ..
   ·rw [if_neg h2]; exact Nat.le_refl _
  ·rw [if_neg h]; exact ih
theorem OK (D ps : AC) : (HP D ps).length <= ps.length := by
 unfold HP
 by_cases h : D = []
 ·rw [if_pos h]; exact (List.dropWhile_sublist _).length_le
 ·rw [if_neg h]; exact Nat.le_refl _
def Bk (x : AC) (s : Nat) (b : AN) : Prop := x.drop (s - 1) = b :: x.drop s
theorem YD {y row : AC} {b : AN} (hs : s <= x.length) (e : x = y ++ row ++ x.drop s) (hb : row.getLast? = some b) : Bk x s b := by
 refine Ap (fun c z0 => ?_) <| List.getLast?_eq_some_iff.mp hb; obtain rfl := z0
 have hl : x.length = y.length + (c.length + 1) + (x.length - s) := by
  have := congrArg List.length e
  rw [List.length_append, List.length_append, List.length_append, List.length_drop] at this
  exact this
 have e2 : x = (y ++ c) ++ b :: x.drop s := by
  rw [List.append_assoc, List.append_assoc] at e
  rw [List.append_assoc]; exact e
 have h3 : (y ++ c).length = s - 1 := by rw [List.length_append]; omega
 unfold Bk
 have := congrArg (List.drop (s - 1)) e2
 rw [<- h3, List.drop_left] at this
 rw [<- h3]; exact this
theorem Vk {b : AN} (h : Bk x s b) : 1 <= s := by
 rcases s with _ | s
 ·have := congrArg List.length h
  simp at this
 ·exact Nat.succ_le_succ (Nat.zero_le _)
theorem S4 (hx : En x) (rs : List AC) : ∀ (s : Nat) (f : List AC), s <= x.length -> (∀ r ∈ rs, Dl r) -> (∃ e, e3 e /\ Du [AR] A3 long rs (x.drop s) f = .error e /\ Dh x long rs s f = .error e) \/
  ∃ g s', s' <= x.length /\ Du [AR] A3 long rs (x.drop s) f = .ok (f ++ g, x.drop s') /\ Dh x long rs s f = .ok (f ++ g, s') /\ g.length = rs.length /\ (∀ r ∈ g, r.length <= x.length) /\ (∀ r b, rs.getLast? = some r -> r.getLast? = some b -> Bk x s' b) := by
 induction rs with
 | nil => exact fun s f hs _ => .inr ⟨[], s, hs, by rw [List.append_nil]; rfl, by rw [List.append_nil]; rfl, rfl, (fun _ m => nomatch m), fun _ _ q => nomatch q⟩
 | cons D rs ih =>
  intro s f hs hD
  have hn := PL (row := D) (long := long) hs
  have hxs : En (x.drop s) := fun p m => hx p (List.mem_of_mem_drop m)
  rw [SN, JD]
  rcases Nf (long := long) (hD D (.head _)) hxs with ⟨e, a, b, c⟩ | ⟨h, g, q, b, c, d⟩
  ·rw [c] at hn
   cases el : G2 x D s long with
   | ok z => rw [el] at hn; obtain ⟨z1, z2⟩ := z; cases hn
   | error e2 => rw [el] at hn; cases hn; exact .inl ⟨e, a, by rw [b]; rfl, rfl⟩
  ·rw [c] at hn
   cases el : G2 x D s long with
   | error e2 => rw [el] at hn; cases hn
   | ok z =>
    rw [el] at hn
    have hz := LN el hs
    obtain ⟨z1, z2⟩ := z
    have e0 := Except.ok.inj hn
    have e1 : z1 = h := congrArg (·.1) e0
    have e2 : x.drop z2 = q := congrArg (·.2) e0
    subst e1 e2 d
    rw [b]
    show (∃ e, e3 e /\ Du [AR] A3 long rs (x.drop z2) (f ++ [BO z1 0 0 z1]) = .error e /\ Dh x long rs z2 (f ++ [BO z1 0 0 z1]) = .error e) \/ ∃ g s', s' <= x.length /\ Du [AR] A3 long rs (x.drop z2) (f ++ [BO z1 0 0 z1]) = .ok (f ++ g, x.drop s') /\ Dh x long rs z2 (f ++ [BO z1 0 0 z1]) = .ok (f ++ g, s') /\ g.length = rs.length + 1 /\ _
    rcases ih z2 (f ++ [BO z1 0 0 z1]) hz fun r m => hD r (.tail _ m) with y | ⟨g, s', a1, a2, a3, a4, a5, a6⟩
    ·exact .inl y
    ·rw [List.append_assoc] at a2 a3
     refine .inr ⟨_, s', a1, a2, a3, congrArg (· + 1) a4, fun r m => ?_, fun r b e1 e2 => ?_⟩
     ·rcases List.mem_cons.mp m with rfl | m
      ·have h1 := SE (x := z1) (s := 0) (l := 0) (r := z1)
       have h2 := Ss c
       have h3 := OK D (x.drop s)
       rw [List.length_drop] at h3
       rw [List.length_nil] at h2
       omega
      ·exact a5 r m
     ·cases rs with
      | cons r2 rs => rw [List.getLast?_cons_cons] at e1; exact a6 r b e1 e2
      | nil =>
       have e3 : D = r := Option.some.inj e1
       subst e3
       have hne : D ≠ [] := fun q => by rw [q] at e2; cases e2
       have DL := Qg hne c
       have e4 : z2 = s' := congrArg (·.2) (Except.ok.inj (show Except.ok (ε := Aa) (_, z2) = _ from a3))
       subst e4
       refine YD (y := x.take s ++ z1) a1 ?_ e2
       unfold HP at DL
       rw [if_neg hne, List.nil_append] at DL
       rw [List.append_assoc, List.append_assoc, <- List.append_assoc z1, <- DL, List.take_append_drop]
theorem Sg {p e : AN} {es q : AC} : Dr [AR] (e :: es) (p :: q) = if p = AR then .error .out else if p = e then Dr [AR] es q else .error .use := by
 rw [Qf]
 show Fs (if p ∈ [AR] then .error .out else .ok (p, q)) _ = _
 by_cases h1 : p = AR
 ·rw [if_pos (List.mem_singleton.mpr h1), if_pos h1]; rfl
 ·rw [if_neg fun q => h1 (List.mem_singleton.mp q), if_neg h1]; rfl
theorem P0 {e : AN} {es : AC} (h : s < x.length) : CE x (e :: es) s = if x[s] = e then CE x es (s + 1) else if x[s] = AR then .error .out else .error .use := by
 rw [FB, List.getElem?_eq_getElem h]; rfl
theorem RZ (es : AC) : ∀ (s : Nat), s <= x.length -> (∀ p ∈ es, p ≠ AR) -> (∃ e, e3 e /\ Dr [AR] es (x.drop s) = .error e /\ CE x es s = .error e) \/
  ∃ s', s' <= x.length /\ Dr [AR] es (x.drop s) = .ok (x.drop s') /\ CE x es s = .ok s' /\ ∀ b, es.getLast? = some b -> Bk x s' b := by
 induction es with
 | nil => exact fun s hs _ => .inr ⟨s, hs, rfl, rfl, fun _ q => nomatch q⟩
 | cons e es ih =>
  intro s hs ho
  by_cases hl : s < x.length
  ·rw [List.drop_eq_getElem_cons hl, Sg, P0 hl]
   by_cases h1 : x[s] = AR
   ·rw [if_pos h1, if_neg fun q => ho e (.head _) (q.symm.trans h1), if_pos h1]
    exact .inl ⟨.out, .inr (.inl rfl), rfl, rfl⟩
   ·rw [if_neg h1, if_neg (c := x[s] = AR) h1]
    by_cases h2 : x[s] = e
    ·rw [if_pos h2, if_pos h2]
     rcases ih (s + 1) hl fun p m => ho p (.tail _ m) with y | ⟨s', a1, a2, a3, a4⟩
     ·exact .inl y
     ·refine .inr ⟨s', a1, a2, a3, fun b q => ?_⟩
      cases es with
      | cons e2 es => rw [List.getLast?_cons_cons] at q; exact a4 b q
      | nil =>
       cases a3; cases q
       show x.drop s = e :: _
       rw [List.drop_eq_getElem_cons hl, h2]
    ·rw [if_neg h2, if_neg h2]
     exact .inl ⟨.use, .inl rfl, rfl, rfl⟩
  ·rw [List.drop_eq_nil_of_le (by omega), FB, List.getElem?_eq_none (by omega)]
   exact .inl ⟨.run, .inr (.inr rfl), rfl, rfl⟩
theorem XL {m : BU} {e : Aa} (h : Dr [AR] (m.dl.headD []) x = .error e) : Ao [AR] A3 m x = .error e := by unfold Ao; rw [h]; rfl
theorem YB {m : BU} {e : Aa} {q : AC} (h : Dr [AR] (m.dl.headD []) x = .ok q) (h2 : Du [AR] A3 m.long (m.dl.drop 1) q [] = .error e) : Ao [AR] A3 m x = .error e := by
 unfold Ao; rw [h]
 show Fs (Du [AR] A3 m.long (m.dl.drop 1) q []) _ = _
 rw [h2]; rfl
theorem YR {m : BU} {f : List AC} {q q2 : AC} (h : Dr [AR] (m.dl.headD []) x = .ok q) (h2 : Du [AR] A3 m.long (m.dl.drop 1) q [] = .ok (f, q2)) : Ao [AR] A3 m x = .ok (f, if Bj m.par then m.par.getLast?.getD (0, 0) :: q2 else q2) := by
 unfold Ao; rw [h]
 show Fs (Du [AR] A3 m.long (m.dl.drop 1) q []) _ = _
 rw [h2]; rfl
theorem ax {rows : List AC} {e : Aa} (h : CE x (rows.headD []) 0 = .error e) : Ba x rows long = .error e := by unfold Ba; rw [h]; rfl
theorem Zi {rows : List AC} (h : CE x (rows.headD []) 0 = .ok s) : Ba x rows long = Dh x long (rows.drop 1) s [] := by unfold Ba; rw [h]; rfl
theorem LD {m : BU} (hx : En x) (hne : m.dl ≠ []) (hD : ∀ r ∈ m.dl, Dl r) (hB : Bj m.par = hb) (hL : hb = true -> m.par.getLast? = some AX /\ ∃ r, m.dl.getLast? = some r /\ r.getLast? = some AX) :
  (∃ e, e3 e /\ Ao [AR] A3 m x = .error e /\ Ba x m.dl m.long = .error e) \/ ∃ g s, Ao [AR] A3 m x = .ok (g, CP x hb s) /\ Ba x m.dl m.long = .ok (g, s) /\ g.length + 1 = m.dl.length /\ ∀ r ∈ g, r.length <= x.length := by
 refine HM (fun D Ds eD => ?_) <| List.exists_cons_of_ne_nil hne
 have tail : ∀ s, (hb = true -> Bk x s AX) -> (if Bj m.par then m.par.getLast?.getD (0, 0) :: x.drop s else x.drop s) = CP x hb s := fun s h => by
  unfold CP
  rw [hB]
  cases hb
  ·rw [if_neg (by decide)]; exact (DY s x).symm
  ·rw [if_pos rfl, (hL rfl).1]
   have h1 := h rfl
   have h2 := Vk h1
   have e : ((s : Int) - 1) = ((s - 1 : Nat) : Int) := by omega
   show AX :: x.drop s = AY (some ((s : Int) - 1)) none x
   rw [e, DY]; exact h1.symm
 have l0 : m.dl.headD [] = D := by rw [eD]; rfl
 have l1 : m.dl.drop 1 = Ds := by rw [eD]; rfl
 have hh := RZ (x := x) D 0 (Nat.zero_le _) fun p m => ((hD D (eD ▸ .head _)).z p m).2.1
 rw [List.drop_zero] at hh
 rcases hh with ⟨e, a, b, c⟩ | ⟨s, a1, a2, a3, a4⟩
 ·exact .inl ⟨e, a, XL (l0 ▸ b), ax (l0 ▸ c)⟩
 ·have w := Zi (long := m.long) (rows := m.dl) (l0.symm ▸ a3)
  rw [l1] at w
  rcases S4 (long := m.long) hx Ds s [] a1 fun r m => hD r (eD ▸ .tail _ m) with ⟨e, a, b, c⟩ | ⟨g, s', b1, b2, b3, b4, b5, b6⟩
  ·exact .inl ⟨e, a, YB (l0.symm ▸ a2) (l1.symm ▸ b), w.trans c⟩
  ·refine .inr ⟨g, s', (YR (l0.symm ▸ a2) (l1.symm ▸ b2)).trans (congrArg (fun z => Except.ok (g, z)) (tail s' fun h => ?_)), w.trans b3, by rw [eD]; exact congrArg (· + 1) b4, b5⟩
   refine Ak (fun _ z0 => ?_) <| hL h; revert z0; refine Ah fun r e1 e2 => ?_
   rw [eD] at e1
   cases Ds with
   | cons r2 Ds => rw [List.getLast?_cons_cons] at e1; exact b6 r _ e1 e2
   | nil =>
    cases b3
    have : D = r := Option.some.inj e1
    exact a4 _ (this ▸ e2)
end
noncomputable def BL (rows : List AC) : AC := rows.headD [] ++ AZ 1 (rows.drop 1)
noncomputable def Aj (hb : Bool) : AC := bif hb then [AX] else []
def F0 (r : AC) : Prop := ∀ p ∈ r, p ∈ D8
section
variable {R f r : AC} {c n : Nat} {a rs : List AC} {hb : Bool} {p : AN}
theorem GC : ∀ p ∈ D8, (p.1 ≠ 9 /\ p ≠ AX /\ p ≠ AR) /\ (p.1 ≠ 1 /\ p.1 ≠ 6 /\ p.1 ≠ 2 /\ p.1 ∉ ([5, 9, 15] : List Int)) /\ p ≠ A3 /\ A8 p = true := by decide
theorem N0 {α β : Type} {a : α} {k : α -> Except Aa β} : Fs (.ok a) k = k a := rfl
theorem Fj {p : AN} {q : AC} (h : p ≠ AR) : A7 [AR] (p :: q) = .ok (p, q) := if_neg fun q => h (List.mem_singleton.mp q)
theorem IH {p : AN} {q : AC} (h : p ≠ AR) : DP [AR] (n + 1) (p :: q) f c = GF [AR] (DP [AR] n) p q f c := by
 rw [Ut, Fj h]; rfl
theorem VK {rec : AC -> AC -> Nat -> Except Aa (AC × Bool × AC)} {q : AC} (h1 : p.1 ≠ 1) (h6 : p.1 ≠ 6) (h2 : p.1 ≠ 2) (h3 : p.1 ∉ ([5, 9, 15] : List Int)) : GF [AR] rec p q f c = rec q (f ++ [p]) c := by
 unfold GF
 rw [if_neg h1, if_neg h6, if_neg h2, if_neg h3]
theorem Ue {rec : AC -> AC -> Nat -> Except Aa (AC × Bool × AC)} {q : AC} (h : c < 9) : GF [AR] rec Bm ((12, 48 + ((c : Int) + 1)) :: q) f c = rec q (f ++ [(9, (c : Int) + 1)]) (c + 1) := by
 unfold GF
 rw [if_neg (by decide), if_pos (by decide), Fj fun q => by cases q]
 show Pc rec ((12 : Int), 48 + ((c : Int) + 1)) q f c = _
 unfold Pc
 rw [if_neg (fun q => absurd (show (12 : Int) = 1 from q) (by decide)), if_neg (show ¬ (9 : Int) < (c : Int) + 1 from Int.not_lt.mpr (Int.ofNat_le.mpr h)), if_pos rfl]
theorem Lo (r : AC) : ∀ (n : Nat) (f : AC), F0 r -> (r.flatMap BN ++ R).length < n -> ∃ n', R.length < n' /\ DP [AR] n (r.flatMap BN ++ R) f c = DP [AR] n' R (f ++ r) c := by
 induction r with
 | nil => exact fun n f _ h => ⟨n, h, by rw [List.append_nil]; rfl⟩
 | cons p r ih =>
  intro n f ho h
  refine C9 (fun z0 z1 _ => ?_) <| GC p (ho p (.head _)); revert z0; refine C9 fun a1 a2 a3 => ?_; revert z1; refine I5 fun a4 a5 a6 a7 => ?_
  have e : (p :: r).flatMap BN ++ R = p :: (r.flatMap BN ++ R) := by
   rw [List.flatMap_cons]
   unfold BN
   rw [if_neg a1, if_neg a2]; rfl
  rw [e] at h ⊢
  cases n with
  | zero => exact absurd h (Nat.not_lt_zero _)
  | succ n =>
   refine Ah (fun n' h1 h2 => ?_) <| ih n (f ++ [p]) (fun q m => ho q (.tail _ m)) (Nat.lt_of_succ_lt_succ h)
   rw [List.append_assoc] at h2
   exact Dx n' h1 ((IH a3).trans ((VK a4 a5 a6 a7).trans h2))
theorem M5 (rs : List AC) : ∀ (c n : Nat) (f : AC), (∀ r ∈ rs, F0 r) -> c + rs.length <= 9 -> ((AZ (c + 1) rs).flatMap BN ++ R).length < n -> ∃ n', R.length < n' /\ DP [AR] n ((AZ (c + 1) rs).flatMap BN ++ R) f c = DP [AR] n' R (f ++ AZ (c + 1) rs) (c + rs.length) := by
 induction rs with
 | nil => exact fun c n f _ _ h => ⟨n, h, by rw [show AZ _ [] = [] from rfl, List.append_nil]; rfl⟩
 | cons r rs ih =>
  intro c n f ho hc h
  rw [List.length_cons] at hc
  have e : (AZ (c + 1) (r :: rs)).flatMap BN ++ R = Bm :: (12, 48 + ((c : Int) + 1)) :: (r.flatMap BN ++ ((AZ (c + 1 + 1) rs).flatMap BN ++ R)) := by
   rw [Eh, List.cons_append, List.flatMap_cons, List.flatMap_append, List.append_assoc, List.append_assoc]
   unfold BN
   rw [if_pos rfl]; rfl
  rw [e] at h ⊢
  cases n with
  | zero => exact absurd h (Nat.not_lt_zero _)
  | succ n =>
   have h1 : (r.flatMap BN ++ ((AZ (c + 1 + 1) rs).flatMap BN ++ R)).length < n := by
    rw [List.length_cons, List.length_cons] at h; omega
   refine Ah (fun n1 a1 b1 => ?_) <| Lo (c := c + 1) r n (f ++ [(9, (c : Int) + 1)]) (ho r (.head _)) h1
   refine Ah (fun n2 a2 b2 => ?_) <| ih (c + 1) n1 (f ++ [(9, (c : Int) + 1)] ++ r) (fun r m => ho r (.tail _ m)) (by omega) a1
   refine Dx n2 a2 ((IH (by decide)).trans ((Ue (by omega)).trans (b1.trans (b2.trans ?_))))
   rw [Eh, List.length_cons, show c + 1 + rs.length = c + (rs.length + 1) by omega, List.append_assoc, List.append_assoc]
   rfl
theorem Lj (S : AC) (h : (bif hb then Bm :: AX :: S else AX :: S).length < n) : DP [AR] n (bif hb then Bm :: AX :: S else AX :: S) f c = .ok (f ++ Aj hb, hb, S) := by
 cases n with
 | zero => exact absurd h (Nat.not_lt_zero _)
 | succ n =>
  cases hb
  ·refine (IH (by decide)).trans ?_
   unfold GF
   rw [if_pos (by decide)]
   show Except.ok (f, false, S) = Except.ok (f ++ [], false, S)
   rw [List.append_nil]
  ·refine (IH (by decide)).trans ?_
   unfold GF
   rw [if_neg (by decide), if_pos (by decide), Fj (by decide)]
   show Pc _ AX S f c = _
   unfold Pc
   rw [if_pos (by decide)]; rfl
theorem FD : ∀ (rs : List AC) (k : Nat) (r e : AC), AZ k (rs ++ [r ++ e]) = AZ k (rs ++ [r]) ++ e
 | [], k, r, e => by
  show (9, (k : Int)) :: (r ++ e) ++ [] = (9, (k : Int)) :: r ++ [] ++ e
  rw [List.append_nil, List.append_nil]; rfl
 | x :: rs, k, r, e => by
  show (9, (k : Int)) :: x ++ AZ (k + 1) (rs ++ [r ++ e]) = (9, (k : Int)) :: x ++ AZ (k + 1) (rs ++ [r]) ++ e
  rw [FD, List.append_assoc]
theorem Pb : BL (a ++ [r ++ f]) = BL (a ++ [r]) ++ f := by
 cases a with
 | nil =>
  show r ++ f ++ [] = r ++ [] ++ f
  rw [List.append_nil, List.append_nil]
 | cons x a =>
  show x ++ AZ 1 (a ++ [r ++ f]) = x ++ AZ 1 (a ++ [r]) ++ f
  rw [FD, List.append_assoc]
def EZ (p : AN) : Prop := p ∈ D8 \/ ∃ n : Nat, p = (9, (n : Int)) /\ 1 <= n /\ n <= 9
theorem Ez : ∀ (rs : List AC) (k : Nat), 1 <= k -> k + rs.length <= 10 -> (∀ r ∈ rs, F0 r) -> ∀ p ∈ AZ k rs, EZ p
 | [], k, _, _, _, p, m => nomatch m
 | r :: rs, k, h1, h2, ho, p, m => by
  rw [List.length_cons] at h2
  rcases List.mem_append.mp m with m | m
  ·rcases List.mem_cons.mp m with rfl | m
   ·exact .inr ⟨k, rfl, h1, by omega⟩
   ·exact .inl (ho r (.head _) p m)
  ·exact Ez rs (k + 1) (by omega) (by omega) (fun r m => ho r (.tail _ m)) p m
theorem PI (h : ∀ x ∈ rs, F0 x) (hl : rs.length <= 10) : ∀ p ∈ BL rs, EZ p := fun p m => by
 cases rs with
 | nil => exact nomatch m
 | cons x rs =>
  rw [List.length_cons] at hl
  rcases List.mem_append.mp m with m | m
  ·exact .inl (h x (.head _) p m)
  ·exact Ez rs 1 (Nat.le_refl _) (by omega) (fun r m => h r (.tail _ m)) p m
theorem NL (h : EZ p) : p.1 ≠ 1 /\ p ≠ AX := by
 rcases h with h | ⟨n, rfl, _⟩
 ·exact ⟨(GC p h).2.1.1, (GC p h).1.2.1⟩
 ·exact ⟨(show (9 : Int) ≠ 1 by decide), fun q => by cases q⟩
theorem Gw (h : ∀ p ∈ f, EZ p) : Bj (f ++ Aj hb) = hb /\ (f ++ Aj hb = [] \/ (f ++ Aj hb).getLast? ≠ some AX ↔ hb = false) := by
 cases hb
 ·show Bj (f ++ []) = false /\ _
  rw [show f ++ Aj false = f from List.append_nil f, List.append_nil]
  cases hg : f.getLast? with
  | none =>
   rw [List.getLast?_eq_none_iff] at hg
   subst hg
   exact ⟨rfl, fun _ => rfl, fun _ => .inl rfl⟩
  | some p =>
   have := NL (h p (List.mem_of_getLast? hg))
   unfold Bj
   rw [hg]
   refine ⟨?_, fun _ => rfl, fun _ => .inr fun q => this.2 (Option.some.inj q)⟩
   show (_ && decide (p.1 = 1)) = false
   rw [decide_eq_false this.1, Bool.and_false]
 ·have e : (f ++ Aj true).getLast? = some AX := List.getLast?_concat
  refine ⟨?_, fun q => ?_, fun q => nomatch q⟩
  ·unfold Bj
   rw [e, decide_eq_true (show f ++ Aj true ≠ [] from List.append_ne_nil_of_right_ne_nil _ (by decide))]; rfl
  ·rcases q with q | q
   ·exact absurd q (List.append_ne_nil_of_right_ne_nil _ (by decide))
   ·exact absurd e q
theorem Kn {Bd : AC} (h : ∀ p ∈ f, EZ p) : DN (f ++ Aj hb) Bd = f.flatMap BN ++ (bif hb then Bm :: AX :: (Bd.flatMap A5 ++ [BM]) else AX :: (Bd.flatMap A5 ++ [BM])) := by
 have hl := (Gw (hb := hb) h).2
 unfold DN
 cases hb
 ·rw [if_pos (hl.mpr rfl), show f ++ Aj false = f from List.append_nil f]
  simp only [List.append_assoc]; rfl
 ·rw [if_neg fun q => (nomatch hl.mp q), List.flatMap_append]
  simp only [List.append_assoc]; rfl
theorem Sw {S : AC} (ho : ∀ x ∈ a ++ [r], F0 x) (hl : (a ++ [r]).length <= 10) (h : ((BL (a ++ [r])).flatMap BN ++ (bif hb then Bm :: AX :: S else AX :: S)).length < n) :
  DP [AR] n ((BL (a ++ [r])).flatMap BN ++ (bif hb then Bm :: AX :: S else AX :: S)) [] 0 = .ok (BL (a ++ [r]) ++ Aj hb, hb, S) := by
 generalize a ++ [r] = rs at *
 cases rs with
 | nil => exact Lj S h
 | cons x rs =>
  rw [List.length_cons] at hl
  have e : BL (x :: rs) = x ++ AZ (0 + 1) rs := rfl
  rw [e, List.flatMap_append, List.append_assoc] at h ⊢
  refine Ah (fun n1 a1 b1 => ?_) <| Lo (c := 0) x n [] (ho x (.head _)) h
  refine Ah (fun n2 a2 b2 => ?_) <| M5 rs 0 n1 ([] ++ x) (fun r m => ho r (.tail _ m)) (by omega) a1
  rw [b1, b2, Lj S a2]; rfl
theorem E0 {cnt : Int} {p : AN} {q : AC} {d : Nat} (h : p ≠ AR) (h6 : p.1 ≠ 6) (h3 : p.1 ∉ ([5, 9, 15] : List Int)) : Bg [AR] cnt (n + 1) (p :: q) d f = if p.1 = 1 then Bg [AR] cnt n q (d + 1) (f ++ [p])
   else if p.1 = 2 then (if d = 0 then .ok (f, q) else Bg [AR] cnt n q (d - 1) (f ++ [p])) else Bg [AR] cnt n q d (f ++ [p]) := by
 rw [LE, Fj h]
 exact (if_neg h6).trans (if_neg h3)
theorem LZ {cnt : Int} {p t : AN} {q : AC} {d : Nat} (h : p ≠ AR) (e : B7 p cnt = .ok t) : Bg [AR] cnt (n + 1) (Bm :: p :: q) d f = Bg [AR] cnt n q d (f ++ [t]) := by
 rw [LE, Fj (by decide), N0]
 dsimp only
 rw [if_pos (by decide), Fj h, N0, e]; rfl
theorem PK {cnt : Int} {b : AC} (hb : QB cnt b) (h : (b.flatMap A5 ++ R).length < n) : ∃ n', R.length < n' /\ Bg [AR] cnt n (b.flatMap A5 ++ R) 0 f = Bg [AR] cnt n' R 0 (f ++ b) := by
 rcases hb with ⟨k, rfl, h1, h2⟩ | rfl | ⟨p, hp, rfl⟩
 ·have e : ([((5 : Int), k)] : AC).flatMap A5 ++ R = Bm :: (12, 48 + k) :: R := rfl
  rw [e] at h ⊢
  cases n with
  | zero => exact absurd h (Nat.not_lt_zero _)
  | succ n =>
   refine Dx n (by rw [List.length_cons, List.length_cons] at h; omega) (LZ (fun q => by cases q) ?_)
   unfold B7
   rw [if_neg (show ¬ (12 : Int) = 6 by decide), if_pos ⟨rfl, by show 48 < 48 + k; omega, by show 48 + k <= 48 + cnt; omega⟩]
   show Except.ok ((5 : Int), 48 + k - 48) = _
   rw [show 48 + k - 48 = k by omega]
 ·have e : ([AX, (11, 98), BM] : AC).flatMap A5 ++ R = AX :: (11, 98) :: BM :: R := rfl
  rw [e] at h ⊢
  rw [List.length_cons, List.length_cons, List.length_cons] at h
  obtain ⟨n, rfl⟩ : ∃ m, n = m + 3 := ⟨n - 3, by omega⟩
  refine Dx n (by omega) ?_
  rw [E0 (by decide) (by decide) (by decide), if_pos (by decide), E0 (by decide) (by decide) (by decide), if_neg (by decide), if_neg (by decide), E0 (by decide) (by decide) (by decide), if_neg (by decide), if_pos (by decide), if_neg (by decide), List.append_assoc, List.append_assoc]
  rfl
 ·cases n with
  | zero => exact absurd h (Nat.not_lt_zero _)
  | succ n =>
   by_cases h6 : p = (6, 64)
   ·subst h6
    refine Dx n ?_ (LZ (p := (6, 64)) (by decide) rfl)
    have h' : R.length + 1 + 1 < n + 1 := h
    omega
   ·have z := (show ∀ p ∈ ([(11, 97), A3, (11, 99), (6, 64), (0, 3)] : AC), p ≠ (6, 64) -> (p ≠ AR /\ p.1 ≠ 6 /\ p.1 ∉ ([5, 9, 15] : List Int)) /\ p.1 ≠ 1 /\ p.1 ≠ 2 /\ p.1 ≠ 5 by decide) p hp h6
    have e : ([p] : AC).flatMap A5 ++ R = p :: R := by
     rw [List.flatMap_cons]
     unfold A5
     rw [if_neg z.2.2.2, if_neg z.1.2.1]; rfl
    rw [e] at h ⊢
    refine Dx n (Nat.lt_of_succ_lt_succ h) ?_
    rw [E0 z.1.1 z.1.2.1 z.1.2.2, if_neg z.2.1, if_neg z.2.2.1]
theorem Ol {cnt : Int} (bs : List AC) : ∀ (n : Nat) (f : AC), (∀ b ∈ bs, QB cnt b) -> (bs.flatten.flatMap A5 ++ BM :: R).length < n -> Bg [AR] cnt n (bs.flatten.flatMap A5 ++ BM :: R) 0 f = .ok (f ++ bs.flatten, R) := by
 induction bs with
 | nil =>
  intro n f _ h
  cases n with
  | zero => exact absurd h (Nat.not_lt_zero _)
  | succ n =>
   show Bg [AR] cnt (n + 1) (BM :: R) 0 f = _
   rw [E0 (by decide) (by decide) (by decide), if_neg (by decide), if_pos (by decide), if_pos rfl, List.flatten_nil, List.append_nil]
 | cons b bs ih =>
  intro n f hb h
  rw [List.flatten_cons, List.flatMap_append, List.append_assoc] at h ⊢
  refine Ah (fun n' h1 h2 => ?_) <| PK (f := f) (hb b (.head _)) h
  rw [h2, ih n' (f ++ b) (fun b m => hb b (.tail _ m)) h1, List.append_assoc]
theorem Hp {ds : List AC} {y : AC} (r : AC) : ∀ (x : AC), (∀ p ∈ r, p.1 ≠ 9) -> A0 (r ++ y) ds x = A0 y ds (x ++ r) := by
 induction r with
 | nil => exact fun x _ => by rw [List.append_nil]; rfl
 | cons p r ih =>
  intro x h
  show (if p.1 = 9 then _ else _) = _
  rw [if_neg (h p (.head _))]
  have := ih (x ++ [p]) fun q m => h q (.tail _ m)
  rw [List.append_assoc] at this
  exact this
theorem KZ (rs : List AC) : ∀ (ds : List AC) (x : AC), (∀ r ∈ rs, ∀ p ∈ r, p.1 ≠ 9) -> ds.length + rs.length <= 9 -> A0 (AZ (ds.length + 1) rs) ds x = some (ds ++ x :: rs) := by
 induction rs with
 | nil => exact fun _ _ _ _ => rfl
 | cons r rs ih =>
  intro ds x h hl
  rw [List.length_cons] at hl
  show A0 ((9, ((ds.length + 1 : Nat) : Int)) :: (r ++ AZ (ds.length + 1 + 1) rs)) ds x = _
  rw [I3, if_pos rfl, if_neg fun z => z.elim (fun z => z rfl) fun z => by omega, Hp r [] (h r (.head _))]
  have := ih (ds ++ [x]) ([] ++ r) (fun r m => h r (.tail _ m)) (by rw [List.length_append]; show ds.length + 1 + _ <= 9; omega)
  rw [List.length_append] at this
  refine (show A0 (AZ (ds.length + 1 + 1) rs) (ds ++ [x]) ([] ++ r) = some (ds ++ [x] ++ ([] ++ r) :: rs) from this).trans ?_
  rw [List.append_assoc]; rfl
theorem Mj (h : ∀ x ∈ rs, ∀ p ∈ x, p.1 ≠ 9) (hne : rs ≠ []) (hl : rs.length <= 10) : A0 (BL rs) [] [] = some rs := by
 refine HM (fun x rs z0 => ?_) <| List.exists_cons_of_ne_nil hne; obtain rfl := z0
 show A0 (x ++ AZ 1 rs) [] [] = _
 rw [Hp x [] (h x (.head _))]
 exact KZ rs [] ([] ++ x) (fun r m => h r (.tail _ m)) (by rw [List.length_cons] at hl; show 0 + _ <= 9; omega)
theorem Hz (h : ∀ p ∈ f, p.1 ≠ 9) : BI f = [] := List.filter_eq_nil_iff.mpr fun p m q => h p m (of_decide_eq_true q)
theorem Kh (rs : List AC) : ∀ (k : Nat), (∀ r ∈ rs, ∀ p ∈ r, p.1 ≠ 9) -> (BI (AZ k rs)).length = rs.length := by
 induction rs with
 | nil => exact fun _ _ => rfl
 | cons r rs ih =>
  intro k h
  have e : BI (AZ k (r :: rs)) = (9, (k : Int)) :: (BI r ++ BI (AZ (k + 1) rs)) := by
   unfold BI
   show List.filter _ ((9, (k : Int)) :: (r ++ AZ (k + 1) rs)) = _
   exact (List.filter_cons_of_pos (p := fun p : AN => decide (p.1 = 9)) (decide_eq_true rfl)).trans (congrArg _ (List.filter_append ..))
  rw [e, Hz (h r (.head _)), List.length_cons, List.nil_append, ih (k + 1) fun r m => h r (.tail _ m)]; rfl
theorem Mk (h : ∀ x ∈ rs, ∀ p ∈ x, p.1 ≠ 9) : (BI (BL rs)).length = rs.length - 1 := by
 cases rs with
 | nil => rfl
 | cons x rs =>
  have e : BI (BL (x :: rs)) = BI x ++ BI (AZ 1 rs) := List.filter_append ..
  rw [e, Hz (h x (.head _)), List.nil_append, Kh rs 1 fun r m => h r (.tail _ m)]; rfl
theorem Nq {k : Nat} (rs : List AC) : ∀ (j : Nat), (∀ r ∈ rs, r.length <= k) -> (AZ j rs).length <= rs.length * (k + 1) := by
 induction rs with
 | nil => exact fun _ _ => Nat.zero_le _
 | cons r rs ih =>
  intro j h
  rw [Eh, List.length_append, List.length_cons, List.length_cons, Nat.succ_mul, Nat.add_comm]
  exact Nat.add_le_add (ih (j + 1) fun r m => h r (.tail _ m)) (Nat.succ_le_succ (h r (.head _)))
end
noncomputable def J1 : CT := fun us os EX K => FU us fun P us => FU us fun Bd us => JE us fun long out => Ab os <| ((P.length <= 900 /\ Bd.length <= 900) /\ (A0 P [] []).isSome = true) /\ K (.ref 0) [.mac ⟨P, Bd, (A0 P [] []).getD [], long, out⟩]
def Td (m : BU) (x : AC) : Prop := (En x /\ m.dl ≠ []) /\ (∀ r ∈ m.dl, Dl r) /\ (Bj m.par = true -> m.par.getLast? = some AX /\ ∃ r, m.dl.getLast? = some r /\ r.getLast? = some AX)
noncomputable def KW : CT := fun us os EX K => BF 0 us fun us => BF 1 us fun us => Ab us <| HV os fun m os => Dw os fun P os => Ab os <| HB P fun x => ((CM m /\ x.length <= 20000 /\ ∀ p ∈ x, A8 p = true) /\ Td m x) /\
 D3 (Ba x m.dl m.long) (fun r => K (.tup2 (.ref 2) (.ref 3)) [.mac m, .lst (.toks x), .lst (.tts r.1), .lst (.toks (CP x (Bj m.par) r.2))]) (K (.str "use") [.mac m, .lst (.toks x)]) (K (.str "outer") [.mac m, .lst (.toks x)]) (K (.str "runaway") [.mac m, .lst (.toks x)])
section
variable {K : Frag} {B : Heap} {mg mb : Str -> Option Value} {ad : Str -> Addr} {tk : Str -> Tok} {prog : Program} {w : World} {EX : Aa -> Prop} {n : Nat} {c : Int} {rows g : List AC} {hb long out : Bool} {P Bd W0 W f t z : AC} {m m1 m2 : BU}
theorem Pi {us : List AV} {os : List AO} {Kq : AV -> List AO -> Prop} (h : J1 us os EX Kq) : FJ us os EX Kq := by
 refine ET (fun P r z0 t1 => ?_) <| Vg h; obtain rfl := z0
 refine Cl t1 fun Bd r t2 => ?_
 have fin : ∀ a b, Ab os (((P.length <= 900 /\ Bd.length <= 900) /\ (A0 P [] []).isSome = true) /\ Kq (.ref 0) [.mac ⟨P, Bd, (A0 P [] []).getD [], a, b⟩]) -> Ab os ((P.length <= 900 /\ Bd.length <= 900) /\ Af (A0 P [] []) fun D => Kq (.ref 0) [.mac ⟨P, Bd, D, a, b⟩]) := fun a b q => by
  refine C9 (fun z0 z1 q3 => ?_) <| FX q; obtain rfl := z0; revert z1; refine Ak fun q1 q2 => ?_
  refine ⟨q1, ?_⟩
  refine Ap (fun D e => ?_) <| Option.isSome_iff_exists.mp q2
  rw [e] at q3 ⊢
  exact q3
 rcases LW t2 with ⟨rfl, q⟩ | ⟨a, b, rfl, q⟩
 ·exact fin _ _ q
 ·exact fin _ _ q
theorem OX {us : List AV} {os : List AO} {Kq : AV -> List AO -> Prop} (h : KW us os EX Kq) : PG us os EX Kq := by
 refine Ah (fun r z0 t1 => ?_) <| WR h; obtain rfl := z0
 refine Ai t1 fun r t2 => ?_
 refine AI t2 fun t3 => ?_
 refine Dg t3 fun m r t4 => ?_
 refine B9 t4 fun P r t5 => ?_
 refine AI t5 fun t6 => ?_
 refine DI t6 fun x z0 => ?_
 revert z0; refine Ak fun z1 t7 => ?_; revert z1; refine I5 fun h1 z2 h4 h5 => ?_; revert z2; refine Ak fun h2 h3 => ?_
 refine show (_ /\ _) /\ _ from ⟨h1, ?_⟩
 rcases LD (hb := Bj m.par) h2 h3 h4 rfl h5 with ⟨e, a, b, c⟩ | ⟨g, s, b, c, _⟩
 ·rw [c] at t7
  rw [b]
  rcases a with rfl | rfl | rfl <;> exact t7
 ·rw [c] at t7
  rw [b]
  exact t7
noncomputable def UJ (EX : Aa -> Prop) : Gm := ⟨EX, AM (st 58), [("_law_take", CD), ("_law_parameters", Dd), ("_law_body", KA), ("_law_written", Fa), ("TokenFeed", GY), ("definition", Cd), ("Macro", J1), ("_law_text", Jy), ("_law_wanted", II), ("_law_told", KW), ("filled", D4), ("_law_filled", Dc)],
 [("left", Ed), ("has_brace", Bw), ("same", H3)], .toks [], [("source", 1, 0)], aE⟩
noncomputable def PU : List Str := ["count", "rows", "has_brace", "is_long", "is_outer", "parameters", "body", "feed", "macro", "text", "due"]
noncomputable def W4 (c : Int) (hb long out : Bool) (P Bd f m t d : Option AV) : List (Str × Option AV) := [("count", some (.int c)), ("rows", some (.ref 2)), ("has_brace", some (.bool hb)), ("is_long", some (.bool long)), ("is_outer", some (.bool out)), ("parameters", P), ("body", Bd), ("feed", f), ("macro", m), ("text", t), ("due", d)]
def V3 (Q : AV -> List AO -> Prop) : Fl -> St -> Prop := fun fl st' => AU 1 (Am fl) st'.objs Q
def UQ (EX : Aa -> Prop) (Q : AV -> List AO -> Prop) (n : Nat) (c : Int) : Prop := (V 39 (UJ EX)).b ((AB (st 58)).drop 1) ⟨[("count", some (.int c)), ("rows", none), ("has_brace", none), ("is_long", none), ("is_outer", none), ("parameters", none), ("body", none), ("feed", none), ("macro", none), ("text", none), ("due", none)], [.src n, .cel]⟩ (V3 Q)
def YH (EX : Aa -> Prop) (Q : AV -> List AO -> Prop) (n : Nat) (c : Int) (rows : List AC) : Prop := (V 38 (UJ EX)).b ((AB (st 58)).drop 2) ⟨[("count", some (.int c)), ("rows", some (.ref 2)), ("has_brace", none), ("is_long", none), ("is_outer", none), ("parameters", none), ("body", none), ("feed", none), ("macro", none), ("text", none), ("due", none)], [.src n, .cel, .lst (.tts rows)]⟩ (V3 Q)
def Q3 (EX : Aa -> Prop) (Q : AV -> List AO -> Prop) (n : Nat) (c : Int) (hb long out : Bool) (rows : List AC) : Prop := (V 37 (UJ EX)).b ((AB (st 58)).drop 3) ⟨W4 c hb long out none none none none none none, [.src n, .cel, .lst (.tts rows)]⟩ (V3 Q)
theorem Xn {Q : AV -> List AO -> Prop} : (V 40 (UJ EX)).b (AB (st 58)) ⟨Az [] [] PU, [.src n, .cel]⟩ (V3 Q) =
  ((1 <= n /\ (1 : Int) <= 4 /\ (4 : Int) <= 1000) /\ ∀ d : Int, 0 <= d -> d < 4 -> UQ EX Q (n - 1) d) := by kernel_rfl
theorem XD {Q : AV -> List AO -> Prop} : YH EX Q n c rows = ((1 <= n /\ (1 : Int) <= 5 /\ (5 : Int) <= 1000) /\ ∀ d1 : Int, 0 <= d1 -> d1 < 5 -> (1 <= n - 1 /\ (1 : Int) <= 2 /\ (2 : Int) <= 1000) /\ ∀ d2 : Int, 0 <= d2 -> d2 < 2 -> (1 <= n - 1 - 1 /\ (1 : Int) <= 3 /\ (3 : Int) <= 1000) /\ ∀ d3 : Int, 0 <= d3 -> d3 < 3 ->
  Q3 EX Q (n - 1 - 1 - 1) c (decide (d1 = 0)) (decide (d2 = 0)) (decide (d3 = 0)) rows) := by kernel_rfl
def H1 (EX : Aa -> Prop) (Q : AV -> List AO -> Prop) (k j : Nat) (z : St) : Prop := (V k (UJ EX)).b ((AB (st 58)).drop j) z (V3 Q)
def W2 (EX : Aa -> Prop) (Q : AV -> List AO -> Prop) (i k j : Nat) (z : St) : Prop := (V i (UJ EX)).b [] z (ER (fun z => (V k (UJ EX)).b ((AB (st 58)).drop j) z (V3 Q)) (V3 Q))
theorem Ff {Q : AV -> List AO -> Prop} {i k j : Nat} {z : St} (h : H1 EX Q k j z) : W2 EX Q (i + 1) k j z := h
theorem Wu {Q : AV -> List AO -> Prop} : Q3 EX Q n c false long out rows = W2 EX Q 36 36 4 ⟨W4 c false long out none none none none none none, [.src n, .cel, .lst (.tts rows)]⟩ := by kernel_rfl
theorem Ww {Q : AV -> List AO -> Prop} : Q3 EX Q n c true long out rows = ((-(rows.length : Int) <= -1 /\ (-1 : Int) < rows.length) /\ ∀ r, rows[AK (-1) rows.length]? = some r -> 1 <= 1000000 /\ (r ++ [AX]).length <= 1000000 /\ 1 ≠ 0 /\ (-(rows.length : Int) <= -1 /\ (-1 : Int) < rows.length) /\
      W2 EX Q 35 36 4 ⟨W4 c true long out none none none none none none, [.src n, .cel, .lst (.tts (rows.set (AK (-1) rows.length) (r ++ [AX])))]⟩) := by kernel_rfl
noncomputable def OB (P Bd : AC) : AC := DN P Bd ++ [(11, 122)]
noncomputable def Em (n : Nat) (rows : List AC) (P Bd f : AC) (m : BU) (ex : List AO) : List AO := .src n :: .cel :: .lst (.tts rows) :: .lst (.toks (DN P Bd)) :: .lst (.toks [(11, 122)]) :: .lst (.toks (OB P Bd)) :: .feed f [AR] :: .mac m :: ex
noncomputable def HE (c : Int) (hb long out : Bool) (P Bd : AC) (t d : Option AV) : List (Str × Option AV) := W4 c hb long out (some (.tup (.toks P))) (some (.tup (.toks Bd))) (some (.ref 6)) (some (.ref 7)) t d
theorem XZ {Q : AV -> List AO -> Prop} : H1 EX Q 36 4 ⟨W4 c hb long out none none none none none none, [.src n, .cel, .lst (.tts rows)]⟩ = ((rows.length <= 10 /\ rows ≠ [] /\ ∀ r ∈ rows, r.length <= 10) /\ ((0 <= c /\ c <= 3) /\ 11 <= n) /\ ∀ (n1 : Nat) (bs : List AC), n <= n1 + 11 -> bs.length <= 5 -> (∀ b ∈ bs, QB c b) ->
  ((BL rows).length <= 200 /\ bs.flatten.length <= 200) /\ 1 <= 1000000 /\ (OB (BL rows) bs.flatten).length <= 1000000 /\ 1 <= 1000000 /\ ((OB (BL rows) bs.flatten).length <= 20000 /\ ∀ p ∈ OB (BL rows) bs.flatten, A8 p = true) /\
   Ig (OB (BL rows) bs.flatten) [AR] long out EX fun _ os => Pk os fun f m => H1 EX Q 33 7 ⟨HE c hb long out (BL rows) bs.flatten none none, Em n1 rows (BL rows) bs.flatten f m []⟩) := by kernel_rfl
theorem Xo {Q : AV -> List AO -> Prop} : H1 EX Q 33 7 ⟨HE c hb long out P Bd none none, Em n rows P Bd f m []⟩ = br (decide (m.par = P)) (br (decide (m.body = Bd)) (1 <= 1000000 /\ br (decide (f = [(11, 122)])) (W2 EX Q 32 32 8 ⟨HE c hb long out P Bd none none, Em n rows P Bd f m [.lst (.toks f), .lst (.toks [(11, 122)])]⟩) (Q (.bool false) [.src n])) (Q (.bool false) [.src n])) (Q (.bool false) [.src n]) := by kernel_rfl
noncomputable def X3 : Stmt -> Expr
 | .If t _ _ _ => t
 | _ => .Constant .none 0 default
noncomputable def Xf : Stmt -> List Stmt
 | .If _ a _ _ => a
 | _ => []
noncomputable def Y5 : Stmt -> List Stmt
 | .If _ _ b _ => b
 | _ => []
noncomputable def Y0 : Stmt -> Pos
 | .If _ _ _ p => p
 | _ => default
theorem aM {n n1 k : Nat} (e1 : n1 = k + 1) (e2 : n = n1 + 1) {Γ : Gm} {t : Expr} {a b rest l : List Stmt} {p : Pos} {z : St} {K : Fl -> St -> Prop} (el : l = .If t a b p :: rest) (h : (V n Γ).b [.If t a b p] z (ER (fun z => (V n1 Γ).b rest z K) K)) : (V n Γ).b l z K := by
 subst e1 e2 el
 have e : ER (fun z => (V (k + 1) Γ).b [] z (ER (fun z => (V (k + 1) Γ).b rest z K) K)) (ER (fun z => (V (k + 1) Γ).b rest z K) K) = ER (fun z => (V (k + 1) Γ).b rest z K) K := by
  funext fl z; cases fl <;> rfl
 replace h : (V (k + 1) Γ).t t z (fun z => (V (k + 1) Γ).b a z (ER (fun z => (V (k + 1) Γ).b [] z (ER (fun z => (V (k + 1) Γ).b rest z K) K)) (ER (fun z => (V (k + 1) Γ).b rest z K) K))) (fun z => (V (k + 1) Γ).b b z (ER (fun z => (V (k + 1) Γ).b [] z (ER (fun z => (V (k + 1) Γ).b rest z K) K)) (ER (fun z => (V (k + 1) Γ).b rest z K) K))) := h
 rw [e] at h
 exact h
theorem Vu {K : St -> Prop} {Q : Fl -> St -> Prop} {z : St} (h : K z) : ER K Q .next z := h
theorem YP {Q : Fl -> St -> Prop} : (V 32 (UJ EX)).b [.If (X3 (Bl (AB (st 58)) 8)) (Xf (Bl (AB (st 58)) 8)) (Y5 (Bl (AB (st 58)) 8)) (Y0 (Bl (AB (st 58)) 8))] ⟨HE c hb long out P Bd none none, Em n rows P Bd f m [.lst (.toks f), .lst (.toks [(11, 122)])]⟩ Q =
 br (decide ((m.dl.length : Int) - 1 = c)) (br (decide (m.dl = rows)) (br (decide (Bj m.par = hb)) (Q .next ⟨HE c hb long out P Bd none none, Em n rows P Bd f m [.lst (.toks f), .lst (.toks [(11, 122)])]⟩) (Q (.ret (.bool false)) ⟨HE c hb long out P Bd none none, Em n rows P Bd f m [.lst (.toks f), .lst (.toks [(11, 122)])]⟩)) (Q (.ret (.bool false)) ⟨HE c hb long out P Bd none none, Em n rows P Bd f m [.lst (.toks f), .lst (.toks [(11, 122)])]⟩)) (Q (.ret (.bool false)) ⟨HE c hb long out P Bd none none, Em n rows P Bd f m [.lst (.toks f), .lst (.toks [(11, 122)])]⟩) := by kernel_rfl
theorem XS : (AB (st 58)).drop 8 = .If (X3 (Bl (AB (st 58)) 8)) (Xf (Bl (AB (st 58)) 8)) (Y5 (Bl (AB (st 58)) 8)) (Y0 (Bl (AB (st 58)) 8)) :: (AB (st 58)).drop 9 := by kernel_rfl
theorem XV {Q : AV -> List AO -> Prop} (h1 : (m.dl.length : Int) - 1 = c) (h2 : m.dl = rows) (h3 : Bj m.par = hb) (h : H1 EX Q 31 9 ⟨HE c hb long out P Bd none none, Em n rows P Bd f m [.lst (.toks f), .lst (.toks [(11, 122)])]⟩) : H1 EX Q 32 8 ⟨HE c hb long out P Bd none none, Em n rows P Bd f m [.lst (.toks f), .lst (.toks [(11, 122)])]⟩ := by
 unfold H1 at h ⊢
 refine aM (n1 := 31) (k := 30) rfl rfl XS ?_
 rw [YP]
 exact Dz (decide_eq_true h1) (Dz (decide_eq_true h2) (Dz (decide_eq_true h3) (Vu h)))
noncomputable def QA (P Bd : AC) (long out : Bool) : BU := ⟨P, Bd, (A0 P [] []).getD [], long, out⟩
noncomputable def IB (n : Nat) (rows : List AC) (P Bd f : AC) (m : BU) (long out : Bool) (ex : List AO) : List AO := Em n rows P Bd f m (.lst (.toks f) :: .lst (.toks [(11, 122)]) :: .mac (QA P Bd long out) :: .mac (QA P Bd (!long) out) :: ex)
theorem YI {Q : AV -> List AO -> Prop} : H1 EX Q 31 9 ⟨HE c hb long out P Bd none none, Em n rows P Bd f m [.lst (.toks f), .lst (.toks [(11, 122)])]⟩ = (((P.length <= 900 /\ Bd.length <= 900) /\ (A0 P [] []).isSome = true) /\ br (decide (m.long = (QA P Bd long out).long /\ m.outer = (QA P Bd long out).outer /\ m.par = (QA P Bd long out).par /\ m.body = (QA P Bd long out).body))
  (((P.length <= 900 /\ Bd.length <= 900) /\ (A0 P [] []).isSome = true) /\ br (decide (m.long = (QA P Bd (!long) out).long /\ m.outer = (QA P Bd (!long) out).outer /\ m.par = (QA P Bd (!long) out).par /\ m.body = (QA P Bd (!long) out).body)) (Q (.bool false) [.src n]) (W2 EX Q 30 30 10 ⟨HE c hb long out P Bd none none, IB n rows P Bd f m long out []⟩)) (Q (.bool false) [.src n])) := by kernel_rfl
theorem ZH {Q : AV -> List AO -> Prop} : H1 EX Q 30 10 ⟨HE c hb long out P Bd none none, IB n rows P Bd f m long out []⟩ = ((400 <= n /\ (rows.length <= 4 /\ rows ≠ []) /\ (∀ r ∈ rows, r.length <= 4) /\ ∀ r ∈ rows, ∀ p ∈ r, B3 p = true) /\ ∀ (n1 : Nat) (t : AC), n <= n1 + 400 -> t.length <= 500 -> (∀ p ∈ t, B3 p = true) ->
  H1 EX Q 29 11 ⟨HE c hb long out P Bd (some (.ref 12)) none, IB n1 rows P Bd f m long out [.lst (.toks t)]⟩) := by kernel_rfl
def Mx (EX : Aa -> Prop) (Q : AV -> List AO -> Prop) (n : Nat) (c : Int) (hb long out : Bool) (rows : List AC) (P Bd f : AC) (m : BU) (t : AC) (k j : Nat) (d : AV) (ex : List AO) : Prop := H1 EX Q k j ⟨HE c hb long out P Bd (some (.ref 12)) (some d), IB n rows P Bd f m long out (.lst (.toks t) :: ex)⟩
theorem Uz {Q : AV -> List AO -> Prop} : H1 EX Q 29 11 ⟨HE c hb long out P Bd (some (.ref 12)) none, IB n rows P Bd f m long out [.lst (.toks t)]⟩ = ((t.length <= 1000 /\ rows ≠ [] /\ rows.length <= 10) /\ D3 (Ba t rows long) (fun r => Mx EX Q n c hb long out rows P Bd f m t 28 12 (.tup2 (.ref 13) (.ref 14)) [.lst (.tts r.1), .lst (.toks (CP t hb r.2))])
  (Mx EX Q n c hb long out rows P Bd f m t 28 12 (.str "use") []) (Mx EX Q n c hb long out rows P Bd f m t 28 12 (.str "outer") []) (Mx EX Q n c hb long out rows P Bd f m t 28 12 (.str "runaway") [])) := by kernel_rfl
def WH (EX : Aa -> Prop) (Q : AV -> List AO -> Prop) (n : Nat) (c : Int) (hb long out : Bool) (rows : List AC) (P Bd f : AC) (m : BU) (t : AC) (d : AV) (ex : List AO) : Prop := W2 EX Q 27 27 13 ⟨HE c hb long out P Bd (some (.ref 12)) (some d), IB n rows P Bd f m long out (.lst (.toks t) :: ex)⟩
def RF (m : BU) (x : AC) : Prop := (CM m /\ x.length <= 20000 /\ ∀ p ∈ x, A8 p = true) /\ Td m x
theorem UP {Q : AV -> List AO -> Prop} : Mx EX Q n c hb long out rows P Bd f m t 28 12 (.tup2 (.ref 13) (.ref 14)) [.lst (.tts g), .lst (.toks z)] = (RF m t /\ D3 (Ba t m.dl m.long) (fun r => br (decide (r.1 = g) && decide (CP t (Bj m.par) r.2 = z)) (WH EX Q n c hb long out rows P Bd f m t (.tup2 (.ref 13) (.ref 14)) [.lst (.tts g), .lst (.toks z), .lst (.tts r.1), .lst (.toks (CP t (Bj m.par) r.2))]) (Q (.bool false) [.src n]))
  (Q (.bool false) [.src n]) (Q (.bool false) [.src n]) (Q (.bool false) [.src n])) := by kernel_rfl
theorem RY {Q : AV -> List AO -> Prop} : Mx EX Q n c hb long out rows P Bd f m t 28 12 (.str "use") [] = (RF m t /\ D3 (Ba t m.dl m.long) (fun r => Q (.bool false) [.src n]) (WH EX Q n c hb long out rows P Bd f m t (.str "use") []) (Q (.bool false) [.src n]) (Q (.bool false) [.src n])) := by kernel_rfl
theorem SD {Q : AV -> List AO -> Prop} : Mx EX Q n c hb long out rows P Bd f m t 28 12 (.str "outer") [] = (RF m t /\ D3 (Ba t m.dl m.long) (fun r => Q (.bool false) [.src n]) (Q (.bool false) [.src n]) (WH EX Q n c hb long out rows P Bd f m t (.str "outer") []) (Q (.bool false) [.src n])) := by kernel_rfl
theorem SQ {Q : AV -> List AO -> Prop} : Mx EX Q n c hb long out rows P Bd f m t 28 12 (.str "runaway") [] = (RF m t /\ D3 (Ba t m.dl m.long) (fun r => Q (.bool false) [.src n]) (Q (.bool false) [.src n]) (Q (.bool false) [.src n]) (WH EX Q n c hb long out rows P Bd f m t (.str "runaway") [])) := by kernel_rfl
theorem QG {Q : AV -> List AO -> Prop} {s : Str} : H1 EX Q 27 13 ⟨HE c hb long out P Bd (some (.ref 12)) (some (.str s)), IB n rows P Bd f m long out [.lst (.toks t)]⟩ = Q (.bool true) [.src n] := by kernel_rfl
def Sm (Bd : AC) (g : List AC) : Prop := (∀ p ∈ Bd, p.1 = 5 -> 1 <= p.2 /\ p.2 <= g.length) /\ (g.length <= 1000 /\ ∀ r ∈ g, r.length <= 1000) /\ Bd.length <= 900
theorem Vl {Q : AV -> List AO -> Prop} {g2 : List AC} {z2 : AC} : H1 EX Q 27 13 ⟨HE c hb long out P Bd (some (.ref 12)) (some (.tup2 (.ref 13) (.ref 14))), IB n rows P Bd f m long out [.lst (.toks t), .lst (.tts g), .lst (.toks z), .lst (.tts g2), .lst (.toks z2)]⟩ = (Sm m.body g /\ Sm Bd g /\ Q (.bool (decide (DD g m.body = DD g Bd))) [.src n]) := by kernel_rfl
end
noncomputable def Jn : CT := fun us os EX K => BF 0 us fun us => Ab us <| GN os fun n os => Ab os <| 500 <= n /\ ∀ n1 : Nat, n <= n1 + 500 -> K (.bool true) [.src n1]
theorem OH {p : AN} (h : EZ p) : (BN p).all A8 = true := by
 rcases h with h | ⟨n, rfl, h1, h2⟩
 ·exact (show ∀ p ∈ D8, (BN p).all A8 = true by decide) p h
 ·have : n = 1 \/ n = 2 \/ n = 3 \/ n = 4 \/ n = 5 \/ n = 6 \/ n = 7 \/ n = 8 \/ n = 9 := by omega
  rcases this with rfl | rfl | rfl | rfl | rfl | rfl | rfl | rfl | rfl <;> decide
theorem Md {p : AN} (h : EZ p) : A8 p = true := by
 rcases h with h | ⟨n, rfl, h1, h2⟩
 ·exact (GC p h).2.2.2
 ·have : n = 1 \/ n = 2 \/ n = 3 \/ n = 4 \/ n = 5 \/ n = 6 \/ n = 7 \/ n = 8 \/ n = 9 := by omega
  rcases this with rfl | rfl | rfl | rfl | rfl | rfl | rfl | rfl | rfl <;> decide
section
variable {c : Int} {b : AC}
theorem Vn (h : QB c b) (hc : c <= 3) : (b.flatMap A5).all A8 = true /\ b.length <= 3 /\ ∀ p ∈ b, p.1 = 5 -> 1 <= p.2 /\ p.2 <= c := by
 rcases h with ⟨k, rfl, h1, h2⟩ | rfl | ⟨p, hp, rfl⟩
 ·refine J6 ?_ (by show 1 <= 3; decide) (fun p m _ => by rw [List.mem_singleton.mp m]; exact ⟨h1, h2⟩)
  have : k = 1 \/ k = 2 \/ k = 3 := by omega
  rcases this with rfl | rfl | rfl <;> decide
 ·exact J6 (by decide) (by decide) (fun p m q => absurd q ((show ∀ p ∈ ([AX, (11, 98), BM] : AC), p.1 ≠ 5 by decide) p m))
 ·have z := (show ∀ p ∈ ([(11, 97), A3, (11, 99), (6, 64), (0, 3)] : AC), (([p] : AC).flatMap A5).all A8 = true /\ p.1 ≠ 5 by decide) p hp
  exact J6 z.1 (by show 1 <= 3; decide) (fun q m e => absurd e (List.mem_singleton.mp m ▸ z.2))
theorem LQ (hc : c <= 3) : ∀ {bs : List AC}, (∀ b ∈ bs, QB c b) -> (∀ p ∈ bs.flatten.flatMap A5, A8 p = true) /\ bs.flatten.length <= bs.length * 3 /\ ∀ p ∈ bs.flatten, p.1 = 5 -> 1 <= p.2 /\ p.2 <= c
 | [], _ => ⟨(fun _ m => nomatch m), Nat.zero_le _, fun _ m => nomatch m⟩
 | b :: bs, h => by
  refine C9 (fun a1 a2 a3 => ?_) <| Vn (h b (.head _)) hc
  refine C9 (fun b1 b2 b3 => ?_) <| LQ hc (bs := bs) fun x m => h x (.tail _ m)
  rw [List.flatten_cons, List.flatMap_append, List.length_append, List.length_cons, Nat.succ_mul]
  exact J6 (B2 (List.all_eq_true.mp a1) b1) (by omega) (fun p m => (List.mem_append.mp m).elim (a3 p) (b3 p))
end
theorem QW {rs : List AC} (h : ∀ r ∈ rs, r.length <= 4) (hl : rs.length <= 4) : (BL rs).length <= 24 := by
 cases rs with
 | nil => exact Nat.zero_le _
 | cons x rs =>
  have h1 := h x (.head _)
  have h2 := Nq (k := 4) rs 1 fun r m => h r (.tail _ m)
  rw [List.length_cons] at hl
  show (x ++ AZ 1 rs).length <= 24
  rw [List.length_append]; omega
theorem Hn (hb : Bool) : (Aj hb).length <= 1 := by cases hb <;> decide
theorem G4 {hb : Bool} : ∀ p ∈ Aj hb, p = AX := fun p m => by
 cases hb
 ·exact nomatch m
 ·exact List.mem_singleton.mp m
section
variable {K : Frag} {B : Heap} {mg mb : Str -> Option Value} {ad : Str -> Addr} {tk : Str -> Tok} {prog : Program} {w : World} {EX : Aa -> Prop} {n : Nat} {c : Int} {rows a : List AC} {hb long out : Bool} {P Bd f t r : AC} {m : BU}
theorem X6 (ho : ∀ x ∈ a ++ [r], F0 x) : ∀ x ∈ a ++ [r ++ Aj hb], Dl x := fun x m => by
 have row : ∀ p ∈ D8, Ru p := fun p m => ⟨(GC p m).2.1.1, (GC p m).2.1.2.2.1, (GC p m).1.2.2, (GC p m).2.2.1⟩
 have z1 : ∀ p, Ru p \/ p = AX -> p.1 ≠ 2 /\ p ≠ AR /\ p ≠ A3 := fun p h => by
  rcases h with h | rfl
  ·exact J6 h.2.1 h.2.2.1 h.2.2.2
  ·decide
 rcases List.mem_append.mp m with m | m
 ·have hx := ho x (List.mem_append_left _ m)
  exact ⟨fun i p e _ => row p (hx p (List.mem_of_getElem? e)), fun p mp => z1 p (.inl (row p (hx p mp)))⟩
 ·rw [List.mem_singleton.mp m]
  have hx := ho r (List.mem_append_right _ (.head _))
  refine ⟨fun i p e hi => ?_, fun p mp => ?_⟩
  ·have := Hn hb
   rw [List.length_append] at hi
   rw [List.getElem?_append_left (by omega)] at e
   exact row p (hx p (List.mem_of_getElem? e))
  ·rcases List.mem_append.mp mp with mp | mp
   ·exact z1 p (.inl (row p (hx p mp)))
   ·exact z1 p (.inr (G4 p mp))
theorem UA (h : ∀ p ∈ t, B3 p = true) : (∀ p ∈ t, A8 p = true) /\ En t := ⟨fun p m => (Bool.and_eq_true_iff.mp (h p m)).1, fun p m e => by
 have := (Bool.and_eq_true_iff.mp (h p m)).2
 rw [decide_eq_true e] at this
 exact of_decide_eq_true this⟩
structure MF (c : Int) (hb : Bool) (rows : List AC) (P Bd : AC) : Prop where
 h0 : 0 <= c
 h3 : c <= 3
 hP : P.length <= 24
 hB : Bd.length <= 15
 hlen : rows.length = c.toNat + 1
 hne : rows ≠ []
 h4 : ∀ x ∈ rows, x.length <= 4
 tok : ∀ x ∈ rows, ∀ p ∈ x, B3 p = true /\ p.1 ≠ 9
 dl : ∀ x ∈ rows, Dl x
 okP : ∀ p ∈ P, A8 p = true
 hbr : Bj P = hb
 hlast : hb = true -> P.getLast? = some AX /\ ∃ x, rows.getLast? = some x /\ x.getLast? = some AX
 hmac : A0 P [] [] = some rows
 bk : ∀ p ∈ Bd, p.1 = 5 -> 1 <= p.2 /\ p.2 <= c
section
variable {Q : AV -> List AO -> Prop} {g : List AC} {z : AC} {s : Str} {d : AV}
noncomputable def Cw (rows : List AC) (P Bd : AC) (long out : Bool) : BU := ⟨P, Bd, rows, long, out⟩
theorem ar (F : MF c hb rows P Bd) (ht : t.length <= 500) (htk : ∀ p ∈ t, B3 p = true) : RF (Cw rows P Bd long out) t := by
 refine Ak (fun tk1 tk2 => ?_) <| UA htk
 have hP := F.hP
 have hB := F.hB
 have hlen := F.hlen
 have h3 := F.h3
 exact az ⟨⟨⟨by show P.length <= 1000; omega, by show Bd.length <= 900; omega⟩, ⟨by show rows.length <= 1000; omega, F.hne⟩, fun x m => by have := F.h4 x m; omega, F.okP⟩, by omega, tk1⟩ ⟨tk2, F.hne⟩ F.dl (fun q => F.hlast (F.hbr.symm.trans q))
theorem Nd {α : Type} {k : α -> Prop} {u o n : Prop} (h : u) : D3 (.error .use) k u o n := h
theorem OI {α : Type} {k : α -> Prop} {u o n : Prop} (h : o) : D3 (.error .out) k u o n := h
theorem NU {α : Type} {k : α -> Prop} {u o n : Prop} (h : n) : D3 (.error .run) k u o n := h
theorem NA {α : Type} {a : α} {k : α -> Prop} {u o n : Prop} (h : k a) : D3 (.ok a) k u o n := h
theorem OW (q : Q (.bool true) [.src n]) : WH EX Q n c hb long out rows P Bd f m t (.str s) [] := by
 unfold WH
 exact Ff (i := 26) (Eq.mpr QG q)
theorem Z7 (hT : RF (Cw rows P Bd long out) t) (e : Ba t rows long = .error .use) (q : Q (.bool true) [.src n]) : Mx EX Q n c hb long out rows P Bd f (Cw rows P Bd long out) t 28 12 (.str "use") [] := by
 refine Eq.mpr RY ⟨hT, ?_⟩
 rw [show Ba t (Cw rows P Bd long out).dl (Cw rows P Bd long out).long = _ from e]
 exact Nd (OW q)
theorem ag (hT : RF (Cw rows P Bd long out) t) (e : Ba t rows long = .error .out) (q : Q (.bool true) [.src n]) : Mx EX Q n c hb long out rows P Bd f (Cw rows P Bd long out) t 28 12 (.str "outer") [] := by
 refine Eq.mpr SD ⟨hT, ?_⟩
 rw [show Ba t (Cw rows P Bd long out).dl (Cw rows P Bd long out).long = _ from e]
 exact OI (OW q)
theorem ai (hT : RF (Cw rows P Bd long out) t) (e : Ba t rows long = .error .run) (q : Q (.bool true) [.src n]) : Mx EX Q n c hb long out rows P Bd f (Cw rows P Bd long out) t 28 12 (.str "runaway") [] := by
 refine Eq.mpr SQ ⟨hT, ?_⟩
 rw [show Ba t (Cw rows P Bd long out).dl (Cw rows P Bd long out).long = _ from e]
 exact NU (OW q)
theorem Zs {sp : Nat} (F : MF c hb rows P Bd) (hT : RF (Cw rows P Bd long out) t) (e : Ba t rows long = .ok (g, sp)) (fs : Sm Bd g) (q : Q (.bool true) [.src n]) : Mx EX Q n c hb long out rows P Bd f (Cw rows P Bd long out) t 28 12 (.tup2 (.ref 13) (.ref 14)) [.lst (.tts g), .lst (.toks (CP t hb sp))] := by
 refine Eq.mpr UP ⟨hT, ?_⟩
 rw [show Ba t (Cw rows P Bd long out).dl (Cw rows P Bd long out).long = _ from e]
 refine NA (Dz (Bool.and_eq_true_iff.mpr ⟨decide_eq_true rfl, decide_eq_true (by show CP t (Bj P) sp = CP t hb sp; rw [F.hbr])⟩) ?_)
 unfold WH
 refine Ff (i := 26) ?_
 refine Eq.mpr Vl ⟨fs, fs, ?_⟩
 rw [show decide (DD g (Cw rows P Bd long out).body = DD g Bd) = true from decide_eq_true rfl]
 exact q
theorem Zo (F : MF c hb rows P Bd) (ht : t.length <= 500) (htk : ∀ p ∈ t, B3 p = true) (q : Q (.bool true) [.src n]) : H1 EX Q 29 11 ⟨HE c hb long out P Bd (some (.ref 12)) none, IB n rows P Bd f (Cw rows P Bd long out) long out [.lst (.toks t)]⟩ := by
 have hT := ar (long := long) (out := out) F ht htk
 have hP := F.hP
 have hB := F.hB
 have hlen := F.hlen
 have h3 := F.h3
 refine Eq.mpr Uz ⟨⟨by omega, F.hne, by omega⟩, ?_⟩
 rcases LD (m := Cw rows P Bd long out) (hb := hb) (UA htk).2 F.hne F.dl F.hbr F.hlast with ⟨e, a, _, b⟩ | ⟨g, s, _, b, e6, e7⟩
 ·have b' : Ba t rows long = .error e := b
  rw [b']
  rcases a with rfl | rfl | rfl
  ·exact Nd (Z7 hT b' q)
  ·exact OI (ag hT b' q)
  ·exact NU (ai hT b' q)
 ·have b' : Ba t rows long = .ok (g, s) := b
  have e6' : g.length + 1 = rows.length := e6
  rw [b']
  have fs : Sm Bd g := ⟨fun p m q => by have := F.bk p m q; omega, ⟨by omega, fun x m => by have := e7 x m; omega⟩, by omega⟩
  exact NA (Zs F hT b' fs q)
theorem aB (F : MF c hb rows P Bd) (hn : 400 <= n) (hQ : ∀ n1 : Nat, n <= n1 + 400 -> Q (.bool true) [.src n1]) : H1 EX Q 31 9 ⟨HE c hb long out P Bd none none, Em n rows P Bd f (Cw rows P Bd long out) [.lst (.toks f), .lst (.toks [(11, 122)])]⟩ := by
 have hP := F.hP
 have hB := F.hB
 have hlen := F.hlen
 have h3 := F.h3
 have hm : ((P.length <= 900 /\ Bd.length <= 900) /\ (A0 P [] []).isSome = true) := ⟨⟨by omega, by omega⟩, by rw [F.hmac]; rfl⟩
 refine Eq.mpr YI ⟨hm, Dz (decide_eq_true ⟨rfl, rfl, rfl, rfl⟩) ⟨hm, NT (decide_eq_false fun q => ?_) (Ff ?_)⟩⟩
 ·have := q.1
  change long = !long at this
  cases long <;> cases this
 refine Eq.mpr ZH ⟨⟨hn, ⟨by omega, F.hne⟩, F.h4, fun x m p mp => (F.tok x m p mp).1⟩, fun n2 t hn2 ht htk => ?_⟩
 exact Zo F ht htk (hQ n2 hn2)
theorem aj (F : MF c hb rows P Bd) (hn : 400 <= n) (hQ : ∀ n1 : Nat, n <= n1 + 400 -> Q (.bool true) [.src n1]) : H1 EX Q 33 7 ⟨HE c hb long out P Bd none none, Em n rows P Bd [(11, 122)] (Cw rows P Bd long out) []⟩ := by
 have hlen := F.hlen
 have h0 := F.h0
 refine Eq.mpr Xo (Dz (decide_eq_true rfl) (Dz (decide_eq_true rfl) ⟨by decide, Dz (decide_eq_true rfl) (Ff ?_)⟩))
 refine XV (by show (rows.length : Int) - 1 = c; omega) rfl F.hbr ?_
 exact aB F hn hQ
end
theorem TU {Q : AV -> List AO -> Prop} (h0 : 0 <= c) (h3 : c <= 3) (hl : (a ++ [r]).length = c.toNat + 1) (hs : ∀ x ∈ a ++ [r], x.length <= 3) (ho : ∀ x ∈ a ++ [r], F0 x) (hn : 411 <= n) (hQ : ∀ n1 : Nat, n <= n1 + 411 -> Q (.bool true) [.src n1]) :
  H1 EX Q 36 4 ⟨W4 c hb long out none none none none none none, [.src n, .cel, .lst (.tts (a ++ [r ++ Aj hb]))]⟩ := by
 have hlen : (a ++ [r ++ Aj hb]).length = c.toNat + 1 := by rw [List.length_append] at hl ⊢; exact hl
 have hne : a ++ [r ++ Aj hb] ≠ [] := List.append_ne_nil_of_right_ne_nil _ (List.cons_ne_nil _ _)
 have h4 : ∀ x ∈ a ++ [r ++ Aj hb], x.length <= 4 := fun x m => by
  rcases List.mem_append.mp m with m | m
  ·have := hs x (List.mem_append_left _ m); omega
  ·rw [List.mem_singleton.mp m, List.length_append]
   have := hs r (List.mem_append_right _ (.head _))
   have := Hn hb
   omega
 have tok : ∀ x ∈ a ++ [r ++ Aj hb], ∀ p ∈ x, B3 p = true /\ p.1 ≠ 9 := fun x m p mp => by
  have z : ∀ p ∈ D8, B3 p = true /\ p.1 ≠ 9 := by decide
  rcases List.mem_append.mp m with m | m
  ·exact z p (ho x (List.mem_append_left _ m) p mp)
  ·rw [List.mem_singleton.mp m] at mp
   rcases List.mem_append.mp mp with mp | mp
   ·exact z p (ho r (List.mem_append_right _ (.head _)) p mp)
   ·rw [G4 p mp]; decide
 have dl := X6 (hb := hb) ho
 have eP : BL (a ++ [r ++ Aj hb]) = BL (a ++ [r]) ++ Aj hb := Pb
 have pt := PI ho (by omega)
 have lb := Gw (hb := hb) pt
 have hP := QW h4 (by omega)
 have hmac := Mj (fun x m p mp => (tok x m p mp).2) hne (by omega)
 have hnin := Mk fun x m p mp => (tok x m p mp).2
 have okP : ∀ p ∈ BL (a ++ [r ++ Aj hb]), A8 p = true := fun p m => by
  rw [eP] at m
  rcases List.mem_append.mp m with m | m
  ·exact Md (pt p m)
  ·rw [G4 p m]; decide
 refine Eq.mpr XZ ⟨⟨by omega, hne, fun x m => by have := h4 x m; omega⟩, ⟨⟨h0, h3⟩, by omega⟩, fun n1 bs hn1 hbs hblk => ?_⟩
 refine C9 (fun bk1 bk2 bk3 => ?_) <| LQ h3 hblk
 have hB : bs.flatten.length <= 15 := by omega
 have eW : OB (BL (a ++ [r ++ Aj hb])) bs.flatten = (BL (a ++ [r])).flatMap BN ++ (bif hb then Bm :: AX :: (bs.flatten.flatMap A5 ++ BM :: [(11, 122)]) else AX :: (bs.flatten.flatMap A5 ++ BM :: [(11, 122)])) := by
  unfold OB
  rw [eP, Kn pt, List.append_assoc]
  congr 1
  cases hb
  ·show AX :: (bs.flatten.flatMap A5 ++ [BM] ++ [(11, 122)]) = AX :: _
   rw [List.append_assoc]; rfl
  ·show Bm :: AX :: (bs.flatten.flatMap A5 ++ [BM] ++ [(11, 122)]) = Bm :: AX :: _
   rw [List.append_assoc]; rfl
 have okW : ∀ p ∈ OB (BL (a ++ [r ++ Aj hb])) bs.flatten, A8 p = true := by
  rw [eW]
  refine B2 (fun p m => ?_) ?_
  ·refine Ah (fun q mq mp => ?_) <| List.mem_flatMap.mp m
   exact List.all_eq_true.mp (OH (pt q mq)) p mp
  ·have e : ∀ p ∈ bs.flatten.flatMap A5 ++ BM :: [(11, 122)], A8 p = true := B2 bk1 (by decide)
   intro p m
   cases hb
   ·rcases List.mem_cons.mp m with rfl | m
    ·decide
    ·exact e p m
   ·rcases List.mem_cons.mp m with rfl | m
    ·decide
    rcases List.mem_cons.mp m with rfl | m
    ·decide
    ·exact e p m
 have lW : (OB (BL (a ++ [r ++ Aj hb])) bs.flatten).length <= 100 := by
  rw [eW, List.length_append]
  have h1 := Nn (P := BL (a ++ [r]))
  have h2 := Jz (P := bs.flatten)
  have h5 : (BL (a ++ [r])).length <= 24 := by rw [eP, List.length_append] at hP; omega
  have h6 : (bs.flatten.flatMap A5 ++ BM :: [(11, 122)]).length = (bs.flatten.flatMap A5).length + 2 := List.length_append
  cases hb
  ·rw [cond_false, List.length_cons, h6]; omega
  ·rw [cond_true, List.length_cons, List.length_cons, h6]; omega
 refine ZV ⟨by omega, by omega⟩ (by decide) (by omega) (by decide) ⟨by omega, okW⟩ ⟨by omega, ?_⟩
 have e1 : DP [AR] ((OB (BL (a ++ [r ++ Aj hb])) bs.flatten).length + 1) (OB (BL (a ++ [r ++ Aj hb])) bs.flatten) [] 0 = .ok (BL (a ++ [r ++ Aj hb]), hb, bs.flatten.flatMap A5 ++ BM :: [(11, 122)]) := by
  rw [eP] at eW ⊢
  rw [eW]
  exact Sw ho (by omega) (Nat.lt_succ_self _)
 rw [e1]
 have hcn : ((BI (BL (a ++ [r ++ Aj hb]))).length : Int) = c := by rw [hnin, hlen]; omega
 have h6 : (bs.flatten.flatMap A5 ++ BM :: [(11, 122)]).length = (bs.flatten.flatMap A5).length + 2 := List.length_append
 have h7 := Jz (P := bs.flatten)
 refine ⟨⟨by show (BI (BL (a ++ [r ++ Aj hb]))).length <= 9; omega, by show (BL (a ++ [r ++ Aj hb])).length <= 900; omega, by show (bs.flatten.flatMap A5 ++ BM :: [(11, 122)]).length <= 100000; omega⟩, ?_⟩
 have e2 := Ol (R := [(11, 122)]) (cnt := c) bs ((bs.flatten.flatMap A5 ++ BM :: [(11, 122)]).length + 1) [] hblk (Nat.lt_succ_self _)
 show Bp (Bg [AR] ((BI (BL (a ++ [r ++ Aj hb]))).length : Int) ((bs.flatten.flatMap A5 ++ BM :: [(11, 122)]).length + 1) (bs.flatten.flatMap A5 ++ BM :: [(11, 122)]) 0 []) EX _
 rw [hcn, e2]
 refine ⟨by show bs.flatten.length <= 900; omega, ?_⟩
 show Af (A0 (BL (a ++ [r ++ Aj hb])) [] []) _
 rw [hmac]
 show H1 EX Q 33 7 ⟨HE c hb long out (BL (a ++ [r ++ Aj hb])) bs.flatten none none, Em n1 (a ++ [r ++ Aj hb]) (BL (a ++ [r ++ Aj hb])) bs.flatten [(11, 122)] ⟨BL (a ++ [r ++ Aj hb]), bs.flatten, a ++ [r ++ Aj hb], long, out⟩ []⟩
 have hbr : Bj (BL (a ++ [r ++ Aj hb])) = hb := by rw [eP]; exact lb.1
 have hlast : hb = true -> (BL (a ++ [r ++ Aj hb])).getLast? = some AX /\ ∃ x, (a ++ [r ++ Aj hb]).getLast? = some x /\ x.getLast? = some AX := fun q => by
  subst q
  exact ⟨by rw [eP]; exact List.getLast?_concat, _, List.getLast?_concat, List.getLast?_concat⟩
 exact aj ⟨h0, h3, hP, hB, hlen, hne, h4, tok, dl, okP, hbr, hlast, hmac, bk3⟩ (by omega) fun n2 h => hQ n2 (by omega)
end
section
variable {K : Frag} {B : Heap} {mg mb : Str -> Option Value} {ad : Str -> Addr} {tk : Str -> Tok} {prog : Program} {w : World} {EX : Aa -> Prop} {n : Nat} {c : Int} {rows a : List AC} {hb long out : Bool} {P Bd f t r : AC} {m : BU} {Q : AV -> List AO -> Prop}
theorem Wf : UQ EX Q n c = (Bl (AB (st 58)) 1 = Bl (AB (st 58)) 1 /\ (0 <= c /\ c <= 3) /\ 16 <= n /\ ∀ rows : List AC, rows.length = c.toNat + 1 -> (∀ x ∈ rows, x.length <= 3 /\ ∀ p ∈ x, p ∈ D8) -> YH EX Q (n - 16) c rows) := by kernel_rfl
theorem ZA (h0 : 0 <= c) (h3 : c <= 3) (hl : rows.length = c.toNat + 1) (hr : ∀ x ∈ rows, x.length <= 3 /\ ∀ p ∈ x, p ∈ D8) (hn : 411 <= n) (hQ : ∀ n1 : Nat, n <= n1 + 411 -> Q (.bool true) [.src n1]) : Q3 EX Q n c hb long out rows := by
 have hne : rows ≠ [] := fun q => by rw [q] at hl; cases hl
 obtain ⟨a, r, rfl⟩ : ∃ a r, rows = a ++ [r] := ⟨_, _, (List.dropLast_concat_getLast hne).symm⟩
 have ho : ∀ x ∈ a ++ [r], F0 x := fun x m => (hr x m).2
 have hs : ∀ x ∈ a ++ [r], x.length <= 3 := fun x m => (hr x m).1
 cases hb
 ·rw [Wu]
  refine Ff (i := 35) ?_
  have := TU (EX := EX) (hb := false) (long := long) (out := out) h0 h3 hl hs ho hn hQ
  rw [show r ++ Aj false = r from List.append_nil r] at this
  exact this
 ·rw [Ww]
  have hpos : (a ++ [r]).length = a.length + 1 := List.length_append
  have hp : AK (-1) (a ++ [r]).length = a.length := by
   unfold AK
   rw [if_pos (by decide), hpos]; omega
  refine ⟨⟨by omega, by omega⟩, fun x e => ?_⟩
  rw [hp] at e ⊢
  rw [List.getElem?_append_right (Nat.le_refl _), Nat.sub_self] at e
  have ex : r = x := Option.some.inj e
  subst ex
  have h3' := hs r (List.mem_append_right _ (.head _))
  refine bU (by decide) (by rw [List.length_append]; show _ + 1 <= _; omega) (by decide) ⟨by omega, by omega⟩ (Ff (i := 34) ?_)
  have e2 : (a ++ [r]).set a.length (r ++ [AX]) = a ++ [r ++ Aj true] := by
   rw [List.set_append_right _ _ (Nat.le_refl _), Nat.sub_self]; rfl
  rw [e2]
  exact TU (EX := EX) (hb := true) (long := long) (out := out) h0 h3 hl hs ho hn hQ
theorem Yi (h0 : 0 <= c) (h3 : c <= 3) (hn : 440 <= n) (hQ : ∀ n1 : Nat, n <= n1 + 440 -> Q (.bool true) [.src n1]) : UQ EX Q n c := by
 refine Eq.mpr Wf ⟨rfl, ⟨h0, h3⟩, by omega, fun rows hl hr => ?_⟩
 refine Eq.mpr XD ⟨⟨by omega, by decide, by decide⟩, fun d1 _ _ => ⟨⟨by omega, by decide, by decide⟩, fun d2 _ _ => ⟨⟨by omega, by decide, by decide⟩, fun d3 _ _ => ?_⟩⟩⟩
 exact ZA h0 h3 hl hr (by omega) fun n1 h => hQ n1 (by omega)
theorem MH (W : Wd K B mg mb ad tk) : Sp prog w B ad 8 (.ref (ad "_law_macro_right")) Jn := by
 have tell : ∀ us os h xs EX Kq, _ := fun us os h xs EX Kq a b c d e f => Sy (prog := prog) (w := w) W us os h xs EX Kq a b c d e (OX f)
 have mac : ∀ us os h xs EX Kq, _ := fun us os h xs EX Kq a b c d e f => Gf (prog := prog) (w := w) W us os h xs EX Kq a b c d e (Pi f)
 refine XN (n := 7) (x := "source") (O := aE) W (W.f_law_macro_right).2.2 PU (F := [("_law_take", CD), ("_law_parameters", Dd), ("_law_body", KA), ("_law_written", Fa), ("TokenFeed", GY), ("definition", Cd), ("Macro", J1), ("_law_text", Jy), ("_law_wanted", II), ("_law_told", KW), ("filled", D4), ("_law_filled", Dc)])
  (M := [("left", Ed), ("has_brace", Bw), ("same", H3)]) (nil := .toks []) (by decide) rfl
  (BX ⟨(W.f_law_take).1, (W.f_law_take).2.1, (EJ W).mono (by decide)⟩ (BX ⟨(W.f_law_parameters).1, (W.f_law_parameters).2.1, (HX W).mono (by decide)⟩ (BX ⟨(W.f_law_body).1, (W.f_law_body).2.1, (SS W).mono (by decide)⟩ (BX ⟨(W.f_law_written).1, (W.f_law_written).2.1, (KJ W).mono (by decide)⟩
   (BX ⟨W.cTF.g, W.cTF.k, (Ip W).mono (by decide)⟩ (BX ⟨W.fDf.1, W.fDf.2.1, (EU W).mono (by decide)⟩ (BX ⟨W.cMa.g, W.cMa.k, Sp.mono (n := 2) mac (by decide)⟩ (BX ⟨(W.f_law_text).1, (W.f_law_text).2.1, RQ W⟩ (BX ⟨(W.f_law_wanted).1, (W.f_law_wanted).2.1, (NC W).mono (by decide)⟩
   (BX ⟨(W.f_law_told).1, (W.f_law_told).2.1, tell⟩ (BX ⟨(W.f_filled).1, (W.f_filled).2.1, (Hm W).mono (by decide)⟩ (BX ⟨(W.f_law_filled).1, (W.f_law_filled).2.1, (HO W).mono (by decide)⟩ Bo))))))))))))
  (BX (KL W (by decide)) (BX (Fk W (by decide)) (BX (Us W (by decide)) Bo)))
  (fun A s_ h S outer L env EX y z hcs hr s st rest K' Q g hK => WK (show 2 <= 7 by decide) rfl rfl hcs hr g hK) 40 (fun us os EX Kq t => ?_) (fun v _ _ _ _ _ _ => rfl) (by decide +kernel) rfl rfl rfl (by kernel_rfl) (fun n => by kernel_rfl)
 refine Ai t fun r t1 => ?_
 refine AI t1 fun t2 => ?_
 refine EB t2 fun n r t3 => ?_
 refine AI t3 fun z0 => ?_
 revert z0; refine Ak fun hn t4 => ?_
 refine ⟨rfl, n, rfl, Eq.mpr (Xn (EX := EX) (Q := Kq)) ⟨⟨by omega, by decide, by decide⟩, fun d h0 h1 => Yi h0 (by omega) (by omega) fun n1 h => t4 n1 (by omega)⟩⟩
end
def bN (os : List AO) (k : List Int -> List AO -> Prop) : Prop := match os with
 | .ro l :: os => k l os
 | _ => False
theorem YY {os : List AO} {k : List Int -> List AO -> Prop} (h : bN os k) : ∃ l r, os = .ro l :: r /\ k l r := by
 cases os with
 | nil => exact h.elim
 | cons a r => cases a <;> first | exact ML _ _ rfl h | exact h.elim
noncomputable def W8 : CT := fun us os EX K => BF 0 us fun us => Ab us <| bN os fun ns os => Ab os <| ns.length <= 1000 /\ K (.bool true) [.ro ns]
section
variable {K : Frag} {B : Heap} {mg mb : Str -> Option Value} {ad : Str -> Addr} {tk : Str -> Tok} {prog : Program} {w : World} {EX : Aa -> Prop} {n : Nat} {ns l : List Int} {Q : AV -> List AO -> Prop}
noncomputable def ZU (EX : Aa -> Prop) : Gm := ⟨EX, AM (st 62), [("_law_cell", PW), ("_law_overlap_right", He), ("_law_refused_right", Hv), ("_law_macro_right", Jn)], [], .toks [], [], GQ⟩
def bf (Q : AV -> List AO -> Prop) : Fl -> St -> Prop := fun fl st' => AU 1 (Am fl) st'.objs Q
noncomputable def UB (ns l : List Int) (n : Nat) (k : Option AV) (ex : List AO) : St := ⟨[("script", some (.ref 1)), ("source", some (.ref 2)), ("k", k)], .ro ns :: .lst (.ints l) :: .src n :: ex⟩
def ZY (EX : Aa -> Prop) (Q : AV -> List AO -> Prop) (k j : Nat) (z : St) : Prop := (V k (ZU EX)).b ((AB (st 62)).drop j) z (bf Q)
noncomputable def aX (EX : Aa -> Prop) := (V 36 (ZU EX)).b (BG (Bl (AB (st 62)) 3))
noncomputable def W7 (l : List Int) : Int := if (l.length : Int) < 6 then (l.length : Int) else 6
theorem Vm {Q : Fl -> St -> Prop} : (V 40 (ZU EX)).b ((AB (st 62)).take 3) ⟨Az ["script"] [.ref 0] ["source", "k"], [.ro ns]⟩ Q = (((AY none (some 40) ns).length <= 40 /\ (0 : Int) <= 0 /\ (0 : Int) <= 10) /\ 1 <= 100000 /\ 1 <= 100000 - 1 /\ 500 <= 100000 - 1 - 1 /\ ∀ n1 : Nat, 100000 - 1 - 1 <= n1 + 500 ->
  Q .next (UB ns (AY none (some 40) ns) n1 none [])) := by kernel_rfl
theorem UR : ZY EX Q 37 3 (UB ns l n none []) = (((-1000000 <= (1 : Int) /\ (1 : Int) <= 1000000) /\ (-1000000 <= W7 l /\ W7 l <= 1000000)) /\ FW (aX EX) "k" none (fun v st => AU 1 v st.objs Q) (ZY EX Q 36 4) ((Aw 1 (W7 l - 1).toNat).map .int) (UB ns l n none [])) := by kernel_rfl
theorem Uj {k : Int} {Q : Fl -> St -> Prop} : aX EX (UB ns l n (some (.int k)) []) Q = ((l.length <= 40 /\ 0 <= k /\ k <= 10) /\ 500 <= 100000 /\ ∀ n1 : Nat, 100000 <= n1 + 500 -> Q .next (UB ns l n (some (.int k)) [.src n1])) := by kernel_rfl
theorem WW {k : Option AV} : ZY EX Q 36 4 (UB ns l n k []) = Q (.bool true) [.ro ns] := by kernel_rfl
theorem Vi (hl : l.length <= 40) (hQ : Q (.bool true) [.ro ns]) : ∀ (j : Nat) (i : Int) (k : Option AV), 0 <= i -> i + j <= 7 -> FW (aX EX) "k" none (fun v st => AU 1 v st.objs Q) (ZY EX Q 36 4) ((Aw i j).map .int) (UB ns l n k []) := by
 intro j
 induction j with
 | zero => exact fun i k _ _ => Eq.mpr WW hQ
 | succ j ih =>
  intro i k h0 h6
  refine Br (UB ns l n (some (.int i)) []) (by kernel_rfl) rfl ?_
  rw [Uj]
  exact J6 ⟨hl, h0, by omega⟩ (by decide) (fun n1 _ => ih (i + 1) _ (by omega) (by omega))
theorem TQ (W : Wd K B mg mb ad tk) {A : Around} {s : Shared} {h : Heap} {S : List Addr} {outer : List Env} {L : Addr} {env : Env} : GG ⟨prog, w, A, s, B, h, S, outer, AM (st 62), L, env, K, mg, mb, ad, tk, 8, EX, []⟩ (ZU EX) :=
 Hb (by decide) rfl (BX ⟨(W.f_law_cell).1, (W.f_law_cell).2.1, (Re W).mono (by decide)⟩ (BX ⟨(W.f_law_overlap_right).1, (W.f_law_overlap_right).2.1, Kr W⟩ (BX ⟨(W.f_law_refused_right).1, (W.f_law_refused_right).2.1, (Ko W).mono (by decide)⟩ (BX ⟨(W.f_law_macro_right).1, (W.f_law_macro_right).2.1, MH W⟩ Bo)))) Bo (fun _ m => nomatch m) fun _ _ _ _ _ _ q => q.elim
theorem U2 (W : Wd K B mg mb ad tk) {a : Addr} (hf : Fn B a "law" "law" (Be (st 62)) (AB (st 62)) (AM (st 62)) .none) : Sp prog w B ad 9 (.ref a) W8 := by
 refine Hh W hf ["script"] ["source", "k"] [] [] (fun _ _ => trivial) (fun us os EX Kq t => ?_) (fun xs hl _ _ _ _ _ _ _ _ _ _ => ?_) (by decide +kernel) rfl rfl rfl (by decide +kernel)
 ·refine Ai t fun r t1 => ?_
  refine AI t1 fun t2 => ?_
  refine ET (fun ns r e0 t3 => ?_) <| YY t2; clear t2; subst e0
  refine AI t3 fun z0 => ?_
  revert z0; refine Ak fun hn t4 => ?_
  have hz : (AY none (some 40) ns).length <= 40 := by
   unfold AY
   rw [List.length_take]
   exact Nat.le_trans (Nat.min_le_left ..) (Nat.le_trans (Nat.sub_le ..) (Nat.le_trans (Nat.le_of_eq (DM ns.length 40)) (Nat.min_le_left ..)))
  refine ⟨rfl, fun A s h S outer L env os0 e => ?_⟩
  have hl : os0.length = 1 := by rw [<- List.length_map (f := (·.2)), e]; rfl
  rw [(List.take_append_drop 3 (AB (st 62))).symm]
  refine AF.app ((GM (TQ W) 40).b _ _ _ (Eq.mpr (Vm (EX := EX)) ⟨⟨hz, by decide, by decide⟩, by decide, by decide, by decide, fun n1 _ => ?_⟩))
  show AF _ _ _ _ _
  refine AF.of ((GM (TQ W) 37).b _ _ _ ?_)
  rw [hl]
  have h6 : W7 (AY none (some 40) ns) <= 6 /\ 0 <= W7 (AY none (some 40) ns) := by unfold W7; split <;> omega
  refine Eq.mpr (UR (EX := EX)) ⟨⟨by decide, by omega, by omega⟩, Vi hz t4 _ 1 none (by decide) (by omega)⟩
 ·refine Ap (fun a z0 => ?_) <| PA (by rw [List.append_nil] at hl; exact hl); obtain rfl := z0; exact BindsTo.of_eq rfl
end
noncomputable def cQ : List (Str × Addr) := [(("is_whole" : Str), 102), (("is_token" : Str), 123), (("token_wanted" : Str), 217), (("read_parameters" : Str), 224), (("parameter_mark" : Str), 231), (("read_body" : Str), 238), (("slid" : Str), 251), (("check_par" : Str), 258), (("group_tokens" : Str), 265), (("argument" : Str), 272), (("arguments" : Str), 279), (("filled" : Str), 286), (("call" : Str), 293), (("_law_cell" : Str), 304), (("_law_take" : Str), 311), (("_law_pieces" : Str), 318), (("_law_row" : Str), 323), (("_law_body" : Str), 330), (("_law_parameters" : Str), 337), (("_law_written" : Str), 344), (("_law_text" : Str), 351), (("_law_event" : Str), 358), (("_law_deeper" : Str), 365), (("_law_argument" : Str), 372), (("_law_bare" : Str), 379), (("_law_wanted" : Str), 386), (("_law_told" : Str), 393), (("_law_filled" : Str), 400), (("_law_macro_right" : Str), 405), (("_law_overlap_right" : Str), 412), (("_law_definition" : Str), 419), (("_law_refused_right" : Str), 426), (("definition" : Str), 244), (("TokenFeed" : Str), 170), (("Macro" : Str), 206), (("BadArgument" : Str), 45), (("Runaway" : Str), 57), (("OuterRefused" : Str), 69), (("BadUse" : Str), 81), (("BadDefinition" : Str), 93), (("BLANK" : Str), 175), (("MARKS" : Str), 176), (("LEAST_CODES" : Str), 115), (("GREATEST_CODES" : Str), 116), (("_law_par" : Str), 294), (("_law_out" : Str), 295), (("_law_blank" : Str), 296), (("_law_begin" : Str), 297), (("_law_end" : Str), 298), (("_law_mark" : Str), 299), (("TokenFeed.__init__" : Str), 139), (("Macro.__init__" : Str), 189), (("PageError.__init__" : Str), 29), (("TokenFeed.next" : Str), 146), (("TokenFeed.back" : Str), 153), (("TokenFeed.left" : Str), 160), (("TokenFeed.is_outer" : Str), 167), (("Macro.has_brace" : Str), 196), (("Macro.same" : Str), 203), (("PE.d" : Str), 22), (("TF.d" : Str), 132), (("TF.e" : Str), 131), (("Ma.d" : Str), 184), (("df.d" : Str), 239)]
noncomputable def bq : List (Str × Tok) := [(("BEGIN" : Str), 311), (("END" : Str), 312), (("PARAMETER" : Str), 316), (("SPACE" : Str), 328), (("OTHER" : Str), 330), (("OUT" : Str), 343), (("MATCH" : Str), 344), (("NOT_EXPANDED" : Str), 346), (("MOST_PARAMETERS" : Str), 462), (("DIGIT_NOUGHT" : Str), 464), (("PE.d" : Str), 201)]
noncomputable def C8 (x : Str) : Addr := (cQ.lookup x).getD 0
noncomputable def Zm (x : Str) : Tok := (bq.lookup x).getD 0
section
variable {K : Frag} {B : Heap} {mg mb : Str -> Option Value}
noncomputable def Zg (K : Frag) (f : Addr) : Option FuncData := match K.lookup f with
 | some ⟨_, _, .func fd, _⟩ => some fd
 | _ => none
noncomputable def U1 {α : Type} (K : Frag) (f : Addr) (g : FuncData -> α) (d : α) : α := match Zg K f with
 | some fd => g fd
 | none => d
structure T7 (K : Frag) (f : Addr) (name qual : Str) (params : Arguments) (body : List Stmt) (scope : Scope) (dV : Value) : Prop where
 e : Zg K f = some (fnOf name qual params body scope dV (U1 K f (·.kwdefaults) .none) (U1 K f (·.doc) .none) (U1 K f (·.pyModule) .none) (U1 K f (·.annotations) none) (U1 K f (·.code) .none) (U1 K f (·.closureTuple) .none))
 c : codeIn K (U1 K f (·.code) .none) qual = true
theorem T7.fn {f : Addr} {name qual : Str} {params : Arguments} {body : List Stmt} {scope : Scope} {dV : Value} (X : K.In B) (h : T7 K f name qual params body scope dV) : Fn B f name qual params body scope dV := by
 have e := h.e
 unfold Zg at e
 split at e
 ·rename_i oc od fd osl ho
  have := Option.some.inj e
  subst this
  exact Qs oc od osl _ _ ⟨_, _, _, _, X _ _ ho, codeRec_of X h.c⟩
 ·cases e
def Za (K : Frag) (x : Str) (a : Addr) : Prop := nsIn K mainGlobals x = some (some (.ref a)) /\ keepIn K (.ref a) = true
noncomputable def Sa (K : Frag) (a : Addr) : List Value × Nat := match K.lookup a with
 | some ⟨_, _, .seq vs n, _⟩ => (vs.toList, n)
 | _ => ([], 0)
structure TV (K : Frag) (a : Addr) (vs : List Value) : Prop where
 e : K.lookup a = some { cls := .type "tuple", data := .seq vs.toArray (Sa K a).2 }
theorem TV.tu {a : Addr} {vs : List Value} (X : K.In B) (h : TV K a vs) : Tu B a vs := ⟨_, X _ _ h.e⟩
noncomputable def cM (v : Value) : Bool := match v with
 | .int _ _ => true
 | _ => false
noncomputable def bB (v : Value) : PyData := match v with
 | .int i _ => .int i
 | _ => .none
noncomputable def ae (vs : List Value) : PyData := .tuple (vs.map bB)
noncomputable def Kx : List Value -> Bool
 | [] => true
 | v :: vs => cM v && Kx vs
theorem LR : ∀ {vs : List Value}, Kx vs = true -> ReadsAll B vs (vs.map bB) []
 | [], _ => .nil
 | v :: vs, h => by
  refine Ak (fun h1 h2 => ?_) <| Bool.and_eq_true_iff.mp h
  have r := LR h2
  cases v
  case int i t => exact Ad (.int i t) r
  all_goals cases h1
noncomputable def Ik (K : Frag) (C : Addr) : ClassData := (clsIn K C).getD default
structure ZW (K : Frag) (C : Addr) (name : Str) : Prop where
 set : findIn K (.ref C) "__setattr__" = some (some (.builtin "object.__setattr__"))
 c : clsIn K C = some (Ik K C)
 d : ((Ik K C).hasDict && (!(Ik K C).mro.isEmpty && (Ik K C).mro.contains (.type "object"))) = true
 r : ∀ self, refuseLoop self "__setattr__" (Ik K C).mro = pure ()
 taker : takerIn K C name = some none
theorem ZW.st {C : Addr} {name : Str} (h : ZW K C name) : BR K C name := by
 refine Ak (fun a b => ?_) <| Bool.and_eq_true_iff.mp h.d
 refine Ak (fun b c => ?_) <| Bool.and_eq_true_iff.mp b
 refine ⟨h.set, ⟨_, h.c, a, ?_, c, h.r⟩, h.taker⟩
 rw [Bool.not_eq_true'] at b; exact b
noncomputable def XU (K : Frag) (C : Addr) (i : Nat) : Option Value := match K.lookup C with
 | some o => o.slots.toList[i]?.join
 | none => none
noncomputable def cE (K : Frag) (C : Addr) : Option Addr := match K.lookup C with
 | some o => o.dict
 | none => none
structure aP (K : Frag) (C fI : Addr) : Prop where
 e : K.lookup C = some (excClassObj (Ik K C).name (Ik K C).qualname C (Ik K C).ns (Ik K C).bases ((Ik K C).mro.drop 1) (Ik K C).hasDict (Ik K C).slotNames (Ik K C).subclasses (Ik K C).abstract (Ik K C).collection (cE K C) (XU K C 0) (XU K C 1) (XU K C 2) (XU K C 3) (XU K C 5) "ValueError.__new__")
 a : ((((Ik K C).mro.drop 1).contains (.type "ValueError") && ((Ik K C).mro.drop 1).contains (.type "BaseException")) && (!((Ik K C).mro.drop 1).contains (.type "AttributeError") && !((Ik K C).mro.drop 1).contains (.type "NameError"))) = true
 f : findIn K (.ref C) "__init__" = some (some (.ref fI))
 t : typeIn K (.ref fI) = some (.type "function")
theorem aP.ex {C fI : Addr} (X : K.In B) (h : aP K C fI) : Uq K B C fI := by
 refine Ak (fun a b => ?_) <| Bool.and_eq_true_iff.mp h.a
 refine Ak (fun a1 a2 => ?_) <| Bool.and_eq_true_iff.mp a
 refine Ak (fun b1 b2 => ?_) <| Bool.and_eq_true_iff.mp b
 rw [Bool.not_eq_true'] at b1 b2
 exact Qs _ _ _ _ _ ⟨_, _, _, _, _, _, _, _, _, _, _, X _ _ h.e, a1, a2, b1, b2, h.f, h.t⟩
structure ZQ (K : Frag) (x i : Str) : Prop where
 g : Za K x (C8 x)
 m : (makesIn K (C8 x) && (plainGet K (C8 x) "" && hasDictIn K (C8 x))) = true
 f : findIn K (.ref (C8 x)) "__init__" = some (some (.ref (C8 i)))
 t : typeIn K (.ref (C8 i)) = some (.type "function")
theorem ZQ.cl {x i : Str} (X : K.In B) (g : B.Ns mainGlobals mg) (h : ZQ K x i) : NZ K mg C8 x i := by
 refine Ak (fun a b => ?_) <| Bool.and_eq_true_iff.mp h.m
 refine Ak (fun b c => ?_) <| Bool.and_eq_true_iff.mp b
 exact ⟨mg_of X g h.g.1, h.g.2, a, b, c, h.f, h.t⟩
structure bj (K : Frag) : Prop where
 fn : ∀ p ∈ bX, Za K p.1 (C8 p.1) /\ T7 K (C8 p.1) p.1 p.1 (Be (st p.2)) (AB (st p.2)) (AM (st p.2)) .none
 nums : ∀ p ∈ Oc, nsIn K mainGlobals p.1 = some (some (.int p.2 (Zm p.1)))
 bi : ∀ p ∈ WY, nsIn K mainGlobals p.1 = some none
 tups : ∀ p ∈ OL, nsIn K mainGlobals p.1 = some (some (.ref (C8 p.1))) /\ TV K (C8 p.1) (Sa K (C8 p.1)).1 /\ Kx (Sa K (C8 p.1)).1 = true /\ ae (Sa K (C8 p.1)).1 = p.2
 me : ∀ p ∈ TI, findIn K (.ref (C8 p.1)) p.2.1 = some (some (.ref (C8 p.2.2.1))) /\ (isFn K (.ref (C8 p.2.2.1)) && keepIn K (.ref (C8 p.2.2.1))) = true /\ T7 K (C8 p.2.2.1) p.2.1 p.2.2.1 (Be (Bh p.2.2.2.1 p.2.2.2.2)) (AB (Bh p.2.2.2.1 p.2.2.2.2)) (AM (Bh p.2.2.2.1 p.2.2.2.2)) .none
 att : ∀ p ∈ Jc, findIn K (.ref (C8 p.1)) p.2 = some none /\ ZW K (C8 p.1) p.2
 ex : ∀ x ∈ Pn, Za K x (C8 x) /\ aP K (C8 x) (C8 "PageError.__init__") /\ ZW K (C8 x) "reason"
 exm : (Pn.all fun x => Pn.all fun y => exmOne K (.ref (C8 x)) (.ref (C8 y)) == some (x == y)) = true
 cTF : ZQ K "TokenFeed" "TokenFeed.__init__"
 cMa : ZQ K "Macro" "Macro.__init__"
 iPE : T7 K (C8 "PageError.__init__") "__init__" "PageError.__init__" (Be (Bh 1 0)) (AB (Bh 1 0)) (AM (Bh 1 0)) (.ref (C8 "PE.d"))
 iPE2 : TV K (C8 "PE.d") [.str "" (Zm "PE.d")]
 iTF : T7 K (C8 "TokenFeed.__init__") "__init__" "TokenFeed.__init__" (Be (Bh 17 0)) (AB (Bh 17 0)) (AM (Bh 17 0)) (.ref (C8 "TF.d"))
 iTF2 : TV K (C8 "TF.d") [.ref (C8 "TF.e")]
 iTF3 : TV K (C8 "TF.e") []
 iMa : T7 K (C8 "Macro.__init__") "__init__" "Macro.__init__" (Be (Bh 23 0)) (AB (Bh 23 0)) (AM (Bh 23 0)) (.ref (C8 "Ma.d"))
 iMa2 : TV K (C8 "Ma.d") [.bool false, .bool false]
 fDf : Za K "definition" (C8 "definition")
 fDf2 : T7 K (C8 "definition") "definition" "definition" (Be (st 28)) (AB (st 28)) (AM (st 28)) (.ref (C8 "df.d"))
 fDf3 : TV K (C8 "df.d") [.bool false, .bool false]
theorem JI : ∀ p ∈ WY, p.1 ≠ "__name__" /\ bootBuiltins p.1 = some p.2 :=
 BX ⟨by decide, show bootBuiltins ("len" : Str) = some (.builtin "len") by boot_fast⟩ (BX ⟨by decide, show bootBuiltins ("isinstance" : Str) = some (.builtin "isinstance") by boot_fast⟩ (BX ⟨by decide, show bootBuiltins ("abs" : Str) = some (.builtin "abs") by boot_fast⟩ (BX ⟨by decide, show bootBuiltins ("sum" : Str) = some (.builtin "sum") by boot_fast⟩ (BX ⟨by decide, show bootBuiltins ("min" : Str) = some (.builtin "min") by boot_fast⟩ (BX ⟨by decide, show bootBuiltins ("range" : Str) = some (.type "range") by boot_fast⟩ (BX ⟨by decide, show bootBuiltins ("int" : Str) = some (.type "int") by boot_fast⟩ (BX ⟨by decide, show bootBuiltins ("bool" : Str) = some (.type "bool") by boot_fast⟩ (BX ⟨by decide, show bootBuiltins ("tuple" : Str) = some (.type "tuple") by boot_fast⟩ (BX ⟨by decide, show bootBuiltins ("list" : Str) = some (.type "list") by boot_fast⟩ (BX ⟨by decide, show bootBuiltins ("str" : Str) = some (.type "str") by boot_fast⟩ (BX ⟨by decide, show bootBuiltins ("enumerate" : Str) = some (.type "enumerate") by boot_fast⟩ (Bo))))))))))))
theorem Xy (X : K.In B) (g : B.Ns mainGlobals mg) (b : B.Ns builtinsNs mb) (lim : B.NoLimit) (bu : ∀ x : Str, x ≠ "__name__" -> mb x = bootBuiltins x) (c : bj K) : Wd K B mg mb C8 Zm where
 gb := ⟨g, b, lim⟩
 X := X
 fn := fun p m => ⟨mg_of X g (c.fn p m).1.1, (c.fn p m).1.2, (c.fn p m).2.fn X⟩
 nums := fun p m => mg_of X g (c.nums p m)
 bi := fun p m => ⟨mg_none_of X g (c.bi p m), (bu p.1 (JI p m).1).trans (JI p m).2⟩
 tups := fun p m => ⟨mg_of X g (c.tups p m).1, (c.tups p m).2.2.2 ▸ ((c.tups p m).2.1.tu X).reads (LR (c.tups p m).2.2.1)⟩
 me := fun p m => ⟨(c.me p m).1, (Bool.and_eq_true_iff.mp (c.me p m).2.1).1, (Bool.and_eq_true_iff.mp (c.me p m).2.1).2, (c.me p m).2.2.fn X⟩
 att := fun p m => ⟨(c.att p m).1, (c.att p m).2.st⟩
 ex := fun x m => ⟨mg_of X g (c.ex x m).1.1, (c.ex x m).1.2, (c.ex x m).2.1.ex X, (c.ex x m).2.2.st⟩
 exm := fun x m y n => eq_of_beq (List.all_eq_true.mp (List.all_eq_true.mp c.exm x m) y n)
 cTF := c.cTF.cl X g
 cMa := c.cMa.cl X g
 iPE := ⟨c.iPE.fn X, c.iPE2.tu X⟩
 iTF := ⟨c.iTF.fn X, c.iTF2.tu X, c.iTF3.tu X⟩
 iMa := ⟨c.iMa.fn X, c.iMa2.tu X⟩
 fDf := ⟨mg_of X g c.fDf.1, c.fDf.2, c.fDf2.fn X, c.fDf3.tu X⟩
end
section
variable {K : Frag} {mg mb : Str -> Option Value} {ad : Str -> Addr} {tk : Str -> Tok} {prog : Program} {w : World}
theorem SG {s₁ : Shared} (W : Wd K s₁.heap mg mb ad tk) {fa a : Addr} {o : Obj} {dV kV doc pm cd ct : Value} {an : Option Addr} {vs : List Value} {ns : List Int} (ho : s₁.heap.get? fa = some o)
  (hd : o.data = .func (fnOf "law" "law" (Be (st 62)) (AB (st 62)) (AM (st 62)) dV kV doc pm an cd ct)) (hcd : s₁.heap.CodeRec cd "law") (hD : dV = .none)
  (hL : s₁.heap.get? a = some { cls := .type "list", data := .seq vs.toArray }) (hI : IntsAre vs ns) (hn : ns.length <= 63) :
  wpAny (model prog w) callerA (call (.ref fa) [.ref a]) (fun v s' => v = .bool true /\ (∀ b o, s₁.heap.get? b = some o -> s'.heap.get? b = some o) /\ s'.os = s₁.os /\ s'.gens = s₁.gens) (fun _ _ => False) s₁ := by
 subst hD
 have hf : Fn s₁.heap fa "law" "law" (Be (st 62)) (AB (st 62)) (AM (st 62)) .none := by
  obtain ⟨oc, od, data, osl⟩ := o
  cases hd
  exact Qs _ _ _ _ _ ⟨_, _, _, _, ho, hcd⟩
 obtain ⟨m, S, R, Cs, hm, ct, hS, hC, kk⟩ := U2 (prog := prog) (w := w) W hf [.ref 0] [(⟨a, 0, 0⟩, .ro ns)] s₁.heap [.ref a] (fun _ => False) (fun v _ => v = .bool true) (fun _ _ e => e)
  (fun p m => by rw [List.mem_singleton.mp m]; exact ⟨by omega, vs, ⟨_, hL⟩, ints_readAll _ hI⟩) (.cons (fun _ m => nomatch m) .nil)
  (fun p m x hx => by rw [List.mem_singleton.mp m] at hx; exact nomatch hx) ⟨⟨_, rfl, rfl⟩, trivial⟩
  ⟨by omega, rfl⟩
 have hS0 : ∀ b ∈ S, False := fun b m => nomatch hS b m
 have hA : Db callerA [] m := Db.le ⟨rfl, rfl, by decide, by decide⟩ (Nat.le_trans hm (by decide : 9 <= 9))
 refine wpAny_mono (ct callerA [] s₁ s₁.toks hA (fun _ _ e => e) (fun _ m => nomatch m)) (fun v s' p => ?_) fun v s' p => ?_
 ·revert p; refine CY fun h' t' z0 K' r => ?_; obtain rfl := z0
  refine CY (fun x os' _ cv z0 => ?_) <| kk v h' K' r; obtain rfl := z0
  exact az cv (K'.base fun _ _ e => e) rfl rfl
 ·revert p; refine DK fun x h' t' z0 z1 z2 => ?_; obtain rfl := z0; obtain rfl := z1; revert z2; refine I5 fun _ _ _ z => ?_
  revert z; refine CY fun o vs g1 g2 _ => ?_
  refine Ah (fun e q _ => ?_) <| hC _ g2
  exact q
end
theorem Ml {P : Params} {h : Heap} {la : Addr} {vs : List Value} {ns : List Int} (w1 : Well P h (.ref la) (ofPy (PyData.list (ns.map PyData.int)))) (hL : h.IsList la vs.toArray) : h.get? la = some { cls := .type "list", data := .seq vs.toArray } := by
 generalize e : ofPy (PyData.list (ns.map PyData.int)) = d at w1
 obtain ⟨o, ho, _, n, hd⟩ := hL
 cases w1
 case list vs' xs b a =>
  rw [ho] at a
  cases a
  cases hd
  exact ho
 all_goals simp [ofPy] at e
end GP
namespace GP.top
theorem tw10511957349240771163 : True := ⟨⟩
theorem tw9931172437798123197 : True := ⟨⟩
theorem tw4611179329250269263 : True := ⟨⟩
theorem tw8145285613247316088 : True := ⟨⟩
theorem tw2213550440312860541 : True := ⟨⟩
theorem tw16633361155258578783 : True := ⟨⟩
theorem tw3002418825705465563 : True := ⟨⟩
theorem tw3946679071976838655 : True := ⟨⟩
theorem tw18019844622803929872 : True := ⟨⟩
theorem tw457314029728411161 : True := ⟨⟩
theorem tw6200325978701672439 : True := ⟨⟩
theorem tw9422571899532391568 : True := ⟨⟩
theorem tw16529280973464671340 : True := ⟨⟩
theorem tw16728870496242506418 : True := ⟨⟩
theorem tw2602349119171804645 : True := ⟨⟩
theorem tw1573023533646291755 : True := ⟨⟩
theorem tw13702744975479476408 : True := ⟨⟩
theorem tw11890249836041972429 : True := ⟨⟩
theorem tw13650152109442586132 : True := ⟨⟩
theorem tw1953057931921100259 : True := ⟨⟩
theorem tw6071934888920593211 : True := ⟨⟩
theorem tw5643910139557540022 : True := ⟨⟩
theorem tw2464637367615920186 : True := ⟨⟩
theorem tw13627558863820268577 : True := ⟨⟩
theorem tw4184419108725556889 : True := ⟨⟩
theorem tw11634372113901498716 : True := ⟨⟩
theorem tw10063145274647179508 : True := ⟨⟩
theorem tw8729686219636590196 : True := ⟨⟩
theorem tw9038516791414380018 : True := ⟨⟩
theorem tw1344883399121710727 : True := ⟨⟩
theorem tw7332514658594002713 : True := ⟨⟩
theorem tw14773093341902044779 : True := ⟨⟩
theorem tw16799826458443883778 : True := ⟨⟩
theorem tw14297278038899115803 : True := ⟨⟩
theorem tw16271536236726457929 : True := ⟨⟩
theorem tw10935534586721152636 : True := ⟨⟩
theorem tw7249864317684969650 : True := ⟨⟩
theorem tw5752688735929557260 : True := ⟨⟩
theorem tw8788087065641100899 : True := ⟨⟩
theorem tw15318832165241760622 : True := ⟨⟩
theorem tw2800802692813030897 : True := ⟨⟩
theorem tw3079478670235883433 : True := ⟨⟩
theorem tw716550133909974743 : True := ⟨⟩
theorem tw2135731784948815775 : True := ⟨⟩
theorem tw9317795894876278651 : True := ⟨⟩
theorem tw1415965524416477429 : True := ⟨⟩
theorem tw12667006659329959297 : True := ⟨⟩
theorem tw392969344551951938 : True := ⟨⟩
theorem tw300428511752562159 : True := ⟨⟩
theorem tw2023230374213918862 : True := ⟨⟩
theorem tw8251341093175182829 : True := ⟨⟩
theorem tw10225935127892566618 : True := ⟨⟩
theorem tw11643999532312623905 : True := ⟨⟩
theorem tw12329496228770545099 : True := ⟨⟩
theorem tw16585552224801888895 : True := ⟨⟩
theorem tw10106663298425173368 : True := ⟨⟩
theorem tw4427121750606010028 : True := ⟨⟩
theorem tw17599486105660717234 : True := ⟨⟩
theorem tw9662377191408626390 : True := ⟨⟩
theorem tw8703364575484347420 : True := ⟨⟩
theorem tw9005088579446799107 : True := ⟨⟩
theorem tw14555302363987288719 : True := ⟨⟩
theorem tw12563587662835014983 : True := ⟨⟩
theorem tw808890677779678411 : True := ⟨⟩
theorem tw9712891249002235791 : True := ⟨⟩
theorem tw12555322133680928002 : True := ⟨⟩
theorem tw3871683967991971521 : True := ⟨⟩
theorem tw7694533344671543491 : True := ⟨⟩
theorem tw14317309562578754740 : True := ⟨⟩
theorem tw9248915535073312288 : True := ⟨⟩
theorem tw3549122509972803519 : True := ⟨⟩
theorem tw16908529033071082723 : True := ⟨⟩
theorem tw1167295573808379947 : True := ⟨⟩
theorem tw4091457698500387760 : True := ⟨⟩
theorem tw15060225954998564829 : True := ⟨⟩
theorem tw1140047379758732298 : True := ⟨⟩
theorem tw1806284080325113223 : True := ⟨⟩
theorem tw7502260336148885385 : True := ⟨⟩
theorem tw2624168779413340795 : True := ⟨⟩
theorem tw14200473520223155842 : True := ⟨⟩
theorem tw4061679977236236298 : True := ⟨⟩
theorem tw13702348472381653784 : True := ⟨⟩
theorem tw3152178170123002063 : True := ⟨⟩
theorem tw14133285097557034153 : True := ⟨⟩
theorem tw10133013272407671498 : True := ⟨⟩
theorem tw17887635169809350862 : True := ⟨⟩
theorem tw6561912419414821187 : True := ⟨⟩
theorem tw9325025227593415001 : True := ⟨⟩
theorem tw12141460828282999945 : True := ⟨⟩
theorem tw6574430272312845165 : True := ⟨⟩
theorem tw5912072475940233623 : True := ⟨⟩
theorem tw7351165943775724020 : True := ⟨⟩
theorem tw2747305374906523974 : True := ⟨⟩
theorem tw272779823125795177 : True := ⟨⟩
theorem tw11812046536878220961 : True := ⟨⟩
theorem tw9349486195246983887 : True := ⟨⟩
theorem tw3880735490426024788 : True := ⟨⟩
theorem tw14129519972476775405 : True := ⟨⟩
theorem tw17791453170687135794 : True := ⟨⟩
theorem tw1808443322928768869 : True := ⟨⟩
theorem tw1291482566688547928 : True := ⟨⟩
theorem tw5075486767203610638 : True := ⟨⟩
theorem tw15106268705169581908 : True := ⟨⟩
theorem tw3255038627377682726 : True := ⟨⟩
theorem tw5002932857867424908 : True := ⟨⟩
theorem tw11883533860211908851 : True := ⟨⟩
theorem tw14085362599379630556 : True := ⟨⟩
theorem tw4838335239380786710 : True := ⟨⟩
theorem tw12194122397918366189 : True := ⟨⟩
theorem tw4242820078047001541 : True := ⟨⟩
theorem tw17274578882187120983 : True := ⟨⟩
theorem tw12027603304646742942 : True := ⟨⟩
theorem tw15501523458551301966 : True := ⟨⟩
theorem tw6439377487253928284 : True := ⟨⟩
theorem tw4777279642684681959 : True := ⟨⟩
theorem tw2040890092970010531 : True := ⟨⟩
theorem tw18178823713111377600 : True := ⟨⟩
theorem tw83023259988904457 : True := ⟨⟩
theorem tw6303871897400692328 : True := ⟨⟩
theorem tw11936079243641881467 : True := ⟨⟩
theorem tw16991999174007694058 : True := ⟨⟩
theorem tw7612905059810076659 : True := ⟨⟩
theorem tw3535891086419874083 : True := ⟨⟩
theorem tw1617600691213580278 : True := ⟨⟩
theorem tw4385466195527064780 : True := ⟨⟩
theorem tw2303712740670735121 : True := ⟨⟩
theorem tw17754304337216553337 : True := ⟨⟩
theorem tw117771953530422968 : True := ⟨⟩
theorem tw3895691093208904615 : True := ⟨⟩
theorem tw14071449270249385732 : True := ⟨⟩
theorem tw13950281854404715267 : True := ⟨⟩
theorem tw11983333093935203895 : True := ⟨⟩
theorem tw12729759941395710904 : True := ⟨⟩
theorem tw10136358522838704082 : True := ⟨⟩
theorem tw2869472705181762800 : True := ⟨⟩
theorem tw4370987286183504875 : True := ⟨⟩
theorem tw16159227727632919152 : True := ⟨⟩
theorem tw10055120573346328820 : True := ⟨⟩
theorem tw16259498163482596088 : True := ⟨⟩
theorem tw12601104318920624910 : True := ⟨⟩
theorem tw2715787815556901858 : True := ⟨⟩
theorem tw6227120926323336401 : True := ⟨⟩
theorem tw1829104633410376944 : True := ⟨⟩
theorem tw8494915560103542139 : True := ⟨⟩
theorem tw6479539326423568112 : True := ⟨⟩
theorem tw5199824714104997270 : True := ⟨⟩
theorem tw14027368874678021405 : True := ⟨⟩
theorem tw1406078894930211972 : True := ⟨⟩
theorem tw8792477689577030945 : True := ⟨⟩
theorem tw12622505442393231736 : True := ⟨⟩
theorem tw16951752338612585537 : True := ⟨⟩
theorem tw11672642396282224402 : True := ⟨⟩
theorem tw1901630731929629644 : True := ⟨⟩
theorem tw574796389639575924 : True := ⟨⟩
theorem tw5649780442077368255 : True := ⟨⟩
theorem tw11583443420549165829 : True := ⟨⟩
theorem tw2874131917041075327 : True := ⟨⟩
theorem tw17382289972964246992 : True := ⟨⟩
theorem tw6756548846484220002 : True := ⟨⟩
theorem tw9932737330960182795 : True := ⟨⟩
theorem tw2213375771653641581 : True := ⟨⟩
theorem tw18033772547933356287 : True := ⟨⟩
theorem tw3710991767814581308 : True := ⟨⟩
theorem tw6708606953805230143 : True := ⟨⟩
theorem tw14396048719173696581 : True := ⟨⟩
theorem tw16911175479695254129 : True := ⟨⟩
theorem tw16692499788529565204 : True := ⟨⟩
theorem tw2239666108739977622 : True := ⟨⟩
theorem tw13817463942961122131 : True := ⟨⟩
theorem tw9791690877610144452 : True := ⟨⟩
theorem tw10017158818230874972 : True := ⟨⟩
theorem tw7044270976624654952 : True := ⟨⟩
theorem tw2615922786613060668 : True := ⟨⟩
theorem tw9518604434074863004 : True := ⟨⟩
theorem tw8005907004471566282 : True := ⟨⟩
theorem tw6825739394527150818 : True := ⟨⟩
theorem tw14126129898913891185 : True := ⟨⟩
theorem tw6096339568203121322 : True := ⟨⟩
theorem tw8507963240091643465 : True := ⟨⟩
theorem tw14099516536823363724 : True := ⟨⟩
theorem tw11467868690627703361 : True := ⟨⟩
theorem tw86551169664230671 : True := ⟨⟩
theorem tw13595604771605493778 : True := ⟨⟩
theorem tw3131118860563141744 : True := ⟨⟩
theorem tw3898515705831135836 : True := ⟨⟩
theorem tw14783603310599479943 : True := ⟨⟩
theorem tw8416659314966743340 : True := ⟨⟩
theorem tw6838679805132994762 : True := ⟨⟩
theorem tw4185549843621047080 : True := ⟨⟩
theorem tw8730844150620613217 : True := ⟨⟩
theorem tw3104903315650979144 : True := ⟨⟩
theorem tw16624967605551061945 : True := ⟨⟩
theorem tw16817000532414713940 : True := ⟨⟩
theorem tw1517679987869151697 : True := ⟨⟩
theorem tw16141573141808358883 : True := ⟨⟩
theorem tw5726874109083317676 : True := ⟨⟩
theorem tw1282322291510623729 : True := ⟨⟩
theorem tw15077818292430700416 : True := ⟨⟩
theorem tw11748294696307237087 : True := ⟨⟩
theorem tw13311964693266239655 : True := ⟨⟩
theorem tw8427057823404406798 : True := ⟨⟩
theorem tw13357938009780016283 : True := ⟨⟩
theorem tw14950223170136447108 : True := ⟨⟩
theorem tw9135363886039512610 : True := ⟨⟩
theorem tw16675476745029900819 : True := ⟨⟩
theorem tw13861389728546248796 : True := ⟨⟩
theorem tw13116645283722161541 : True := ⟨⟩
theorem tw9103763155600964741 : True := ⟨⟩
theorem tw3839160175570312124 : True := ⟨⟩
theorem tw5948772466341392716 : True := ⟨⟩
theorem tw11445283473876057419 : True := ⟨⟩
theorem tw7534733790662512492 : True := ⟨⟩
theorem tw8621778425803628479 : True := ⟨⟩
theorem tw18038925267895008999 : True := ⟨⟩
theorem tw3122367445461985521 : True := ⟨⟩
theorem tw10633908793184993304 : True := ⟨⟩
theorem tw11356270255631933447 : True := ⟨⟩
theorem tw9245631874197410437 : True := ⟨⟩
theorem tw15306335664080959723 : True := ⟨⟩
theorem tw8927844447336487199 : True := ⟨⟩
theorem tw10323076917486006477 : True := ⟨⟩
theorem tw11249973265127315622 : True := ⟨⟩
theorem tw12295423034633762484 : True := ⟨⟩
theorem tw5132443744297382373 : True := ⟨⟩
theorem tw12017461850378943612 : True := ⟨⟩
theorem tw16672488599624850324 : True := ⟨⟩
theorem tw1119663307044474810 : True := ⟨⟩
theorem tw15483106277572190113 : True := ⟨⟩
theorem tw2925023506351107227 : True := ⟨⟩
theorem tw13086282131799223891 : True := ⟨⟩
theorem tw5833201972539234973 : True := ⟨⟩
theorem tw1732877644236146526 : True := ⟨⟩
theorem tw14177402436317607058 : True := ⟨⟩
theorem tw10242230536673680830 : True := ⟨⟩
theorem tw4090414160480029195 : True := ⟨⟩
theorem tw5042034131948050346 : True := ⟨⟩
theorem tw6830755548134187343 : True := ⟨⟩
theorem tw5146528630306325323 : True := ⟨⟩
theorem tw8738627357356441197 : True := ⟨⟩
theorem tw6106803001177915333 : True := ⟨⟩
theorem tw15093184995180071641 : True := ⟨⟩
theorem tw16571545608444447901 : True := ⟨⟩
theorem tw12676086226724487956 : True := ⟨⟩
theorem tw14530830083564879248 : True := ⟨⟩
end GP.top
set_option Elab.async true
set_option maxRecDepth 100000 in
set_option maxHeartbeats 8000000 in
theorem GP.top : PySem.Challenge.rw_rg0154_01.Holds := by
 w_on; o_law; k_head
 (case hw => w_witness2)
 k_fill
 intro w s₀ s₁ mg mb G Y fa o pm cd doc dV kV ho hd hcd hD hmg hg args vals as hpre hlay hrd hwl hlo
 have KX := kIn_of Y
 refine Ground.open G ?_
 intro T B D TE TW
 wrow_args hpre hlay hrd hwl hlo
 rename_i ns _ _ _ _ _ _ _ la vs _ hL ra w1 r0 hI hr hcond _
 have W := GP.Xy KX T.g T.b T.nolimit T.builtins (by constructor <;> repeat' first | exact GP.Bo | refine GP.BX ?_ ?_ | kernel_rfl | intro _ | constructor)
 have hdV : dV = .none := hD.pos.elim (·.2) fun q => absurd rfl q.1
 refine wpAny_mono (GP.SG W ho hd hcd hdV (GP.Ml w1 hL) hI (by omega)) (fun v s' p => ?_) fun _ _ q => q.elim
 obtain ⟨rfl, p1, p2, p3⟩ := p
 exact GoodW.toG ⟨.inl ⟨.bool true, .bool true, [], rfl, fun cls => by kernel_rfl, ReadsW.bool _, by kernel_rfl, fun _ => ⟨.nil, fun _ m => nomatch m⟩⟩, p1, p2, p3.trans hg⟩
theorem PySem.Challenge.cw_rg0154_01_holds : PySem.Challenge.rw_rg0154_01.Holds := by
 exact GP.top
