import PyProof.Rows.All
import Wide.All
import OpenK.AllK
import Wide.FinOn
import KE.KTryMore
import PySem.Challenge.RW_rg0153_01
set_option linter.unusedVariables false
set_option linter.unusedSimpArgs false
set_option Elab.async false
set_option maxRecDepth 100000
set_option maxHeartbeats 8000000
set_option compiler.extract_closed false
set_option genInjectivity false
set_option genSizeOf false
section
namespace Mine
open PySem PySem.W PyProof.Rows
theorem and4 {p1 p2 p3 p4 Z : Prop} (h : p1 ∧ p2 ∧ p3 ∧ p4) (k : p1 → p2 → p3 → p4 → Z) : Z := k h.1 h.2.1 h.2.2.1 h.2.2.2
theorem and5 {p1 p2 p3 p4 p5 Z : Prop} (h : p1 ∧ p2 ∧ p3 ∧ p4 ∧ p5) (k : p1 → p2 → p3 → p4 → p5 → Z) : Z := k h.1 h.2.1 h.2.2.1 h.2.2.2.1 h.2.2.2.2
theorem and8 {p1 p2 p3 p4 p5 p6 p7 p8 Z : Prop} (h : p1 ∧ p2 ∧ p3 ∧ p4 ∧ p5 ∧ p6 ∧ p7 ∧ p8) (k : p1 → p2 → p3 → p4 → p5 → p6 → p7 → p8 → Z) : Z := k h.1 h.2.1 h.2.2.1 h.2.2.2.1 h.2.2.2.2.1 h.2.2.2.2.2.1 h.2.2.2.2.2.2.1 h.2.2.2.2.2.2.2
theorem and9 {p1 p2 p3 p4 p5 p6 p7 p8 p9 Z : Prop} (h : p1 ∧ p2 ∧ p3 ∧ p4 ∧ p5 ∧ p6 ∧ p7 ∧ p8 ∧ p9) (k : p1 → p2 → p3 → p4 → p5 → p6 → p7 → p8 → p9 → Z) : Z := k h.1 h.2.1 h.2.2.1 h.2.2.2.1 h.2.2.2.2.1 h.2.2.2.2.2.1 h.2.2.2.2.2.2.1 h.2.2.2.2.2.2.2.1 h.2.2.2.2.2.2.2.2
theorem pr2 {α β : Type} {C : α × β → Prop} (h : ∀ a b, C (a, b)) (y : α × β) : C y := h y.1 y.2
theorem pr3 {α β γ : Type} {C : α × β × γ → Prop} (h : ∀ a b c, C (a, b, c)) (y : α × β × γ) : C y := h y.1 y.2.1 y.2.2
theorem pr4 {α β γ δ : Type} {C : α × β × γ × δ → Prop} (h : ∀ a b c d, C (a, b, c, d)) (y : α × β × γ × δ) : C y := h y.1 y.2.1 y.2.2.1 y.2.2.2
theorem pr5 {α β γ δ ε : Type} {C : α × β × γ × δ × ε → Prop} (h : ∀ a b c d e, C (a, b, c, d, e)) (y : α × β × γ × δ × ε) : C y := h y.1 y.2.1 y.2.2.1 y.2.2.2.1 y.2.2.2.2
set_option genInjectivity true in
inductive V where
  | none | bool (b : Bool) | int (i : Int) | str (s : Str) | ref (a : Addr) | type (n : String) | bi (n : String) | other
noncomputable def V.of : Value → V
  | .none => .none
  | .bool b => .bool b
  | .int i _ => .int i
  | .str s _ => .str s
  | .ref a => .ref a
  | .type n => .type n
  | .builtin n => .bi n
  | _ => .other
noncomputable def V.Is (v : Value) : V → Prop
  | .none => v = .none
  | .bool b => v = .bool b
  | .int i => ∃ t, v = .int i t
  | .str x => ∃ t, v = .str x t
  | .ref a => v = .ref a
  | .type n => v = .type n
  | .bi n => v = .builtin n
  | .other => True
theorem V.inv (v : Value) : V.Is v (V.of v) := by cases v <;> first | exact rfl | exact ⟨_, rfl⟩ | exact trivial
theorem V.isOf {v : Value} {p : V} (h : V.of v = p) : V.Is v p := h ▸ V.inv v
theorem V.of_int {v : Value} {i : Int} (h : V.of v = .int i) : ∃ t, v = .int i t := V.isOf h
theorem V.of_str {v : Value} {i : Str} (h : V.of v = .str i) : ∃ t, v = .str i t := V.isOf h
theorem V.of_ref {v : Value} {i : Addr} (h : V.of v = .ref i) : v = .ref i := V.isOf h
theorem V.of_bool {v : Value} {i : Bool} (h : V.of v = .bool i) : v = .bool i := V.isOf h
theorem V.of_none {v : Value} (h : V.of v = .none) : v = .none := V.isOf h
theorem V.of_type {v : Value} {i : String} (h : V.of v = .type i) : v = .type i := V.isOf h
theorem V.of_bi {v : Value} {i : String} (h : V.of v = .bi i) : v = .builtin i := V.isOf h
theorem zah (a : Addr) : V.of (.ref a) = .ref a := rfl
theorem zap (i : Int) (t : Tok) : V.of (.int i t) = .int i := rfl
theorem zar (i : Str) (t : Tok) : V.of (.str i t) = .str i := rfl
theorem zal (b : Bool) : V.of (.bool b) = .bool b := rfl
theorem zaj : V.of .none = .none := rfl
theorem zak (n : String) : V.of (.type n) = .type n := rfl
theorem za0 (n : String) : V.of (.builtin n) = .bi n := rfl
noncomputable abbrev Loc := List (Str × Option V)
inductive Cell where
  | list (vs : List V)
  | tup (vs : List V)
  | rlist (vs : List V)
  | ns (loc : Loc)
  | cell (v : Option V)
  | idict (f : Int → Option V) (n : Nat)
  | inst (C dx : Addr)
  | attrs (l : List (Str × V))
  | raw (o : Obj)
  | opq (P : Obj → Prop)
noncomputable def AttrsAre (P : Params) : List DictEntry → List (Str × V) → Prop
  | [], [] => True
  | e :: es, p :: ps => (∃ t, e.key = .str p.1 t) ∧ e.hash = PyData.keyHash P p.1 ∧ V.of e.val = p.2 ∧ AttrsAre P es ps
  | _, _ => False
noncomputable def Cell.holds (w : World) : Cell → Obj → Prop
  | .list vs, o => ∃ ws n, o = listOf ws n ∧ ws.toList.map V.of = vs
  | .tup vs, o => ∃ ws, o = { cls := .type "tuple", data := .seq ws } ∧ ws.toList.map V.of = vs
  | .rlist vs, o => o.cls = .type "list" ∧ ∃ ws n, o.data = .seq ws n ∧ ws.toList.map V.of = vs
  | .ns loc, o => ∃ es n, o.data = .dict es n ∧ StrKeys es ∧ (loc.map Prod.fst).Nodup ∧ ∀ x pv, (x, some pv) ∈ loc → ∃ v, nsFind es x = some v ∧ V.of v = pv
  | .cell v, o => ∃ u, o.data = .cell u ∧ u.map V.of = v
  | .idict f n, o => o.ExactDict ∧ ∃ es ep, o.data = .dict es ep ∧ (∀ e ∈ es, ∃ k, Value.isInt k e.key = true ∧ e.hash = hashInt k) ∧ (∀ k, (findBy Value.isInt es k).map V.of = f k) ∧ es.size ≤ n
  | .inst C dx, o => o = instObj C dx
  | .attrs l, o => ∃ es n, o = dictOf es n ∧ AttrsAre w.params es l
  | .raw o', o => o = o'
  | .opq P, o => P o
noncomputable def At (w : World) (h : Heap) (a : Addr) (c : Cell) : Prop := ∃ o, h.get? a = some o ∧ c.holds w o
noncomputable def DictAt (h : Heap) (a : Addr) : Prop := ∃ o es n, h.get? a = some o ∧ o.data = .dict es n
theorem At.congr {w : World} {h h' : Heap} {a : Addr} {c : Cell} (x : At w h a c) (e : ∀ o, h.get? a = some o → h'.get? a = some o) : At w h' a c := by
  obtain ⟨o, ho, r⟩ := x; exact ⟨o, e o ho, r⟩
theorem At.live {w : World} {h : Heap} {a : Addr} {c : Cell} (x : At w h a c) : h.get? a ≠ none := by
  obtain ⟨o, ho, r⟩ := x; rw [ho]; simp
theorem At.ns_slots {w : World} {h h' : Heap} {a : Addr} {l : Loc} (x : At w h a (.ns l)) (e : ∀ o, h.get? a = some o → ∃ sl, h'.get? a = some { o with slots := sl }) : At w h' a (.ns l) := by
  obtain ⟨o, ho, es, n, hd, r⟩ := x
  obtain ⟨sl, hs⟩ := e o ho
  exact ⟨_, hs, es, n, hd, r⟩
theorem At.dictAt {w : World} {h : Heap} {a : Addr} {l : Loc} (x : At w h a (.ns l)) : DictAt h a := by
  obtain ⟨o, ho, es, n, hd, r⟩ := x
  exact ⟨o, es, n, ho, hd⟩
noncomputable abbrev PH := Addr → Option Cell
noncomputable abbrev Led := List (Addr × Cell)
noncomputable def PH.set (g : PH) (a : Addr) (c : Cell) : PH := fun b => if b = a then some c else g b
structure Inv (w : World) (G0 : Heap) (Φ : List Addr) (g : PH) (h : Heap) (ℓ : Led) : Prop where
  stat : ∀ a o, G0.get? a = some o → h.get? a = some o
  facts : ∀ a c, g a = some c → At w h a c
  led : ∀ p ∈ ℓ, At w h p.1 p.2
  nd : (ℓ.map Prod.fst).Nodup
  gl : ∀ p ∈ ℓ, g p.1 = none
  gst : ∀ p ∈ ℓ, G0.get? p.1 = none
  ph : ∀ a ∈ Φ, g a = none ∧ a ∉ ℓ.map Prod.fst ∧ G0.get? a = none ∧ DictAt h a
structure Since (Φ : List Addr) (h₀ : Heap) (g₀ : PH) (C : List Addr) (g : PH) (h : Heap) (ℓ : Led) : Prop where
  kept : ∀ a o, h₀.get? a = some o → a ∉ C → a ∉ Φ → h.get? a = some o
  slots : ∀ a ∈ Φ, ∀ o, h₀.get? a = some o → ∃ sl, h.get? a = some { o with slots := sl }
  alive : ∀ a, h.get? a = none → h₀.get? a = none
  gm : ∀ a c, g₀ a = some c → g a = some c
  gn : ∀ a c, g a = some c → g₀ a = some c ∨ h₀.get? a = none
  ln : ∀ p ∈ ℓ, p.1 ∈ C ∨ h₀.get? p.1 = none
structure St (w : World) (G0 : Heap) (Φ : List Addr) (h₀ : Heap) (g₀ : PH) (C : List Addr) (g : PH) (h : Heap) (ℓ : Led) : Prop where
  inv : Inv w G0 Φ g h ℓ
  since : Since Φ h₀ g₀ C g h ℓ
section
variable {w : World} {G0 : Heap} {Φ : List Addr} {h₀ h h' : Heap} {g₀ g g' : PH} {C : List Addr} {ℓ ℓ' ρ : Led} {a L : Addr} {c c' : Cell}
theorem Inv.start (I : Inv w G0 Φ g h ℓ) : St w G0 Φ h g (ℓ.map Prod.fst) g h ℓ :=
  ⟨I, ⟨fun _ _ e _ _ => e, fun a _ o e => ⟨o.slots, e⟩, fun _ e => e, fun _ _ e => e, fun _ _ e => .inl e, fun p hp => .inl (List.mem_map_of_mem hp)⟩⟩
inductive Upd (a : Addr) (c c' : Cell) : Led → Led → Prop
  | head {r : Led} : Upd a c c' ((a, c) :: r) ((a, c') :: r)
  | tail {p : Addr × Cell} {r r' : Led} : Upd a c c' r r' → Upd a c c' (p :: r) (p :: r')
theorem Upd.fsts {ℓ ℓ' : Led} (u : Upd a c c' ℓ ℓ') : ℓ'.map Prod.fst = ℓ.map Prod.fst := by
  induction u with
  | head => rfl
  | tail _ ih => simp [ih]
theorem Upd.mem {ℓ ℓ' : Led} (u : Upd a c c' ℓ ℓ') : (a, c) ∈ ℓ := by
  induction u with
  | head => exact .head _
  | tail _ ih => exact .tail _ ih
theorem Upd.mem' {ℓ ℓ' : Led} (u : Upd a c c' ℓ ℓ') (nd : (ℓ.map Prod.fst).Nodup) : ∀ p ∈ ℓ', (p.1 = a ∧ p.2 = c') ∨ (p.1 ≠ a ∧ p ∈ ℓ) := by
  induction u with
  | head =>
    intro p hp
    rcases List.mem_cons.mp hp with rfl | hp
    · exact .inl ⟨rfl, rfl⟩
    · refine .inr ⟨fun e => ?_, .tail _ hp⟩
      simp only [List.map_cons, List.nodup_cons] at nd
      exact nd.1 (e ▸ List.mem_map_of_mem hp)
  | @tail q r r' u ih =>
    intro p hp
    simp only [List.map_cons, List.nodup_cons] at nd
    rcases List.mem_cons.mp hp with rfl | hp
    · refine .inr ⟨fun e => ?_, .head _⟩
      exact nd.1 (e ▸ List.mem_map_of_mem (f := Prod.fst) u.mem)
    · rcases ih nd.2 p hp with x | x
      · exact .inl x
      · exact .inr ⟨x.1, .tail _ x.2⟩
theorem zdd {ℓ : Led} {a : Addr} (h : a ∈ ℓ.map Prod.fst) : ∃ c, (a, c) ∈ ℓ := by
  obtain ⟨p, hp, rfl⟩ := List.mem_map.mp h; exact ⟨p.2, hp⟩
theorem St.mutate (S : St w G0 Φ h₀ g₀ C g h ℓ) (u : Upd a c c' ℓ ℓ') (hs : ∀ b o, b ≠ a → h.get? b = some o → h'.get? b = some o) (ha : At w h' a c')
    (hal : ∀ b, h'.get? b = none → h.get? b = none) : St w G0 Φ h₀ g₀ C g h' ℓ' := by
  obtain ⟨I, T⟩ := S
  have hm := u.mem
  have hga := I.gl _ hm
  have hGa := I.gst _ hm
  refine ⟨⟨fun b o e => hs b o (fun q => ?_) (I.stat b o e), fun b c e => (I.facts b c e).congr fun o => hs b o (fun q => ?_), fun p hp => ?_, u.fsts ▸ I.nd, fun p hp => ?_, fun p hp => ?_, fun b hb => ?_⟩, ⟨fun b o e hC hΦ => ?_, fun b hb o e => ?_, fun b e => T.alive b (hal b e), T.gm, T.gn, fun p hp => ?_⟩⟩
  · subst q; rw [hGa] at e; cases e
  · subst q; rw [hga] at e; cases e
  · rcases u.mem' I.nd p hp with ⟨e1, e2⟩ | ⟨e1, e2⟩
    · rw [e1, e2]; exact ha
    · exact (I.led p e2).congr fun o => hs _ o e1
  · rcases u.mem' I.nd p hp with ⟨e1, e2⟩ | ⟨e1, e2⟩
    · rw [e1]; exact hga
    · exact I.gl p e2
  · rcases u.mem' I.nd p hp with ⟨e1, e2⟩ | ⟨e1, e2⟩
    · rw [e1]; exact hGa
    · exact I.gst p e2
  · obtain ⟨x1, x2, x3, o, es, n, x4, x5⟩ := I.ph b hb
    exact ⟨x1, u.fsts ▸ x2, x3, o, es, n, hs b o (fun q => x2 (q ▸ List.mem_map_of_mem (f := Prod.fst) hm)) x4, x5⟩
  · refine hs b o (fun q => ?_) (T.kept b o e hC hΦ)
    subst q
    rcases T.ln _ hm with x | x
    · exact hC x
    · rw [e] at x; cases x
  · obtain ⟨sl, x⟩ := T.slots b hb o e
    exact ⟨sl, hs b _ (fun q => (I.ph b hb).2.1 (q ▸ List.mem_map_of_mem (f := Prod.fst) hm)) x⟩
  · rcases u.mem' I.nd p hp with ⟨e1, e2⟩ | ⟨e1, e2⟩
    · rw [e1]; exact T.ln _ hm
    · exact T.ln p e2
theorem St.grow (S : St w G0 Φ h₀ g₀ C g h ℓ) (k : ∀ b o, h.get? b = some o → h'.get? b = some o) : St w G0 Φ h₀ g₀ C g h' ℓ := by
  obtain ⟨I, T⟩ := S
  refine ⟨⟨fun b o e => k _ _ (I.stat b o e), fun b c e => (I.facts b c e).congr fun o => k b o, fun p hp => (I.led p hp).congr fun o => k _ o, I.nd, I.gl, I.gst, fun b hb => ?_⟩,
    ⟨fun b o e hC hΦ => k _ _ (T.kept b o e hC hΦ), fun b hb o e => ?_, fun b e => T.alive b ?_, T.gm, T.gn, T.ln⟩⟩
  · obtain ⟨x1, x2, x3, o, es, n, x4, x5⟩ := I.ph b hb
    exact ⟨x1, x2, x3, o, es, n, k _ _ x4, x5⟩
  · obtain ⟨sl, x⟩ := T.slots b hb o e; exact ⟨sl, k _ _ x⟩
  · cases q : h.get? b with
    | none => rfl
    | some o => rw [k b o q] at e; cases e
theorem St.add (S : St w G0 Φ h₀ g₀ C g h ℓ) (hn : h.get? a = none) (k : ∀ b o, h.get? b = some o → h'.get? b = some o) (ha : At w h' a c) : St w G0 Φ h₀ g₀ C g h' ((a, c) :: ℓ) := by
  obtain ⟨I, T⟩ := S.grow k
  obtain ⟨I₀, T₀⟩ := S
  have hg : g a = none := by
    cases q : g a with
    | none => rfl
    | some c => exact absurd hn (I₀.facts a c q).live
  have hG : G0.get? a = none := by
    cases q : G0.get? a with
    | none => rfl
    | some o => have := I₀.stat a o q; rw [hn] at this; cases this
  have hl : a ∉ ℓ.map Prod.fst := fun x => by
    obtain ⟨c, hm⟩ := zdd x
    exact (I₀.led _ hm).live hn
  refine ⟨⟨I.stat, I.facts, fun p hp => ?_, ?_, fun p hp => ?_, fun p hp => ?_, fun b hb => ?_⟩, ⟨T.kept, T.slots, T.alive, T.gm, T.gn, fun p hp => ?_⟩⟩
  · rcases List.mem_cons.mp hp with rfl | hp
    · exact ha
    · exact I.led p hp
  · simp only [List.map_cons, List.nodup_cons]; exact ⟨hl, I.nd⟩
  · rcases List.mem_cons.mp hp with rfl | hp
    · exact hg
    · exact I.gl p hp
  · rcases List.mem_cons.mp hp with rfl | hp
    · exact hG
    · exact I.gst p hp
  · obtain ⟨x1, x2, x3, x4⟩ := I.ph b hb
    refine ⟨x1, fun hm => ?_, x3, x4⟩
    simp only [List.map_cons, List.mem_cons] at hm
    rcases hm with rfl | hm
    · obtain ⟨o, es, n, y, _⟩ := (I₀.ph b hb).2.2.2
      rw [hn] at y; cases y
    · exact x2 hm
  · rcases List.mem_cons.mp hp with rfl | hp
    · exact .inr (T₀.alive _ hn)
    · exact T.ln p hp
theorem St.sub (S : St w G0 Φ h₀ g₀ C g h ℓ) (hs : ∀ p ∈ ℓ', p ∈ ℓ) (nd : (ℓ'.map Prod.fst).Nodup) : St w G0 Φ h₀ g₀ C g h ℓ' := by
  obtain ⟨I, T⟩ := S
  refine ⟨⟨I.stat, I.facts, fun p hp => I.led p (hs p hp), nd, fun p hp => I.gl p (hs p hp), fun p hp => I.gst p (hs p hp), fun b hb => ?_⟩, ⟨T.kept, T.slots, T.alive, T.gm, T.gn, fun p hp => T.ln p (hs p hp)⟩⟩
  obtain ⟨x1, x2, x3, x4⟩ := I.ph b hb
  refine ⟨x1, fun hm => x2 ?_, x3, x4⟩
  obtain ⟨p, hp, rfl⟩ := List.mem_map.mp hm
  exact List.mem_map_of_mem (hs p hp)
theorem St.perm (S : St w G0 Φ h₀ g₀ C g h ℓ) (p : ℓ.Perm ℓ') : St w G0 Φ h₀ g₀ C g h ℓ' :=
  S.sub (fun _ hq => p.mem_iff.mpr hq) ((p.map Prod.fst).nodup_iff.mp S.inv.nd)
theorem St.sublist (S : St w G0 Φ h₀ g₀ C g h ℓ) (p : ℓ'.Sublist ℓ) : St w G0 Φ h₀ g₀ C g h ℓ' :=
  S.sub (fun _ hq => p.mem hq) (S.inv.nd.sublist (p.map Prod.fst))
theorem St.drop1 {p : Addr × Cell} (S : St w G0 Φ h₀ g₀ C g h (p :: ℓ)) : St w G0 Φ h₀ g₀ C g h ℓ := S.sublist (List.sublist_cons_self _ _)
theorem St.freeze (S : St w G0 Φ h₀ g₀ C g h ((a, c) :: ℓ)) (hn : h₀.get? a = none) : St w G0 Φ h₀ g₀ C (g.set a c) h ℓ := by
  have S' := S.drop1
  obtain ⟨I, T⟩ := S'
  have hm := S.inv.led _ (.head _)
  have hnd := S.inv.nd
  simp only [List.map_cons, List.nodup_cons] at hnd
  have hga := S.inv.gl _ (.head _)
  refine ⟨⟨I.stat, fun b d e => ?_, I.led, I.nd, fun p hp => ?_, I.gst, fun b hb => ?_⟩, ⟨T.kept, T.slots, T.alive, fun b d e => ?_, fun b d e => ?_, T.ln⟩⟩
  · unfold PH.set at e
    by_cases q : b = a
    · subst q; rw [if_pos rfl] at e; cases e; exact hm
    · rw [if_neg q] at e; exact I.facts b d e
  · unfold PH.set
    rw [if_neg (fun q : p.1 = a => hnd.1 (q ▸ List.mem_map_of_mem hp))]; exact I.gl p hp
  · obtain ⟨x1, x2, x3, x4⟩ := S.inv.ph b hb
    refine ⟨?_, fun y => x2 (by simp only [List.map_cons]; exact .tail _ y), x3, x4⟩
    unfold PH.set
    rw [if_neg (fun q : b = a => x2 (by rw [q]; exact .head _))]; exact x1
  · unfold PH.set
    by_cases q : b = a
    · subst q; have := T.gm b d e; rw [hga] at this; cases this
    · rw [if_neg q]; exact T.gm b d e
  · unfold PH.set at e
    by_cases q : b = a
    · subst q; exact .inr hn
    · rw [if_neg q] at e; exact T.gn b d e
theorem St.enter {loc : Loc} {cells : Led} (S : St w G0 Φ h₀ g₀ C g h ((L, .ns loc) :: (cells ++ ρ))) : Inv w G0 (L :: Φ) g h cells := by
  obtain ⟨I, T⟩ := S
  have sub : ∀ p ∈ cells, p ∈ ((L, Cell.ns loc) :: (cells ++ ρ)) := fun p hp => .tail _ (List.mem_append_left _ hp)
  have nd := I.nd
  simp only [List.map_cons, List.nodup_cons, List.map_append] at nd
  refine ⟨I.stat, I.facts, fun p hp => I.led p (sub p hp), (List.nodup_append.mp nd.2).1, fun p hp => I.gl p (sub p hp), fun p hp => I.gst p (sub p hp), fun b hb => ?_⟩
  rcases List.mem_cons.mp hb with rfl | hb
  · exact ⟨I.gl _ (.head _), fun q => nd.1 (List.mem_append_left _ q), I.gst _ (.head _), (I.led _ (.head _)).dictAt⟩
  · obtain ⟨x1, x2, x3, x4⟩ := I.ph b hb
    exact ⟨x1, fun q => x2 (by simp only [List.map_cons, List.map_append]; exact .tail _ (List.mem_append_left _ q)), x3, x4⟩
theorem St.ret {loc : Loc} {cells cells' : Led} (S : St w G0 Φ h₀ g₀ C g h ((L, .ns loc) :: (cells ++ ρ))) (R : St w G0 (L :: Φ) h g (cells.map Prod.fst) g' h' cells') :
    St w G0 Φ h₀ g₀ C g' h' ((L, .ns loc) :: (cells' ++ ρ)) := by
  obtain ⟨I, T⟩ := S
  obtain ⟨J, U⟩ := R
  have nd := I.nd
  simp only [List.map_cons, List.nodup_cons, List.map_append] at nd
  obtain ⟨ndL, ndr⟩ := nd
  obtain ⟨nc, nr, ncr⟩ := List.nodup_append.mp ndr
  have mL : ((L, Cell.ns loc) : Addr × Cell) ∈ ((L, Cell.ns loc) :: (cells ++ ρ)) := .head _
  have mρ : ∀ p ∈ ρ, p ∈ ((L, Cell.ns loc) :: (cells ++ ρ)) := fun p hp => .tail _ (List.mem_append_right _ hp)
  have mc : ∀ p ∈ cells, p ∈ ((L, Cell.ns loc) :: (cells ++ ρ)) := fun p hp => .tail _ (List.mem_append_left _ hp)
  have offρ : ∀ p ∈ ρ, p.1 ∉ cells.map Prod.fst ∧ p.1 ∉ (L :: Φ) := fun p hp => ⟨fun q => ncr _ q _ (List.mem_map_of_mem hp) rfl, fun q => by
    rcases List.mem_cons.mp q with q | q
    · exact ndL (List.mem_append_right _ (q ▸ List.mem_map_of_mem hp))
    · exact (I.ph _ q).2.1 (List.mem_map_of_mem (mρ p hp))⟩
  have hL : At w h' L (.ns loc) := (I.led _ mL).ns_slots fun o ho => U.slots L (.head _) o ho
  have hρ : ∀ p ∈ ρ, At w h' p.1 p.2 := fun p hp => (I.led p (mρ p hp)).congr fun o ho => U.kept _ o ho (offρ p hp).1 (offρ p hp).2
  have g'old : ∀ b, (∃ q ∈ ((L, Cell.ns loc) :: (cells ++ ρ)), q.1 = b) → b ∉ cells.map Prod.fst → g' b = none := fun b ⟨q, hq, e⟩ _ => by
    cases x : g' b with
    | none => rfl
    | some d =>
      rcases U.gn b d x with y | y
      · have := I.gl q hq; rw [e, y] at this; cases this
      · have := (I.led q hq).live; rw [e] at this; exact absurd y this
  have cnew : ∀ p ∈ cells', p.1 ≠ L ∧ p.1 ∉ ρ.map Prod.fst := fun p hp => by
    refine ⟨fun q => (J.ph L (.head _)).2.1 (q ▸ List.mem_map_of_mem hp), fun q => ?_⟩
    rcases U.ln p hp with x | x
    · exact ncr _ x _ q rfl
    · obtain ⟨c, hc⟩ := zdd q
      exact (I.led _ (mρ _ hc)).live x
  refine ⟨⟨J.stat, J.facts, fun p hp => ?_, ?_, fun p hp => ?_, fun p hp => ?_, fun b hb => ?_⟩, ⟨fun b o e hC hΦ => ?_, fun b hb o e => ?_, fun b e => T.alive b (U.alive b e), fun b d e => U.gm b d (T.gm b d e), fun b d e => ?_, fun p hp => ?_⟩⟩
  · rcases List.mem_cons.mp hp with rfl | hp
    · exact hL
    · rcases List.mem_append.mp hp with hp | hp
      · exact J.led p hp
      · exact hρ p hp
  · simp only [List.map_cons, List.map_append, List.nodup_cons]
    refine ⟨fun q => ?_, List.nodup_append.mpr ⟨J.nd, nr, fun x hx y hy e => ?_⟩⟩
    · rcases List.mem_append.mp q with q | q
      · exact (J.ph L (.head _)).2.1 q
      · exact ndL (List.mem_append_right _ q)
    · obtain ⟨c, hc⟩ := zdd hx
      exact (cnew _ hc).2 (e ▸ hy)
  · rcases List.mem_cons.mp hp with rfl | hp
    · exact (J.ph L (.head _)).1
    · rcases List.mem_append.mp hp with hp | hp
      · exact J.gl p hp
      · exact g'old _ ⟨p, mρ p hp, rfl⟩ (offρ p hp).1
  · rcases List.mem_cons.mp hp with rfl | hp
    · exact I.gst _ mL
    · rcases List.mem_append.mp hp with hp | hp
      · exact J.gst p hp
      · exact I.gst _ (mρ p hp)
  · obtain ⟨x1, x2, x3, x4⟩ := J.ph b (.tail _ hb)
    refine ⟨x1, fun hm => ?_, x3, x4⟩
    have hb2 := (I.ph b hb).2.1
    simp only [List.map_cons, List.map_append, List.mem_cons, List.mem_append] at hm hb2
    rcases hm with q | q | q
    · exact hb2 (.inl q)
    · exact x2 q
    · exact hb2 (.inr (.inr q))
  · refine U.kept b o (T.kept b o e hC hΦ) (fun q => ?_) (fun q => ?_)
    · obtain ⟨d, hd⟩ := zdd q
      rcases T.ln _ (mc _ hd) with x | x
      · exact hC x
      · rw [e] at x; cases x
    · rcases List.mem_cons.mp q with q | q
      · rcases T.ln _ mL with x | x
        · exact hC (q ▸ x)
        · have x' : h₀.get? b = none := q ▸ x
          rw [e] at x'; cases x'
      · exact hΦ q
  · obtain ⟨sl, x⟩ := T.slots b hb o e
    obtain ⟨sl', y⟩ := U.slots b (.tail _ hb) _ x
    exact ⟨sl', y⟩
  · rcases U.gn b d e with x | x
    · exact T.gn b d x
    · exact .inr (T.alive b x)
  · rcases List.mem_cons.mp hp with rfl | hp
    · exact T.ln _ mL
    · rcases List.mem_append.mp hp with hp | hp
      · rcases U.ln p hp with x | x
        · obtain ⟨d, hd⟩ := zdd x
          have y := T.ln _ (mc _ hd)
          exact y
        · exact .inr (T.alive _ x)
      · exact T.ln _ (mρ p hp)
end
end Mine
end
section
namespace Mine
open PySem PySem.W PySem.Calls PyProof.Rows
structure SameC (s : Shared) (gs : Array GenState) (dr : Drawn) (os : OsState) : Prop where
  gens : gs = s.gens
  drawn : dr = s.drawn
  os : os = s.os
noncomputable abbrev Same (s s' : Shared) : Prop := SameC s s'.gens s'.drawn s'.os
noncomputable abbrev tick (s : Shared) : Shared := { s with toks := s.toks + 1 }
theorem Same.refl (s : Shared) : Same s s := ⟨rfl, rfl, rfl⟩
theorem Same.trans {a b c : Shared} (x : Same a b) (y : Same b c) : Same a c := ⟨y.1.trans x.1, y.2.trans x.2, y.3.trans x.3⟩
theorem Same.upd (s : Shared) (h : Heap) (t : Nat) : Same s { s with heap := h, toks := t } := ⟨rfl, rfl, rfl⟩
structure Kon where
  Φ : List Addr
  s₀ : Shared
  g₀ : PH
  C : List Addr
structure SSc (w : World) (G0 : Heap) (K : Kon) (g : PH) (h : Heap) (gs : Array GenState) (dr : Drawn) (os : OsState) (ℓ : Led) : Prop where
  st : St w G0 K.Φ K.s₀.heap K.g₀ K.C g h ℓ
  same : SameC K.s₀ gs dr os
noncomputable abbrev SS (w : World) (G0 : Heap) (K : Kon) (g : PH) (s : Shared) (ℓ : Led) : Prop := SSc w G0 K g s.heap s.gens s.drawn s.os ℓ
section
variable {w : World} {G0 : Heap} {K : Kon} {g g' : PH} {s s' : Shared} {ℓ ℓ' ρ : Led} {a L : Addr} {c c' : Cell} {h' : Heap} {t : Nat}
theorem SS.st (S : SS w G0 K g s ℓ) : St w G0 K.Φ K.s₀.heap K.g₀ K.C g s.heap ℓ := SSc.st S
theorem SS.same (S : SS w G0 K g s ℓ) : Same K.s₀ s := SSc.same S
theorem SS.tok (S : SS w G0 K g s ℓ) : SS w G0 K g { s with toks := t } ℓ := ⟨S.st, S.same.trans ⟨rfl, rfl, rfl⟩⟩
theorem SS.mutate (S : SS w G0 K g s ℓ) (u : Upd a c c' ℓ ℓ') (hs : ∀ b o, b ≠ a → s.heap.get? b = some o → h'.get? b = some o) (ha : At w h' a c')
    (hal : ∀ b, h'.get? b = none → s.heap.get? b = none) : SS w G0 K g { s with heap := h', toks := t } ℓ' := ⟨S.st.mutate u hs ha hal, S.same.trans ⟨rfl, rfl, rfl⟩⟩
theorem SS.grow (S : SS w G0 K g s ℓ) (k : ∀ b o, s.heap.get? b = some o → h'.get? b = some o) : SS w G0 K g { s with heap := h', toks := t } ℓ := ⟨S.st.grow k, S.same.trans ⟨rfl, rfl, rfl⟩⟩
theorem SS.add (S : SS w G0 K g s ℓ) (hn : s.heap.get? a = none) (k : ∀ b o, s.heap.get? b = some o → h'.get? b = some o) (ha : At w h' a c) :
    SS w G0 K g { s with heap := h', toks := t } ((a, c) :: ℓ) := ⟨S.st.add hn k ha, S.same.trans ⟨rfl, rfl, rfl⟩⟩
theorem SS.perm (S : SS w G0 K g s ℓ) (p : ℓ.Perm ℓ') : SS w G0 K g s ℓ' := ⟨S.st.perm p, S.same⟩
theorem SS.sublist (S : SS w G0 K g s ℓ) (p : ℓ'.Sublist ℓ) : SS w G0 K g s ℓ' := ⟨S.st.sublist p, S.same⟩
theorem SS.drop1 {p : Addr × Cell} (S : SS w G0 K g s (p :: ℓ)) : SS w G0 K g s ℓ := ⟨S.st.drop1, S.same⟩
theorem SS.at (S : SS w G0 K g s ℓ) (hm : (a, c) ∈ ℓ) : At w s.heap a c := S.st.inv.led _ hm
theorem SS.fact (S : SS w G0 K g s ℓ) (hm : g a = some c) : At w s.heap a c := S.st.inv.facts _ _ hm
theorem zay (h : Heap) : h.get? h.objs.size = none := by
  cases q : h.get? h.objs.size with
  | none => rfl
  | some o => exact absurd (Heap.lt_size q) (Nat.lt_irrefl _)
theorem zf1 {h h' : Heap} {a : Addr} {o : Obj} (hs : Heap.SameBut a h h') (ho : h'.get? a = some o) : ∀ b, h'.get? b = none → h.get? b = none := fun b e => by
  by_cases q : b = a
  · subst q; rw [ho] at e; cases e
  · rw [← hs.2 b q]; exact e
theorem At.of_sameBut_alive {h h' : Heap} {a : Addr} {c : Cell} (hs : Heap.SameBut a h h') (ha : At w h' a c) : ∀ b, h'.get? b = none → h.get? b = none := by
  obtain ⟨o, ho, _⟩ := ha; exact zf1 hs ho
theorem SS.change (S : SS w G0 K g s ℓ) (u : Upd a c c' ℓ ℓ') (hs : Heap.SameBut a s.heap h') (ha : At w h' a c') : SS w G0 K g { s with heap := h', toks := t } ℓ' :=
  S.mutate u (fun b o hb e => (hs.2 b hb).trans e) ha (ha.of_sameBut_alive hs)
theorem SS.push {o : Obj} (S : SS w G0 K g s ℓ) (ho : c.holds w o) (hf : o.isFreed = false) : SS w G0 K g { s with heap := s.heap.push o, toks := t } ((s.heap.objs.size, c) :: ℓ) :=
  S.add (zay _) (fun b o' e => Heap.get?_push_of_some _ e) ⟨o, Heap.get?_push_size _ hf, ho⟩
theorem SS.enter {loc : Loc} {cells : Led} (S : SS w G0 K g s ((L, .ns loc) :: (cells ++ ρ))) : Inv w G0 (L :: K.Φ) g s.heap cells := S.st.enter
theorem SS.ret {loc : Loc} {cells cells' : Led} (R : SS w G0 ⟨L :: K.Φ, s, g, cells.map Prod.fst⟩ g' s' cells') (S : SS w G0 K g s ((L, .ns loc) :: (cells ++ ρ))) : SS w G0 K g' s' ((L, .ns loc) :: (cells' ++ ρ)) :=
  ⟨S.st.ret R.st, S.same.trans R.same⟩
theorem SS.enter0 {loc : Loc} {cells : Led} (S : SS w G0 K g s ((L, .ns loc) :: cells)) : Inv w G0 (L :: K.Φ) g s.heap cells := by
  have : SS w G0 K g s ((L, .ns loc) :: (cells ++ [])) := by rw [List.append_nil]; exact S
  exact this.enter
theorem SS.ret0 {loc : Loc} {cells cells' : Led} (R : SS w G0 ⟨L :: K.Φ, s, g, cells.map Prod.fst⟩ g' s' cells') (S : SS w G0 K g s ((L, .ns loc) :: cells)) : SS w G0 K g' s' ((L, .ns loc) :: cells') := by
  have S' : SS w G0 K g s ((L, .ns loc) :: (cells ++ [])) := by rw [List.append_nil]; exact S
  have := R.ret S'
  rw [List.append_nil] at this; exact this
inductive UpdL (x : Str) (v : V) : Loc → Loc → Prop
  | head {o : Option V} {r : Loc} : UpdL x v ((x, o) :: r) ((x, some v) :: r)
  | tail {p : Str × Option V} {r r' : Loc} : UpdL x v r r' → UpdL x v (p :: r) (p :: r')
theorem UpdL.fsts {x : Str} {v : V} {l l' : Loc} (u : UpdL x v l l') : l'.map Prod.fst = l.map Prod.fst := by
  induction u with
  | head => rfl
  | tail _ ih => simp [ih]
theorem UpdL.key {x : Str} {v : V} {l l' : Loc} (u : UpdL x v l l') : x ∈ l.map Prod.fst := by
  induction u with
  | head => exact .head _
  | tail _ ih => exact .tail _ ih
theorem UpdL.mem {x : Str} {v : V} {l l' : Loc} (u : UpdL x v l l') (nd : (l.map Prod.fst).Nodup) : ∀ y o, (y, o) ∈ l' → (y = x ∧ o = some v) ∨ (y ≠ x ∧ (y, o) ∈ l) := by
  induction u with
  | @head o r =>
    intro y o' hp
    simp only [List.map_cons, List.nodup_cons] at nd
    rcases List.mem_cons.mp hp with e | hp
    · cases e; exact .inl ⟨rfl, rfl⟩
    · exact .inr ⟨fun e => nd.1 (e ▸ List.mem_map_of_mem (f := Prod.fst) hp), .tail _ hp⟩
  | @tail p r r' u ih =>
    intro y o' hp
    simp only [List.map_cons, List.nodup_cons] at nd
    rcases List.mem_cons.mp hp with e | hp
    · subst e; exact .inr ⟨fun e => nd.1 (by have := u.key; rw [← e] at this; exact this), .head _⟩
    · rcases ih nd.2 y o' hp with x | x
      · exact .inl x
      · exact .inr ⟨x.1, .tail _ x.2⟩
theorem At.ns_load {h : Heap} {loc : Loc} {x : Str} {pv : V} (A : At w h L (.ns loc)) (hm : (x, some pv) ∈ loc) : ∃ m v, h.Ns L m ∧ m x = some v ∧ V.of v = pv := by
  obtain ⟨o, ho, es, n, hd, hk, nd, hl⟩ := A
  obtain ⟨v, e1, e2⟩ := hl x pv hm
  exact ⟨_, v, ⟨o, es, n, ho, hd, hk, fun _ => rfl⟩, e1, e2⟩
noncomputable def valAt (h : Heap) (L : Addr) (x : Str) : Value := match h.get? L with
  | some o => (match o.data with
    | .dict es _ => (nsFind es x).getD .none
    | .cell (some v) => v
    | _ => .none)
  | none => .none
noncomputable def tokOf : Value → Tok
  | .int _ t => t
  | .str _ t => t
  | _ => 0
noncomputable def tokAt (h : Heap) (L : Addr) (x : Str) : Tok := tokOf (valAt h L x)
theorem zi8 {h : Heap} {x : Str} {i : Int} (e : V.of (valAt h L x) = .int i) : valAt h L x = .int i (tokAt h L x) := by
  obtain ⟨t, e⟩ := V.of_int e
  unfold tokAt; rw [e]; rfl
theorem zli {h : Heap} {x i : Str} (e : V.of (valAt h L x) = .str i) : valAt h L x = .str i (tokAt h L x) := by
  obtain ⟨t, e⟩ := V.of_str e
  unfold tokAt; rw [e]; rfl
theorem At.ns_val {h : Heap} {loc : Loc} {x : Str} {pv : V} (A : At w h L (.ns loc)) (hm : (x, some pv) ∈ loc) : ∃ m, h.Ns L m ∧ m x = some (valAt h L x) ∧ V.of (valAt h L x) = pv := by
  obtain ⟨o, ho, es, n, hd, hk, nd, hl⟩ := A
  obtain ⟨v, e1, e2⟩ := hl x pv hm
  have e : valAt h L x = v := by unfold valAt; rw [ho]; dsimp only; rw [hd]; dsimp only; rw [e1]; rfl
  exact ⟨_, ⟨o, es, n, ho, hd, hk, fun _ => rfl⟩, by rw [e]; exact e1, by rw [e]; exact e2⟩
theorem At.ns_any {h : Heap} {loc : Loc} (A : At w h L (.ns loc)) : ∃ m, h.Ns L m ∧ (loc.map Prod.fst).Nodup ∧ ∀ x pv, (x, some pv) ∈ loc → ∃ v, m x = some v ∧ V.of v = pv := by
  obtain ⟨o, ho, es, n, hd, hk, nd, hl⟩ := A
  exact ⟨_, ⟨o, es, n, ho, hd, hk, fun _ => rfl⟩, nd, hl⟩
theorem At.of_ns {h : Heap} {loc : Loc} {m : Str → Option Value} (N : h.Ns L m) (nd : (loc.map Prod.fst).Nodup) (hl : ∀ x pv, (x, some pv) ∈ loc → ∃ v, m x = some v ∧ V.of v = pv) : At w h L (.ns loc) := by
  obtain ⟨o, es, n, ho, hd, hk, hf⟩ := N
  exact ⟨o, ho, es, n, hd, hk, nd, fun x pv hm => by rw [hf]; exact hl x pv hm⟩
theorem At.ns_store {h' : Heap} {loc loc' : Loc} {x : Str} {v : Value} {m : Str → Option Value} (nd : (loc.map Prod.fst).Nodup) (hl : ∀ x pv, (x, some pv) ∈ loc → ∃ v, m x = some v ∧ V.of v = pv)
    (u : UpdL x (V.of v) loc loc') (N : h'.Ns L (fun y => if y = x then some v else m y)) : At w h' L (.ns loc') := by
  refine .of_ns N (u.fsts ▸ nd) fun y pv hm => ?_
  rcases u.mem nd y _ hm with ⟨e1, e2⟩ | ⟨e1, e2⟩
  · cases e2; exact ⟨v, by rw [if_pos e1], rfl⟩
  · rw [if_neg e1]; exact hl y pv e2
end
structure EnvOk (env : Env) (L : Addr) (fr : Option Addr) (kinds : List (Str × NameKind)) (cl : List (Str × Addr)) : Prop where
  locals : env.locals = L
  kind : env.scope.kind = .function
  glob : env.globals = mainGlobals
  blt : env.builtins = builtinsNs
  kd : ∀ x k, (x, k) ∈ kinds → env.kindOf x = some k
  plain : ∀ x k, (x, k) ∈ kinds → (x == ("__debug__" : Str)) = false ∧ (x == ("__classdict__" : Str)) = false
  cls : ∀ x c, (x, c) ∈ cl → env.cells.lookup x = some c
  frame : env.frame = fr
noncomputable def Glob (G0 : Heap) (x : Str) (v : Value) : Prop :=
  (∃ mg, G0.Ns mainGlobals mg ∧ mg x = some v) ∨ (∃ mg mb, G0.Ns mainGlobals mg ∧ mg x = none ∧ G0.Ns builtinsNs mb ∧ mb x = some v)
section
variable {prog : Program} {w : World} {G0 : Heap} {K : Kon} {g g' : PH} {s s' : Shared} {ℓ ℓ' ρ : Led} {a L : Addr} {c c' : Cell} {h' : Heap} {t : Nat}
  {env : Env} {fr : Option Addr} {kinds : List (Str × NameKind)} {cl : List (Str × Addr)} {loc loc' : Loc} {A : Around} {E : Value → Shared → Prop} {x : Str} {pos : Pos} {Q : Value → Shared → Prop}
theorem zbv {M : Model} {pv : V} (X : EnvOk env L fr kinds cl) (S : SS w G0 K g s ((L, .ns loc) :: ℓ)) (hk : (x, .local) ∈ kinds) (hv : (x, some pv) ∈ loc) (k : ∀ v, V.of v = pv → Q v s) :
    wpAny M A (eval (.Name x pos) env) Q E s := by
  obtain ⟨m, v, hn, e1, e2⟩ := (S.at (.head _)).ns_load hv
  exact wpAny_Name (wpAny_loadName_local X.kind (X.kd _ _ hk) (X.locals.symm ▸ hn) e1 (k v e2)) (X.plain _ _ hk).1
theorem r_loc {M : Model} {pv : V} (X : EnvOk env L fr kinds cl) (S : SS w G0 K g s ((L, .ns loc) :: ℓ)) (hk : (x, .local) ∈ kinds) (hv : (x, some pv) ∈ loc) (k : V.of (valAt s.heap L x) = pv → Q (valAt s.heap L x) s) :
    wpAny M A (eval (.Name x pos) env) Q E s := by
  obtain ⟨m, hn, e1, e2⟩ := (S.at (.head _)).ns_val hv
  exact wpAny_Name (wpAny_loadName_local X.kind (X.kd _ _ hk) (X.locals.symm ▸ hn) e1 (k e2)) (X.plain _ _ hk).1
theorem r_int {M : Model} {i : Int} (X : EnvOk env L fr kinds cl) (S : SS w G0 K g s ((L, .ns loc) :: ℓ)) (hk : (x, .local) ∈ kinds) (hv : (x, some (.int i)) ∈ loc) (k : Q (.int i (tokAt s.heap L x)) s) :
    wpAny M A (eval (.Name x pos) env) Q E s := r_loc X S hk hv fun e => by rw [zi8 e]; exact k
theorem r_str {M : Model} {i : Str} (X : EnvOk env L fr kinds cl) (S : SS w G0 K g s ((L, .ns loc) :: ℓ)) (hk : (x, .local) ∈ kinds) (hv : (x, some (.str i)) ∈ loc) (k : Q (.str i (tokAt s.heap L x)) s) :
    wpAny M A (eval (.Name x pos) env) Q E s := r_loc X S hk hv fun e => by rw [zli e]; exact k
theorem zof {M : Model} {b : Addr} (X : EnvOk env L fr kinds cl) (S : SS w G0 K g s ((L, .ns loc) :: ℓ)) (hk : (x, .local) ∈ kinds) (hv : (x, some (.ref b)) ∈ loc) (k : Q (.ref b) s) :
    wpAny M A (eval (.Name x pos) env) Q E s := zbv X S hk hv fun v e => by rw [V.of_ref e]; exact k
theorem r_bool {M : Model} {b : Bool} (X : EnvOk env L fr kinds cl) (S : SS w G0 K g s ((L, .ns loc) :: ℓ)) (hk : (x, .local) ∈ kinds) (hv : (x, some (.bool b)) ∈ loc) (k : Q (.bool b) s) :
    wpAny M A (eval (.Name x pos) env) Q E s := zbv X S hk hv fun v e => by rw [V.of_bool e]; exact k
theorem r_none {M : Model} (X : EnvOk env L fr kinds cl) (S : SS w G0 K g s ((L, .ns loc) :: ℓ)) (hk : (x, .local) ∈ kinds) (hv : (x, some .none) ∈ loc) (k : Q .none s) :
    wpAny M A (eval (.Name x pos) env) Q E s := zbv X S hk hv fun v e => by rw [V.of_none e]; exact k
theorem zne {M : Model} {b : Addr} {pv : V} (X : EnvOk env L fr kinds cl) (A' : At w s.heap b (.cell (some pv))) (hk : (x, .cell) ∈ kinds ∨ (x, .free) ∈ kinds) (hc : (x, b) ∈ cl) (k : ∀ v, V.of v = pv → Q v s) :
    wpAny M A (eval (.Name x pos) env) Q E s := by
  obtain ⟨o, ho, u, hu, e₀⟩ := A'
  obtain ⟨v, rfl, e⟩ : ∃ v, u = some v ∧ V.of v = pv := by
    cases u with
    | none => cases e₀
    | some v => exact ⟨v, rfl, Option.some.inj e₀⟩
  rcases hk with hk | hk
  · exact wpAny_Name (wpAny_loadName_cell X.kind (X.kd _ _ hk) (X.cls _ _ hc) ⟨o, ho, hu⟩ (k v e)) (X.plain _ _ hk).1
  · exact wpAny_Name (wpAny_loadName_free X.kind (X.kd _ _ hk) (X.cls _ _ hc) ⟨o, ho, hu⟩ (k v e) (X.plain _ _ hk).2) (X.plain _ _ hk).1
theorem zme {M : Model} {b : Addr} {pv : V} (X : EnvOk env L fr kinds cl) (A' : At w s.heap b (.cell (some pv))) (hk : (x, .cell) ∈ kinds ∨ (x, .free) ∈ kinds) (hc : (x, b) ∈ cl) (k : V.of (valAt s.heap b x) = pv → Q (valAt s.heap b x) s) :
    wpAny M A (eval (.Name x pos) env) Q E s := by
  obtain ⟨o, ho, u, hu, e₀⟩ := A'
  obtain ⟨v, rfl, e⟩ : ∃ v, u = some v ∧ V.of v = pv := by
    cases u with
    | none => cases e₀
    | some v => exact ⟨v, rfl, Option.some.inj e₀⟩
  have ev : valAt s.heap b x = v := by unfold valAt; rw [ho]; dsimp only; rw [hu]
  rw [ev] at k
  rcases hk with hk | hk
  · exact wpAny_Name (wpAny_loadName_cell X.kind (X.kd _ _ hk) (X.cls _ _ hc) ⟨o, ho, hu⟩ (k e)) (X.plain _ _ hk).1
  · exact wpAny_Name (wpAny_loadName_free X.kind (X.kd _ _ hk) (X.cls _ _ hc) ⟨o, ho, hu⟩ (k e) (X.plain _ _ hk).2) (X.plain _ _ hk).1
theorem zax {M : Model} {v : Value} (X : EnvOk env L fr kinds cl) (S : SS w G0 K g s ℓ) (hk : (x, .globalImplicit) ∈ kinds) (hg : Glob G0 x v) (k : Q v s) : wpAny M A (eval (.Name x pos) env) Q E s := by
  refine Name_function_global X.kind (X.kd _ _ hk) ?_ (X.plain _ _ hk).1
  have gl := X.glob
  have bl := X.blt
  have keep := S.st.inv.stat
  rcases hg with ⟨mg, N, e⟩ | ⟨mg, mb, N, e, N', e'⟩
  · exact loadGlobal_global (gl.symm ▸ N.keeps keep) e k
  · exact loadGlobal_builtin (gl.symm ▸ N.keeps keep) e (bl.symm ▸ N'.keeps keep) e' k
end
end Mine
end
section
namespace Mine
open PySem PySem.W PySem.Calls PyProof.Rows
section
variable {prog : Program} {w : World} {G0 : Heap} {K : Kon} {g g' : PH} {s s' : Shared} {ℓ ℓ' ρ : Led} {a L : Addr} {c c' : Cell} {h' : Heap} {t : Nat}
  {env : Env} {fr : Option Addr} {kinds : List (Str × NameKind)} {cl : List (Str × Addr)} {loc loc' : Loc} {A : Around} {E : Value → Shared → Prop} {x : Str} {pos pos' : Pos}
theorem r_cint {M : Model} {i : Int} {kk : Nat} {Q : Value → Shared → Prop} (k : Q (.int i s.toks) (tick s)) : wpAny M A (eval (.Constant (.int i) kk pos) env) Q E s :=
  wpAny_Constant_int k
theorem r_cstr {M : Model} {i : Str} {kk : Nat} {Q : Value → Shared → Prop} (k : Q (.str i s.toks) (tick s)) : wpAny M A (eval (.Constant (.str i) kk pos) env) Q E s :=
  Constant_str k
theorem zeq {Q : Value → Shared → Prop} {i j : Int} {t u : Tok} (k : Q (.int (i + j) s.toks) (tick s)) : wpAny (model prog w) A (binaryOp .Add (.int i t) (.int j u)) Q E s := PyProof.Rows.add_int k
theorem zl1 {Q : Value → Shared → Prop} {i j : Int} {t u : Tok} (k : Q (.int (i + j) s.toks) (tick s)) : wpAny (model prog w) A (inplaceOp .Add (.int i t) (.int j u)) Q E s := PyProof.Rows.iadd_int k
theorem zmp {Q : Value → Shared → Prop} {i j : Int} {t u : Tok} (k : Q (.int (i - j) s.toks) (tick s)) : wpAny (model prog w) A (binaryOp .Sub (.int i t) (.int j u)) Q E s := PyProof.Rows.sub_int k
theorem znq {Q : Value → Shared → Prop} {i j : Int} {t u : Tok} (hm : IntMulOk i j) (k : Q (.int (i * j) s.toks) (tick s)) : wpAny (model prog w) A (binaryOp .Mult (.int i t) (.int j u)) Q E s := PyProof.Rows.mul_int k hm
theorem zje {Q : Value → Shared → Prop} {i j : Int} {t u : Tok} (hb : j ≠ 0) (k : Q (.int (i.fmod j) s.toks) (tick s)) : wpAny (model prog w) A (binaryOp .Mod (.int i t) (.int j u)) Q E s := PyProof.Rows.mod_int' hb k
theorem zm8 {Q : Value → Shared → Prop} {i j : Int} {t u : Tok} (hb : j ≠ 0) (hs : j.natAbs < 1073741824) (k : Q (.int (i.fdiv j) s.toks) (tick s)) : wpAny (model prog w) A (binaryOp .FloorDiv (.int i t) (.int j u)) Q E s := PyProof.Rows.floordiv_int hb k (.inl (PyProof.noPylong_small hs))
theorem r_neg {Q : Value → Shared → Prop} {i : Int} {t : Tok} (k : Q (.int (-i) s.toks) (tick s)) : wpAny (model prog w) A (unaryOp .USub (.int i t)) Q E s := PyProof.Rows.neg_int k
theorem zas {M : Model} {Q : Flow → Shared → Prop} (h : Q .next s) : wpAny M A (execs [] env) Q E s := wpAny_execs_nil h
theorem zav {M : Model} {value : Expr} {rest : List Stmt} {Q : Flow → Shared → Prop} (h : wpAny M A (eval value env) (fun v s₁ => wpAny M A (storeName env x v) (fun _ s₂ => wpAny M A (execs rest env) Q E s₂) E s₁) E s)
    (hs : swapsWith value (some (.Name x pos')) pos.line env = pure false) : wpAny M A (execs (.Assign [.Name x pos'] value pos :: rest) env) Q E s :=
  wpAny_execs_cons (wpAny_Assign_Name h hs)
theorem zbh {M : Model} {o i value : Expr} {rest : List Stmt} {Q : Flow → Shared → Prop}
    (h : wpAny M A (eval value env) (fun v s₁ => wpAny M A (eval o env) (fun ov s₂ => wpAny M A (eval i env) (fun iv s₃ => wpAny M A (setItem ov iv v) (fun _ s₄ => wpAny M A (execs rest env) Q E s₄) E s₃) E s₂) E s₁) E s)
    (hs : swapsWith value (some (.Subscript o i pos')) pos.line env = pure false) : wpAny M A (execs (.Assign [.Subscript o i pos'] value pos :: rest) env) Q E s :=
  wpAny_execs_cons (wpAny_Assign_Subscript h hs)
theorem zny {M : Model} {op : Operator} {value : Expr} {rest : List Stmt} {Q : Flow → Shared → Prop}
    (h : wpAny M A (loadName env x) (fun old s₁ => wpAny M A (eval value env) (fun v s₂ => wpAny M A (inplaceOp op old v) (fun r s₃ => wpAny M A (storeName env x r) (fun _ s₄ => wpAny M A (execs rest env) Q E s₄) E s₃) E s₂) E s₁) E s) :
    wpAny M A (execs (.AugAssign (.Name x pos') op value pos :: rest) env) Q E s := wpAny_execs_cons (wpAny_AugAssign_Name h)
theorem znt {M : Model} {i : Int} {Q : Value → Shared → Prop} (X : EnvOk env L fr kinds cl) (S : SS w G0 K g s ((L, .ns loc) :: ℓ)) (hk : (x, .local) ∈ kinds) (hv : (x, some (.int i)) ∈ loc) (k : Q (.int i (tokAt s.heap L x)) s) :
    wpAny M A (loadName env x) Q E s := by
  obtain ⟨m, hn, e1, e2⟩ := (S.at (.head _)).ns_val hv
  refine wpAny_loadName_local X.kind (X.kd _ _ hk) (X.locals.symm ▸ hn) e1 ?_
  rw [zi8 e2]; exact k
theorem za9 {M : Model} {e : Expr} {rest : List Stmt} {Q : Flow → Shared → Prop} (h : wpAny M A (eval e env) (fun v => Q (.ret v)) E s) : wpAny M A (execs (.Return (some e) pos :: rest) env) Q E s :=
  wpAny_execs_cons (wpAny_Return_some h)
theorem zcs {e : Expr} {rest : List Stmt} {Q : Flow → Shared → Prop} (hk : env.scope.kind = .function) (h : wpAny (model prog w) A (eval e env) (fun _ s₁ => wpAny (model prog w) A (execs rest env) Q E s₁) E s)
    (hs : swapsWith e none pos.line env = pure false) : wpAny (model prog w) A (execs (.Expr e pos :: rest) env) Q E s :=
  wpAny_execs_cons (wpAny_Expr_any h (by unfold interactive; rw [hk]; rfl) hs)
theorem zok {M : Model} {rest : List Stmt} {Q : Flow → Shared → Prop} (h : Q .brk s) : wpAny M A (execs (.Break pos :: rest) env) Q E s :=
  wpAny_execs_cons (fun _ _ _ => h)
theorem x_if {M : Model} {test : Expr} {body orelse rest : List Stmt} {Q : Flow → Shared → Prop}
    (h : wpAny M A (isTrue test env (eval test env)) (fun b s₂ => (b = true → wpAny M A (execs body env) (fun f s' => match f with | .next => wpAny M A (execs rest env) Q E s' | f => Q f s') E s₂) ∧
      (b = false → wpAny M A (execs orelse env) (fun f s' => match f with | .next => wpAny M A (execs rest env) Q E s' | f => Q f s') E s₂)) E s) :
    wpAny M A (execs (.If test body orelse pos :: rest) env) Q E s := by
  refine wpAny_execs_cons (wpAny_If (wpAny_mono h (fun b s₂ h₂ => ?_) fun _ _ x => x))
  cases b
  · exact h₂.2 rfl
  · exact h₂.1 rfl
theorem zcm {M : Model} {v : Value} {pv : V} {Q : Unit → Shared → Prop} (X : EnvOk env L fr kinds cl) (S : SS w G0 K g s ((L, .ns loc) :: ℓ)) (hk : (x, .local) ∈ kinds) (hv : V.of v = pv) (u : UpdL x pv loc loc')
    (k : ∀ s', SS w G0 K g s' ((L, .ns loc') :: ℓ) → Q () s') : wpAny M A (storeName env x v) Q E s := by
  subst hv
  obtain ⟨m, hn, nd, hl⟩ := (S.at (.head _)).ns_any
  refine wpAny_storeName_local (X.kd _ _ hk) (X.locals.symm ▸ hn) (fun h' hn' hs => k _ ?_) ?_
  · rw [X.locals] at hn' hs
    exact S.change .head hs (At.ns_store nd hl u hn')
  · rw [X.kind]; rfl
theorem za3 {M : Model} {i : Int} {t : Tok} {Q : Unit → Shared → Prop} (X : EnvOk env L fr kinds cl) (S : SS w G0 K g s ((L, .ns loc) :: ℓ)) (hk : (x, .local) ∈ kinds) (u : UpdL x (.int i) loc loc')
    (k : ∀ s', SS w G0 K g s' ((L, .ns loc') :: ℓ) → Q () s') : wpAny M A (storeName env x (.int i t)) Q E s := zcm X S hk rfl u k
theorem za5 {M : Model} {i : Addr} {Q : Unit → Shared → Prop} (X : EnvOk env L fr kinds cl) (S : SS w G0 K g s ((L, .ns loc) :: ℓ)) (hk : (x, .local) ∈ kinds) (u : UpdL x (.ref i) loc loc')
    (k : ∀ s', SS w G0 K g s' ((L, .ns loc') :: ℓ) → Q () s') : wpAny M A (storeName env x (.ref i)) Q E s := zcm X S hk rfl u k
theorem zef {M : Model} {i : Bool} {Q : Unit → Shared → Prop} (X : EnvOk env L fr kinds cl) (S : SS w G0 K g s ((L, .ns loc) :: ℓ)) (hk : (x, .local) ∈ kinds) (u : UpdL x (.bool i) loc loc')
    (k : ∀ s', SS w G0 K g s' ((L, .ns loc') :: ℓ) → Q () s') : wpAny M A (storeName env x (.bool i)) Q E s := zcm X S hk rfl u k
theorem zcj {M : Model} {i : Str} {t : Tok} {Q : Unit → Shared → Prop} (X : EnvOk env L fr kinds cl) (S : SS w G0 K g s ((L, .ns loc) :: ℓ)) (hk : (x, .local) ∈ kinds) (u : UpdL x (.str i) loc loc')
    (k : ∀ s', SS w G0 K g s' ((L, .ns loc') :: ℓ) → Q () s') : wpAny M A (storeName env x (.str i t)) Q E s := zcm X S hk rfl u k
theorem zbt {M : Model} {v : Value} {pv : V} {b : Addr} {v₀ : Option V} {Q : Unit → Shared → Prop} (X : EnvOk env L fr kinds cl) (S : SS w G0 K g s ℓ) (hk : (x, .cell) ∈ kinds) (hc : (x, b) ∈ cl) (hv : V.of v = pv) (u : Upd b (.cell v₀) (.cell (some pv)) ℓ ℓ')
    (k : ∀ s', SS w G0 K g s' ℓ' → Q () s') : wpAny M A (storeName env x v) Q E s := by
  obtain ⟨o, ho, y, hy, e⟩ := S.at u.mem
  refine wpAny_storeName_cell X.kind (X.kd _ _ hk) (X.cls _ _ hc) ⟨o, ho, hy⟩ fun h' hv' hs => k _ ?_
  obtain ⟨o', ho', hd'⟩ := hv'
  have := S.change (t := s.toks) u hs ⟨o', ho', some v, hd', by rw [← hv]; rfl⟩
  exact this
theorem zdt {ws : Array Value} {vs : List V} {i : Nat} {pv : V} (hm : ws.toList.map V.of = vs) (h : vs[i]? = some pv) : ∃ v, ws[i]? = some v ∧ V.of v = pv := by
  subst hm
  rw [List.getElem?_map] at h
  cases q : ws.toList[i]? with
  | none => rw [q] at h; cases h
  | some v => rw [q] at h; exact ⟨v, by rw [← Array.getElem?_toList]; exact q, Option.some.inj h⟩
theorem za4 {ws : Array Value} {vs : List V} (hm : ws.toList.map V.of = vs) : ws.size = vs.length := by subst hm; simp
noncomputable def IsL (w : World) (h : Heap) (a : Addr) (vs : List V) : Prop := ∃ ws : Array Value, h.IsList a ws ∧ ws.toList.map V.of = vs
noncomputable def IsT (w : World) (h : Heap) (a : Addr) (vs : List V) : Prop := ∃ ws : Array Value, IsTup h a ws ∧ ws.toList.map V.of = vs
theorem At.isL {h : Heap} {vs : List V} (x : At w h a (.list vs)) : IsL w h a vs := by
  obtain ⟨o, ho, ws, n, rfl, e⟩ := x; exact ⟨ws, ⟨_, ho, rfl, n, rfl⟩, e⟩
theorem At.isLr {h : Heap} {vs : List V} (x : At w h a (.rlist vs)) : IsL w h a vs := by
  obtain ⟨o, ho, hc, ws, n, hd, e⟩ := x; exact ⟨ws, ⟨_, ho, hc, n, hd⟩, e⟩
theorem At.isT {h : Heap} {vs : List V} (x : At w h a (.tup vs)) : IsT w h a vs := by
  obtain ⟨o, ho, ws, rfl, e⟩ := x; exact ⟨ws, ⟨_, ho, rfl, _, rfl⟩, e⟩
noncomputable def IsIdx (slice : Expr) : Prop := ∀ (b : Addr) (i : Int) (t : Tok), subscripted slice false (.ref b) (.int i t) = operate [.ref b, .int i t] (getItem (.ref b) (.int i t))
theorem zbi {cc : Const} {kk : Nat} {p : Pos} : IsIdx (.Constant cc kk p) := fun _ _ _ => by with_unfolding_all rfl
theorem zbm {x : Str} {p : Pos} : IsIdx (.Name x p) := fun _ _ _ => by with_unfolding_all rfl
theorem zl4 {l r : Expr} {o : Operator} {p : Pos} : IsIdx (.BinOp l o r p) := fun _ _ _ => by with_unfolding_all rfl
theorem znr {l : Expr} {o : UnaryOp} {p : Pos} : IsIdx (.UnaryOp o l p) := fun _ _ _ => by with_unfolding_all rfl
theorem zh4 {f : Expr} {as : List Expr} {ks : List Keyword} {p : Pos} : IsIdx (.Call f as ks p) := fun _ _ _ => by with_unfolding_all rfl
theorem zfr {vs : List V} {i : Int} {t : Tok} {pv : V} {value slice : Expr} {Q : Value → Shared → Prop} (hl : IsL w s.heap a vs) (h0 : 0 ≤ i) (hi : i < 2 ^ 63) (hx : vs[i.toNat]? = some pv) (hs : IsIdx slice) (k : ∀ v, V.of v = pv → Q v s) :
    wpAny (model prog w) A (subscriptTail value slice (.ref a) (.int i t)) Q E s := by
  obtain ⟨ws, hl, hm⟩ := hl
  obtain ⟨v, hv, e⟩ := zdt hm hx
  exact tail_any hl.typeIs slot_list_getitem.lookup (wpAny_getItem_list hl h0 hi hv (k v e)) (hs _ _ _)
theorem zmf {vs : List V} {i : Int} {t : Tok} {j : Nat} {pv : V} {value slice : Expr} {Q : Value → Shared → Prop} (hl : IsT w s.heap a vs) (h0 : -(2 ^ 63) ≤ i) (hi : i < 2 ^ 63) (hj : seqIndex? i vs.length = some j) (hx : vs[j]? = some pv) (hs : IsIdx slice) (k : ∀ v, V.of v = pv → Q v s) :
    wpAny (model prog w) A (subscriptTail value slice (.ref a) (.int i t)) Q E s := by
  obtain ⟨ws, hl, hm⟩ := hl
  obtain ⟨v, hv, e⟩ := zdt hm hx
  exact tail_any hl.typeIs slot_tuple_getitem.lookup (getItem_tuple hl h0 hi (by rw [za4 hm]; exact hj) hv (k v e)) (hs _ _ _)
set_option maxRecDepth 100000 in
theorem zhy {items : Array Value} {n : Nat} {k : Int} {t : Tok} {v : Value} {Q : Unit → Shared → Prop} (hl : s.heap.get? a = some (listOf items n))
    (h0 : 0 ≤ k) (hfit : k < 2 ^ 63) (hn : k < items.size)
    (hQ : ∀ h', h'.PlainList a (items.setIfInBounds k.toNat v) → Heap.SameBut a s.heap h' → Q () { s with heap := h' }) :
    wpAny (model prog w) A (setItem (.ref a) (.int k t) v) Q E s := by
  have hL : s.heap.IsList a items := ⟨_, hl, rfl, n, rfl⟩
  unfold setItem
  try with_reducible refine wpAny_holding ?_
  first | refine wpAny_bind (wpAny_pure ?_) | skip
  refine wpAny_bind (wpAny_sequenceKey hL.typeIs (by decide) ?_)
  refine wpAny_bind (wpAny_callSpecial?_slot (name := Str.ofString "__setitem__") hL.typeIs slot_list_setitem
    (wpAny_call_entry slot_list_setitem hL.typeIs entry_list_setitem ?_ (args_list_setitem _ _ _)))
  show wpAny _ _ (Builtin.List.listSubscript? (.int k t) >>= _) _ _ s
  refine wpAny_bind (wpAny_listSubscript_int (fitsIndex_of h0 hfit) ?_)
  clear hfit
  obtain ⟨j, rfl⟩ := Int.eq_ofNat_of_zero_le h0
  have hj : j < items.size := by omega
  show wpAny _ _ ((seqItemAt a j >>= fun r => pure (r.map (j, ·))) >>= _) _ _ s
  refine wpAny_bind (wpAny_bind (wpAny_seqItemAt hl rfl (wpAny_pure ?_)))
  rw [Array.getElem?_eq_getElem hj]
  show wpAny _ _ (setSeqItemAt a j v >>= _) _ _ s
  refine wpAny_bind (wpAny_setSeqItemAt hl rfl ?_)
  have e : Obj.mapSeq (·.setIfInBounds j v) (listOf items n) = listOf (items.setIfInBounds j v) n := by simp [Obj.mapSeq]
  have fin : (s.heap.update a (Obj.mapSeq (·.setIfInBounds j v))).PlainList a (items.setIfInBounds j v) :=
    ⟨n, by rw [Heap.get?_update_self _ hl (by rw [e]; rfl), e]⟩
  first
    | exact wpAny_bind (wpAny_pure (wpAny_pure ⟨.none, rfl, wpAny_pure (hQ _ fin (Heap.SameBut.update ..))⟩))
    | exact wpAny_pure ⟨.none, rfl, wpAny_pure (hQ _ fin (Heap.SameBut.update ..))⟩
theorem At.plain {h : Heap} {vs : List V} (x : At w h a (.list vs)) : ∃ ws : Array Value, h.PlainList a ws ∧ ws.toList.map V.of = vs := by
  obtain ⟨o, ho, ws, n, rfl, e⟩ := x; exact ⟨ws, ⟨n, ho⟩, e⟩
theorem At.of_plain {h : Heap} {ws : Array Value} {vs : List V} (x : h.PlainList a ws) (e : ws.toList.map V.of = vs) : At w h a (.list vs) := by
  obtain ⟨n, ho⟩ := x; exact ⟨_, ho, ws, n, rfl, e⟩
theorem zi1 {vs vs' : List V} {i : Int} {t : Tok} {v : Value} {pv : V} {Q : Unit → Shared → Prop} (S : SS w G0 K g s ℓ) (u : Upd a (.list vs) (.list vs') ℓ ℓ') (h0 : 0 ≤ i) (hi : i < 2 ^ 63) (hn : i < vs.length) (hv : V.of v = pv) (e : vs.set i.toNat pv = vs')
    (k : ∀ s', SS w G0 K g s' ℓ' → Q () s') : wpAny (model prog w) A (setItem (.ref a) (.int i t) v) Q E s := by
  obtain ⟨o, ho, ws, n, rfl, hm⟩ := S.at u.mem
  refine zhy ho h0 hi (by rw [za4 hm]; exact hn) fun h' hp hs => k _ ?_
  refine S.change (t := s.toks) u hs (At.of_plain hp ?_)
  rw [← e, ← hm, ← hv, Array.toList_setIfInBounds, List.map_set]
theorem zd9 {vs : List V} {v : Value} {pv : V} {Q : Value → Shared → Prop} (S : SS w G0 K g s ℓ) (u : Upd a (.list vs) (.list (vs ++ [pv])) ℓ ℓ') (hn : vs.length ≤ sizeLine) (hv : V.of v = pv)
    (k : ∀ s', SS w G0 K g s' ℓ' → Q .none s') : wpAny (model prog w) A (call (.builtin "list.append") [.ref a, v]) Q E s := by
  obtain ⟨ws, hp, hm⟩ := (S.at u.mem).plain
  refine wpAny_list_append_plain hp (fun h' hp' hs => k _ ?_) (by rw [za4 hm]; exact hn)
  refine S.change (t := s.toks) u hs (At.of_plain hp' ?_)
  rw [Array.toList_push, List.map_append, hm, ← hv]; rfl
theorem zcr {ns : List Int} {i : Int} {ti : Tok} {Q : Value → Shared → Prop} (S : SS w G0 K g s ℓ) (u : Upd a (.list (ns.map V.int)) (.list ((ns ++ [i]).map V.int)) ℓ ℓ') (hn : ns.length ≤ sizeLine)
    (k : ∀ s', SS w G0 K g s' ℓ' → Q .none s') : wpAny (model prog w) A (call (.builtin "list.append") [.ref a, .int i ti]) Q E s :=
  zd9 (vs := ns.map V.int) (pv := .int i) S (by rw [List.map_append] at u; exact u) (by rw [List.length_map]; exact hn) rfl k
end
end Mine
end
section
namespace Mine
open PySem PySem.W PySem.Calls PyProof.Rows
noncomputable abbrev NamesOk (names : List (Str × NameKind)) : Prop := (names.map Prod.fst).Nodup ∧ (∀ x ∈ names.map Prod.fst, (x == ("__debug__" : Str)) = false ∧ (x == ("__classdict__" : Str)) = false)
theorem za1 {names : List (Str × NameKind)} (nd : (names.map Prod.fst).Nodup) {x : Str} {k : NameKind} (h : (x, k) ∈ names) : names.lookup x = some k := by
  induction names with
  | nil => cases h
  | cons p r ih =>
    obtain ⟨y, q⟩ := p
    simp only [List.map_cons, List.nodup_cons] at nd
    rw [List.lookup_cons]
    rcases List.mem_cons.mp h with e | h
    · cases e; simp
    · have : (x == y) = false := by
        simp only [beq_eq_false_iff_ne]; intro e; exact nd.1 (e ▸ List.mem_map_of_mem (f := Prod.fst) h)
      rw [this]; exact ih nd.2 h
noncomputable def mkLoc : List Value → List (Str × NameKind) → Loc
  | v :: vs, p :: ps => (p.1, some (V.of v)) :: mkLoc vs ps
  | [], p :: ps => (p.1, none) :: mkLoc [] ps
  | _, [] => []
noncomputable def bindsOf (names : List (Str × NameKind)) (vals : List Value) : List (Str × Value) := (names.map Prod.fst).zip vals
theorem zgd : ∀ (vals : List Value) (names : List (Str × NameKind)), (mkLoc vals names).map Prod.fst = names.map Prod.fst
  | _ :: vs, p :: ps => by simp [mkLoc, zgd vs ps]
  | [], p :: ps => by simp [mkLoc, zgd [] ps]
  | [], [] => rfl
  | _ :: _, [] => rfl
theorem zgn : ∀ {vals : List Value} {names : List (Str × NameKind)} {x : Str} {pv : V}, (x, some pv) ∈ mkLoc vals names → ∃ v, (x, v) ∈ bindsOf names vals ∧ V.of v = pv
  | v :: vs, p :: ps, x, pv, h => by
    unfold mkLoc at h
    rcases List.mem_cons.mp h with e | h
    · cases e; exact ⟨v, .head _, rfl⟩
    · obtain ⟨u, hu, e⟩ := zgn h
      exact ⟨u, .tail _ hu, e⟩
  | [], p :: ps, x, pv, h => by
    unfold mkLoc at h
    rcases List.mem_cons.mp h with e | h
    · cases e
    · obtain ⟨u, hu, e⟩ := zgn h
      simp [bindsOf] at hu
  | [], [], x, pv, h => by cases h
  | _ :: _, [], x, pv, h => by cases h
theorem zew : ∀ (names : List (Str × NameKind)) (vals : List Value), ((bindsOf names vals).map Prod.fst).Sublist (names.map Prod.fst)
  | [], vals => by cases vals <;> exact List.Sublist.refl _
  | p :: ps, [] => by exact List.nil_sublist _
  | p :: ps, v :: vs => by
    show (p.1 :: (bindsOf ps vs).map Prod.fst).Sublist (p.1 :: ps.map Prod.fst)
    exact (zew ps vs).cons_cons _
theorem zez : ∀ {names : List (Str × NameKind)} {vals : List Value} {p : Str × Value}, p ∈ bindsOf names vals → ∃ q ∈ names.take vals.length, q.1 = p.1
  | [], vals, p, h => by cases vals <;> cases h
  | q :: ps, [], p, h => by cases h
  | q :: ps, v :: vs, p, h => by
    rcases List.mem_cons.mp h with e | h
    · exact ⟨q, .head _, by rw [e]⟩
    · obtain ⟨r, hr, e⟩ := zez (names := ps) (vals := vs) h
      exact ⟨r, .tail _ hr, e⟩
theorem zfm {binds : List (Str × Value)} (nd : (binds.map Prod.fst).Nodup) {x : Str} {v : Value} (h : (x, v) ∈ binds) : binds.reverse.lookup x = some v := by
  have nd' : ((binds.reverse).map Prod.fst).Nodup := ((List.reverse_perm binds).map Prod.fst).nodup_iff.mpr nd
  have h' : (x, v) ∈ binds.reverse := List.mem_reverse.mpr h
  clear h nd
  generalize binds.reverse = bb at nd' h'
  induction bb with
  | nil => cases h'
  | cons p r ih =>
    obtain ⟨y, q⟩ := p
    simp only [List.map_cons, List.nodup_cons] at nd'
    rw [List.lookup_cons]
    rcases List.mem_cons.mp h' with e | h
    · cases e; simp
    · have : (x == y) = false := by
        simp only [beq_eq_false_iff_ne]; intro e; exact nd'.1 (e ▸ List.mem_map_of_mem (f := Prod.fst) h)
      rw [this]; exact ih nd'.2 h
section
variable {prog : Program} {w : World} {G0 : Heap} {K : Kon} {g g' : PH} {s s' : Shared} {ℓ ℓ' ρ cells : Led} {a L : Addr} {A : Around} {Φ : List Addr} {R : Result → Shared → Prop}
theorem zan {KF : Frag} {oc : Value} {od : Option Addr} {osl : Array (Option Value)} {name qual : Str} {params : Arguments} {body : List Stmt} {names : List (Str × NameKind)} {more : List (Str × Const)} {dV kV doc pm cdv ct : Value} {an : Option Addr} {args : Args} {vals : List Value}
    (I : Inv w G0 Φ g s.heap cells) (X : KF.In G0) (hlim : G0.NoLimit) (hroom : A.depth < recursionLimit)
    (ho : KF.lookup a = some ⟨oc, od, .func { name := name, qualname := qual, params := params, body := .stmts body, scope := { kind := .function, names := names, isGenerator := false, isCoroutine := false, more := more }, globals := mainGlobals, closure := [], defaults := dV, kwdefaults := kV, doc := doc, pyModule := pm, annotations := an, code := cdv, closureTuple := ct, builtins := builtinsNs }, osl⟩)
    (hcd : codeIn KF cdv qual = true)
    (hbind : BindsTo s { name := name, qualname := qual, params := params, body := .stmts body, scope := { kind := .function, names := names, isGenerator := false, isCoroutine := false, more := more }, globals := mainGlobals, closure := [], defaults := dV, kwdefaults := kV, doc := doc, pyModule := pm, annotations := an, code := cdv, closureTuple := ct, builtins := builtinsNs } args (bindsOf names vals))
    (hnm : NamesOk names) (hcell : ∀ x ∈ names, x.2 ≠ .cell) (hloc : (names.take vals.length).all (fun p => p.2 == .local) = true)
    (k : ∀ env L s₁, EnvOk env L (some L) names [] → SS w G0 ⟨Φ, s, g, cells.map Prod.fst⟩ g s₁ ((L, .ns (mkLoc vals names)) :: cells) →
      ∀ (Q : Flow → Shared → Prop) (E : Value → Shared → Prop), (∀ v s', R (.ok (.ret v)) s' → Q (.ret v) s') → (∀ s', R (.ok (.ret .none)) s' → Q .next s') →
        (∀ e s', wpAny (model prog w) (A.deeper env) (leaving env e) (fun _ s'' => R (.error e) s'') (fun e' s'' => R (.error e') s'') s' → E e s') → PassesOwn (model prog w) (A.deeper env) env E →
        wpAny (model prog w) (A.deeper env) (execs body env) Q E s₁) :
    codeAny (model prog w) A (.call (.ref a) args) R s := by
  have ho' := I.stat _ _ (X _ _ ho)
  have ndB : ((bindsOf names vals).map Prod.fst).Nodup := hnm.1.sublist (zew _ _)
  refine codeAny_call_def (binds := bindsOf names vals) (body := body) hroom ho' rfl (hlim.keeps I.stat) ((codeRec_of X hcd).keeps I.stat) rfl hbind hcell ?_ ?_ rfl rfl rfl
  · intro p hp
    obtain ⟨q, hq, e⟩ := zez hp
    have hl := List.all_eq_true.mp hloc q hq
    show names.lookup p.1 = some .local
    rw [← e]
    have : (q.1, NameKind.local) ∈ names := by
      have h2 : q.2 = .local := by simpa using hl
      rw [← h2]; exact List.mem_of_mem_take hq
    exact za1 hnm.1 this
  · intro h₁ hns hk
    refine k _ s.heap.objs.size _ ?h0 ?h1 _ _ (fun _ _ h => h) (fun _ h => h) (fun _ _ h => h) (by passes_own)
    case h0 => exact ⟨rfl, rfl, rfl, rfl, fun x kk hm => za1 hnm.1 hm, fun x kk hm => hnm.2 _ (List.mem_map_of_mem (f := Prod.fst) hm), fun x c hm => (nomatch hm), rfl⟩
    refine ⟨?_, Same.upd _ _ _⟩
    refine St.add I.start (zay _) hk (At.of_ns hns (by rw [zgd]; exact hnm.1) fun x pv hm => ?_)
    obtain ⟨v, hv, e⟩ := zgn hm
    exact ⟨v, zfm ndB hv, e⟩
end
end Mine
end
section
namespace Mine
open PySem PySem.W PySem.Calls PyProof.Rows
structure EX where
  nm : Str
  q : Str
  N : Addr
  bs : List Value
  bm : List Value
  hdct : Bool
  sn : List Str
  sub : List Value
  ab : Bool
  col : Option Bool
  dd : Option Addr
  k0 : Option Value
  k1 : Option Value
  k2 : Option Value
  k3 : Option Value
  k5 : Option Value
noncomputable abbrev EX.obj (x : EX) (C : Addr) : Obj := excClassObj x.nm x.q C x.N x.bs x.bm x.hdct x.sn x.sub x.ab x.col x.dd x.k0 x.k1 x.k2 x.k3 x.k5 "ValueError.__new__"
section
variable {prog : Program} {w : World} {A : Around} {E : Value → Shared → Prop} {h : Heap} {g : Array GenState} {d : Drawn} {t : Nat} {os : OsState}
variable {ex : EX} {C : Addr} {bmB : List Value} {B initId : String}
theorem znm {R : Result → Shared → Prop} (F : ExcBaseFacts B "ValueError.__new__" initId bmB) (hB : ex.bm.contains (.type B) = true) (hA : ex.bm.contains (.type "AttributeError") = false) (hN : ex.bm.contains (.type "NameError") = false) {rest : List Value}
    (hC : h.get? C = some (ex.obj C))
    (hq : R (.ok (.ret (.ref (h.objs.size + 1)))) ⟨(h.push { cls := .type "tuple", data := .seq rest.toArray }).push
      { cls := .ref C, data := .fields #[.ref h.objs.size, .none, .none, .none, .bool false, .none] }, g, d, t, os⟩) (hrest : rest.length ≤ sizeLine) :
    codeAny (model prog w) A (.builtin "ValueError.__new__" ⟨.ref C :: rest, []⟩) R ⟨h, g, d, t, os⟩ := by
  have hends := F.ends
  have hcB : (Value.ref C :: ex.bm).contains (.type B) = true := by rw [List.contains_cons, hB, Bool.or_true]
  have hcA : (Value.ref C :: ex.bm).contains (.type "AttributeError") = false := by rw [List.contains_cons, hA]; rfl
  have hcN : (Value.ref C :: ex.bm).contains (.type "NameError") = false := by rw [List.contains_cons, hN]; rfl
  refine codeAny_builtinAt F.entry ?_
  unfold Builtin.«BaseException.__new__»
  refine PySem.wpAt_bind ?_
  show PySem.wpAt _ _ _ (stack >>= _) _ _ _
  refine PySem.wpAt_bind (PySem.wpAt_stack fun p below => PySem.wpAt_of_wpAny ?_)
  wp_walk
  refine PySem.wpAt_of_wpAny ?_
  rw [F.owner]
  repeat (first | with_reducible refine wpAny_madeHere_exc F.canon hC ?_ | with_reducible refine wpAny_loadPart_at hC ?_ | (with_reducible refine wpAny_isSubtype_exc hC ?_; first | rw [hcB] | rw [hcA] | rw [hcN]) | wp_step)
  show R _ _
  rw [Heap.size_push]
  exact hq
theorem zhz (F : ExcBaseFacts B "ValueError.__new__" initId bmB) (hB : ex.bm.contains (.type B) = true) (hA : ex.bm.contains (.type "AttributeError") = false) (hN : ex.bm.contains (.type "NameError") = false) {rest : List Value} {fI : Addr} {oI : Obj} {Q : Fin → Shared → Prop}
    (hC : h.get? C = some (ex.obj C)) (hck : Looks (model prog w) h (checkBuiltinCall "ValueError.__new__" ⟨.ref C :: rest, []⟩) ()) (hi : Looks (model prog w) h (typeLookup (.ref C) "__init__") (some (.ref fI)))
    (hfI : h.get? fI = some oI) (hfc : oI.cls = .type "function")
    (hq : ∀ h' e, Heap.MadeExcOf h h' e (.ref C) rest →
      wpAny (model prog w) A (call (.ref fI) (.ref e :: rest)) (fun r s' => r = .none ∧ Q (.done (.ret (.ref e))) s') E ⟨h', g, d, t, os⟩) (hrest : rest.length ≤ sizeLine) :
    wpAny (model prog w) A (Builtin.«type.__call__» ⟨.ref C :: rest, []⟩) Q E ⟨h, g, d, t, os⟩ := by
  repeat (first | with_reducible refine wpAny_loadPart_at hC ?_ | with_reducible refine wpAny_madeBy_exc hC ?_ | wp_step)
  refine codeAny_call_builtin_code (Code.quiet_builtin _ F.quiet) (hck.at ?_)
  refine znm F hB hA hN hC ?_ hrest
  show wpAny _ _ _ _ _ _
  have keep : ∀ b o, h.get? b = some o → ((h.push { cls := .type "tuple", data := .seq rest.toArray }).push { cls := .ref C, data := .fields #[.ref h.objs.size, .none, .none, .none, .bool false, .none] }).get? b = some o :=
    fun b o e => Heap.get?_push_of_some _ (Heap.get?_push_of_some _ e)
  have hC₁ := keep _ _ hC
  have hfI₁ := keep _ _ hfI
  have hget : ((h.push { cls := .type "tuple", data := .seq rest.toArray }).push
      { cls := .ref C, data := .fields #[.ref h.objs.size, .none, .none, .none, .bool false, .none] }).get? (h.objs.size + 1) = some
      { cls := .ref C, data := .fields #[.ref h.objs.size, .none, .none, .none, .bool false, .none] } := by heap_get
  have hcC : (Value.ref C :: ex.bm).contains (.ref C) = true := by simp
  unfold isInstance
  repeat (first | with_reducible refine wpAny_loadPart_at hget ?_ | (with_reducible refine wpAny_isSubtype_exc hC₁ ?_; rw [hcC]) | wp_step)
  show wpAny _ _ (typeLookup (.ref C) _) _ _ _
  refine (hi.keeps keep).here ?_
  refine wpAny_holding (wpAny_bind ?_)
  unfold bindSpecial
  refine wpAny_bind (wpAny_typeOf (T := "function") ⟨_, hfI₁, hfc⟩ ?_)
  rw [if_pos (by decide)]
  refine wpAny_pure (wpAny_bind (wpAny_mono (hq _ (h.objs.size + 1) ⟨keep, Heap.get?_none_of_le (Nat.le_succ _), h.objs.size, hget, Heap.get?_none_of_le (Nat.le_refl _), ?_⟩) (fun r s' hr => ?_) fun _ _ x => x))
  · exact Heap.get?_push_of_some _ (Heap.get?_push_at rfl rfl)
  · obtain ⟨rfl, hQ⟩ := hr
    wp_walk
    exact hQ
theorem zmy (F : ExcBaseFacts B "ValueError.__new__" initId bmB) (hB : ex.bm.contains (.type B) = true) (hA : ex.bm.contains (.type "AttributeError") = false) (hN : ex.bm.contains (.type "NameError") = false) {rest : List Value} {fI : Addr} {oI : Obj} {Q : Value → Shared → Prop}
    (hC : h.get? C = some (ex.obj C)) (hck : Looks (model prog w) h (checkBuiltinCall "ValueError.__new__" ⟨.ref C :: rest, []⟩) ()) (hi : Looks (model prog w) h (typeLookup (.ref C) "__init__") (some (.ref fI)))
    (hfI : h.get? fI = some oI) (hfc : oI.cls = .type "function")
    (hq : ∀ h' e, Heap.MadeExcOf h h' e (.ref C) rest →
      wpAny (model prog w) (A.under (.builtin "type.__call__" ⟨.ref C :: rest, []⟩)) (call (.ref fI) (.ref e :: rest)) (fun r s' => r = .none ∧ Q (.ref e) s') E ⟨h', g, d, t, os⟩) (hrest : rest.length ≤ sizeLine) :
    wpAny (model prog w) A (call (.ref C) rest) Q E ⟨h, g, d, t, os⟩ := by
  have f1 := tc_lookup
  have f2 := tc_bind (.ref C)
  have hT : (⟨h, g, d, t, os⟩ : Shared).TypeIs (.ref C) "type" := ⟨_, hC, rfl⟩
  refine wpAny_call (codeAny_of_tree ?_)
  show wpAny _ _ (callAny (.ref C) _) _ _ _
  repeat (any_goals (first | assumption | with_reducible refine wpAny_loadPart_at hC ?_ | wp_step))
  refine ⟨rfl, ?_⟩
  refine codeAny_call_builtin_at (Code.quiet_builtin _ (by decide +kernel)) entry_typeCall (wpAny_check_type_call_sub hC (zhz (hrest := hrest) F hB hA hN hC hck hi hfI hfc fun h' e hm => ?_))
  exact hq h' e hm
theorem zlo {M : Model} {env : Env} {s : Shared} {x : Sem Value} {Q : Flow → Shared → Prop} (hbase : ex.bm.contains (.type "BaseException") = true) (hh : A.handled = none)
    (hx : wpAny M A x (fun v s₁ => ∃ e t dx, v = .ref e ∧ s₁.heap.get? C = some (ex.obj C) ∧
      s₁.heap.get? e = some { cls := .ref C, dict := dx, data := .fields #[.ref t, .none, .none, .none, .bool false, .none] } ∧ E (.ref e) s₁) E s) :
    wpAny M A (raiseStmt env (some x) none) Q E s := by
  have hcB : (Value.ref C :: ex.bm).contains (.type "BaseException") = true := by rw [List.contains_cons, hbase, Bool.or_true]
  unfold raiseStmt
  refine wpAny_bind (wpAny_mono hx (fun v s₁ h₁ => ?_) fun _ _ x => x)
  obtain ⟨e, t, dx, rfl, hC, he, hE⟩ := h₁
  obtain ⟨hp, g, d, tk, os⟩ := s₁
  repeat (first | with_reducible refine wpAny_loadPart_at he ?_ | with_reducible refine wpAny_loadPart_at hC ?_ | (with_reducible refine wpAny_isSubtype_exc hC ?_; rw [hcB]) | wp_step)
  exact wpAny_raiseNew_none hh hE
end
end Mine
end
section
namespace Mine
open PySem PySem.W PySem.Calls PyProof.Rows PySem.Builtin PySem.Builtin.ObjectAttr
section
variable {prog : Program} {w : World} {A : Around} {E : Value → Shared → Prop} {s : Shared} {KF : Frag} {x C : Addr} {ox : Obj} {od : Option Obj} {name : Str} {v : Value}
theorem zfx {Q : Unit → Shared → Prop} {mro : List Value} {cd : ClassData} (X : KF.In s.heap) (I : InstAt s.heap x ox C od)
    (hs : findIn KF (.ref C) "__setattr__" = some (some (.builtin "object.__setattr__"))) (hc : clsIn KF C = some cd) (hm : cd.mro = mro) (hobj : mroIn KF C (.type "object") = some true)
    (hrf : refuseLoop (.ref x) "__setattr__" mro = pure ()) (ha : findIn KF (.ref C) name = some none)
    (h : ∀ tk (Q' : Fin → Shared → Prop), (∀ v s', Q () s' → Q' (.done (.ret v)) s') → wpAny (model prog w) A.in1 (storeInOwnDict (.ref x) (.ref C) (.str name tk) name v false) Q' (fun e s' => E e s') { s with toks := s.toks + 1 }) :
    wpAny (model prog w) A (setAttr (.ref x) name v) Q E s := by
  refine set_plain X I hs ?_
  have SF := PySem.F.store_object
  have sub : Looks (model prog w) s.heap (isInstance (.ref x) (.type "object")) true := I.type.andThen (looks_mroIn X hobj)
  have sub' : Looks (model prog w) ({ s with toks := s.toks + 1 } : Shared).heap (isInstance (.ref x) (.type "object")) true := sub
  refine codeAny_call_builtin SF.slot.plain SF.entry (@check_slot (model prog w) _ _ _ "object.__setattr__" "object" "__setattr__" (.ref x) [.str name s.toks, v] [] _ SF.kind SF.split sub' (SF.args (.ref x) (.str name s.toks) v) ?_)
  have hml : Looks (model prog w) ({ s with toks := s.toks + 1 } : Shared).heap (mroOf (.ref C)) mro := hm ▸ (looks_clsIn (M := model prog w) X hc).andThen .now
  have T : Looks (model prog w) ({ s with toks := s.toks + 1 } : Shared).heap (typeOf (.ref x)) (.ref C) := I.type
  have La : Looks (model prog w) ({ s with toks := s.toks + 1 } : Shared).heap (typeLookup (.ref C) name) none := looks_findIn X ha
  rw [osa_eq, refuse_eq]
  refine wpAny_bind (wpAny_bind (T.here (wpAny_bind (hml.here ?_))))
  rw [hrf]
  refine wpAny_pure (wpAny_bind (T.here (wpAny_bind (La.here (wpAny_bind (wpAny_pure ?_))))))
  exact h s.toks _ fun _ _ h => h
theorem zjy {Q : Unit → Shared → Prop} {mro : List Value} {cd : ClassData} (X : KF.In s.heap) (I : InstAt s.heap x ox C none) (hd : ox.dict = none) (hdata : ∀ c, ox.data ≠ .cls c) (hfree : ox.isFreed = false)
    (hs : findIn KF (.ref C) "__setattr__" = some (some (.builtin "object.__setattr__"))) (hc : clsIn KF C = some cd) (hm : cd.mro = mro) (hobj : mroIn KF C (.type "object") = some true)
    (hrf : refuseLoop (.ref x) "__setattr__" mro = pure ()) (ha : findIn KF (.ref C) name = some none) (hdict : cd.hasDict = true)
    (k : ∀ h' d tk, h'.get? x = some { ox with dict := some d } → s.heap.get? d = none → (∀ b o, b ≠ x → s.heap.get? b = some o → h'.get? b = some o) → (∀ b, h'.get? b = none → s.heap.get? b = none) → Q () { s with heap := h', toks := tk }) :
    wpAny (model prog w) A (setAttr (.ref x) name v) Q E s := by
  refine zfx X I hs hc hm hobj hrf ha fun tk Q' hQ' => ?_
  obtain ⟨hx, hcl, hn, -⟩ := I
  have hcd : Looks (model prog w) ({ s with toks := s.toks + 1 } : Shared).heap (classData C) cd := looks_clsIn X hc
  unfold storeInOwnDict
  refine wpAny_bind (wpAny_pure ?_)
  have e1 : (Value.ref C == Value.type "module") = false := rfl
  simp only [e1, Bool.false_eq_true, if_false]
  refine wpAny_bind ?_
  show wpAny _ _ (instanceDict x true) _ _ _
  unfold instanceDict
  have hx' : ({ s with toks := s.toks + 1 } : Shared).heap.get? x = some ox := hx
  refine wpAny_bind (wpAny_loadPart hx' ?_)
  rw [hcl]
  dsimp only
  refine wpAny_bind (hcd.here ?_)
  rw [hdict, hd]
  simp only [Bool.not_true, Bool.false_eq_true, if_false, typeHasDict, Bool.or_self]
  refine wpAny_bind (wpAny_alloc ?_)
  have hlt : x < s.heap.objs.size := Heap.lt_size hx
  have hxp : (s.heap.push { cls := .type "dict", data := .dict #[] }).get? x = some ox := Heap.get?_push_of_some _ hx
  have hfr : ({ ox with dict := some s.heap.objs.size } : Obj).isFreed = false := by
    obtain ⟨c, dd, dt, sl⟩ := ox; cases dt <;> first | rfl | exact hfree
  have hx2 : ((s.heap.push { cls := .type "dict", data := .dict #[] }).update x fun o => { o with dict := some s.heap.objs.size }).get? x = some { ox with dict := some s.heap.objs.size } :=
    Heap.get?_update_self _ hxp hfr
  have hns : ((s.heap.push { cls := .type "dict", data := .dict #[] }).update x fun o => { o with dict := some s.heap.objs.size }).Ns s.heap.objs.size fun _ => none :=
    (Heap.Ns.new s.heap (.type "dict")).sameBut (Heap.SameBut.update ..) (Nat.ne_of_gt hlt)
  refine wpAny_bind (wpAny_update hxp ?_)
  show wpAny _ _ (dictMade (.ref C) x s.heap.objs.size) _ _ _
  refine wpAny_bind (wpAny_pure (wpAny_pure ?_))
  show wpAny _ _ (storeInDict s.heap.objs.size (.str name tk) name v) _ _ _
  unfold storeInDict
  refine wpAny_bind (wpAny_pure (wpAny_bind (wpAny_nsSet1 (Heap.Ns1.of_empty hns) fun h' hn' hs' => ?_)))
  obtain ⟨oD, esD, epD, hoD, hdD, hcD⟩ := hn'.count (Within.cons name v Within.nil)
  refine wpAny_bind (wpAny_lookBehind hoD (by rw [hdD]; exact pastItsLine_dict (Nat.le_trans hcD (by rw [List.length_cons, List.length_nil, sizeLine_eq]; omega))) ?_)
  have hxn : x ≠ s.heap.objs.size := Nat.ne_of_lt hlt
  have old : ∀ b o, b ≠ x → s.heap.get? b = some o → h'.get? b = some o := fun b o hb e =>
    (hs'.2 b (Nat.ne_of_lt (Heap.lt_size e))).trans ((Heap.get?_update_other _ _ (Ne.symm hb)).trans (Heap.get?_push_of_some _ e))
  have hx3 := (hs'.2 x hxn).trans hx2
  refine wpAny_pure (hQ' _ _ (k h' s.heap.objs.size _ hx3 (zay _) old fun b e => ?_))
  cases q : s.heap.get? b with
  | none => rfl
  | some o =>
    by_cases hb : b = x
    · subst hb; rw [hx3] at e; cases e
    · rw [old b o hb q] at e; cases e
end
end Mine
end
section
namespace Mine
open PySem PySem.W PySem.Calls PyProof.Rows
noncomputable abbrev rr : OpenLaw := PySem.Challenge.rw_rg0153_01
noncomputable def nthS : List Stmt → Nat → Stmt
  | [], _ => .Pass default
  | s :: _, 0 => s
  | _ :: r, n + 1 => nthS r n
noncomputable def df (i : Nat) : Stmt := nthS PySem.Challenge.rw_rg0153_01.prog.main.body i
noncomputable def dm (i j : Nat) : Stmt := match df i with
  | .ClassDef _ _ _ b _ _ _ _ _ _ _ => nthS b j
  | _ => .Pass default
noncomputable def fd (d : Stmt) (qual : Str) (gl : Addr) (cl : List (Str × Addr)) (dV kV doc pm : Value) (an : Option Addr) (cd ct : Value) (bl : Addr) : FuncData := match d with
  | .FunctionDef n a b _ _ _ sc _ _ _ => { name := n, qualname := qual, params := a, body := .stmts b, scope := sc, globals := gl, closure := cl, defaults := dV, kwdefaults := kV, doc := doc, pyModule := pm, annotations := an, code := cd, closureTuple := ct, builtins := bl }
  | _ => default
noncomputable def hp : Params → Frag := fun P =>
  (nat_lit 2, (Obj.mk Value.none none (Data.dict #[] 0) #[])) ::
  (nat_lit 3, (Obj.mk (Value.type "dict") none (Data.dict #[(DictEntry.mk (PyData.keyHash P "__name__") (Value.str "__name__" 165) (Value.str "law_rg0153_01" 441)), (DictEntry.mk (PyData.keyHash P "__doc__") (Value.str "__doc__" 166) Value.none), (DictEntry.mk (PyData.keyHash P "__package__") (Value.str "__package__" 167) Value.none), (DictEntry.mk (PyData.keyHash P "__loader__") (Value.str "__loader__" 168) (Value.builtin "__main__.__loader__#opaque")), (DictEntry.mk (PyData.keyHash P "__spec__") (Value.str "__spec__" 169) Value.none), (DictEntry.mk (PyData.keyHash P "__annotations__") (Value.str "__annotations__" 170) (Value.ref 6)), (DictEntry.mk (PyData.keyHash P "__builtins__") (Value.str "__builtins__" 171) (Value.ref 4)), (DictEntry.mk (PyData.keyHash P "__file__") (Value.str "__file__" 173) (Value.str "/claim/cut.py" 172)), (DictEntry.mk (PyData.keyHash P "__cached__") (Value.str "__cached__" 174) Value.none), (DictEntry.mk (PyData.keyHash P "PageError") (Value.str "PageError" 216) (Value.ref 32)), (DictEntry.mk (PyData.keyHash P "BadArgument") (Value.str "BadArgument" 232) (Value.ref 45)), (DictEntry.mk (PyData.keyHash P "BadPattern") (Value.str "BadPattern" 248) (Value.ref 57)), (DictEntry.mk (PyData.keyHash P "is_whole") (Value.str "is_whole" 259) (Value.ref 66)), (DictEntry.mk (PyData.keyHash P "check_whole") (Value.str "check_whole" 266) (Value.ref 73)), (DictEntry.mk (PyData.keyHash P "LONGEST") (Value.str "LONGEST" 270) (Value.int 63 269)), (DictEntry.mk (PyData.keyHash P "EDGE") (Value.str "EDGE" 272) (Value.int 0 271)), (DictEntry.mk (PyData.keyHash P "is_word") (Value.str "is_word" 280) (Value.ref 80)), (DictEntry.mk (PyData.keyHash P "inner_letters") (Value.str "inner_letters" 289) (Value.ref 87)), (DictEntry.mk (PyData.keyHash P "check_pattern") (Value.str "check_pattern" 299) (Value.ref 94)), (DictEntry.mk (PyData.keyHash P "word_key") (Value.str "word_key" 308) (Value.ref 101)), (DictEntry.mk (PyData.keyHash P "least_part") (Value.str "least_part" 315) (Value.ref 108)), (DictEntry.mk (PyData.keyHash P "read_pattern") (Value.str "read_pattern" 327) (Value.ref 115)), (DictEntry.mk (PyData.keyHash P "read_exception") (Value.str "read_exception" 337) (Value.ref 122)), (DictEntry.mk (PyData.keyHash P "Patterns") (Value.str "Patterns" 440) (Value.ref 185)), (DictEntry.mk (PyData.keyHash P "_law_box") (Value.str "_law_box" 450) (Value.ref 196)), (DictEntry.mk (PyData.keyHash P "_law_take") (Value.str "_law_take" 459) (Value.ref 203)), (DictEntry.mk (PyData.keyHash P "_law_letter") (Value.str "_law_letter" 467) (Value.ref 210)), (DictEntry.mk (PyData.keyHash P "_law_form") (Value.str "_law_form" 473) (Value.ref 215)), (DictEntry.mk (PyData.keyHash P "_law_written") (Value.str "_law_written" 484) (Value.ref 222)), (DictEntry.mk (PyData.keyHash P "_law_said") (Value.str "_law_said" 491) (Value.ref 229)), (DictEntry.mk (PyData.keyHash P "_law_filled") (Value.str "_law_filled" 497) (Value.ref 234)), (DictEntry.mk (PyData.keyHash P "_law_word") (Value.str "_law_word" 503) (Value.ref 239)), (DictEntry.mk (PyData.keyHash P "_law_put") (Value.str "_law_put" 509) (Value.ref 244)), (DictEntry.mk (PyData.keyHash P "_law_tops") (Value.str "_law_tops" 515) (Value.ref 249)), (DictEntry.mk (PyData.keyHash P "_law_due") (Value.str "_law_due" 521) (Value.ref 254)), (DictEntry.mk (PyData.keyHash P "_law_refused") (Value.str "_law_refused" 527) (Value.ref 259)), (DictEntry.mk (PyData.keyHash P "_law_side") (Value.str "_law_side" 534) (Value.ref 266)), (DictEntry.mk (PyData.keyHash P "_law_round") (Value.str "_law_round" 540) (Value.ref 271)), (DictEntry.mk (PyData.keyHash P "law") (Value.str "law" 549) (Value.ref 278))] 39) #[])) ::
  (nat_lit 15, (Obj.mk (Value.type "tuple") none (Data.seq #[(Value.type "ValueError")] 0) #[])) ::
  (nat_lit 22, (Obj.mk (Value.type "tuple") none (Data.seq #[(Value.str "" 201)] 0) #[])) ::
  (nat_lit 23, (Obj.mk (Value.type "tuple") none (Data.seq #[] 0) #[])) ::
  (nat_lit 25, (Obj.mk (Value.type "tuple") none (Data.seq #[(Value.str "self" 205), (Value.str "reason" 206)] 0) #[])) ::
  (nat_lit 26, (Obj.mk (Value.type "tuple") none (Data.seq #[] 0) #[])) ::
  (nat_lit 28, (Obj.mk (Value.type "code") none (Data.fields #[(Value.str "__init__" 202), (Value.str "PageError.__init__" 203), (Value.str "/claim/cut.py" 204), (Value.int 4 0), (Value.int 2 0), (Value.int 0 0), (Value.int 0 0), (Value.int 3 0), (Value.ref 23), (Value.bool true), (Value.int 181 0), (Value.ref 24), Value.none, (Value.ref 25), (Value.ref 26), (Value.ref 27), (Value.int 207 0), (Value.int 4 0), (Value.str "/claim/cut.py" 208)]) #[])) ::
  (nat_lit 29, (Obj.mk (Value.type "function") none (Data.func (fd (dm 1 0) "PageError.__init__" 3 [] (Value.ref 22) Value.none Value.none (Value.str "gluepage.errors" 187) none (Value.ref 28) Value.none 0)) #[])) ::
  (nat_lit 30, (Obj.mk (Value.type "tuple") none (Data.seq #[(Value.str "reason" 210)] 0) #[])) ::
  (nat_lit 31, (Obj.mk (Value.type "dict") none (Data.dict #[(DictEntry.mk (PyData.keyHash P "__module__") (Value.str "__module__" 196) (Value.str "gluepage.errors" 187)), (DictEntry.mk (PyData.keyHash P "__firstlineno__") (Value.str "__firstlineno__" 200) (Value.int 2 199)), (DictEntry.mk (PyData.keyHash P "__init__") (Value.str "__init__" 209) (Value.ref 29)), (DictEntry.mk (PyData.keyHash P "__static_attributes__") (Value.str "__static_attributes__" 211) (Value.ref 30)), (DictEntry.mk (PyData.keyHash P "__weakref__") (Value.str "__weakref__" 213) (Value.ref 33)), (DictEntry.mk (PyData.keyHash P "__doc__") (Value.str "__doc__" 214) Value.none)] 3) #[])) ::
  (nat_lit 32, (Obj.mk (Value.type "type") none (Data.cls (ClassData.mk "PageError" [(Value.type "ValueError")] [(Value.ref 32), (Value.type "ValueError"), (Value.type "Exception"), (Value.type "BaseException"), (Value.type "object")] 31 "PageError" true [] [(Value.ref 45), (Value.ref 57)] false none false)) #[(some (Value.ref 15)), none, (some (Value.str "PageError" 189)), (some (Value.str "PageError" 197)), (some (Value.builtin "ValueError.__new__")), (some (Value.bool true))])) ::
  (nat_lit 33, (Obj.mk (Value.type "getset_descriptor") none (Data.fields #[(Value.str "__weakref__" 212), (Value.ref 32), (Value.builtin "ExceptionGroup.__weakref__"), Value.none]) #[])) ::
  (nat_lit 36, (Obj.mk (Value.type "tuple") none (Data.seq #[(Value.ref 32)] 0) #[])) ::
  (nat_lit 43, (Obj.mk (Value.type "tuple") none (Data.seq #[] 0) #[])) ::
  (nat_lit 44, (Obj.mk (Value.type "dict") none (Data.dict #[(DictEntry.mk (PyData.keyHash P "__module__") (Value.str "__module__" 224) (Value.str "gluepage.errors" 187)), (DictEntry.mk (PyData.keyHash P "__firstlineno__") (Value.str "__firstlineno__" 228) (Value.int 6 227)), (DictEntry.mk (PyData.keyHash P "__static_attributes__") (Value.str "__static_attributes__" 229) (Value.ref 43)), (DictEntry.mk (PyData.keyHash P "__doc__") (Value.str "__doc__" 230) Value.none)] 2) #[])) ::
  (nat_lit 45, (Obj.mk (Value.type "type") none (Data.cls (ClassData.mk "BadArgument" [(Value.ref 32)] [(Value.ref 45), (Value.ref 32), (Value.type "ValueError"), (Value.type "Exception"), (Value.type "BaseException"), (Value.type "object")] 44 "BadArgument" true [] [] false none false)) #[(some (Value.ref 36)), none, (some (Value.str "BadArgument" 217)), (some (Value.str "BadArgument" 225)), (some (Value.builtin "ValueError.__new__")), (some (Value.bool true))])) ::
  (nat_lit 48, (Obj.mk (Value.type "tuple") none (Data.seq #[(Value.ref 32)] 0) #[])) ::
  (nat_lit 55, (Obj.mk (Value.type "tuple") none (Data.seq #[] 0) #[])) ::
  (nat_lit 56, (Obj.mk (Value.type "dict") none (Data.dict #[(DictEntry.mk (PyData.keyHash P "__module__") (Value.str "__module__" 240) (Value.str "gluepage.errors" 187)), (DictEntry.mk (PyData.keyHash P "__firstlineno__") (Value.str "__firstlineno__" 244) (Value.int 8 243)), (DictEntry.mk (PyData.keyHash P "__static_attributes__") (Value.str "__static_attributes__" 245) (Value.ref 55)), (DictEntry.mk (PyData.keyHash P "__doc__") (Value.str "__doc__" 246) Value.none)] 2) #[])) ::
  (nat_lit 57, (Obj.mk (Value.type "type") none (Data.cls (ClassData.mk "BadPattern" [(Value.ref 32)] [(Value.ref 57), (Value.ref 32), (Value.type "ValueError"), (Value.type "Exception"), (Value.type "BaseException"), (Value.type "object")] 56 "BadPattern" true [] [] false none false)) #[(some (Value.ref 48)), none, (some (Value.str "BadPattern" 233)), (some (Value.str "BadPattern" 241)), (some (Value.builtin "ValueError.__new__")), (some (Value.bool true))])) ::
  (nat_lit 60, (Obj.mk (Value.type "tuple") none (Data.seq #[] 0) #[])) ::
  (nat_lit 62, (Obj.mk (Value.type "tuple") none (Data.seq #[(Value.str "value" 254), (Value.str "low" 255), (Value.str "high" 256)] 0) #[])) ::
  (nat_lit 63, (Obj.mk (Value.type "tuple") none (Data.seq #[] 0) #[])) ::
  (nat_lit 65, (Obj.mk (Value.type "code") none (Data.fields #[(Value.str "is_whole" 251), (Value.str "is_whole" 252), (Value.str "/claim/cut.py" 253), (Value.int 11 0), (Value.int 3 0), (Value.int 0 0), (Value.int 0 0), (Value.int 3 0), (Value.ref 60), (Value.bool true), (Value.int 181 0), (Value.ref 61), Value.none, (Value.ref 62), (Value.ref 63), (Value.ref 64), (Value.int 257 0), (Value.int 11 0), (Value.str "/claim/cut.py" 258)]) #[])) ::
  (nat_lit 66, (Obj.mk (Value.type "function") none (Data.func (fd (df 5) "is_whole" 3 [] Value.none Value.none Value.none (Value.str "gluepage.scaled" 249) none (Value.ref 65) Value.none 0)) #[])) ::
  (nat_lit 67, (Obj.mk (Value.type "tuple") none (Data.seq #[] 0) #[])) ::
  (nat_lit 69, (Obj.mk (Value.type "tuple") none (Data.seq #[(Value.str "value" 263)] 0) #[])) ::
  (nat_lit 70, (Obj.mk (Value.type "tuple") none (Data.seq #[] 0) #[])) ::
  (nat_lit 72, (Obj.mk (Value.type "code") none (Data.fields #[(Value.str "check_whole" 260), (Value.str "check_whole" 261), (Value.str "/claim/cut.py" 262), (Value.int 13 0), (Value.int 1 0), (Value.int 0 0), (Value.int 0 0), (Value.int 3 0), (Value.ref 67), (Value.bool true), (Value.int 181 0), (Value.ref 68), Value.none, (Value.ref 69), (Value.ref 70), (Value.ref 71), (Value.int 264 0), (Value.int 13 0), (Value.str "/claim/cut.py" 265)]) #[])) ::
  (nat_lit 73, (Obj.mk (Value.type "function") none (Data.func (fd (df 6) "check_whole" 3 [] Value.none Value.none Value.none (Value.str "gluepage.scaled" 249) none (Value.ref 72) Value.none 0)) #[])) ::
  (nat_lit 74, (Obj.mk (Value.type "tuple") none (Data.seq #[] 0) #[])) ::
  (nat_lit 76, (Obj.mk (Value.type "tuple") none (Data.seq #[(Value.str "letters" 276), (Value.str "letter" 277)] 0) #[])) ::
  (nat_lit 77, (Obj.mk (Value.type "tuple") none (Data.seq #[] 0) #[])) ::
  (nat_lit 79, (Obj.mk (Value.type "code") none (Data.fields #[(Value.str "is_word" 273), (Value.str "is_word" 274), (Value.str "/claim/cut.py" 275), (Value.int 20 0), (Value.int 1 0), (Value.int 0 0), (Value.int 0 0), (Value.int 3 0), (Value.ref 74), (Value.bool true), (Value.int 181 0), (Value.ref 75), Value.none, (Value.ref 76), (Value.ref 77), (Value.ref 78), (Value.int 278 0), (Value.int 20 0), (Value.str "/claim/cut.py" 279)]) #[])) ::
  (nat_lit 80, (Obj.mk (Value.type "function") none (Data.func (fd (df 10) "is_word" 3 [] Value.none Value.none Value.none (Value.str "gluepage.hyphen" 267) none (Value.ref 79) Value.none 0)) #[])) ::
  (nat_lit 81, (Obj.mk (Value.type "tuple") none (Data.seq #[] 0) #[])) ::
  (nat_lit 83, (Obj.mk (Value.type "tuple") none (Data.seq #[(Value.str "letters" 284), (Value.str "begin" 285), (Value.str "end" 286)] 0) #[])) ::
  (nat_lit 84, (Obj.mk (Value.type "tuple") none (Data.seq #[] 0) #[])) ::
  (nat_lit 86, (Obj.mk (Value.type "code") none (Data.fields #[(Value.str "inner_letters" 281), (Value.str "inner_letters" 282), (Value.str "/claim/cut.py" 283), (Value.int 27 0), (Value.int 1 0), (Value.int 0 0), (Value.int 0 0), (Value.int 3 0), (Value.ref 81), (Value.bool true), (Value.int 181 0), (Value.ref 82), Value.none, (Value.ref 83), (Value.ref 84), (Value.ref 85), (Value.int 287 0), (Value.int 27 0), (Value.str "/claim/cut.py" 288)]) #[])) ::
  (nat_lit 87, (Obj.mk (Value.type "function") none (Data.func (fd (df 11) "inner_letters" 3 [] Value.none Value.none Value.none (Value.str "gluepage.hyphen" 267) none (Value.ref 86) Value.none 0)) #[])) ::
  (nat_lit 88, (Obj.mk (Value.type "tuple") none (Data.seq #[] 0) #[])) ::
  (nat_lit 90, (Obj.mk (Value.type "tuple") none (Data.seq #[(Value.str "letters" 293), (Value.str "digits" 294), (Value.str "letter" 295), (Value.str "digit" 296)] 0) #[])) ::
  (nat_lit 91, (Obj.mk (Value.type "tuple") none (Data.seq #[] 0) #[])) ::
  (nat_lit 93, (Obj.mk (Value.type "code") none (Data.fields #[(Value.str "check_pattern" 290), (Value.str "check_pattern" 291), (Value.str "/claim/cut.py" 292), (Value.int 34 0), (Value.int 2 0), (Value.int 0 0), (Value.int 0 0), (Value.int 3 0), (Value.ref 88), (Value.bool true), (Value.int 181 0), (Value.ref 89), Value.none, (Value.ref 90), (Value.ref 91), (Value.ref 92), (Value.int 297 0), (Value.int 34 0), (Value.str "/claim/cut.py" 298)]) #[])) ::
  (nat_lit 94, (Obj.mk (Value.type "function") none (Data.func (fd (df 12) "check_pattern" 3 [] Value.none Value.none Value.none (Value.str "gluepage.hyphen" 267) none (Value.ref 93) Value.none 0)) #[])) ::
  (nat_lit 95, (Obj.mk (Value.type "tuple") none (Data.seq #[] 0) #[])) ::
  (nat_lit 97, (Obj.mk (Value.type "tuple") none (Data.seq #[(Value.str "letters" 303), (Value.str "found" 304), (Value.str "letter" 305)] 0) #[])) ::
  (nat_lit 98, (Obj.mk (Value.type "tuple") none (Data.seq #[] 0) #[])) ::
  (nat_lit 100, (Obj.mk (Value.type "code") none (Data.fields #[(Value.str "word_key" 300), (Value.str "word_key" 301), (Value.str "/claim/cut.py" 302), (Value.int 49 0), (Value.int 1 0), (Value.int 0 0), (Value.int 0 0), (Value.int 3 0), (Value.ref 95), (Value.bool true), (Value.int 181 0), (Value.ref 96), Value.none, (Value.ref 97), (Value.ref 98), (Value.ref 99), (Value.int 306 0), (Value.int 49 0), (Value.str "/claim/cut.py" 307)]) #[])) ::
  (nat_lit 101, (Obj.mk (Value.type "function") none (Data.func (fd (df 13) "word_key" 3 [] Value.none Value.none Value.none (Value.str "gluepage.hyphen" 267) none (Value.ref 100) Value.none 0)) #[])) ::
  (nat_lit 102, (Obj.mk (Value.type "tuple") none (Data.seq #[] 0) #[])) ::
  (nat_lit 104, (Obj.mk (Value.type "tuple") none (Data.seq #[(Value.str "value" 312)] 0) #[])) ::
  (nat_lit 105, (Obj.mk (Value.type "tuple") none (Data.seq #[] 0) #[])) ::
  (nat_lit 107, (Obj.mk (Value.type "code") none (Data.fields #[(Value.str "least_part" 309), (Value.str "least_part" 310), (Value.str "/claim/cut.py" 311), (Value.int 54 0), (Value.int 1 0), (Value.int 0 0), (Value.int 0 0), (Value.int 3 0), (Value.ref 102), (Value.bool true), (Value.int 181 0), (Value.ref 103), Value.none, (Value.ref 104), (Value.ref 105), (Value.ref 106), (Value.int 313 0), (Value.int 54 0), (Value.str "/claim/cut.py" 314)]) #[])) ::
  (nat_lit 108, (Obj.mk (Value.type "function") none (Data.func (fd (df 14) "least_part" 3 [] Value.none Value.none Value.none (Value.str "gluepage.hyphen" 267) none (Value.ref 107) Value.none 0)) #[])) ::
  (nat_lit 109, (Obj.mk (Value.type "tuple") none (Data.seq #[] 0) #[])) ::
  (nat_lit 111, (Obj.mk (Value.type "tuple") none (Data.seq #[(Value.str "text" 319), (Value.str "letters" 320), (Value.str "digits" 321), (Value.str "is_behind_digit" 322), (Value.str "mark" 323), (Value.str "code" 324)] 0) #[])) ::
  (nat_lit 112, (Obj.mk (Value.type "tuple") none (Data.seq #[] 0) #[])) ::
  (nat_lit 114, (Obj.mk (Value.type "code") none (Data.fields #[(Value.str "read_pattern" 316), (Value.str "read_pattern" 317), (Value.str "/claim/cut.py" 318), (Value.int 56 0), (Value.int 1 0), (Value.int 0 0), (Value.int 0 0), (Value.int 3 0), (Value.ref 109), (Value.bool true), (Value.int 181 0), (Value.ref 110), Value.none, (Value.ref 111), (Value.ref 112), (Value.ref 113), (Value.int 325 0), (Value.int 56 0), (Value.str "/claim/cut.py" 326)]) #[])) ::
  (nat_lit 115, (Obj.mk (Value.type "function") none (Data.func (fd (df 15) "read_pattern" 3 [] Value.none Value.none Value.none (Value.str "gluepage.hyphen" 267) none (Value.ref 114) Value.none 0)) #[])) ::
  (nat_lit 116, (Obj.mk (Value.type "tuple") none (Data.seq #[] 0) #[])) ::
  (nat_lit 118, (Obj.mk (Value.type "tuple") none (Data.seq #[(Value.str "text" 331), (Value.str "letters" 332), (Value.str "places" 333), (Value.str "mark" 334)] 0) #[])) ::
  (nat_lit 119, (Obj.mk (Value.type "tuple") none (Data.seq #[] 0) #[])) ::
  (nat_lit 121, (Obj.mk (Value.type "code") none (Data.fields #[(Value.str "read_exception" 328), (Value.str "read_exception" 329), (Value.str "/claim/cut.py" 330), (Value.int 73 0), (Value.int 1 0), (Value.int 0 0), (Value.int 0 0), (Value.int 3 0), (Value.ref 116), (Value.bool true), (Value.int 181 0), (Value.ref 117), Value.none, (Value.ref 118), (Value.ref 119), (Value.ref 120), (Value.int 335 0), (Value.int 73 0), (Value.str "/claim/cut.py" 336)]) #[])) ::
  (nat_lit 122, (Obj.mk (Value.type "function") none (Data.func (fd (df 16) "read_exception" 3 [] Value.none Value.none Value.none (Value.str "gluepage.hyphen" 267) none (Value.ref 121) Value.none 0)) #[])) ::
  (nat_lit 130, (Obj.mk (Value.type "tuple") none (Data.seq #[] 0) #[])) ::
  (nat_lit 132, (Obj.mk (Value.type "tuple") none (Data.seq #[(Value.str "self" 353)] 0) #[])) ::
  (nat_lit 133, (Obj.mk (Value.type "tuple") none (Data.seq #[] 0) #[])) ::
  (nat_lit 135, (Obj.mk (Value.type "code") none (Data.fields #[(Value.str "__init__" 350), (Value.str "Patterns.__init__" 351), (Value.str "/claim/cut.py" 352), (Value.int 85 0), (Value.int 1 0), (Value.int 0 0), (Value.int 0 0), (Value.int 3 0), (Value.ref 130), (Value.bool true), (Value.int 181 0), (Value.ref 131), Value.none, (Value.ref 132), (Value.ref 133), (Value.ref 134), (Value.int 354 0), (Value.int 85 0), (Value.str "/claim/cut.py" 355)]) #[])) ::
  (nat_lit 136, (Obj.mk (Value.type "function") none (Data.func (fd (dm 17 0) "Patterns.__init__" 3 [] Value.none Value.none Value.none (Value.str "gluepage.hyphen" 267) none (Value.ref 135) Value.none 0)) #[])) ::
  (nat_lit 137, (Obj.mk (Value.type "tuple") none (Data.seq #[] 0) #[])) ::
  (nat_lit 139, (Obj.mk (Value.type "tuple") none (Data.seq #[(Value.str "self" 360), (Value.str "letters" 361), (Value.str "state" 362), (Value.str "letter" 363)] 0) #[])) ::
  (nat_lit 140, (Obj.mk (Value.type "tuple") none (Data.seq #[] 0) #[])) ::
  (nat_lit 142, (Obj.mk (Value.type "code") none (Data.fields #[(Value.str "state_of" 357), (Value.str "Patterns.state_of" 358), (Value.str "/claim/cut.py" 359), (Value.int 91 0), (Value.int 2 0), (Value.int 0 0), (Value.int 0 0), (Value.int 3 0), (Value.ref 137), (Value.bool true), (Value.int 181 0), (Value.ref 138), Value.none, (Value.ref 139), (Value.ref 140), (Value.ref 141), (Value.int 364 0), (Value.int 91 0), (Value.str "/claim/cut.py" 365)]) #[])) ::
  (nat_lit 143, (Obj.mk (Value.type "function") none (Data.func (fd (dm 17 1) "Patterns.state_of" 3 [] Value.none Value.none Value.none (Value.str "gluepage.hyphen" 267) none (Value.ref 142) Value.none 0)) #[])) ::
  (nat_lit 144, (Obj.mk (Value.type "tuple") none (Data.seq #[] 0) #[])) ::
  (nat_lit 146, (Obj.mk (Value.type "tuple") none (Data.seq #[(Value.str "self" 370), (Value.str "letters" 371), (Value.str "digits" 372), (Value.str "row" 373), (Value.str "state" 374), (Value.str "letter" 375), (Value.str "spot" 376)] 0) #[])) ::
  (nat_lit 147, (Obj.mk (Value.type "tuple") none (Data.seq #[] 0) #[])) ::
  (nat_lit 149, (Obj.mk (Value.type "code") none (Data.fields #[(Value.str "add" 367), (Value.str "Patterns.add" 368), (Value.str "/claim/cut.py" 369), (Value.int 99 0), (Value.int 3 0), (Value.int 0 0), (Value.int 0 0), (Value.int 3 0), (Value.ref 144), (Value.bool true), (Value.int 181 0), (Value.ref 145), Value.none, (Value.ref 146), (Value.ref 147), (Value.ref 148), (Value.int 377 0), (Value.int 99 0), (Value.str "/claim/cut.py" 378)]) #[])) ::
  (nat_lit 150, (Obj.mk (Value.type "function") none (Data.func (fd (dm 17 2) "Patterns.add" 3 [] Value.none Value.none Value.none (Value.str "gluepage.hyphen" 267) none (Value.ref 149) Value.none 0)) #[])) ::
  (nat_lit 151, (Obj.mk (Value.type "tuple") none (Data.seq #[] 0) #[])) ::
  (nat_lit 153, (Obj.mk (Value.type "tuple") none (Data.seq #[(Value.str "self" 383), (Value.str "text" 384), (Value.str "letters" 385), (Value.str "digits" 386)] 0) #[])) ::
  (nat_lit 154, (Obj.mk (Value.type "tuple") none (Data.seq #[] 0) #[])) ::
  (nat_lit 156, (Obj.mk (Value.type "code") none (Data.fields #[(Value.str "add_text" 380), (Value.str "Patterns.add_text" 381), (Value.str "/claim/cut.py" 382), (Value.int 117 0), (Value.int 2 0), (Value.int 0 0), (Value.int 0 0), (Value.int 3 0), (Value.ref 151), (Value.bool true), (Value.int 181 0), (Value.ref 152), Value.none, (Value.ref 153), (Value.ref 154), (Value.ref 155), (Value.int 387 0), (Value.int 117 0), (Value.str "/claim/cut.py" 388)]) #[])) ::
  (nat_lit 157, (Obj.mk (Value.type "function") none (Data.func (fd (dm 17 3) "Patterns.add_text" 3 [] Value.none Value.none Value.none (Value.str "gluepage.hyphen" 267) none (Value.ref 156) Value.none 0)) #[])) ::
  (nat_lit 158, (Obj.mk (Value.type "tuple") none (Data.seq #[] 0) #[])) ::
  (nat_lit 161, (Obj.mk (Value.type "code") none (Data.fields #[(Value.str "add_exception" 390), (Value.str "Patterns.add_exception" 391), (Value.str "/claim/cut.py" 392), (Value.int 121 0), (Value.int 3 0), (Value.int 0 0), (Value.int 0 0), (Value.int 3 0), (Value.ref 158), (Value.bool true), (Value.int 181 0), (Value.ref 159), Value.none, Value.none, Value.none, (Value.ref 160), (Value.int 393 0), (Value.int 121 0), (Value.str "/claim/cut.py" 394)]) #[])) ::
  (nat_lit 162, (Obj.mk (Value.type "function") none (Data.func (fd (dm 17 4) "Patterns.add_exception" 3 [] Value.none Value.none Value.none (Value.str "gluepage.hyphen" 267) none (Value.ref 161) Value.none 0)) #[])) ::
  (nat_lit 163, (Obj.mk (Value.type "tuple") none (Data.seq #[] 0) #[])) ::
  (nat_lit 165, (Obj.mk (Value.type "tuple") none (Data.seq #[(Value.str "self" 399), (Value.str "text" 400), (Value.str "letters" 401), (Value.str "places" 402)] 0) #[])) ::
  (nat_lit 166, (Obj.mk (Value.type "tuple") none (Data.seq #[] 0) #[])) ::
  (nat_lit 168, (Obj.mk (Value.type "code") none (Data.fields #[(Value.str "add_word" 396), (Value.str "Patterns.add_word" 397), (Value.str "/claim/cut.py" 398), (Value.int 131 0), (Value.int 2 0), (Value.int 0 0), (Value.int 0 0), (Value.int 3 0), (Value.ref 163), (Value.bool true), (Value.int 181 0), (Value.ref 164), Value.none, (Value.ref 165), (Value.ref 166), (Value.ref 167), (Value.int 403 0), (Value.int 131 0), (Value.str "/claim/cut.py" 404)]) #[])) ::
  (nat_lit 169, (Obj.mk (Value.type "function") none (Data.func (fd (dm 17 5) "Patterns.add_word" 3 [] Value.none Value.none Value.none (Value.str "gluepage.hyphen" 267) none (Value.ref 168) Value.none 0)) #[])) ::
  (nat_lit 170, (Obj.mk (Value.type "tuple") none (Data.seq #[] 0) #[])) ::
  (nat_lit 172, (Obj.mk (Value.type "tuple") none (Data.seq #[(Value.str "self" 409), (Value.str "letters" 410), (Value.str "marks" 411), (Value.str "found" 412), (Value.str "begin" 413), (Value.str "state" 414), (Value.str "letter" 415), (Value.str "spot" 416), (Value.str "digit" 417)] 0) #[])) ::
  (nat_lit 173, (Obj.mk (Value.type "tuple") none (Data.seq #[] 0) #[])) ::
  (nat_lit 175, (Obj.mk (Value.type "code") none (Data.fields #[(Value.str "gap_numbers" 406), (Value.str "Patterns.gap_numbers" 407), (Value.str "/claim/cut.py" 408), (Value.int 135 0), (Value.int 2 0), (Value.int 0 0), (Value.int 0 0), (Value.int 3 0), (Value.ref 170), (Value.bool true), (Value.int 181 0), (Value.ref 171), Value.none, (Value.ref 172), (Value.ref 173), (Value.ref 174), (Value.int 418 0), (Value.int 135 0), (Value.str "/claim/cut.py" 419)]) #[])) ::
  (nat_lit 176, (Obj.mk (Value.type "function") none (Data.func (fd (dm 17 6) "Patterns.gap_numbers" 3 [] Value.none Value.none Value.none (Value.str "gluepage.hyphen" 267) none (Value.ref 175) Value.none 0)) #[])) ::
  (nat_lit 177, (Obj.mk (Value.type "tuple") none (Data.seq #[(Value.int 2 421), (Value.int 3 422)] 0) #[])) ::
  (nat_lit 178, (Obj.mk (Value.type "tuple") none (Data.seq #[] 0) #[])) ::
  (nat_lit 181, (Obj.mk (Value.type "code") none (Data.fields #[(Value.str "points" 423), (Value.str "Patterns.points" 424), (Value.str "/claim/cut.py" 425), (Value.int 150 0), (Value.int 4 0), (Value.int 0 0), (Value.int 0 0), (Value.int 3 0), (Value.ref 178), (Value.bool true), (Value.int 181 0), (Value.ref 179), Value.none, Value.none, Value.none, (Value.ref 180), (Value.int 426 0), (Value.int 150 0), (Value.str "/claim/cut.py" 427)]) #[])) ::
  (nat_lit 182, (Obj.mk (Value.type "function") none (Data.func (fd (dm 17 7) "Patterns.points" 3 [] (Value.ref 177) Value.none Value.none (Value.str "gluepage.hyphen" 267) none (Value.ref 181) Value.none 0)) #[])) ::
  (nat_lit 183, (Obj.mk (Value.type "tuple") none (Data.seq #[(Value.str "exceptions" 429), (Value.str "links" 430), (Value.str "numbers" 431), (Value.str "states" 432)] 0) #[])) ::
  (nat_lit 184, (Obj.mk (Value.type "dict") none (Data.dict #[(DictEntry.mk (PyData.keyHash P "__module__") (Value.str "__module__" 345) (Value.str "gluepage.hyphen" 267)), (DictEntry.mk (PyData.keyHash P "__firstlineno__") (Value.str "__firstlineno__" 349) (Value.int 83 348)), (DictEntry.mk (PyData.keyHash P "__init__") (Value.str "__init__" 356) (Value.ref 136)), (DictEntry.mk (PyData.keyHash P "state_of") (Value.str "state_of" 366) (Value.ref 143)), (DictEntry.mk (PyData.keyHash P "add") (Value.str "add" 379) (Value.ref 150)), (DictEntry.mk (PyData.keyHash P "add_text") (Value.str "add_text" 389) (Value.ref 157)), (DictEntry.mk (PyData.keyHash P "add_exception") (Value.str "add_exception" 395) (Value.ref 162)), (DictEntry.mk (PyData.keyHash P "add_word") (Value.str "add_word" 405) (Value.ref 169)), (DictEntry.mk (PyData.keyHash P "gap_numbers") (Value.str "gap_numbers" 420) (Value.ref 176)), (DictEntry.mk (PyData.keyHash P "points") (Value.str "points" 428) (Value.ref 182)), (DictEntry.mk (PyData.keyHash P "__static_attributes__") (Value.str "__static_attributes__" 433) (Value.ref 183)), (DictEntry.mk (PyData.keyHash P "__dict__") (Value.str "__dict__" 435) (Value.ref 186)), (DictEntry.mk (PyData.keyHash P "__weakref__") (Value.str "__weakref__" 437) (Value.ref 187)), (DictEntry.mk (PyData.keyHash P "__doc__") (Value.str "__doc__" 438) Value.none)] 4) #[])) ::
  (nat_lit 185, (Obj.mk (Value.type "type") none (Data.cls (ClassData.mk "Patterns" [(Value.type "object")] [(Value.ref 185), (Value.type "object")] 184 "Patterns" true [] [] false none false)) #[none, none, (some (Value.str "Patterns" 338)), (some (Value.str "Patterns" 346)), (some (Value.builtin "object.__new__")), (some (Value.bool true))])) ::
  (nat_lit 186, (Obj.mk (Value.type "getset_descriptor") none (Data.fields #[(Value.str "__dict__" 434), (Value.ref 185), (Value.builtin "function.__dict__"), (Value.builtin "function.__dict__#set")]) #[])) ::
  (nat_lit 187, (Obj.mk (Value.type "getset_descriptor") none (Data.fields #[(Value.str "__weakref__" 436), (Value.ref 185), (Value.builtin "ExceptionGroup.__weakref__"), Value.none]) #[])) ::
  (nat_lit 190, (Obj.mk (Value.type "tuple") none (Data.seq #[] 0) #[])) ::
  (nat_lit 192, (Obj.mk (Value.type "tuple") none (Data.seq #[(Value.str "cell" 446), (Value.str "more" 447)] 0) #[])) ::
  (nat_lit 193, (Obj.mk (Value.type "tuple") none (Data.seq #[] 0) #[])) ::
  (nat_lit 195, (Obj.mk (Value.type "code") none (Data.fields #[(Value.str "_law_box" 443), (Value.str "_law_box" 444), (Value.str "/claim/cut.py" 445), (Value.int 161 0), (Value.int 2 0), (Value.int 0 0), (Value.int 0 0), (Value.int 3 0), (Value.ref 190), (Value.bool true), (Value.int 181 0), (Value.ref 191), Value.none, (Value.ref 192), (Value.ref 193), (Value.ref 194), (Value.int 448 0), (Value.int 161 0), (Value.str "/claim/cut.py" 449)]) #[])) ::
  (nat_lit 196, (Obj.mk (Value.type "function") none (Data.func (fd (df 19) "_law_box" 3 [] Value.none Value.none Value.none (Value.str "law_rg0153_01" 441) none (Value.ref 195) Value.none 0)) #[])) ::
  (nat_lit 197, (Obj.mk (Value.type "tuple") none (Data.seq #[] 0) #[])) ::
  (nat_lit 199, (Obj.mk (Value.type "tuple") none (Data.seq #[(Value.str "box" 454), (Value.str "many" 455), (Value.str "digit" 456)] 0) #[])) ::
  (nat_lit 200, (Obj.mk (Value.type "tuple") none (Data.seq #[] 0) #[])) ::
  (nat_lit 202, (Obj.mk (Value.type "code") none (Data.fields #[(Value.str "_law_take" 451), (Value.str "_law_take" 452), (Value.str "/claim/cut.py" 453), (Value.int 163 0), (Value.int 2 0), (Value.int 0 0), (Value.int 0 0), (Value.int 3 0), (Value.ref 197), (Value.bool true), (Value.int 181 0), (Value.ref 198), Value.none, (Value.ref 199), (Value.ref 200), (Value.ref 201), (Value.int 457 0), (Value.int 163 0), (Value.str "/claim/cut.py" 458)]) #[])) ::
  (nat_lit 203, (Obj.mk (Value.type "function") none (Data.func (fd (df 20) "_law_take" 3 [] Value.none Value.none Value.none (Value.str "law_rg0153_01" 441) none (Value.ref 202) Value.none 0)) #[])) ::
  (nat_lit 204, (Obj.mk (Value.type "tuple") none (Data.seq #[] 0) #[])) ::
  (nat_lit 206, (Obj.mk (Value.type "tuple") none (Data.seq #[(Value.str "box" 463), (Value.str "way" 464)] 0) #[])) ::
  (nat_lit 207, (Obj.mk (Value.type "tuple") none (Data.seq #[] 0) #[])) ::
  (nat_lit 209, (Obj.mk (Value.type "code") none (Data.fields #[(Value.str "_law_letter" 460), (Value.str "_law_letter" 461), (Value.str "/claim/cut.py" 462), (Value.int 170 0), (Value.int 1 0), (Value.int 0 0), (Value.int 0 0), (Value.int 3 0), (Value.ref 204), (Value.bool true), (Value.int 181 0), (Value.ref 205), Value.none, (Value.ref 206), (Value.ref 207), (Value.ref 208), (Value.int 465 0), (Value.int 170 0), (Value.str "/claim/cut.py" 466)]) #[])) ::
  (nat_lit 210, (Obj.mk (Value.type "function") none (Data.func (fd (df 21) "_law_letter" 3 [] Value.none Value.none Value.none (Value.str "law_rg0153_01" 441) none (Value.ref 209) Value.none 0)) #[])) ::
  (nat_lit 211, (Obj.mk (Value.type "tuple") none (Data.seq #[] 0) #[])) ::
  (nat_lit 214, (Obj.mk (Value.type "code") none (Data.fields #[(Value.str "_law_form" 468), (Value.str "_law_form" 469), (Value.str "/claim/cut.py" 470), (Value.int 173 0), (Value.int 1 0), (Value.int 0 0), (Value.int 0 0), (Value.int 3 0), (Value.ref 211), (Value.bool true), (Value.int 181 0), (Value.ref 212), Value.none, Value.none, Value.none, (Value.ref 213), (Value.int 471 0), (Value.int 173 0), (Value.str "/claim/cut.py" 472)]) #[])) ::
  (nat_lit 215, (Obj.mk (Value.type "function") none (Data.func (fd (df 22) "_law_form" 3 [] Value.none Value.none Value.none (Value.str "law_rg0153_01" 441) none (Value.ref 214) Value.none 0)) #[])) ::
  (nat_lit 216, (Obj.mk (Value.type "tuple") none (Data.seq #[] 0) #[])) ::
  (nat_lit 218, (Obj.mk (Value.type "tuple") none (Data.seq #[(Value.str "box" 477), (Value.str "letters" 478), (Value.str "numbers" 479), (Value.str "found" 480), (Value.str "k" 481)] 0) #[])) ::
  (nat_lit 219, (Obj.mk (Value.type "tuple") none (Data.seq #[] 0) #[])) ::
  (nat_lit 221, (Obj.mk (Value.type "code") none (Data.fields #[(Value.str "_law_written" 474), (Value.str "_law_written" 475), (Value.str "/claim/cut.py" 476), (Value.int 178 0), (Value.int 3 0), (Value.int 0 0), (Value.int 0 0), (Value.int 3 0), (Value.ref 216), (Value.bool true), (Value.int 181 0), (Value.ref 217), Value.none, (Value.ref 218), (Value.ref 219), (Value.ref 220), (Value.int 482 0), (Value.int 178 0), (Value.str "/claim/cut.py" 483)]) #[])) ::
  (nat_lit 222, (Obj.mk (Value.type "function") none (Data.func (fd (df 23) "_law_written" 3 [] Value.none Value.none Value.none (Value.str "law_rg0153_01" 441) none (Value.ref 221) Value.none 0)) #[])) ::
  (nat_lit 223, (Obj.mk (Value.type "tuple") none (Data.seq #[] 0) #[])) ::
  (nat_lit 225, (Obj.mk (Value.type "tuple") none (Data.seq #[(Value.str "deed" 488)] 0) #[])) ::
  (nat_lit 226, (Obj.mk (Value.type "tuple") none (Data.seq #[] 0) #[])) ::
  (nat_lit 228, (Obj.mk (Value.type "code") none (Data.fields #[(Value.str "_law_said" 485), (Value.str "_law_said" 486), (Value.str "/claim/cut.py" 487), (Value.int 186 0), (Value.int 1 0), (Value.int 0 0), (Value.int 0 0), (Value.int 3 0), (Value.ref 223), (Value.bool true), (Value.int 181 0), (Value.ref 224), Value.none, (Value.ref 225), (Value.ref 226), (Value.ref 227), (Value.int 489 0), (Value.int 186 0), (Value.str "/claim/cut.py" 490)]) #[])) ::
  (nat_lit 229, (Obj.mk (Value.type "function") none (Data.func (fd (df 24) "_law_said" 3 [] Value.none Value.none Value.none (Value.str "law_rg0153_01" 441) none (Value.ref 228) Value.none 0)) #[])) ::
  (nat_lit 230, (Obj.mk (Value.type "tuple") none (Data.seq #[] 0) #[])) ::
  (nat_lit 233, (Obj.mk (Value.type "code") none (Data.fields #[(Value.str "_law_filled" 492), (Value.str "_law_filled" 493), (Value.str "/claim/cut.py" 494), (Value.int 194 0), (Value.int 3 0), (Value.int 0 0), (Value.int 0 0), (Value.int 3 0), (Value.ref 230), (Value.bool true), (Value.int 181 0), (Value.ref 231), Value.none, Value.none, Value.none, (Value.ref 232), (Value.int 495 0), (Value.int 194 0), (Value.str "/claim/cut.py" 496)]) #[])) ::
  (nat_lit 234, (Obj.mk (Value.type "function") none (Data.func (fd (df 25) "_law_filled" 3 [] Value.none Value.none Value.none (Value.str "law_rg0153_01" 441) none (Value.ref 233) Value.none 0)) #[])) ::
  (nat_lit 235, (Obj.mk (Value.type "tuple") none (Data.seq #[] 0) #[])) ::
  (nat_lit 238, (Obj.mk (Value.type "code") none (Data.fields #[(Value.str "_law_word" 498), (Value.str "_law_word" 499), (Value.str "/claim/cut.py" 500), (Value.int 208 0), (Value.int 2 0), (Value.int 0 0), (Value.int 0 0), (Value.int 3 0), (Value.ref 235), (Value.bool true), (Value.int 181 0), (Value.ref 236), Value.none, Value.none, Value.none, (Value.ref 237), (Value.int 501 0), (Value.int 208 0), (Value.str "/claim/cut.py" 502)]) #[])) ::
  (nat_lit 239, (Obj.mk (Value.type "function") none (Data.func (fd (df 26) "_law_word" 3 [] Value.none Value.none Value.none (Value.str "law_rg0153_01" 441) none (Value.ref 238) Value.none 0)) #[])) ::
  (nat_lit 240, (Obj.mk (Value.type "tuple") none (Data.seq #[] 0) #[])) ::
  (nat_lit 243, (Obj.mk (Value.type "code") none (Data.fields #[(Value.str "_law_put" 504), (Value.str "_law_put" 505), (Value.str "/claim/cut.py" 506), (Value.int 216 0), (Value.int 4 0), (Value.int 0 0), (Value.int 0 0), (Value.int 3 0), (Value.ref 240), (Value.bool true), (Value.int 181 0), (Value.ref 241), Value.none, Value.none, Value.none, (Value.ref 242), (Value.int 507 0), (Value.int 216 0), (Value.str "/claim/cut.py" 508)]) #[])) ::
  (nat_lit 244, (Obj.mk (Value.type "function") none (Data.func (fd (df 27) "_law_put" 3 [] Value.none Value.none Value.none (Value.str "law_rg0153_01" 441) none (Value.ref 243) Value.none 0)) #[])) ::
  (nat_lit 245, (Obj.mk (Value.type "tuple") none (Data.seq #[] 0) #[])) ::
  (nat_lit 248, (Obj.mk (Value.type "code") none (Data.fields #[(Value.str "_law_tops" 510), (Value.str "_law_tops" 511), (Value.str "/claim/cut.py" 512), (Value.int 221 0), (Value.int 2 0), (Value.int 0 0), (Value.int 0 0), (Value.int 3 0), (Value.ref 245), (Value.bool true), (Value.int 181 0), (Value.ref 246), Value.none, Value.none, Value.none, (Value.ref 247), (Value.int 513 0), (Value.int 221 0), (Value.str "/claim/cut.py" 514)]) #[])) ::
  (nat_lit 249, (Obj.mk (Value.type "function") none (Data.func (fd (df 28) "_law_tops" 3 [] Value.none Value.none Value.none (Value.str "law_rg0153_01" 441) none (Value.ref 248) Value.none 0)) #[])) ::
  (nat_lit 250, (Obj.mk (Value.type "tuple") none (Data.seq #[] 0) #[])) ::
  (nat_lit 253, (Obj.mk (Value.type "code") none (Data.fields #[(Value.str "_law_due" 516), (Value.str "_law_due" 517), (Value.str "/claim/cut.py" 518), (Value.int 230 0), (Value.int 5 0), (Value.int 0 0), (Value.int 0 0), (Value.int 3 0), (Value.ref 250), (Value.bool true), (Value.int 181 0), (Value.ref 251), Value.none, Value.none, Value.none, (Value.ref 252), (Value.int 519 0), (Value.int 230 0), (Value.str "/claim/cut.py" 520)]) #[])) ::
  (nat_lit 254, (Obj.mk (Value.type "function") none (Data.func (fd (df 29) "_law_due" 3 [] Value.none Value.none Value.none (Value.str "law_rg0153_01" 441) none (Value.ref 253) Value.none 0)) #[])) ::
  (nat_lit 255, (Obj.mk (Value.type "tuple") none (Data.seq #[] 0) #[])) ::
  (nat_lit 258, (Obj.mk (Value.type "code") none (Data.fields #[(Value.str "_law_refused" 522), (Value.str "_law_refused" 523), (Value.str "/claim/cut.py" 524), (Value.int 237 0), (Value.int 3 0), (Value.int 0 0), (Value.int 0 0), (Value.int 3 0), (Value.ref 255), (Value.bool true), (Value.int 181 0), (Value.ref 256), Value.none, Value.none, Value.none, (Value.ref 257), (Value.int 525 0), (Value.int 237 0), (Value.str "/claim/cut.py" 526)]) #[])) ::
  (nat_lit 259, (Obj.mk (Value.type "function") none (Data.func (fd (df 30) "_law_refused" 3 [] Value.none Value.none Value.none (Value.str "law_rg0153_01" 441) none (Value.ref 258) Value.none 0)) #[])) ::
  (nat_lit 260, (Obj.mk (Value.type "tuple") none (Data.seq #[] 0) #[])) ::
  (nat_lit 262, (Obj.mk (Value.type "tuple") none (Data.seq #[(Value.str "box" 531)] 0) #[])) ::
  (nat_lit 263, (Obj.mk (Value.type "tuple") none (Data.seq #[] 0) #[])) ::
  (nat_lit 265, (Obj.mk (Value.type "code") none (Data.fields #[(Value.str "_law_side" 528), (Value.str "_law_side" 529), (Value.str "/claim/cut.py" 530), (Value.int 282 0), (Value.int 1 0), (Value.int 0 0), (Value.int 0 0), (Value.int 3 0), (Value.ref 260), (Value.bool true), (Value.int 181 0), (Value.ref 261), Value.none, (Value.ref 262), (Value.ref 263), (Value.ref 264), (Value.int 532 0), (Value.int 282 0), (Value.str "/claim/cut.py" 533)]) #[])) ::
  (nat_lit 266, (Obj.mk (Value.type "function") none (Data.func (fd (df 31) "_law_side" 3 [] Value.none Value.none Value.none (Value.str "law_rg0153_01" 441) none (Value.ref 265) Value.none 0)) #[])) ::
  (nat_lit 267, (Obj.mk (Value.type "tuple") none (Data.seq #[] 0) #[])) ::
  (nat_lit 270, (Obj.mk (Value.type "code") none (Data.fields #[(Value.str "_law_round" 535), (Value.str "_law_round" 536), (Value.str "/claim/cut.py" 537), (Value.int 284 0), (Value.int 2 0), (Value.int 0 0), (Value.int 0 0), (Value.int 3 0), (Value.ref 267), (Value.bool true), (Value.int 181 0), (Value.ref 268), Value.none, Value.none, Value.none, (Value.ref 269), (Value.int 538 0), (Value.int 284 0), (Value.str "/claim/cut.py" 539)]) #[])) ::
  (nat_lit 271, (Obj.mk (Value.type "function") none (Data.func (fd (df 32) "_law_round" 3 [] Value.none Value.none Value.none (Value.str "law_rg0153_01" 441) none (Value.ref 270) Value.none 0)) #[])) ::
  (nat_lit 272, (Obj.mk (Value.type "tuple") none (Data.seq #[] 0) #[])) ::
  (nat_lit 274, (Obj.mk (Value.type "tuple") none (Data.seq #[(Value.str "script" 544), (Value.str "cells" 545), (Value.str "k" 546)] 0) #[])) ::
  (nat_lit 275, (Obj.mk (Value.type "tuple") none (Data.seq #[] 0) #[])) ::
  (nat_lit 277, (Obj.mk (Value.type "code") none (Data.fields #[(Value.str "law" 541), (Value.str "law" 542), (Value.str "/claim/cut.py" 543), (Value.int 307 0), (Value.int 1 0), (Value.int 0 0), (Value.int 0 0), (Value.int 3 0), (Value.ref 272), (Value.bool true), (Value.int 181 0), (Value.ref 273), Value.none, (Value.ref 274), (Value.ref 275), (Value.ref 276), (Value.int 547 0), (Value.int 307 0), (Value.str "/claim/cut.py" 548)]) #[])) ::
  (nat_lit 278, (Obj.mk (Value.type "function") none (Data.func (fd (df 33) "law" 3 [] Value.none Value.none Value.none (Value.str "law_rg0153_01" 441) none (Value.ref 277) Value.none 0)) #[])) ::
  []
noncomputable def hpAs : List Addr := [nat_lit 2, nat_lit 3, nat_lit 15, nat_lit 22, nat_lit 23, nat_lit 25, nat_lit 26, nat_lit 28, nat_lit 29, nat_lit 30, nat_lit 31, nat_lit 32, nat_lit 33, nat_lit 36, nat_lit 43, nat_lit 44, nat_lit 45, nat_lit 48, nat_lit 55, nat_lit 56, nat_lit 57, nat_lit 60, nat_lit 62, nat_lit 63, nat_lit 65, nat_lit 66, nat_lit 67, nat_lit 69, nat_lit 70, nat_lit 72, nat_lit 73, nat_lit 74, nat_lit 76, nat_lit 77, nat_lit 79, nat_lit 80, nat_lit 81, nat_lit 83, nat_lit 84, nat_lit 86, nat_lit 87, nat_lit 88, nat_lit 90, nat_lit 91, nat_lit 93, nat_lit 94, nat_lit 95, nat_lit 97, nat_lit 98, nat_lit 100, nat_lit 101, nat_lit 102, nat_lit 104, nat_lit 105, nat_lit 107, nat_lit 108, nat_lit 109, nat_lit 111, nat_lit 112, nat_lit 114, nat_lit 115, nat_lit 116, nat_lit 118, nat_lit 119, nat_lit 121, nat_lit 122, nat_lit 130, nat_lit 132, nat_lit 133, nat_lit 135, nat_lit 136, nat_lit 137, nat_lit 139, nat_lit 140, nat_lit 142, nat_lit 143, nat_lit 144, nat_lit 146, nat_lit 147, nat_lit 149, nat_lit 150, nat_lit 151, nat_lit 153, nat_lit 154, nat_lit 156, nat_lit 157, nat_lit 158, nat_lit 161, nat_lit 162, nat_lit 163, nat_lit 165, nat_lit 166, nat_lit 168, nat_lit 169, nat_lit 170, nat_lit 172, nat_lit 173, nat_lit 175, nat_lit 176, nat_lit 177, nat_lit 178, nat_lit 181, nat_lit 182, nat_lit 183, nat_lit 184, nat_lit 185, nat_lit 186, nat_lit 187, nat_lit 190, nat_lit 192, nat_lit 193, nat_lit 195, nat_lit 196, nat_lit 197, nat_lit 199, nat_lit 200, nat_lit 202, nat_lit 203, nat_lit 204, nat_lit 206, nat_lit 207, nat_lit 209, nat_lit 210, nat_lit 211, nat_lit 214, nat_lit 215, nat_lit 216, nat_lit 218, nat_lit 219, nat_lit 221, nat_lit 222, nat_lit 223, nat_lit 225, nat_lit 226, nat_lit 228, nat_lit 229, nat_lit 230, nat_lit 233, nat_lit 234, nat_lit 235, nat_lit 238, nat_lit 239, nat_lit 240, nat_lit 243, nat_lit 244, nat_lit 245, nat_lit 248, nat_lit 249, nat_lit 250, nat_lit 253, nat_lit 254, nat_lit 255, nat_lit 258, nat_lit 259, nat_lit 260, nat_lit 262, nat_lit 263, nat_lit 265, nat_lit 266, nat_lit 267, nat_lit 270, nat_lit 271, nat_lit 272, nat_lit 274, nat_lit 275, nat_lit 277, nat_lit 278]
theorem hp_as (P : Params) : hpAs = (hp P).map (·.1) := by kernel_rfl
noncomputable def hook : Hook := kmHook hp hpAs hp_as [256, 241, 231]
noncomputable def vw : Program := view rr.row.prog [1, 2, 3, 5, 6, 8, 9, 10, 11, 12, 13, 14, 15, 16, 17, 19, 20, 21, 22, 23, 24, 25, 26, 27, 28, 29, 30, 31, 32, 33]
noncomputable abbrev vr (a : Addr) := Value.ref a
noncomputable abbrev vs (s : Str) (t : Tok) := Value.str s t
noncomputable abbrev vi (i : Int) (t : Tok) := Value.int i t
noncomputable abbrev vt (n : String) := Value.type n
noncomputable abbrev vb (n : String) := Value.builtin n
noncomputable abbrev vn := Value.none
noncomputable abbrev vB (b : Bool) := Value.bool b
noncomputable abbrev dF (l : Array Value) := Data.fields l
noncomputable abbrev dS (l : Array Value) (n : Nat) := Data.seq l n
noncomputable abbrev oM (c : Value) (d : Option Addr) (x : Data) (s : Array (Option Value)) := Obj.mk c d x s
noncomputable abbrev dE (P : Params) (k : Str) (t : Tok) (v : Value) := DictEntry.mk (PyData.keyHash P k) (.str k t) v
noncomputable def topB (P : Params) : List (Addr × Obj) :=
  [(0, boot_o_0 P), (1, boot_o_1 P), (4, boot_o_4 P), (5, boot_o_5 P), (6, boot_o_6 P), (7, boot_o_7 P), (8, boot_o_8 P), (9, boot_o_9 P), (10, boot_o_10 P), (11, (oM (vt "tuple") none (dS #[] 0) #[])), (12, (oM vn none (dF #[(vi 2 0), (vi 0 0), (vr 20), (vi 6 0), (vi 0 0), (vr 41), (vi 8 0), (vi 0 0), (vr 53), (vi 11 0), (vi 0 0), (vr 65), (vi 13 0), (vi 0 0), (vr 72), (vi 20 0), (vi 0 0), (vr 79), (vi 27 0), (vi 0 0), (vr 86), (vi 34 0), (vi 0 0), (vr 93), (vi 49 0), (vi 0 0), (vr 100), (vi 54 0), (vi 0 0), (vr 107), (vi 56 0), (vi 0 0), (vr 114), (vi 73 0), (vi 0 0), (vr 121), (vi 83 0), (vi 0 0), (vr 128), (vi 161 0), (vi 0 0), (vr 195), (vi 163 0), (vi 0 0), (vr 202), (vi 170 0), (vi 0 0), (vr 209), (vi 173 0), (vi 0 0), (vr 214), (vi 178 0), (vi 0 0), (vr 221), (vi 186 0), (vi 0 0), (vr 228), (vi 194 0), (vi 0 0), (vr 233), (vi 208 0), (vi 0 0), (vr 238), (vi 216 0), (vi 0 0), (vr 243), (vi 221 0), (vi 0 0), (vr 248), (vi 230 0), (vi 0 0), (vr 253), (vi 237 0), (vi 0 0), (vr 258), (vi 282 0), (vi 0 0), (vr 265), (vi 284 0), (vi 0 0), (vr 270), (vi 307 0), (vi 0 0), (vr 277)]) #[])), (13, (oM (vt "code") none (dF #[(vs "<module>" 182), (vs "<module>" 183), (vs "/claim/cut.py" 184), (vi 1 0), (vi 0 0), (vi 0 0), (vi 0 0), (vi 0 0), (vr 11), (vB false), (vi 181 0), (vr 12), vn, vn, vn, vn, (vi 185 0), (vi 1 0), (vs "/claim/cut.py" 186)]) #[])), (14, (oM (vt "frame") none Data.plain #[(some (vr 13)), (some (vr 3)), (some (vr 3)), none, (some (vs "__main__" 164)), none, (some (vr 0))])), (16, (oM (vt "builtin_function_or_method") none (dF #[(vb "type.__prepare__"), (vt "type")]) #[])), (17, (oM (vt "dict") none (Data.dict #[(dE P "__module__" 196 (vs "gluepage.errors" 187)), (dE P "__qualname__" 198 (vs "PageError" 197)), (dE P "__firstlineno__" 200 (vi 2 199)), (dE P "__init__" 209 (vr 29)), (dE P "__static_attributes__" 211 (vr 30))] 5) #[])), (18, (oM (vt "tuple") none (dS #[] 0) #[])), (19, (oM vn none (dF #[(vi 4 0), (vi 4 0), (vr 28)]) #[])), (20, (oM (vt "code") none (dF #[(vs "PageError" 191), (vs "PageError" 192), (vs "/claim/cut.py" 193), (vi 2 0), (vi 0 0), (vi 0 0), (vi 0 0), (vi 0 0), (vr 18), (vB false), (vi 181 0), (vr 19), vn, vn, vn, vn, (vi 194 0), (vi 2 0), (vs "/claim/cut.py" 195)]) #[])), (21, (oM (vt "frame") none Data.plain #[(some (vr 20)), (some (vr 3)), (some (vr 17)), none, (some (vs "gluepage.errors" 187)), none, (some (vr 0))])), (24, (oM vn none (dF #[]) #[])), (27, (oM vn none (Data.func (fd (dm 1 0) "PageError.__init__" 0 [] vn vn vn vn none vn vn 0)) #[])), (34, (oM (vt "super") none (dF #[(vr 32), (vr 32), (vr 32)]) #[])), (35, (oM (vt "builtin_function_or_method") none (dF #[(vb "object.__init_subclass__"), (vr 32)]) #[])), (37, (oM (vt "builtin_function_or_method") none (dF #[(vb "type.__prepare__"), (vt "type")]) #[])), (38, (oM (vt "dict") none (Data.dict #[(dE P "__module__" 224 (vs "gluepage.errors" 187)), (dE P "__qualname__" 226 (vs "BadArgument" 225)), (dE P "__firstlineno__" 228 (vi 6 227)), (dE P "__static_attributes__" 229 (vr 43))] 4) #[])), (39, (oM (vt "tuple") none (dS #[] 0) #[])), (40, (oM vn none (dF #[]) #[])), (41, (oM (vt "code") none (dF #[(vs "BadArgument" 219), (vs "BadArgument" 220), (vs "/claim/cut.py" 221), (vi 6 0), (vi 0 0), (vi 0 0), (vi 0 0), (vi 0 0), (vr 39), (vB false), (vi 181 0), (vr 40), vn, vn, vn, vn, (vi 222 0), (vi 6 0), (vs "/claim/cut.py" 223)]) #[])), (42, (oM (vt "frame") none Data.plain #[(some (vr 41)), (some (vr 3)), (some (vr 38)), none, (some (vs "gluepage.errors" 187)), none, (some (vr 0))])), (46, (oM (vt "super") none (dF #[(vr 45), (vr 45), (vr 45)]) #[])), (47, (oM (vt "builtin_function_or_method") none (dF #[(vb "object.__init_subclass__"), (vr 45)]) #[])), (49, (oM (vt "builtin_function_or_method") none (dF #[(vb "type.__prepare__"), (vt "type")]) #[])), (50, (oM (vt "dict") none (Data.dict #[(dE P "__module__" 240 (vs "gluepage.errors" 187)), (dE P "__qualname__" 242 (vs "BadPattern" 241)), (dE P "__firstlineno__" 244 (vi 8 243)), (dE P "__static_attributes__" 245 (vr 55))] 4) #[])), (51, (oM (vt "tuple") none (dS #[] 0) #[])), (52, (oM vn none (dF #[]) #[])), (53, (oM (vt "code") none (dF #[(vs "BadPattern" 235), (vs "BadPattern" 236), (vs "/claim/cut.py" 237), (vi 8 0), (vi 0 0), (vi 0 0), (vi 0 0), (vi 0 0), (vr 51), (vB false), (vi 181 0), (vr 52), vn, vn, vn, vn, (vi 238 0), (vi 8 0), (vs "/claim/cut.py" 239)]) #[])), (54, (oM (vt "frame") none Data.plain #[(some (vr 53)), (some (vr 3)), (some (vr 50)), none, (some (vs "gluepage.errors" 187)), none, (some (vr 0))])), (58, (oM (vt "super") none (dF #[(vr 57), (vr 57), (vr 57)]) #[])), (59, (oM (vt "builtin_function_or_method") none (dF #[(vb "object.__init_subclass__"), (vr 57)]) #[])), (61, (oM vn none (dF #[]) #[])), (64, (oM vn none (Data.func (fd (df 5) "is_whole" 0 [] vn vn vn vn none vn vn 0)) #[])), (68, (oM vn none (dF #[]) #[])), (71, (oM vn none (Data.func (fd (df 6) "check_whole" 0 [] vn vn vn vn none vn vn 0)) #[])), (75, (oM vn none (dF #[]) #[])), (78, (oM vn none (Data.func (fd (df 10) "is_word" 0 [] vn vn vn vn none vn vn 0)) #[])), (82, (oM vn none (dF #[]) #[])), (85, (oM vn none (Data.func (fd (df 11) "inner_letters" 0 [] vn vn vn vn none vn vn 0)) #[])), (89, (oM vn none (dF #[]) #[])), (92, (oM vn none (Data.func (fd (df 12) "check_pattern" 0 [] vn vn vn vn none vn vn 0)) #[])), (96, (oM vn none (dF #[]) #[])), (99, (oM vn none (Data.func (fd (df 13) "word_key" 0 [] vn vn vn vn none vn vn 0)) #[])), (103, (oM vn none (dF #[]) #[])), (106, (oM vn none (Data.func (fd (df 14) "least_part" 0 [] vn vn vn vn none vn vn 0)) #[])), (110, (oM vn none (dF #[]) #[])), (113, (oM vn none (Data.func (fd (df 15) "read_pattern" 0 [] vn vn vn vn none vn vn 0)) #[])), (117, (oM vn none (dF #[]) #[])), (120, (oM vn none (Data.func (fd (df 16) "read_exception" 0 [] vn vn vn vn none vn vn 0)) #[])), (123, (oM (vt "tuple") none (dS #[] 0) #[])), (124, (oM (vt "builtin_function_or_method") none (dF #[(vb "type.__prepare__"), (vt "type")]) #[])), (125, (oM (vt "dict") none (Data.dict #[(dE P "__module__" 345 (vs "gluepage.hyphen" 267)), (dE P "__qualname__" 347 (vs "Patterns" 346)), (dE P "__firstlineno__" 349 (vi 83 348)), (dE P "__init__" 356 (vr 136)), (dE P "state_of" 366 (vr 143)), (dE P "add" 379 (vr 150)), (dE P "add_text" 389 (vr 157)), (dE P "add_exception" 395 (vr 162)), (dE P "add_word" 405 (vr 169)), (dE P "gap_numbers" 420 (vr 176)), (dE P "points" 428 (vr 182)), (dE P "__static_attributes__" 433 (vr 183))] 12) #[])), (126, (oM (vt "tuple") none (dS #[] 0) #[])), (127, (oM vn none (dF #[(vi 85 0), (vi 4 0), (vr 135), (vi 91 0), (vi 4 0), (vr 142), (vi 99 0), (vi 4 0), (vr 149), (vi 117 0), (vi 4 0), (vr 156), (vi 121 0), (vi 4 0), (vr 161), (vi 131 0), (vi 4 0), (vr 168), (vi 135 0), (vi 4 0), (vr 175), (vi 150 0), (vi 4 0), (vr 181)]) #[])), (128, (oM (vt "code") none (dF #[(vs "Patterns" 340), (vs "Patterns" 341), (vs "/claim/cut.py" 342), (vi 83 0), (vi 0 0), (vi 0 0), (vi 0 0), (vi 0 0), (vr 126), (vB false), (vi 181 0), (vr 127), vn, vn, vn, vn, (vi 343 0), (vi 83 0), (vs "/claim/cut.py" 344)]) #[])), (129, (oM (vt "frame") none Data.plain #[(some (vr 128)), (some (vr 3)), (some (vr 125)), none, (some (vs "gluepage.hyphen" 267)), none, (some (vr 0))])), (131, (oM vn none (dF #[]) #[])), (134, (oM vn none (Data.func (fd (dm 17 0) "Patterns.__init__" 0 [] vn vn vn vn none vn vn 0)) #[])), (138, (oM vn none (dF #[]) #[])), (141, (oM vn none (Data.func (fd (dm 17 1) "Patterns.state_of" 0 [] vn vn vn vn none vn vn 0)) #[])), (145, (oM vn none (dF #[]) #[])), (148, (oM vn none (Data.func (fd (dm 17 2) "Patterns.add" 0 [] vn vn vn vn none vn vn 0)) #[])), (152, (oM vn none (dF #[]) #[])), (155, (oM vn none (Data.func (fd (dm 17 3) "Patterns.add_text" 0 [] vn vn vn vn none vn vn 0)) #[])), (159, (oM vn none (dF #[]) #[])), (160, (oM vn none (Data.func (fd (dm 17 4) "Patterns.add_exception" 0 [] vn vn vn vn none vn vn 0)) #[])), (164, (oM vn none (dF #[]) #[])), (167, (oM vn none (Data.func (fd (dm 17 5) "Patterns.add_word" 0 [] vn vn vn vn none vn vn 0)) #[])), (171, (oM vn none (dF #[]) #[])), (174, (oM vn none (Data.func (fd (dm 17 6) "Patterns.gap_numbers" 0 [] vn vn vn vn none vn vn 0)) #[])), (179, (oM vn none (dF #[]) #[])), (180, (oM vn none (Data.func (fd (dm 17 7) "Patterns.points" 0 [] vn vn vn vn none vn vn 0)) #[])), (188, (oM (vt "super") none (dF #[(vr 185), (vr 185), (vr 185)]) #[])), (189, (oM (vt "builtin_function_or_method") none (dF #[(vb "object.__init_subclass__"), (vr 185)]) #[])), (191, (oM vn none (dF #[]) #[])), (194, (oM vn none (Data.func (fd (df 19) "_law_box" 0 [] vn vn vn vn none vn vn 0)) #[])), (198, (oM vn none (dF #[]) #[])), (201, (oM vn none (Data.func (fd (df 20) "_law_take" 0 [] vn vn vn vn none vn vn 0)) #[])), (205, (oM vn none (dF #[]) #[])), (208, (oM vn none (Data.func (fd (df 21) "_law_letter" 0 [] vn vn vn vn none vn vn 0)) #[])), (212, (oM vn none (dF #[]) #[])), (213, (oM vn none (Data.func (fd (df 22) "_law_form" 0 [] vn vn vn vn none vn vn 0)) #[])), (217, (oM vn none (dF #[]) #[])), (220, (oM vn none (Data.func (fd (df 23) "_law_written" 0 [] vn vn vn vn none vn vn 0)) #[])), (224, (oM vn none (dF #[]) #[])), (227, (oM vn none (Data.func (fd (df 24) "_law_said" 0 [] vn vn vn vn none vn vn 0)) #[])), (231, (oM vn none (dF #[]) #[])), (232, (oM vn none (Data.func (fd (df 25) "_law_filled" 0 [] vn vn vn vn none vn vn 0)) #[])), (236, (oM vn none (dF #[]) #[])), (237, (oM vn none (Data.func (fd (df 26) "_law_word" 0 [] vn vn vn vn none vn vn 0)) #[])), (241, (oM vn none (dF #[]) #[])), (242, (oM vn none (Data.func (fd (df 27) "_law_put" 0 [] vn vn vn vn none vn vn 0)) #[])), (246, (oM vn none (dF #[]) #[])), (247, (oM vn none (Data.func (fd (df 28) "_law_tops" 0 [] vn vn vn vn none vn vn 0)) #[])), (251, (oM vn none (dF #[]) #[])), (252, (oM vn none (Data.func (fd (df 29) "_law_due" 0 [] vn vn vn vn none vn vn 0)) #[])), (256, (oM vn none (dF #[]) #[])), (257, (oM vn none (Data.func (fd (df 30) "_law_refused" 0 [] vn vn vn vn none vn vn 0)) #[])), (261, (oM vn none (dF #[]) #[])), (264, (oM vn none (Data.func (fd (df 31) "_law_side" 0 [] vn vn vn vn none vn vn 0)) #[])), (268, (oM vn none (dF #[]) #[])), (269, (oM vn none (Data.func (fd (df 32) "_law_round" 0 [] vn vn vn vn none vn vn 0)) #[])), (273, (oM vn none (dF #[]) #[])), (276, (oM vn none (Data.func (fd (df 33) "law" 0 [] vn vn vn vn none vn vn 0)) #[]))]
noncomputable def mrg : Nat → List (Addr × Obj) → List (Addr × Obj) → List Obj
  | n + 1, (a, o) :: r, (b, u) :: s => match Nat.blt a b with
    | true => o :: mrg n r ((b, u) :: s)
    | false => u :: mrg n ((a, o) :: r) s
  | n + 1, [], (_, u) :: s => u :: mrg n [] s
  | n + 1, (_, o) :: r, [] => o :: mrg n r []
  | _, _, _ => []
noncomputable def ob (P : Params) : List Obj := mrg 279 (hp P) (topB P)
noncomputable def setL : List Obj → Nat → Obj → List Obj
  | [], _, _ => []
  | _ :: r, 0, o => o :: r
  | x :: r, n + 1, o => x :: setL r n o
noncomputable def nthO : List Obj → Nat → Obj
  | [], _ => default
  | x :: _, 0 => x
  | _ :: r, n + 1 => nthO r n
noncomputable def g3 (P : Params) (k : Nat) (e : DictEntry) : Obj := match (nthO (ob P) 3).data with
  | .dict es _ => oM (vt "dict") none (.dict (e :: (es.toList.drop 1).take (k - 1)).toArray k) #[]
  | _ => default
noncomputable def g12 (P : Params) (k : Nat) : Obj := match (nthO (ob P) 12).data with
  | .fields vs => oM vn none (.fields (vs.toList.take k).toArray) #[]
  | _ => default
noncomputable def l0 (P : Params) : List Obj := setL (setL ((ob P).take 15) 3 (boot_o_3 P)) 12 (g12 P 0)
noncomputable def l1 (P : Params) : List Obj := setL (setL (setL ((ob P).take 48) 3 (g3 P 11 (dE P "__name__" 165 (vs "gluepage.errors" 187)))) 12 (g12 P 6)) 32 (oM (vt "type") none (Data.cls (ClassData.mk "PageError" [(vt "ValueError")] [(vr 32), (vt "ValueError"), (vt "Exception"), (vt "BaseException"), (vt "object")] 31 "PageError" true [] [(vr 45)] false none false)) #[(some (vr 15)), none, (some (vs "PageError" 189)), (some (vs "PageError" 197)), (some (vb "ValueError.__new__")), (some (vB true))])
noncomputable def l2 (P : Params) : List Obj := setL (setL ((ob P).take 123) 3 (g3 P 23 (dE P "__name__" 165 (vs "gluepage.hyphen" 267)))) 12 (g12 P 36)
noncomputable def l3 (P : Params) : List Obj := setL (setL ((ob P).take 190) 3 (g3 P 24 (dE P "__name__" 165 (vs "gluepage.hyphen" 267)))) 12 (g12 P 39)
noncomputable def l4 (P : Params) : List Obj := ob P
noncomputable def insAll : List Obj → Nat → BT → BT
  | [], _, t => t
  | o :: r, n, t => insAll r (n + 1) (t.ins n o)
noncomputable abbrev sT (l : List Obj) (n k : Nat) (os : OsState) : SharedT := ⟨insAll l 0 .nil, n, {}, #[], {}, k, os⟩
noncomputable abbrev p0 : Program := rr.row.prog
noncomputable abbrev an : Option Value := some (.ref 6)
noncomputable def env0 : Env := { scope := p0.main.scope, locals := mainNs, globals := mainNs, cells := [], code := .ref 13, frame := some 14 }
noncomputable abbrev cE : Code := .body (behindTheImports p0) env0
noncomputable abbrev B0 : List Frame := [topFrame ⟨0, 0, 0, 0⟩]
noncomputable def sts (a b : Nat) : List Stmt := ((behindTheImports p0).drop a).take b
theorem pre0 (w : World) (os : OsState) : topGo treeTable p0 w 11 an 12 ⟨boot_heap w.params, #[], boot_drawn, boot_toks, os⟩ (topStub p0) = some ((sT (l0 w.params) 15 187 os).abs, ⟨denote treeTable cE, cE, ⟨0, 0, 0, 0⟩, B0⟩) := by kernel_rfl
theorem blk0 (w : World) (os : OsState) : segRun treeTable p0 w 11 an 1 1 (sT (l0 w.params) 15 187 os).abs (blockOf (behindTheImports p0) env0 cE ⟨0, 0, 0, 0⟩ B0) = some (.next, (sT (l0 w.params) 15 187 os).abs, cE, ⟨0, 0, 0, 0⟩) := by kernel_rfl
theorem pc0 (w : World) (os : OsState) : segRunT treeTable p0 w 11 an 1 460 (sT (l0 w.params) 15 187 os) (piecesOf (sts 0 3) env0 cE ⟨0, 0, 0, 0⟩ B0) = some (.next, (sT (l1 w.params) 48 233 os), cE, ⟨6, 0, 7, 8⟩) := by kernel_rfl
theorem pc1 (w : World) (os : OsState) : segRunT treeTable p0 w 11 an 1 560 (sT (l1 w.params) 48 233 os) (piecesOf (sts 3 14) env0 cE ⟨6, 0, 7, 8⟩ B0) = some (.next, (sT (l2 w.params) 123 338 os), cE, ⟨73, 0, 82, 28⟩) := by kernel_rfl
theorem pc2 (w : World) (os : OsState) : segRunT treeTable p0 w 11 an 1 470 (sT (l2 w.params) 123 338 os) (piecesOf (sts 17 1) env0 cE ⟨73, 0, 82, 28⟩ B0) = some (.next, (sT (l3 w.params) 190 441 os), cE, ⟨83, 0, 159, 85⟩) := by kernel_rfl
theorem pc3 (w : World) (os : OsState) : segRunT treeTable p0 w 11 an 1 450 (sT (l3 w.params) 190 441 os) (piecesOf (sts 18 16) env0 cE ⟨83, 0, 159, 85⟩ B0) = some (.next, (sT (l4 w.params) 279 550 os), cE, ⟨307, 0, 312, 15⟩) := by kernel_rfl
theorem fin0 (w : World) (os : OsState) : topRun treeTable p0 w 11 an 2 (sT (l4 w.params) 279 550 os).abs ⟨doneF .next, cE, ⟨307, 0, 312, 15⟩, B0⟩ = some (sT (l4 w.params) 279 550 os).abs := by kernel_rfl
theorem all0 : behindTheImports p0 = (sts 0 3 ++ (sts 3 14 ++ (sts 17 1 ++ (sts 18 16 ++ [])))) := by kernel_rfl
noncomputable abbrev H1 (P : Params) : Heap := absHeap (insAll (l4 P) 0 .nil) 279 {}
noncomputable abbrev Xt0 : Shared → Bool := fun s => xlAt vw [] s && recOk (RowW.records rr.row.toRowW) s
theorem lk1 (w : World) (os : OsState) : (staticsOk (importedModules p0.main.body) (boot_heap w.params) (H1 w.params) && namesBound p0 (H1 w.params) && gensDone ⟨H1 w.params, #[], {}, 550, os⟩ && laidKept (boot_heap w.params) (H1 w.params)) = true := by kernel_rfl
theorem lk2 (w : World) (os : OsState) : openSeen vw [Str.ofString "PageError"] (importedModules p0.main.body) Xt0 true ⟨H1 w.params, #[], {}, 550, os⟩ = openGood vw [Str.ofString "PageError"] := by kernel_rfl
theorem lk3 (w : World) (os : OsState) : Hook.obs hook ⟨H1 w.params, #[], {}, 550, os⟩ = Hook.val hook w := by kernel_rfl
theorem ru4 (w : World) (os : OsState) : topRun treeTable p0 w 11 an 2 (sT (l4 w.params) 279 550 os).abs (restOf [] env0 cE ⟨307, 0, 312, 15⟩ B0) = some (sT (l4 w.params) 279 550 os).abs := fin0 w os
theorem ru3 (w : World) (os : OsState) : topRun treeTable p0 w 11 an (450 + 2) (sT (l3 w.params) 190 441 os).abs (restOf (sts 18 16 ++ []) env0 cE ⟨83, 0, 159, 85⟩ B0) = some (sT (l4 w.params) 279 550 os).abs := piece_app (n := 450) (N := 2) (segRun_of (pc3 w os)) (ru4 w os)
theorem ru2 (w : World) (os : OsState) : topRun treeTable p0 w 11 an (470 + (450 + 2)) (sT (l2 w.params) 123 338 os).abs (restOf (sts 17 1 ++ (sts 18 16 ++ [])) env0 cE ⟨73, 0, 82, 28⟩ B0) = some (sT (l4 w.params) 279 550 os).abs := piece_app (n := 470) (N := (450 + 2)) (segRun_of (pc2 w os)) (ru3 w os)
theorem ru1 (w : World) (os : OsState) : topRun treeTable p0 w 11 an (560 + (470 + (450 + 2))) (sT (l1 w.params) 48 233 os).abs (restOf (sts 3 14 ++ (sts 17 1 ++ (sts 18 16 ++ []))) env0 cE ⟨6, 0, 7, 8⟩ B0) = some (sT (l4 w.params) 279 550 os).abs := piece_app (n := 560) (N := (470 + (450 + 2))) (segRun_of (pc1 w os)) (ru2 w os)
theorem ru0 (w : World) (os : OsState) : topRun treeTable p0 w 11 an (460 + (560 + (470 + (450 + 2)))) (sT (l0 w.params) 15 187 os).abs (restOf (sts 0 3 ++ (sts 3 14 ++ (sts 17 1 ++ (sts 18 16 ++ [])))) env0 cE ⟨0, 0, 0, 0⟩ B0) = some (sT (l4 w.params) 279 550 os).abs := piece_app (n := 460) (N := (560 + (470 + (450 + 2)))) (segRun_of (pc0 w os)) (ru1 w os)
theorem ru8 (w : World) (os : OsState) : topRun treeTable p0 w 11 an (460 + (560 + (470 + (450 + 2)))) (sT (l0 w.params) 15 187 os).abs (restOf (behindTheImports p0) env0 cE ⟨0, 0, 0, 0⟩ B0) = some (sT (l4 w.params) 279 550 os).abs := Eq.trans (congrArg (fun b => topRun treeTable p0 w 11 an (460 + (560 + (470 + (450 + 2)))) (sT (l0 w.params) 15 187 os).abs (restOf b env0 cE ⟨0, 0, 0, 0⟩ B0)) all0) (ru0 w os)
theorem ru9 (w : World) (os : OsState) : topRun treeTable p0 w 11 an (1 + (460 + (560 + (470 + (450 + 2))))) (sT (l0 w.params) 15 187 os).abs ⟨denote treeTable cE, cE, ⟨0, 0, 0, 0⟩, B0⟩ = some (sT (l4 w.params) 279 550 os).abs := piece_block (n := 1) (N := (460 + (560 + (470 + (450 + 2))))) (blk0 w os) (ru8 w os)
theorem absE (P : Params) (os : OsState) : (sT (l4 P) 279 550 os).abs = ⟨H1 P, #[], {}, 550, os⟩ := by kernel_rfl
theorem topAll (w : World) (os : OsState) : topRun treeTable p0 w 11 an ((12 + (1 + (460 + (560 + (470 + (450 + 2))))))) ⟨boot_heap w.params, #[], boot_drawn, boot_toks, os⟩ (topStub p0) = some ⟨H1 w.params, #[], {}, 550, os⟩ := (go_top (n := 12) (N := (1 + (460 + (560 + (470 + (450 + 2)))))) (pre0 w os) (ru9 w os)).trans (congrArg some (absE w.params os))
theorem left : LeftO rr.row.prog vw [Str.ofString "PageError"] Xt0 (Hook.obs hook) (Hook.val hook) 3848 :=
  LeftO.of_pieces (H₀ := boot_heap) (H₁ := H1) (gs₀ := #[]) (gs₁ := #[]) (d₀ := boot_drawn) (d₁ := {}) (k₀ := boot_toks) (k₁ := 550) (m₀ := 11) (ann := an) (M := (12 + (1 + (460 + (560 + (470 + (450 + 2)))))))
    (boot_open (by kernel_rfl) (by decide) (fun s => by kernel_rfl)) (fun w => by kernel_rfl) topAll (by decide)
    (fun w => funext fun os => looks_pair (lk1 w os) (looks_pair (lk2 w os) (lk3 w os)))
theorem said : OpenLaw.wellSaid rr = true := by
  delta OpenLaw.wellSaid OpenRow.wellSaid OpenRow.partSaid looksOpen
  repeat' (with_reducible refine look_both ?_ ?_)
  all_goals decide +kernel
end Mine
end
section
namespace Mine
open PySem PySem.W PySem.Calls PyProof.Rows
noncomputable abbrev KK (w : World) : Frag := hp w.params
noncomputable abbrev pg : Program := PySem.Challenge.rw_rg0153_01.row.prog
structure ExcCls (w : World) (C fI : Addr) : Prop where
  obj : ∃ x : EX, (KK w).lookup C = some (x.obj C) ∧ x.bm.contains (.type "ValueError") = true ∧ x.bm.contains (.type "AttributeError") = false ∧ x.bm.contains (.type "NameError") = false ∧ x.bm.contains (.type "BaseException") = true
  check : ∀ msg tk, peek (KK w) ⟨pg, w.params⟩ (checkBuiltinCall "ValueError.__new__" ⟨[.ref C, .str msg tk], []⟩) = some ()
  init : findIn (KK w) (.ref C) "__init__" = some (some (.ref fI))
  fn : ∃ oI, (KK w).lookup fI = some oI ∧ oI.cls = .type "function"
  sets : findIn (KK w) (.ref C) "__setattr__" = some (some (.builtin "object.__setattr__"))
  cd : ∃ cd mro, clsIn (KK w) C = some cd ∧ cd.mro = mro ∧ cd.hasDict = true ∧ ∀ x : Value, refuseLoop x "__setattr__" mro = pure ()
  top : mroIn (KK w) C (.type "object") = some true
  reason : findIn (KK w) (.ref C) "reason" = some none
  keep : keepIn (KK w) (.ref C) = true
theorem zh8 (x : Value) : refuseLoop x "__setattr__" [.type "ValueError", .type "Exception", .type "BaseException", .type "object"] = pure () := by kernel_rfl
theorem zg9 (w : World) : ExcCls w 57 29 where
  check := fun _ _ => by kernel_rfl
  obj := ⟨⟨_, _, _, _, _, _, _, _, _, _, _, _, _, _, _, _⟩, rfl, by decide +kernel, by decide +kernel, by decide +kernel, by decide +kernel⟩
  init := by kernel_rfl
  fn := ⟨_, rfl, rfl⟩
  sets := by kernel_rfl
  cd := ⟨_, _, rfl, rfl, rfl, fun x => by rw [refuseLoop_ref, refuseLoop_ref]; exact zh8 x⟩
  top := by kernel_rfl
  reason := by kernel_rfl
  keep := by kernel_rfl
theorem zf3 (w : World) : ExcCls w 45 29 where
  check := fun _ _ => by kernel_rfl
  obj := ⟨⟨_, _, _, _, _, _, _, _, _, _, _, _, _, _, _, _⟩, rfl, by decide +kernel, by decide +kernel, by decide +kernel, by decide +kernel⟩
  init := by kernel_rfl
  fn := ⟨_, rfl, rfl⟩
  sets := by kernel_rfl
  cd := ⟨_, _, rfl, rfl, rfl, fun x => by rw [refuseLoop_ref, refuseLoop_ref]; exact zh8 x⟩
  top := by kernel_rfl
  reason := by kernel_rfl
  keep := by kernel_rfl
end Mine
end
section
namespace Mine
open PySem PySem.W PySem.Calls PyProof.Rows
structure Room (A : Around) (n : Nat) : Prop where
  handled : A.handled = none
  depth : A.depth + n < recursionLimit
theorem Room.mono {A : Around} {n m : Nat} (r : Room A n) (h : m ≤ n) : Room A m := ⟨r.handled, Nat.lt_of_le_of_lt (Nat.add_le_add_left h _) r.depth⟩
theorem Room.deeper {A : Around} {n : Nat} {env : Env} (r : Room A (n + 1)) : Room (A.deeper env) n := ⟨r.handled, by have := r.depth; show A.depth + 1 + n < _; omega⟩
theorem Room.lt {A : Around} {n : Nat} (r : Room A n) : A.depth < recursionLimit := Nat.lt_of_le_of_lt (Nat.le_add_right _ _) r.depth
section
variable {prog : Program} {w : World} {G0 : Heap} {K : Kon} {g g' : PH} {s s' : Shared} {ℓ ℓ' ρ : Led} {a L : Addr} {c c' : Cell} {h' : Heap} {t : Nat}
  {env : Env} {fr : Option Addr} {kinds : List (Str × NameKind)} {cl : List (Str × Addr)} {loc loc' : Loc} {A : Around} {E : Value → Shared → Prop} {x : Str} {pos pos' : Pos}
theorem zco {M : Model} {o value : Expr} {rest : List Stmt} {Q : Flow → Shared → Prop}
    (h : wpAny M A (eval value env) (fun v s₁ => wpAny M A (eval o env) (fun ov s₂ => wpAny M A (setAttr ov x v) (fun _ s₃ => wpAny M A (execs rest env) Q E s₃) E s₂) E s₁) E s)
    (hs : swapsWith value (some (.Attribute o x pos')) pos.line env = pure false) : wpAny M A (execs (.Assign [.Attribute o x pos'] value pos :: rest) env) Q E s :=
  wpAny_execs_cons (plainObj_wpAny_Assign_Attribute h hs)
end
noncomputable abbrev excObj (C t : Addr) (dx : Option Addr) : Obj := { cls := .ref C, dict := dx, data := .fields #[.ref t, .none, .none, .none, .bool false, .none] }
theorem zn2 {w : World} {G0 : Heap} {Φ : List Addr} {g : PH} {s : Shared} {A : Around} {R : Result → Shared → Prop} {e C tt : Addr} {msg : Str} {t0 : Tok}
    (XX : (KK w).In G0) (hlim : G0.NoLimit) (hC : ExcCls w C 29) (I : Inv w G0 Φ g s.heap [(e, .raw (excObj C tt none))]) (hroom : Room A 1)
    (k : ∀ dx s', SS w G0 ⟨Φ, s, g, [e]⟩ g s' [(e, .raw (excObj C tt (some dx)))] → R (.ok (.ret .none)) s') :
    codeAny (model pg w) A (.call (.ref 29) ⟨[.ref e, .str msg t0], []⟩) R s := by
  refine zan (vals := [.ref e, .str msg t0]) I XX hlim hroom.lt (by exact rfl) (by kernel_rfl) (BindsTo.of_defaults (T := 22) rfl (I.stat _ _ (XX 22 _ rfl)) rfl rfl rfl) (by decide +kernel) (by decide) (by rfl) ?_
  intro env L s₁ X S Q E hQ hN hEr hPO
  dsimp only [mkLoc, zah, zap, zar, zal, zaj, zak, za0] at S
  refine zco ?_ (by with_unfolding_all rfl)
  refine r_str X S (.tail _ (.head _)) (.tail _ (.head _)) ?_
  refine zof X S (.head _) (.head _) ?_
  obtain ⟨cd, mro, c1, c2, c3, c4⟩ := hC.cd
  obtain ⟨o, ho, ho'⟩ := S.at (.tail _ (.head _))
  subst ho'
  refine zjy (fun a o q => S.st.inv.stat a o (XX a o q)) ⟨ho, rfl, rfl, trivial⟩ rfl (fun _ => nofun) rfl hC.sets c1 c2 hC.top (c4 _) hC.reason c3 fun h' d tk q1 q2 q3 q4 => ?_
  have S' := S.mutate (t := tk) (c' := .raw (excObj C tt (some d))) (.tail .head) q3 ⟨_, q1, rfl⟩ q4
  refine zas (hN _ ?_)
  exact k _ _ S'.drop1
structure Thrown (C : Addr) (e : Addr) (s s' : Shared) : Prop where
  keeps : ∀ b o, s.heap.get? b = some o → s'.heap.get? b = some o
  new : s.heap.get? e = none
  obj : ∃ t dx, s'.heap.get? e = some (excObj C t dx)
  same : Same s s'
theorem zbo {w : World} {G0 : Heap} {K : Kon} {g : PH} {s : Shared} {ℓ : Led} {L C : Addr} {env : Env} {fr : Option Addr} {kinds : List (Str × NameKind)} {cl : List (Str × Addr)} {A : Around} {E : Value → Shared → Prop} {x msg : Str} {np mp cpos pos : Pos} {kk : Nat} {rest : List Stmt} {Q : Flow → Shared → Prop}
    (XX : (KK w).In G0) (hlim : G0.NoLimit) (hC : ExcCls w C 29) (X : EnvOk env L fr kinds cl) (S : SS w G0 K g s ℓ) (hk : (x, .globalImplicit) ∈ kinds) (hg : Glob G0 x (.ref C)) (hroom : Room A 2)
    (hE : ∀ e s', Thrown C e s s' → E (.ref e) s') :
    wpAny (model pg w) A (execs (.Raise (some (.Call (.Name x np) [.Constant (.str msg) kk mp] [] cpos)) none pos :: rest) env) Q E s := by
  obtain ⟨ex, hob, hB, hA, hN, hBE⟩ := hC.obj
  obtain ⟨oI, hoI, hcI⟩ := hC.fn
  refine wpAny_execs_cons ?_
  show wpAny _ A (do standAt pos; raiseStmt env (some (do let v ← eval (.Call (.Name x np) [.Constant (.str msg) kk mp] [] cpos) env; standAt pos; pure v)) none) _ _ _
  have hCo : ∀ h : Heap, (∀ b o, G0.get? b = some o → h.get? b = some o) → h.get? C = some (ex.obj C) := fun h hk => hk _ _ (XX _ _ hob)
  refine wpAny_bind (wpAny_standAt (zlo (ex := ex) (C := C) hBE hroom.handled (wpAny_bind ?_)))
  refine Call_ ?_
  refine zax X S hk hg ?_
  refine callWith_K XX hC.keep ?_
  refine args_cons ?_
  obtain ⟨hp, gg, dr, tk, os⟩ := s
  refine Constant_str ?_
  have keep₁ : ∀ b o, G0.get? b = some o → hp.get? b = some o := S.st.inv.stat
  refine args_nil ⟨fun a o q => keep₁ a o (XX a o q), ?_⟩
  refine zmy (bmB := [.type "ValueError", .type "Exception", .type "BaseException", .type "object"]) (oI := oI) (hrest := by show 1 ≤ sizeLine; rw [sizeLine_eq]; decide) PySem.F.excBase_ValueError hB hA hN (hCo hp keep₁) (Looks.of_peek (fun a o q => keep₁ a o (XX a o q)) (hC.check _ _)) (looks_findIn (fun a o q => keep₁ a o (XX a o q)) hC.init) (keep₁ _ _ (XX _ _ hoI)) hcI fun h' e hm => ?_
  obtain ⟨tt, ho, htn, htt⟩ := hm.there
  have stat' : ∀ b o, G0.get? b = some o → h'.get? b = some o := fun b o q => hm.keeps b o (keep₁ b o q)
  have I : Inv w G0 [] (fun _ => none) h' [(e, .raw (excObj C tt none))] := by
    refine ⟨stat', fun b c q => (by cases q), fun p hq => ?_, (by simp), fun p hq => rfl, fun p hq => ?_, fun b hb => (by cases hb)⟩
    · rw [List.mem_singleton.mp hq]; exact ⟨_, ho, rfl⟩
    · rw [List.mem_singleton.mp hq]
      cases q : G0.get? e with
      | none => rfl
      | some o => have := keep₁ e o q; rw [hm.new] at this; cases this
  refine wpAny_call (zn2 XX hlim hC I ⟨hroom.handled, ?_⟩ fun dx s' S' => ?_)
  · show A.depth + _ + 1 < _
    have := hroom.depth
    have hw : (Code.builtin "type.__call__" ⟨[.ref C, .str msg tk], []⟩).weight = 1 := by rfl
    show A.depth + (Code.builtin "type.__call__" ⟨[.ref C, .str msg tk], []⟩).weight + 1 < _
    rw [hw]; omega
  · refine ⟨rfl, wpAny_bind (wpAny_standAt (wpAny_pure ⟨e, tt, some dx, rfl, hCo _ S'.st.inv.stat, ?_, hE e s' ?_⟩))⟩
    · obtain ⟨o, ho, rfl⟩ := S'.at (.head _); exact ho
    · refine ⟨fun b o q => ?_, hm.new, ?_, ⟨S'.same.gens, S'.same.drawn, S'.same.os⟩⟩
      · refine S'.st.since.kept b o (hm.keeps b o q) (fun hb => ?_) (fun hb => by cases hb)
        have hb' : b = e := List.mem_singleton.mp hb
        have q' : hp.get? b = some o := q
        rw [hb', hm.new] at q'; cases q'
      · obtain ⟨o, ho, rfl⟩ := S'.at (.head _); exact ⟨_, _, ho⟩
end Mine
end
section
namespace Mine
open PySem PySem.W PySem.Calls PyProof.Rows
structure Stk (A : Around) (outer : List Env) (Φ : List Addr) : Prop where
  frames : A.frames = some outer
  adr : outer.filterMap (·.frame) = Φ
  fn : ∀ env ∈ outer, env.scope.kind ≠ .module ∧ ∃ L, env.frame = some L
theorem Stk.deeper {A : Around} {outer : List Env} {Φ : List Addr} {env : Env} {L : Addr} {kinds : List (Str × NameKind)} {cl : List (Str × Addr)} (K : Stk A outer Φ) (X : EnvOk env L (some L) kinds cl) : Stk (A.deeper env) (env :: outer) (L :: Φ) := by
  refine ⟨Around.frames_deeper K.frames, ?_, fun e he => ?_⟩
  · rw [List.filterMap_cons, X.frame]; simp [K.adr]
  · rcases List.mem_cons.mp he with rfl | he
    · exact ⟨(by rw [X.kind]; decide), L, X.frame⟩
    · exact K.fn e he
theorem zfz {B h : Heap} : ∀ {outer : List Env}, (∀ env ∈ outer, env.scope.kind ≠ .module ∧ ∃ L, env.frame = some L) → (∀ a ∈ outer.filterMap (·.frame), B.get? a = none ∧ DictAt h a) → h.FunFrames B outer
  | [], _, _ => trivial
  | env :: r, h1, h2 => by
    obtain ⟨k, L, hL⟩ := h1 env (.head _)
    have hm : L ∈ (env :: r).filterMap (·.frame) := by rw [List.filterMap_cons, hL]; exact .head _
    obtain ⟨hB, o, es, n, ho, hd⟩ := h2 L hm
    refine ⟨k, ⟨L, o, hL, hB, ho, fun vs q => by rw [hd] at q; cases q⟩, zfz (fun e he => h1 e (.tail _ he)) fun a ha => h2 a ?_⟩
    rw [List.filterMap_cons, hL]; exact .tail _ ha
section
variable {w : World} {G0 : Heap} {K : Kon} {g g' : PH} {s s' : Shared} {ℓ ℓ' ρ cells : Led} {a L C e : Addr} {loc : Loc} {outer : List Env} {t : Nat}
theorem SS.slots {B h' : Heap} (S : SS w G0 K g s ((L, .ns loc) :: ℓ)) (hB : ∀ b o, s.heap.get? b = some o → b ∉ L :: K.Φ → B.get? b = some o) (k : B.StaysIn h') (u : ∀ b o, s.heap.get? b = some o → b ∈ L :: K.Φ → ∃ sl, h'.get? b = some { o with slots := sl }) :
    SS w G0 K g { s with heap := h', toks := t } ((L, .ns loc) :: ℓ) := by
  obtain ⟨⟨I, T⟩, same⟩ := S
  have mL : ((L, Cell.ns loc) : Addr × Cell) ∈ ((L, Cell.ns loc) :: ℓ) := .head _
  have nd := I.nd
  simp only [List.map_cons, List.nodup_cons] at nd
  have keep : ∀ b o, s.heap.get? b = some o → b ∉ L :: K.Φ → h'.get? b = some o := fun b o q n => k b o (hB b o q n)
  have offG : ∀ b o, G0.get? b = some o → b ∉ L :: K.Φ := fun b o q m => by
    rcases List.mem_cons.mp m with m | m
    · have x := I.gst _ mL
      have x' : G0.get? b = none := m ▸ x
      rw [q] at x'; cases x'
    · rw [(I.ph b m).2.2.1] at q; cases q
  have offg : ∀ b c, g b = some c → b ∉ L :: K.Φ := fun b c q m => by
    rcases List.mem_cons.mp m with m | m
    · have x := I.gl _ mL
      have x' : g b = none := m ▸ x
      rw [q] at x'; cases x'
    · rw [(I.ph b m).1] at q; cases q
  have offl : ∀ p ∈ ℓ, p.1 ∉ L :: K.Φ := fun p hp m => by
    rcases List.mem_cons.mp m with m | m
    · exact nd.1 (m ▸ List.mem_map_of_mem hp)
    · exact (I.ph _ m).2.1 (List.mem_map_of_mem (List.Mem.tail _ hp))
  refine ⟨⟨⟨fun b o q => keep b o (I.stat b o q) (offG b o q), fun b c q => (I.facts b c q).congr fun o ho => keep b o ho (offg b c q), fun p hp => ?_, I.nd, I.gl, I.gst, fun b hb => ?_⟩,
    ⟨fun b o q hC hΦ => ?_, fun b hb o q => ?_, fun b q => T.alive b ?_, T.gm, T.gn, T.ln⟩⟩, ⟨same.gens, same.drawn, same.os⟩⟩
  · rcases List.mem_cons.mp hp with rfl | hp
    · exact (I.led _ mL).ns_slots fun o ho => u _ o ho (.head _)
    · exact (I.led p (.tail _ hp)).congr fun o ho => keep _ o ho (offl p hp)
  · obtain ⟨x1, x2, x3, o, es, n, x4, x5⟩ := I.ph b hb
    obtain ⟨sl, y⟩ := u b o x4 (.tail _ hb)
    exact ⟨x1, x2, x3, _, es, n, y, x5⟩
  · have x := T.kept b o q hC hΦ
    by_cases hb : b = L
    · subst hb
      rcases T.ln _ mL with y | y
      · exact absurd y hC
      · have y' : K.s₀.heap.get? b = none := y
        rw [q] at y'; cases y'
    · exact keep b o x fun m => by
        rcases List.mem_cons.mp m with m | m
        · exact hb m
        · exact hΦ m
  · obtain ⟨sl, x⟩ := T.slots b hb o q
    obtain ⟨sl', y⟩ := u b _ x (.tail _ hb)
    exact ⟨sl', y⟩
  · cases z : s.heap.get? b with
    | none => rfl
    | some o =>
      by_cases m : b ∈ L :: K.Φ
      · obtain ⟨sl, y⟩ := u b o z m
        have q' : h'.get? b = none := q
        rw [y] at q'; cases q'
      · have y := keep b o z m
        have q' : h'.get? b = none := q
        rw [y] at q'; cases q'
noncomputable def FlyS (w : World) (G0 : Heap) (outer : List Env) (C e : Addr) (K : Kon) (g : PH) (s : Shared) (ℓ : Led) : Prop :=
  ∃ B a0, Heap.FlyingW B outer e (.ref C) a0 s.heap ∧ ∀ h' t, B.StaysIn h' → s.heap.UpToSlots h' → SS w G0 K g { s with heap := h', toks := t } ℓ
theorem SS.to (S : SS w G0 K g s ℓ) (h : s'.heap = s.heap) (x : Same s s') : SS w G0 K g s' ℓ := ⟨by rw [h]; exact S.st, S.same.trans x⟩
theorem SS.dict {b : Addr} (S : SS w G0 K g s ((L, .ns loc) :: ℓ)) (hb : b ∈ L :: K.Φ) : DictAt s.heap b := by
  rcases List.mem_cons.mp hb with rfl | hb
  · exact (S.at (.head _)).dictAt
  · exact (S.st.inv.ph b hb).2.2.2
theorem FlyS.now (F : FlyS w G0 outer C e K g s ℓ) : SS w G0 K g s ℓ := by
  obtain ⟨B, a0, fl, k⟩ := F
  exact (k s.heap s.toks fl.1 (Heap.UpToSlots.refl _)).to rfl ⟨rfl, rfl, rfl⟩
theorem FlyS.up0 {loc : Loc} (F : FlyS w G0 outer C e ⟨L :: K.Φ, s, g, cells.map Prod.fst⟩ g' s' ℓ') (S : SS w G0 K g s ((L, .ns loc) :: cells)) : FlyS w G0 outer C e K g' s' ((L, .ns loc) :: ℓ') := by
  obtain ⟨B, a0, fl, k⟩ := F
  exact ⟨B, a0, fl, fun h' t x y => (k h' t x y).ret0 S⟩
section
variable {M : Model} {A : Around} {E : Value → Shared → Prop} {env : Env} {kinds : List (Str × NameKind)} {cl : List (Str × Addr)} {Q : Unit → Shared → Prop}
theorem zau (K₀ : Stk A outer K.Φ) (X : EnvOk env L (some L) kinds cl) (T : Thrown C e s s') (S : SS w G0 K g s ((L, .ns loc) :: ℓ)) (hQ : ∀ s'', FlyS w G0 outer C e K g s'' ℓ → Q () s'') :
    wpAny M (A.deeper env) (leaving env (.ref e)) Q E s' := by
  have K₁ := K₀.deeper X
  obtain ⟨tt, dx, he⟩ := T.obj
  have hide : ∀ b ∈ e :: L :: K.Φ, (hideAll s'.heap (e :: L :: K.Φ)).get? b = none := fun b hb => hideAll_none _ hb
  have dict : ∀ b ∈ L :: K.Φ, DictAt s'.heap b := fun b hb => by
    obtain ⟨o, es, n, ho, hd⟩ := S.dict hb
    exact ⟨o, es, n, T.keeps _ _ ho, hd⟩
  have ne : ∀ b o, s.heap.get? b = some o → b ≠ e := fun b o q z => by rw [z, T.new] at q; cases q
  refine wpAny_leaving_firstW (base := hideAll s'.heap (e :: L :: K.Φ)) K₁.frames (zfz K₁.fn fun b hb => ?_) X.frame he (fun b o q => of_hideAll _ q) (hide e (.head _)) rfl rfl rfl fun h' hL => ?_
  · rw [K₁.adr] at hb
    exact ⟨hide b (.tail _ hb), dict b hb⟩
  · obtain ⟨k1, ⟨_, _, k2⟩, k3, k4⟩ := hL
    refine hQ _ ⟨_, _, ⟨k1, hide e (.head _), k2, k3⟩, fun h'' t x y => ?_⟩
    have S' := S.slots (t := t) (h' := h'') (B := hideAll s'.heap (e :: L :: K.Φ)) (fun b o q n => hideAll_get _ (T.keeps b o q) fun m => by
      rcases List.mem_cons.mp m with m | m
      · exact ne b o q m
      · exact n m) x fun b o q m => by
        obtain ⟨o', es, n, z1, z2⟩ := S.dict m
        have z3 := T.keeps _ _ q
        have nf : ∀ vs, o.data ≠ .fields vs := fun vs z => by
          rw [q] at z1; cases z1; rw [z2] at z; cases z
        obtain ⟨sl, z4⟩ := k4 b o z3 nf
        obtain ⟨sl', z5⟩ := y b _ z4 nf
        exact ⟨sl', z5⟩
    exact S'.drop1.to rfl ⟨T.same.gens, T.same.drawn, T.same.os⟩
theorem zbp (K₀ : Stk A outer K.Φ) (X : EnvOk env L (some L) kinds cl) (F : FlyS w G0 (env :: outer) C e K g s ((L, .ns loc) :: ℓ)) (hQ : ∀ s'', FlyS w G0 outer C e K g s'' ℓ → Q () s'') :
    wpAny M (A.deeper env) (leaving env (.ref e)) Q E s := by
  obtain ⟨B, a0, fl, k⟩ := F
  refine wpAny_leaves_onW (K₀.deeper X).frames X.frame fl fun h' x1 x2 => hQ _ ⟨B, a0, x1, fun h'' t y1 y2 => ?_⟩
  exact (k h'' t y1 (x2.trans y2)).drop1
theorem zkl {α : Type} (K₀ : Stk A outer K.Φ) (X : EnvOk env L (some L) kinds cl) (F : FlyS w G0 (env :: outer) C e K g s ℓ) {next : Sem α} {Q' : α → Shared → Prop}
    (hQ : ∀ s'', FlyS w G0 (env :: outer) C e K g s'' ℓ → wpAny M (A.deeper env) next Q' E s'') :
    wpAny M (A.deeper env) (noteFrame (.ref e) env) (fun _ s₂ => wpAny M (A.deeper env) (setFlight (.ref e) none) (fun _ s₃ => wpAny M (A.deeper env) next Q' E s₃) E s₂) E s := by
  obtain ⟨B, a0, fl, k⟩ := F
  refine wpAny_looks_onW (K₀.deeper X).frames X.frame fl fun h₁ held u₁ => ?_
  refine wpAny_landsW held fun h₂ fl₂ u₂ => ?_
  exact hQ _ ⟨B, a0, fl₂, fun h'' t y1 y2 => k h'' t y1 ((u₁.trans u₂).trans y2)⟩
end
end
end Mine
end
section
namespace Mine
open PySem PySem.W PySem.Calls PyProof.Rows
noncomputable abbrev Caught (KF : Frag) (C D : Addr) (b : Bool) : Prop := exmOne KF (.ref C) (.ref D) = some b
theorem zm3 (w : World) : Caught (KK w) 57 57 true := by kernel_rfl
theorem zm2 (w : World) : Caught (KK w) 45 45 true := by kernel_rfl
theorem zi9 (w : World) : Caught (KK w) 45 57 false := by kernel_rfl
section
variable {w : World} {G0 : Heap} {K : Kon} {g g' : PH} {s s' : Shared} {ℓ ℓ' ρ cells : Led} {a L C D e : Addr} {loc : Loc} {outer : List Env} {t : Nat}
variable {A : Around} {E : Value → Shared → Prop} {env : Env} {kinds : List (Str × NameKind)} {cl : List (Str × Addr)} {Q : Flow → Shared → Prop} {x : Str} {np pos : Pos} {b₀ : Stmt} {suite : List Stmt} {rest : List ExceptHandler}
theorem zj9 {b : Bool} {Q : Bool → Shared → Prop} (XX : (KK w).In G0) (X : EnvOk env L (some L) kinds cl) (F : FlyS w G0 outer C e K g s ℓ) (hk : (x, .globalImplicit) ∈ kinds) (hg : Glob G0 x (.ref D)) (hc : Caught (KK w) C D b) (h : Q b s) :
    wpAny (model pg w) A (eval (.Name x np) env) (fun c s₁ => wpAny (model pg w) A (excMatches (.ref e) c) Q E s₁) E s := by
  have S := F.now
  refine zax X S hk hg ?_
  obtain ⟨B, a0, fl, k⟩ := F
  obtain ⟨ob, hob, hcls⟩ := fl.there
  exact (exm_one (fun a o q => S.st.inv.stat a o (XX a o q)) (hcls ▸ (Looks.ld hob).andThen .now) hc).here h
theorem zj0 (XX : (KK w).In G0) (X : EnvOk env L (some L) kinds cl) (F : FlyS w G0 outer C e K g s ℓ) (hk : (x, .globalImplicit) ∈ kinds) (hg : Glob G0 x (.ref D)) (hc : Caught (KK w) C D false)
    (h : wpAny (model pg w) A (handleBy (.ref e) env rest) Q E s) {body : List Stmt} : wpAny (model pg w) A (handleBy (.ref e) env (.ExceptHandler (some (.Name x np)) none body pos :: rest)) Q E s := by
  refine wpAny_handleBy_cons (codeAny_handlers_test (zj9 XX X F hk hg hc ?_)) (fun q => nomatch q)
  exact h
theorem zhm (XX : (KK w).In G0) (X : EnvOk env L (some L) kinds cl) (F : FlyS w G0 outer C e K g s ℓ) (hk : (x, .globalImplicit) ∈ kinds) (hg : Glob G0 x (.ref D)) (hc : Caught (KK w) C D true)
    (h : ∀ s'', SS w G0 K g s'' ℓ → wpAny (model pg w) (A.mark (some (.ref e))) (execs (b₀ :: suite) env) (fun f s₂ => Q f s₂) (fun _ _ => False) s'') :
    wpAny (model pg w) A (handleBy (.ref e) env (.ExceptHandler (some (.Name x np)) none (b₀ :: suite) pos :: rest)) Q E s := by
  refine wpAny_handleBy_cons (codeAny_handlers_test (zj9 XX X F hk hg hc ?_)) (fun q => nomatch q)
  refine codeAny_handlers_suite ?_
  obtain ⟨B, a0, fl, k⟩ := F
  refine lands_againW fl fun h' fl' u' => ?_
  exact wpAny_mono (h _ ((k h' s.toks fl'.1 u').to rfl ⟨rfl, rfl, rfl⟩)) (fun _ _ x => x) fun _ _ x => x.elim
noncomputable def DeedOk (w : World) (G0 : Heap) (g : PH) (cells : Led) (deed : Value) (n : Nat) (okP : PH → Led → Prop) (badP : Addr → Prop) : Prop :=
  ∀ (A' : Around) (outer' : List Env) (Φ' : List Addr) (s₁ : Shared) (R' : Result → Shared → Prop), Stk A' outer' Φ' → Room A' n → Inv w G0 Φ' g s₁.heap cells →
    (∀ v g' cells' s', okP g' cells' → SS w G0 ⟨Φ', s₁, g, cells.map Prod.fst⟩ g' s' cells' → R' (.ok (.ret v)) s') →
    (∀ C e s', badP C → FlyS w G0 outer' C e ⟨Φ', s₁, g, cells.map Prod.fst⟩ g s' cells → R' (.error (.ref e)) s') →
    codeAny (model pg w) A' (.call deed ⟨[], []⟩) R' s₁
noncomputable def thenRest (w : World) (A : Around) (E : Value → Shared → Prop) (rest : List Stmt) (env : Env) (Q : Flow → Shared → Prop) : Flow → Shared → Prop
  | .next, s => wpAny (model pg w) A (execs rest env) Q E s
  | f, s => Q f s
theorem x_try {body orelse rest : List Stmt} {h₀ : ExceptHandler} {hs : List ExceptHandler}
    (h : wpAny (model pg w) A (execs body env) (thenRest w A E orelse env (thenRest w A E rest env Q))
      (fun e s₁ => wpAny (model pg w) A (noteFrame e env) (fun _ s₂ => wpAny (model pg w) A (setFlight e none) (fun _ s₃ => wpAny (model pg w) A (handleBy e env (h₀ :: hs)) (thenRest w A E rest env Q) E s₃) E s₂) E s₁) s) :
    wpAny (model pg w) A (execs (.Try body (h₀ :: hs) orelse [] pos :: rest) env) Q E s := by
  refine wpAny_execs_cons (wpAny_mono (wpAny_Try_except (Q := thenRest w A E rest env Q) (wpAny_mono h (fun f s₁ h₁ => ?_) fun _ _ x => x)) (fun f s₁ h₁ => ?_) fun _ _ x => x)
  · cases f <;> exact h₁
  · cases f <;> exact h₁
end
theorem zn0 {w : World} {G0 : Heap} {K : Kon} {g : PH} {s : Shared} {ℓ : Led} {f : Addr} {oc : Value} {od : Option Addr} {fd : FuncData} {sl : Array (Option Value)} (S : SS w G0 K g s ℓ) (h : g f = some (.raw ⟨oc, od, .func fd, sl⟩)) : FnAt f s.heap := by
  obtain ⟨o, ho, rfl⟩ := S.fact h
  exact ⟨_, _, _, _, ho⟩
end Mine
end
section
namespace Mine
open PySem PySem.W PySem.Calls PyProof.Rows
structure Gd (w : World) (G0 : Heap) : Prop where
  XX : (KK w).In G0
  lim : G0.NoLimit
  gl : ∃ mg, G0.Ns mainGlobals mg
  bl : ∃ mb, G0.Ns builtinsNs mb ∧ ∀ x : Str, x ≠ "__name__" → mb x = bootBuiltins x
theorem Gd.glob {w : World} {G0 : Heap} (G : Gd w G0) {x : Str} {v : Value} (e : nsIn (KK w) mainGlobals x = some (some v)) : Glob G0 x v := by
  obtain ⟨mg, hg⟩ := G.gl
  exact .inl ⟨mg, hg, mg_of G.XX hg e⟩
theorem Gd.blob {w : World} {G0 : Heap} (G : Gd w G0) {x : Str} {v : Value} (e : nsIn (KK w) mainGlobals x = some none) (hv : bootBuiltins x = some v) (hn : x ≠ "__name__") : Glob G0 x v := by
  obtain ⟨mg, hg⟩ := G.gl
  obtain ⟨mb, hb, hbb⟩ := G.bl
  exact .inr ⟨mg, mb, hg, mg_none_of G.XX hg e, hb, (hbb x hn).trans hv⟩
section
variable {w : World} {G0 : Heap} (G : Gd w G0)
include G
theorem zeg : Glob G0 "is_whole" (.ref 66) := G.glob (by kernel_rfl)
theorem zh0 : Glob G0 "check_whole" (.ref 73) := G.glob (by kernel_rfl)
theorem ze4 : Glob G0 "is_word" (.ref 80) := G.glob (by kernel_rfl)
theorem zgl : Glob G0 "inner_letters" (.ref 87) := G.glob (by kernel_rfl)
theorem zdf : Glob G0 "check_pattern" (.ref 94) := G.glob (by kernel_rfl)
theorem zhf : Glob G0 "word_key" (.ref 101) := G.glob (by kernel_rfl)
theorem zfy : Glob G0 "least_part" (.ref 108) := G.glob (by kernel_rfl)
theorem zet : Glob G0 "read_pattern" (.ref 115) := G.glob (by kernel_rfl)
theorem zd0 : Glob G0 "read_exception" (.ref 122) := G.glob (by kernel_rfl)
theorem zk0 : Glob G0 "_law_box" (.ref 196) := G.glob (by kernel_rfl)
theorem za6 : Glob G0 "_law_take" (.ref 203) := G.glob (by kernel_rfl)
theorem zfd : Glob G0 "_law_letter" (.ref 210) := G.glob (by kernel_rfl)
theorem zjo : Glob G0 "_law_form" (.ref 215) := G.glob (by kernel_rfl)
theorem zhb : Glob G0 "_law_written" (.ref 222) := G.glob (by kernel_rfl)
theorem zcv : Glob G0 "_law_said" (.ref 229) := G.glob (by kernel_rfl)
theorem zhx : Glob G0 "_law_filled" (.ref 234) := G.glob (by kernel_rfl)
theorem zev : Glob G0 "_law_word" (.ref 239) := G.glob (by kernel_rfl)
theorem zla : Glob G0 "_law_put" (.ref 244) := G.glob (by kernel_rfl)
theorem zjg : Glob G0 "_law_tops" (.ref 249) := G.glob (by kernel_rfl)
theorem zhu : Glob G0 "_law_due" (.ref 254) := G.glob (by kernel_rfl)
theorem zhe : Glob G0 "_law_refused" (.ref 259) := G.glob (by kernel_rfl)
theorem zg4 : Glob G0 "_law_side" (.ref 266) := G.glob (by kernel_rfl)
theorem zi0 : Glob G0 "_law_round" (.ref 271) := G.glob (by kernel_rfl)
theorem zbe : Glob G0 "BadPattern" (.ref 57) := G.glob (by kernel_rfl)
theorem za7 : Glob G0 "BadArgument" (.ref 45) := G.glob (by kernel_rfl)
theorem zky : Glob G0 "Patterns" (.ref 185) := G.glob (by kernel_rfl)
theorem zfc : Glob G0 "LONGEST" (.int 63 269) := G.glob (by kernel_rfl)
theorem zgh : Glob G0 "EDGE" (.int 0 271) := G.glob (by kernel_rfl)
theorem zao : Glob G0 "isinstance" (.builtin "isinstance") := G.blob (by kernel_rfl) (by kernel_rfl) (by decide +kernel)
theorem zcc : Glob G0 "len" (.builtin "len") := G.blob (by kernel_rfl) (by kernel_rfl) (by decide +kernel)
theorem zkn : Glob G0 "max" (.builtin "max") := G.blob (by kernel_rfl) (by kernel_rfl) (by decide +kernel)
theorem zn1 : Glob G0 "min" (.builtin "min") := G.blob (by kernel_rfl) (by kernel_rfl) (by decide +kernel)
theorem g_abs : Glob G0 "abs" (.builtin "abs") := G.blob (by kernel_rfl) (by kernel_rfl) (by decide +kernel)
theorem zjk : Glob G0 "ord" (.builtin "ord") := G.blob (by kernel_rfl) (by kernel_rfl) (by decide +kernel)
theorem zkk : Glob G0 "chr" (.builtin "chr") := G.blob (by kernel_rfl) (by kernel_rfl) (by decide +kernel)
theorem g_sum : Glob G0 "sum" (.builtin "sum") := G.blob (by kernel_rfl) (by kernel_rfl) (by decide +kernel)
theorem zhw : Glob G0 "int" (.type "int") := G.blob (by kernel_rfl) (by kernel_rfl) (by decide +kernel)
theorem zkd : Glob G0 "bool" (.type "bool") := G.blob (by kernel_rfl) (by kernel_rfl) (by decide +kernel)
theorem zit : Glob G0 "str" (.type "str") := G.blob (by kernel_rfl) (by kernel_rfl) (by decide +kernel)
theorem zc3 : Glob G0 "list" (.type "list") := G.blob (by kernel_rfl) (by kernel_rfl) (by decide +kernel)
theorem zb0 : Glob G0 "tuple" (.type "tuple") := G.blob (by kernel_rfl) (by kernel_rfl) (by decide +kernel)
theorem zb2 : Glob G0 "range" (.type "range") := G.blob (by kernel_rfl) (by kernel_rfl) (by decide +kernel)
end
end Mine
end
section
namespace Mine
open PySem PySem.W PySem.Calls PyProof.Rows
theorem zfl {w : World} {G0 : Heap} {Φ : List Addr} {g : PH} {s : Shared} {A : Around} {R : Result → Shared → Prop} {outer : List Env} {cells : Led} {f : Addr} {n : Nat} {okP : PH → Led → Prop} {badP : Addr → Prop}
    {oc : Value} {od : Option Addr} {fd : FuncData} {sl : Array (Option Value)}
    (G : Gd w G0) (K₀ : Stk A outer Φ) (I : Inv w G0 Φ g s.heap cells) (hroom : Room A (n + 1)) (hf : g f = some (.raw ⟨oc, od, .func fd, sl⟩)) (D : DeedOk w G0 g cells (.ref f) n okP badP) (hbad : ∀ C, badP C → C = 57 ∨ C = 45)
    (k0 : ∀ t g' cells' s', okP g' cells' → SS w G0 ⟨Φ, s, g, cells.map Prod.fst⟩ g' s' cells' → R (.ok (.ret (.int 0 t))) s')
    (k1 : ∀ t s', badP 57 → SS w G0 ⟨Φ, s, g, cells.map Prod.fst⟩ g s' cells → R (.ok (.ret (.int 1 t))) s')
    (k2 : ∀ t s', badP 45 → SS w G0 ⟨Φ, s, g, cells.map Prod.fst⟩ g s' cells → R (.ok (.ret (.int 2 t))) s') :
    codeAny (model pg w) A (.call (.ref 229) ⟨[.ref f], []⟩) R s := by
  refine zan (vals := [.ref f]) I G.XX G.lim hroom.lt (by exact rfl) (by kernel_rfl) (BindsTo.of_eq rfl) (by decide +kernel) (by decide) (by rfl) ?_
  intro env L s X S Q E hQ hN hEr hPO
  dsimp only [mkLoc, zah, zap, zar, zal, zaj, zak, za0] at S
  refine x_try ?_
  refine zcs X.kind ?_ (by with_unfolding_all rfl)
  refine Call_ ?_
  refine zof X S (by with_reducible repeat (first | exact List.mem_cons_self | refine List.mem_cons_of_mem _ ?_)) (by with_reducible repeat (first | exact List.mem_cons_self | refine List.mem_cons_of_mem _ ?_)) ?_
  refine callWith_F0 (zn0 S hf) ?_
  refine wpAny_call (D _ _ _ _ _ (K₀.deeper X) (hroom.deeper) S.enter0 (fun v g' cells' s' hok S' => ?_) (fun C e s' hb F => ?_))
  · have S := S'.ret0 S
    show wpAny _ _ (execs [] env) _ _ _
    refine zas ?_
    show wpAny _ _ (execs [] env) _ _ _
    refine zas ?_
    show wpAny _ _ (execs _ env) _ _ _
    refine za9 ?_
    refine wpAny_Constant_int ?_
    exact hQ _ _ <| k0 _ _ _ _ hok (S.drop1.tok)
  · have F := F.up0 S
    refine zkl K₀ X F fun s'' F => ?_
    rcases hbad C hb with rfl | rfl
    · refine zhm G.XX X F (by with_reducible repeat (first | exact List.mem_cons_self | refine List.mem_cons_of_mem _ ?_)) (zbe G) (zm3 w) fun s S => ?_
      refine za9 ?_
      refine wpAny_Constant_int ?_
      exact hQ _ _ <| k1 _ _ hb S.drop1.tok
    · refine zj0 G.XX X F (by with_reducible repeat (first | exact List.mem_cons_self | refine List.mem_cons_of_mem _ ?_)) (zbe G) (zi9 w) ?_
      refine zhm G.XX X F (by with_reducible repeat (first | exact List.mem_cons_self | refine List.mem_cons_of_mem _ ?_)) (za7 G) (zm2 w) fun s S => ?_
      refine za9 ?_
      refine wpAny_Constant_int ?_
      exact hQ _ _ <| k2 _ _ hb S.drop1.tok
end Mine
end
section
namespace Mine
open PySem PySem.W PySem.Calls PyProof.Rows
inductive Pick (p : Addr × Cell) : Led → Led → Prop
  | head {r : Led} : Pick p (p :: r) r
  | tail {q : Addr × Cell} {r r' : Led} : Pick p r r' → Pick p (q :: r) (q :: r')
theorem Pick.perm {p : Addr × Cell} {ℓ ρ : Led} (x : Pick p ℓ ρ) : ℓ.Perm (p :: ρ) := by
  induction x with
  | head => exact List.Perm.refl _
  | tail _ ih => exact (ih.cons _).trans (List.Perm.swap ..)
inductive Sel : Led → Led → Prop
  | refl {ℓ : Led} : Sel ℓ ℓ
  | nil {ℓ : Led} : Sel ℓ []
  | cons {p : Addr × Cell} {ℓ ρ ℓ' : Led} : Pick p ℓ ρ → Sel ρ ℓ' → Sel ℓ (p :: ℓ')
  | drop {p : Addr × Cell} {ℓ ℓ' : Led} : Sel ℓ ℓ' → Sel (p :: ℓ) ℓ'
noncomputable def takeAt : Nat → Led → Option ((Addr × Cell) × Led)
  | _, [] => none
  | 0, p :: r => some (p, r)
  | n + 1, p :: r => match takeAt n r with
    | some (q, r') => some (q, p :: r')
    | none => none
theorem zg6 : ∀ {n : Nat} {ℓ ρ : Led} {p : Addr × Cell}, takeAt n ℓ = some (p, ρ) → Pick p ℓ ρ
  | n, [], _, _, h => by cases n <;> cases h
  | 0, p :: r, _, _, h => by cases h; exact .head
  | n + 1, p :: r, _, _, h => by
    unfold takeAt at h
    cases q : takeAt n r with
    | none => rw [q] at h; cases h
    | some z => rw [q] at h; cases h; exact .tail (zg6 q)
noncomputable def selOps : List Nat → Led → Led
  | [], ℓ => ℓ
  | 0 :: os, ℓ => selOps os ℓ.tail
  | (n + 1) :: os, ℓ => match takeAt n ℓ with
    | some (p, ρ) => p :: selOps os ρ
    | none => []
theorem Sel.ops : ∀ (os : List Nat) (ℓ : Led), Sel ℓ (selOps os ℓ)
  | [], ℓ => .refl
  | 0 :: os, [] => Sel.ops os []
  | 0 :: os, _ :: ℓ => .drop (Sel.ops os ℓ)
  | (n + 1) :: os, ℓ => by
    unfold selOps
    cases q : takeAt n ℓ with
    | none => exact .nil
    | some z => exact .cons (zg6 q) (Sel.ops os z.2)
theorem Sel.mem {ℓ ℓ' : Led} (x : Sel ℓ ℓ') : ∀ p ∈ ℓ', p ∈ ℓ := by
  induction x with
  | refl => exact fun _ h => h
  | nil => exact fun _ h => nomatch h
  | cons h _ ih =>
    intro p hp
    rw [h.perm.mem_iff]
    rcases List.mem_cons.mp hp with rfl | hp
    · exact .head _
    · exact .tail _ (ih p hp)
  | drop _ ih => exact fun p hp => .tail _ (ih p hp)
theorem Sel.nd {ℓ ℓ' : Led} (x : Sel ℓ ℓ') (nd : (ℓ.map Prod.fst).Nodup) : (ℓ'.map Prod.fst).Nodup := by
  induction x with
  | refl => exact nd
  | nil => simp
  | @cons p ℓ ρ ℓ' h hs ih =>
    have nd' := (h.perm.map Prod.fst).nodup_iff.mp nd
    simp only [List.map_cons, List.nodup_cons] at nd' ⊢
    refine ⟨fun hm => nd'.1 ?_, ih nd'.2⟩
    obtain ⟨c, hc⟩ := zdd hm
    have := hs.mem _ hc
    exact List.mem_map.mpr ⟨_, this, rfl⟩
  | drop _ ih =>
    simp only [List.map_cons, List.nodup_cons] at nd
    exact ih nd.2
section
variable {prog : Program} {w : World} {G0 : Heap} {K : Kon} {g g' : PH} {s s' : Shared} {ℓ ℓ' ρ : Led} {a L : Addr} {c c' : Cell} {h' : Heap} {t : Nat}
  {env : Env} {fr : Option Addr} {kinds : List (Str × NameKind)} {cl : List (Str × Addr)} {loc loc' : Loc} {A : Around} {E : Value → Shared → Prop} {x : Str} {pos pos' : Pos}
theorem SS.sel (S : SS w G0 K g s ℓ) (x : Sel ℓ ℓ') : SS w G0 K g s ℓ' := ⟨S.st.sub x.mem (x.nd S.st.inv.nd), S.same⟩
theorem St.dropExt {Φ : List Addr} {h₀ h : Heap} {g₀ : PH} {C : List Addr} (S : St w G0 Φ h₀ g₀ C g h ((a, c) :: ℓ)) (hn : h₀.get? a = none) (k : Heap.ExtBut a h h') : St w G0 Φ h₀ g₀ C g h' ℓ := by
  obtain ⟨I, T⟩ := S
  have nd := I.nd
  simp only [List.map_cons, List.nodup_cons] at nd
  have hG := I.gst _ (.head _)
  have hg := I.gl _ (.head _)
  have sub : ∀ p ∈ ℓ, p ∈ ((a, c) :: ℓ) := fun p hp => .tail _ hp
  have ne : ∀ p ∈ ℓ, p.1 ≠ a := fun p hp e => nd.1 (e ▸ List.mem_map_of_mem hp)
  refine ⟨⟨fun b o e => k b o (fun q => ?_) (I.stat b o e), fun b d e => (I.facts b d e).congr fun o ho => k b o (fun q => ?_) ho, fun p hp => (I.led p (sub p hp)).congr fun o ho => k _ o (ne p hp) ho, nd.2, fun p hp => I.gl p (sub p hp), fun p hp => I.gst p (sub p hp), fun b hb => ?_⟩,
    ⟨fun b o e hC hΦ => k b o (fun q => ?_) (T.kept b o e hC hΦ), fun b hb o e => ?_, fun b e => ?_, T.gm, T.gn, fun p hp => T.ln p (sub p hp)⟩⟩
  · subst q; rw [hG] at e; cases e
  · subst q; rw [hg] at e; cases e
  · obtain ⟨x1, x2, x3, o, es, n, x4, x5⟩ := I.ph b hb
    simp only [List.map_cons, List.mem_cons, not_or] at x2
    exact ⟨x1, x2.2, x3, o, es, n, k b o x2.1 x4, x5⟩
  · subst q; rw [hn] at e; cases e
  · obtain ⟨sl, x⟩ := T.slots b hb o e
    refine ⟨sl, k b _ (fun q => ?_) x⟩
    subst q; rw [hn] at e; cases e
  · by_cases q : b = a
    · subst q; exact hn
    · refine T.alive b ?_
      cases z : h.get? b with
      | none => rfl
      | some o => rw [k b o q z] at e; cases e
theorem SS.dropExt (S : SS w G0 K g s ((a, c) :: ℓ)) (hn : K.s₀.heap.get? a = none) (k : Heap.ExtBut a s.heap h') : SS w G0 K g { s with heap := h', toks := t } ℓ := ⟨S.st.dropExt hn k, S.same.trans ⟨rfl, rfl, rfl⟩⟩
theorem SS.selN (S : SS w G0 K g s ℓ) (os : List Nat) (h : selOps os ℓ = ℓ') : SS w G0 K g s ℓ' := h ▸ S.sel (Sel.ops os ℓ)
theorem SS.unborn (S : SS w G0 K g s ℓ) (hn : s.heap.get? a = none) : K.s₀.heap.get? a = none := S.st.since.alive a hn
inductive Src where
  | seqL (a : Addr) (vs : List V)
  | seqT (a : Addr) (vs : List V)
  | rng (lo : Int) (n : Nat)
  | str (x : Str)
noncomputable def Src.vals : Src → List V
  | .seqL _ vs => vs
  | .seqT _ vs => vs
  | .rng lo n => (List.range n).map fun (i : Nat) => V.int (lo + i)
  | .str x => x.cps.toList.map fun c => V.str ⟨#[c]⟩
noncomputable def Src.iter : Src → Nat → Obj → Prop
  | .seqL a _, i, o => o.cls = .type "list_iterator" ∧ o.data = .fields #[.ref a, .int i 0]
  | .seqT a _, i, o => o.cls = .type "tuple_iterator" ∧ o.data = .fields #[.ref a, .int i 0]
  | .rng lo n, i, o => o = { cls := .type "range_iterator", dict := none, data := .fields #[rawInt (lo + i), rawInt (n - i), rawInt 1], slots := #[] }
  | .str x, i, o => ∃ ty t, (ty = "str_ascii_iterator" ∨ ty = "str_iterator") ∧ o.cls = .type ty ∧ o.data = .fields #[.str x t, .int i 0]
noncomputable def Src.ok (w : World) (h : Heap) : Src → Prop
  | .seqL a vs => IsL w h a vs
  | .seqT a vs => IsT w h a vs
  | _ => True
theorem map_none {ws : Array Value} {vs : List V} {i : Nat} (hm : ws.toList.map V.of = vs) (h : vs.length ≤ i) : ws[i]? = none := by
  subst hm; simp at h; simp [h]
theorem zix {src : Src} {i : Nat} {it : Addr} {pv : V} {Q : Option Value → Shared → Prop} (hs : src.ok w s.heap) (hi : src.vals[i]? = some pv) (S : SS w G0 K g s ℓ) (u : Upd it (.opq (src.iter i)) (.opq (src.iter (i + 1))) ℓ ℓ')
    (k : ∀ v s', V.of v = pv → SS w G0 K g s' ℓ' → Q (some v) s') : wpAny (model prog w) A (pyNext (.ref it)) Q E s := by
  obtain ⟨o, ho, hP⟩ := S.at u.mem
  cases src with
  | seqL a vs =>
    obtain ⟨ws, hl, hm⟩ := hs
    obtain ⟨v, hv, e⟩ := zdt hm hi
    refine wpAny_pyNext_list_item ⟨o, ho, hP⟩ hl hv fun h' hit hb => k v _ e ?_
    obtain ⟨o', ho', hP'⟩ := hit
    exact S.change (t := s.toks) u hb ⟨o', ho', hP'⟩
  | seqT a vs =>
    obtain ⟨ws, hl, hm⟩ := hs
    obtain ⟨v, hv, e⟩ := zdt hm hi
    refine wpAny_pyNext_tuple_item ⟨o, ho, hP⟩ hl hv fun h' hit hb => k v _ e ?_
    obtain ⟨o', ho', hP'⟩ := hit
    exact S.change (t := s.toks) u hb ⟨o', ho', hP'⟩
  | rng lo n =>
    have hlt : i < n := by
      rcases Nat.lt_or_ge i n with h | h
      · exact h
      · rw [Src.vals, List.getElem?_eq_none (by simpa using h)] at hi; cases hi
    have e : V.int (lo + i) = pv := by
      rw [Src.vals, List.getElem?_map, List.getElem?_range hlt] at hi
      exact Option.some.inj hi
    have ho' : IsRangeIter s.heap it (lo + i) (n - i) 1 := by rw [hP] at ho; exact ho
    refine wpAny_pyNext_range_item ho' (by omega) fun h' hit hb => k _ _ e ?_
    refine S.change (t := s.toks + 1) u hb ⟨_, hit, ?_⟩
    show _ = _
    rw [show lo + ((i + 1 : Nat) : Int) = lo + i + 1 by omega, show (n : Int) - ((i + 1 : Nat) : Int) = n - i - 1 by omega]
  | str x =>
    obtain ⟨ty, tt, hty, hc, hd⟩ := hP
    rw [Src.vals, List.getElem?_map] at hi
    obtain ⟨c, hc', e⟩ : ∃ c, x.cps[i]? = some c ∧ V.str ⟨#[c]⟩ = pv := by
      cases q : x.cps.toList[i]? with
      | none => rw [q] at hi; cases hi
      | some c => rw [q] at hi; exact ⟨c, by rw [← Array.getElem?_toList]; exact q, Option.some.inj hi⟩
    rcases hty with rfl | rfl
    · refine wpAny_pyNext_ascii_item ⟨o, ho, hc, hd⟩ hc' fun h' hit hb => k _ _ e ?_
      obtain ⟨o', ho', h1, h2⟩ := hit
      exact S.change (t := s.toks + 1) u hb ⟨o', ho', _, _, .inl rfl, h1, h2⟩
    · refine wpAny_pyNext_wide_item ⟨o, ho, hc, hd⟩ hc' fun h' hit hb => k _ _ e ?_
      obtain ⟨o', ho', h1, h2⟩ := hit
      exact S.change (t := s.toks + 1) u hb ⟨o', ho', _, _, .inr rfl, h1, h2⟩
theorem zj6 {src : Src} {i : Nat} {it : Addr} {Q : Option Value → Shared → Prop} (hh : A.handled = none) (hs : src.ok w s.heap) (hi : src.vals.length ≤ i) (S : SS w G0 K g s ((it, .opq (src.iter i)) :: ℓ)) (hn : K.s₀.heap.get? it = none)
    (k : ∀ s', SS w G0 K g s' ℓ → Q none s') : wpAny (model prog w) A (pyNext (.ref it)) Q E s := by
  obtain ⟨o, ho, hP⟩ := S.at (.head _)
  cases src with
  | seqL a vs =>
    obtain ⟨ws, hl, hm⟩ := hs
    exact wpAny_pyNext_list_end hh ⟨o, ho, hP⟩ hl (map_none hm hi) fun h' hb => k _ (S.dropExt (t := s.toks) hn hb)
  | seqT a vs =>
    obtain ⟨ws, hl, hm⟩ := hs
    exact wpAny_pyNext_tuple_end hh ⟨o, ho, hP⟩ hl (map_none hm hi) fun h' hb => k _ (S.dropExt (t := s.toks) hn hb)
  | rng lo n =>
    simp only [Src.vals, List.length_map, List.length_range] at hi
    have ho' : IsRangeIter s.heap it (lo + i) (n - i) 1 := by rw [hP] at ho; exact ho
    exact wpAny_pyNext_range_end hh ho' (by omega) fun h' hb => k _ (S.dropExt (t := s.toks) hn hb)
  | str x =>
    obtain ⟨ty, tt, hty, hc, hd⟩ := hP
    have hx : x.cps[i]? = none := by simp [Src.vals] at hi; simp [hi]
    rcases hty with rfl | rfl
    · exact wpAny_pyNext_ascii_end hh ⟨o, ho, hc, hd⟩ hx fun h' hb => k _ (S.dropExt (t := s.toks) hn hb)
    · exact wpAny_pyNext_wide_end hh ⟨o, ho, hc, hd⟩ hx fun h' hb => k _ (S.dropExt (t := s.toks) hn hb)
theorem zc0 {Q : Value → Shared → Prop} {vs : List V} (S : SS w G0 K g s ℓ) (hl : IsL w s.heap a vs)
    (k : ∀ it s', K.s₀.heap.get? it = none → SS w G0 K g s' ((it, .opq ((Src.seqL a vs).iter 0)) :: ℓ) → Q (.ref it) s') : wpAny (model prog w) A (pyIter (.ref a)) Q E s := by
  obtain ⟨ws, hl, hm⟩ := hl
  exact wpAny_pyIter_list hl (k _ _ (S.unborn (zay _)) (S.push (t := s.toks) ⟨rfl, rfl⟩ rfl))
theorem zj3 {Q : Value → Shared → Prop} {vs : List V} (S : SS w G0 K g s ℓ) (hl : IsT w s.heap a vs)
    (k : ∀ it s', K.s₀.heap.get? it = none → SS w G0 K g s' ((it, .opq ((Src.seqT a vs).iter 0)) :: ℓ) → Q (.ref it) s') : wpAny (model prog w) A (pyIter (.ref a)) Q E s := by
  obtain ⟨ws, hl, hm⟩ := hl
  exact wpAny_pyIter_tuple hl (k _ _ (S.unborn (zay _)) (S.push (t := s.toks) ⟨rfl, rfl⟩ rfl))
theorem zkh {Q : Value → Shared → Prop} {x : Str} {tk : Tok} (S : SS w G0 K g s ℓ)
    (k : ∀ it s', K.s₀.heap.get? it = none → SS w G0 K g s' ((it, .opq ((Src.str x).iter 0)) :: ℓ) → Q (.ref it) s') : wpAny (model prog w) A (pyIter (.str x tk)) Q E s := by
  cases ha : x.cps.all (· < 128) with
  | true => exact wpAny_pyIter_ascii ha (k _ _ (S.unborn (zay _)) (S.push (t := s.toks) ⟨_, _, .inl rfl, rfl, rfl⟩ rfl))
  | false => exact wpAny_pyIter_wide ha (k _ _ (S.unborn (zay _)) (S.push (t := s.toks) ⟨_, _, .inr rfl, rfl, rfl⟩ rfl))
noncomputable def RangeObj (lo hi : Int) (o : Obj) : Prop := ∃ t u v, o = { cls := .type "range", dict := none, data := .fields #[.int lo t, .int hi u, .int 1 v], slots := #[] }
theorem ze8 (lo hi : Int) : Builtin.Range.rangeSize lo hi 1 = ((hi - lo).toNat : Int) := by
  unfold Builtin.Range.rangeSize
  rw [if_pos (by decide)]
  by_cases h : lo < hi
  · rw [if_pos h, Int.ediv_one]; omega
  · rw [if_neg h]; omega
theorem zce {Q : Value → Shared → Prop} {lo hi : Int} (S : SS w G0 K g s ℓ) (hr : (a, .opq (RangeObj lo hi)) ∈ ℓ) (hl : lo.natAbs < 2 ^ 60) (hh : hi.natAbs < 2 ^ 60)
    (k : ∀ it s', K.s₀.heap.get? it = none → SS w G0 K g s' ((it, .opq ((Src.rng lo (hi - lo).toNat).iter 0)) :: ℓ) → Q (.ref it) s') : wpAny (model prog w) A (pyIter (.ref a)) Q E s := by
  obtain ⟨o, ho, tt, u, v, rfl⟩ := S.at hr
  refine wpAny_pyIter_range (a := lo) (b := hi) (c := 1) (t := tt) (u := u) (v := v) ho ?_ (k _ _ (S.unborn (zay _)) (S.push (t := s.toks) ?_ rfl))
  · unfold Builtin.Range.small Builtin.Range.rangeFitsLong
    rw [ze8]
    have e1 : (2 : Nat) ^ 60 = 1152921504606846976 := by decide
    have e2 : (2 : Int) ^ 63 = 9223372036854775808 := by decide
    rw [e1] at hl hh
    rw [e2]
    simp only [Bool.and_eq_true, Bool.or_eq_true, decide_eq_true_eq, if_pos (show (1 : Int) > 0 by decide)]
    refine ⟨⟨⟨⟨?_, ?_⟩, ?_⟩, ?_⟩, .inr ?_⟩ <;> omega
  · show _ = _
    rw [ze8]; simp
end
end Mine
end
section
namespace Mine
open PySem PySem.W
theorem ixm0 {α : Type} {x : α} {r : List α} : x ∈ x :: r := List.mem_cons_self
theorem ixu0 {x : Str} {v : V} {o : Option V} {r : Loc} : UpdL x v ((x, o) :: r) ((x, some v) :: r) := .head
theorem ixv0 {p : Addr} {c c' : Cell} {r : Led} : Upd p c c' ((p, c) :: r) ((p, c') :: r) := .head
theorem ixm1 {α : Type} {a0 x : α} {r : List α} : x ∈ a0 :: x :: r := List.mem_cons_of_mem _ ixm0
theorem ixu1 {x : Str} {v : V} {o : Option V} {a0 : Str × Option V} {r : Loc} : UpdL x v (a0 :: (x, o) :: r) (a0 :: (x, some v) :: r) := .tail ixu0
theorem ixv1 {p : Addr} {c c' : Cell} {a0 : Addr × Cell} {r : Led} : Upd p c c' (a0 :: (p, c) :: r) (a0 :: (p, c') :: r) := .tail ixv0
theorem ixm2 {α : Type} {a0 a1 x : α} {r : List α} : x ∈ a0 :: a1 :: x :: r := List.mem_cons_of_mem _ ixm1
theorem ixu2 {x : Str} {v : V} {o : Option V} {a0 a1 : Str × Option V} {r : Loc} : UpdL x v (a0 :: a1 :: (x, o) :: r) (a0 :: a1 :: (x, some v) :: r) := .tail ixu1
theorem ixv2 {p : Addr} {c c' : Cell} {a0 a1 : Addr × Cell} {r : Led} : Upd p c c' (a0 :: a1 :: (p, c) :: r) (a0 :: a1 :: (p, c') :: r) := .tail ixv1
theorem ixm3 {α : Type} {a0 a1 a2 x : α} {r : List α} : x ∈ a0 :: a1 :: a2 :: x :: r := List.mem_cons_of_mem _ ixm2
theorem ixu3 {x : Str} {v : V} {o : Option V} {a0 a1 a2 : Str × Option V} {r : Loc} : UpdL x v (a0 :: a1 :: a2 :: (x, o) :: r) (a0 :: a1 :: a2 :: (x, some v) :: r) := .tail ixu2
theorem ixv3 {p : Addr} {c c' : Cell} {a0 a1 a2 : Addr × Cell} {r : Led} : Upd p c c' (a0 :: a1 :: a2 :: (p, c) :: r) (a0 :: a1 :: a2 :: (p, c') :: r) := .tail ixv2
theorem ixm4 {α : Type} {a0 a1 a2 a3 x : α} {r : List α} : x ∈ a0 :: a1 :: a2 :: a3 :: x :: r := List.mem_cons_of_mem _ ixm3
theorem ixu4 {x : Str} {v : V} {o : Option V} {a0 a1 a2 a3 : Str × Option V} {r : Loc} : UpdL x v (a0 :: a1 :: a2 :: a3 :: (x, o) :: r) (a0 :: a1 :: a2 :: a3 :: (x, some v) :: r) := .tail ixu3
theorem ixv4 {p : Addr} {c c' : Cell} {a0 a1 a2 a3 : Addr × Cell} {r : Led} : Upd p c c' (a0 :: a1 :: a2 :: a3 :: (p, c) :: r) (a0 :: a1 :: a2 :: a3 :: (p, c') :: r) := .tail ixv3
theorem ixm5 {α : Type} {a0 a1 a2 a3 a4 x : α} {r : List α} : x ∈ a0 :: a1 :: a2 :: a3 :: a4 :: x :: r := List.mem_cons_of_mem _ ixm4
theorem ixu5 {x : Str} {v : V} {o : Option V} {a0 a1 a2 a3 a4 : Str × Option V} {r : Loc} : UpdL x v (a0 :: a1 :: a2 :: a3 :: a4 :: (x, o) :: r) (a0 :: a1 :: a2 :: a3 :: a4 :: (x, some v) :: r) := .tail ixu4
theorem ixv5 {p : Addr} {c c' : Cell} {a0 a1 a2 a3 a4 : Addr × Cell} {r : Led} : Upd p c c' (a0 :: a1 :: a2 :: a3 :: a4 :: (p, c) :: r) (a0 :: a1 :: a2 :: a3 :: a4 :: (p, c') :: r) := .tail ixv4
theorem ixm6 {α : Type} {a0 a1 a2 a3 a4 a5 x : α} {r : List α} : x ∈ a0 :: a1 :: a2 :: a3 :: a4 :: a5 :: x :: r := List.mem_cons_of_mem _ ixm5
theorem ixu6 {x : Str} {v : V} {o : Option V} {a0 a1 a2 a3 a4 a5 : Str × Option V} {r : Loc} : UpdL x v (a0 :: a1 :: a2 :: a3 :: a4 :: a5 :: (x, o) :: r) (a0 :: a1 :: a2 :: a3 :: a4 :: a5 :: (x, some v) :: r) := .tail ixu5
theorem ixv6 {p : Addr} {c c' : Cell} {a0 a1 a2 a3 a4 a5 : Addr × Cell} {r : Led} : Upd p c c' (a0 :: a1 :: a2 :: a3 :: a4 :: a5 :: (p, c) :: r) (a0 :: a1 :: a2 :: a3 :: a4 :: a5 :: (p, c') :: r) := .tail ixv5
theorem ixm7 {α : Type} {a0 a1 a2 a3 a4 a5 a6 x : α} {r : List α} : x ∈ a0 :: a1 :: a2 :: a3 :: a4 :: a5 :: a6 :: x :: r := List.mem_cons_of_mem _ ixm6
theorem ixu7 {x : Str} {v : V} {o : Option V} {a0 a1 a2 a3 a4 a5 a6 : Str × Option V} {r : Loc} : UpdL x v (a0 :: a1 :: a2 :: a3 :: a4 :: a5 :: a6 :: (x, o) :: r) (a0 :: a1 :: a2 :: a3 :: a4 :: a5 :: a6 :: (x, some v) :: r) := .tail ixu6
theorem ixv7 {p : Addr} {c c' : Cell} {a0 a1 a2 a3 a4 a5 a6 : Addr × Cell} {r : Led} : Upd p c c' (a0 :: a1 :: a2 :: a3 :: a4 :: a5 :: a6 :: (p, c) :: r) (a0 :: a1 :: a2 :: a3 :: a4 :: a5 :: a6 :: (p, c') :: r) := .tail ixv6
theorem ixm8 {α : Type} {a0 a1 a2 a3 a4 a5 a6 a7 x : α} {r : List α} : x ∈ a0 :: a1 :: a2 :: a3 :: a4 :: a5 :: a6 :: a7 :: x :: r := List.mem_cons_of_mem _ ixm7
theorem ixu8 {x : Str} {v : V} {o : Option V} {a0 a1 a2 a3 a4 a5 a6 a7 : Str × Option V} {r : Loc} : UpdL x v (a0 :: a1 :: a2 :: a3 :: a4 :: a5 :: a6 :: a7 :: (x, o) :: r) (a0 :: a1 :: a2 :: a3 :: a4 :: a5 :: a6 :: a7 :: (x, some v) :: r) := .tail ixu7
theorem ixv8 {p : Addr} {c c' : Cell} {a0 a1 a2 a3 a4 a5 a6 a7 : Addr × Cell} {r : Led} : Upd p c c' (a0 :: a1 :: a2 :: a3 :: a4 :: a5 :: a6 :: a7 :: (p, c) :: r) (a0 :: a1 :: a2 :: a3 :: a4 :: a5 :: a6 :: a7 :: (p, c') :: r) := .tail ixv7
theorem ixm9 {α : Type} {a0 a1 a2 a3 a4 a5 a6 a7 a8 x : α} {r : List α} : x ∈ a0 :: a1 :: a2 :: a3 :: a4 :: a5 :: a6 :: a7 :: a8 :: x :: r := List.mem_cons_of_mem _ ixm8
theorem ixu9 {x : Str} {v : V} {o : Option V} {a0 a1 a2 a3 a4 a5 a6 a7 a8 : Str × Option V} {r : Loc} : UpdL x v (a0 :: a1 :: a2 :: a3 :: a4 :: a5 :: a6 :: a7 :: a8 :: (x, o) :: r) (a0 :: a1 :: a2 :: a3 :: a4 :: a5 :: a6 :: a7 :: a8 :: (x, some v) :: r) := .tail ixu8
theorem ixv9 {p : Addr} {c c' : Cell} {a0 a1 a2 a3 a4 a5 a6 a7 a8 : Addr × Cell} {r : Led} : Upd p c c' (a0 :: a1 :: a2 :: a3 :: a4 :: a5 :: a6 :: a7 :: a8 :: (p, c) :: r) (a0 :: a1 :: a2 :: a3 :: a4 :: a5 :: a6 :: a7 :: a8 :: (p, c') :: r) := .tail ixv8
theorem zcf {α : Type} {a0 a1 a2 a3 a4 a5 a6 a7 a8 a9 x : α} {r : List α} : x ∈ a0 :: a1 :: a2 :: a3 :: a4 :: a5 :: a6 :: a7 :: a8 :: a9 :: x :: r := List.mem_cons_of_mem _ ixm9
theorem ixu10 {x : Str} {v : V} {o : Option V} {a0 a1 a2 a3 a4 a5 a6 a7 a8 a9 : Str × Option V} {r : Loc} : UpdL x v (a0 :: a1 :: a2 :: a3 :: a4 :: a5 :: a6 :: a7 :: a8 :: a9 :: (x, o) :: r) (a0 :: a1 :: a2 :: a3 :: a4 :: a5 :: a6 :: a7 :: a8 :: a9 :: (x, some v) :: r) := .tail ixu9
theorem znh {p : Addr} {c c' : Cell} {a0 a1 a2 a3 a4 a5 a6 a7 a8 a9 : Addr × Cell} {r : Led} : Upd p c c' (a0 :: a1 :: a2 :: a3 :: a4 :: a5 :: a6 :: a7 :: a8 :: a9 :: (p, c) :: r) (a0 :: a1 :: a2 :: a3 :: a4 :: a5 :: a6 :: a7 :: a8 :: a9 :: (p, c') :: r) := .tail ixv9
theorem zcp {α : Type} {a0 a1 a2 a3 a4 a5 a6 a7 a8 a9 a10 x : α} {r : List α} : x ∈ a0 :: a1 :: a2 :: a3 :: a4 :: a5 :: a6 :: a7 :: a8 :: a9 :: a10 :: x :: r := List.mem_cons_of_mem _ zcf
theorem ixmt {α : Type} {a0 a1 a2 a3 a4 a5 a6 a7 a8 a9 a10 a11 x : α} {r : List α} (h : x ∈ r) : x ∈ a0 :: a1 :: a2 :: a3 :: a4 :: a5 :: a6 :: a7 :: a8 :: a9 :: a10 :: a11 :: r := List.mem_cons_of_mem _ (List.mem_cons_of_mem _ (List.mem_cons_of_mem _ (List.mem_cons_of_mem _ (List.mem_cons_of_mem _ (List.mem_cons_of_mem _ (List.mem_cons_of_mem _ (List.mem_cons_of_mem _ (List.mem_cons_of_mem _ (List.mem_cons_of_mem _ (List.mem_cons_of_mem _ (List.mem_cons_of_mem _ (h))))))))))))
theorem ixut {x : Str} {v : V} {a0 a1 a2 a3 a4 a5 a6 a7 a8 a9 a10 a11 : Str × Option V} {r r' : Loc} (h : UpdL x v r r') : UpdL x v (a0 :: a1 :: a2 :: a3 :: a4 :: a5 :: a6 :: a7 :: a8 :: a9 :: a10 :: a11 :: r) (a0 :: a1 :: a2 :: a3 :: a4 :: a5 :: a6 :: a7 :: a8 :: a9 :: a10 :: a11 :: r') := .tail (.tail (.tail (.tail (.tail (.tail (.tail (.tail (.tail (.tail (.tail (.tail (h))))))))))))
theorem ixvt {p : Addr} {c c' : Cell} {a0 a1 a2 a3 a4 a5 a6 a7 a8 a9 a10 a11 : Addr × Cell} {r r' : Led} (h : Upd p c c' r r') : Upd p c c' (a0 :: a1 :: a2 :: a3 :: a4 :: a5 :: a6 :: a7 :: a8 :: a9 :: a10 :: a11 :: r) (a0 :: a1 :: a2 :: a3 :: a4 :: a5 :: a6 :: a7 :: a8 :: a9 :: a10 :: a11 :: r') := .tail (.tail (.tail (.tail (.tail (.tail (.tail (.tail (.tail (.tail (.tail (.tail (h))))))))))))
end Mine
end
section
namespace Mine
open PySem PySem.W PySem.Calls PyProof.Rows
theorem zjb {n m : Nat} (h : n ≤ m) (hm : m ≤ 16777216) : n ≤ sizeLine := by rw [sizeLine_eq]; exact Nat.le_trans h hm
theorem zdl {α β : Type} {f : α → β} {l : List α} {m : Nat} (h : l.length ≤ m) (hm : m ≤ 16777216) : (l.map f).length ≤ sizeLine := by rw [List.length_map]; exact zjb h hm
theorem zd3 {u m c : Nat} (k : Nat) (h : u + m < c) (hk : k ≤ m) : u + k < c := Nat.lt_of_le_of_lt (Nat.add_le_add_left hk u) h
theorem zlu {α : Type} {l : List α} {i : Int} {x : α} (h0 : 0 ≤ i) (h : l[i.toNat]? = some x) : i < l.length := by
  have := (List.getElem?_eq_some_iff.mp h).1
  omega
theorem zmn {n : Nat} (h : n ≤ 16777216) : n ≤ sizeLine := by rw [sizeLine_eq]; exact h
theorem sz0 {α : Type} : ([] : List α).length ≤ sizeLine := zmn (Nat.zero_le _)
theorem sz1 {α : Type} {a : α} : [a].length ≤ sizeLine := zmn (show 1 ≤ 16777216 by decide)
theorem sz2 {α : Type} {a b : α} : [a, b].length ≤ sizeLine := zmn (show 2 ≤ 16777216 by decide)
theorem sz3 {α : Type} {a b c : α} : [a, b, c].length ≤ sizeLine := zmn (show 3 ≤ 16777216 by decide)
theorem zcy (x : Int) : 1 ≤ min (max x 1) 63 ∧ min (max x 1) 63 ≤ 63 := ⟨Int.le_min.mpr ⟨Int.le_max_right _ _, by decide⟩, Int.min_le_right _ _⟩
theorem zk2 (x : Int) : max 1 (min 63 x) = min (max x 1) 63 := by
  rcases Int.le_total x 1 with h | h
  · rw [Int.min_eq_right (Int.le_trans h (by decide)), Int.max_eq_left h, Int.max_eq_right h]; rfl
  · rw [Int.max_eq_left h, Int.min_comm, Int.max_eq_right (Int.le_min.mpr ⟨h, by decide⟩)]
theorem zkj {n : Nat} (h : 0 < n) : (-1 + (n : Int)).toNat = n - 1 := by
  obtain ⟨m, rfl⟩ : ∃ m, n = m + 1 := ⟨n - 1, (Nat.sub_add_cancel h).symm⟩
  rw [Int.natCast_add, Int.add_comm, show ((m : Int) + (1 : Nat) + -1) = m from Int.add_neg_cancel_right _ _]; rfl
theorem zoa {n m : Nat} (h : m = n + 3) : min (n + 2) m - 1 = n + 1 := by
  rw [h, Nat.min_eq_left (Nat.le_succ _)]; rfl
section
variable {prog : Program} {w : World} {G0 : Heap} {K : Kon} {g g' : PH} {s s' : Shared} {ℓ ℓ' ρ : Led} {a L : Addr} {A : Around} {E : Value → Shared → Prop}
theorem zck {Q : Value → Shared → Prop} {hi : Int} {n : Nat} (S : SS w G0 K g s ℓ) (hr : (a, .opq (RangeObj 0 hi)) ∈ ℓ) (e : hi = n) (hn : n ≤ 1000000)
    (k : ∀ it s', K.s₀.heap.get? it = none → SS w G0 K g s' ((it, .opq ((Src.rng 0 n).iter 0)) :: ℓ) → Q (.ref it) s') : wpAny (model prog w) A (pyIter (.ref a)) Q E s := by
  subst e
  have e60 : (2 : Nat) ^ 60 = 1152921504606846976 := by decide
  refine zce S hr (by decide) (by rw [e60]; omega) fun it s' h S' => k it s' h ?_
  rw [show ((n : Int) - 0).toNat = n by omega] at S'
  exact S'
end
end Mine
end
section
namespace Mine
open PySem PySem.W PySem.Calls PyProof.Rows
section
variable {prog : Program} {w : World} {G0 : Heap} {K : Kon} {g g' : PH} {s s' : Shared} {ℓ ℓ' ρ : Led} {a L : Addr} {c c' : Cell} {h' : Heap} {t : Nat}
  {env : Env} {fr : Option Addr} {kinds : List (Str × NameKind)} {cl : List (Str × Addr)} {loc loc' : Loc} {A : Around} {E : Value → Shared → Prop} {x : Str} {pos pos' : Pos}
noncomputable def forR (M : Model) (A : Around) (E : Value → Shared → Prop) (env : Env) (rest : List Stmt) (Q : Flow → Shared → Prop) : Result → Shared → Prop
  | .ok .next, s => wpAny M A (execs rest env) Q E s
  | .ok f, s => Q f s
  | .error e, s => cameBackBy M A env E e s
noncomputable def turnQ (nx br : Shared → Prop) (rt : Value → Shared → Prop) : Flow → Shared → Prop
  | .next, s => nx s
  | .cont, s => nx s
  | .brk, s => br s
  | .ret v, s => rt v s
noncomputable def goesOn : Flow → Bool
  | .next => true
  | .cont => true
  | _ => false
theorem zdn {target iter : Expr} {body rest : List Stmt} {Q : Flow → Shared → Prop}
    (h : wpAny (model prog w) A (eval iter env) (fun v s₁ => wpAny (model prog w) A (pyIter v) (fun it s₂ => codeAny (model prog w) A (.forLoop target it body [] env) (forR (model prog w) A E env rest Q) s₂) E s₁) E s)
    (hs : ∀ x, foldedSetIterable iter env x = pure x) :
    wpAny (model prog w) A (execs (.For target iter body [] pos :: rest) env) Q E s := by
  refine wpAny_execs_cons (wpAny_For (wpAny_mono h (fun v s₁ h₁ => wpAny_mono h₁ (fun it s₂ h₂ => codeAny_mono h₂ fun r s' hr => ?_) fun _ _ x => x) fun _ _ x => x) hs)
  cases r with
  | error e => exact hr
  | ok f => cases f <;> exact hr
theorem zhg {σ : Type} {target : Expr} {src : Src} {it : Addr} {body rest : List Stmt} {Q : Flow → Shared → Prop} (P : Nat → σ → Prop) (gg : σ → PH) (lc : Nat → σ → Loc) (ld : Nat → σ → Led) (x0 : σ) (hE : PassesOwn (model prog w) A env E) (hh : A.handled = none) (hnew : K.s₀.heap.get? it = none)
    (S : SS w G0 K (gg x0) s ((it, .opq (src.iter 0)) :: (L, .ns (lc 0 x0)) :: ld 0 x0)) (h0 : P 0 x0)
    (hok : ∀ i x s, P i x → SS w G0 K (gg x) s ((it, .opq (src.iter i)) :: (L, .ns (lc i x)) :: ld i x) → src.ok w s.heap)
    (turn : ∀ Q' : Nat → Flow → Shared → Prop, (∀ i f x s, P (i + 1) x → SS w G0 K (gg x) s ((L, .ns (lc (i + 1) x)) :: (it, .opq (src.iter (i + 1))) :: ld (i + 1) x) → goesOn f = true → Q' i f s) →
      (∀ i s, wpAny (model prog w) A (execs rest env) Q E s → Q' i .brk s) → (∀ i v s, Q (.ret v) s → Q' i (.ret v) s) →
      ∀ i x v s, P i x → src.vals[i]? = some (V.of v) → SS w G0 K (gg x) s ((L, .ns (lc i x)) :: (it, .opq (src.iter (i + 1))) :: ld i x) →
      wpAny (model prog w) A (letOwnedTupleGo target (.ref it) v) (fun _ s₁ => wpAny (model prog w) A (assign target env v) (fun _ s₂ => wpAny (model prog w) A (execs body env) (Q' i) E s₂) E s₁) E s)
    (fin : ∀ x s, P src.vals.length x → SS w G0 K (gg x) s ((L, .ns (lc src.vals.length x)) :: ld src.vals.length x) → wpAny (model prog w) A (execs rest env) Q E s) :
    codeAny (model prog w) A (.forLoop target (.ref it) body [] env) (forR (model prog w) A E env rest Q) s := by
  refine codeAny_forLoop_any (fun n s => ∀ G : Prop, (∀ i x, n = src.vals.length - i → i ≤ src.vals.length → P i x → SS w G0 K (gg x) s ((it, .opq (src.iter i)) :: (L, .ns (lc i x)) :: ld i x) → G) → G) ?_ (src.vals.length - 0) (fun G k => k 0 x0 rfl (Nat.zero_le _) h0 S)
  intro n s hI
  refine hI _ fun i x en hi hP S => ?_
  have hsrc := hok i x s hP S
  refine (Nat.lt_or_ge i src.vals.length).elim (fun hlt => ?_) fun hge => ?_
  · refine zix hsrc (List.getElem?_eq_getElem hlt) S .head fun v s' hv S' => ?_
    refine wpAny_passesOwn hE (wpAny_mono (turn (fun i => turnQ (fun s => ∀ G : Prop, (∀ x, P (i + 1) x → SS w G0 K (gg x) s ((L, .ns (lc (i + 1) x)) :: (it, .opq (src.iter (i + 1))) :: ld (i + 1) x) → G) → G) (fun s => wpAny (model prog w) A (execs rest env) Q E s) (fun v s => Q (.ret v) s)) ?_ (fun _ _ h => h) (fun _ _ _ h => h) i x v s' hP (by rw [List.getElem?_eq_getElem hlt, hv]) (S'.perm (List.Perm.swap ..)))
      (fun _ s₁ h₁ => wpAny_passesOwn hE (wpAny_mono h₁ (fun _ s₂ h₂ => wpAny_passesOwn hE (wpAny_mono h₂ (fun f s₃ h₃ => ?_) fun _ _ x => x)) fun _ _ x => x)) fun _ _ x => x)
    · intro i f x s hP S hf
      cases f with
      | next => exact fun G k => k x hP S
      | cont => exact fun G k => k x hP S
      | brk => cases hf
      | ret v => cases hf
    · have nx : (∀ G : Prop, (∀ x, P (i + 1) x → SS w G0 K (gg x) s₃ ((L, .ns (lc (i + 1) x)) :: (it, .opq (src.iter (i + 1))) :: ld (i + 1) x) → G) → G) → ∃ m, m < n ∧ ∀ G : Prop, (∀ i x, m = src.vals.length - i → i ≤ src.vals.length → P i x → SS w G0 K (gg x) s₃ ((it, .opq (src.iter i)) :: (L, .ns (lc i x)) :: ld i x) → G) → G :=
        fun h => h _ fun x hP S => ⟨src.vals.length - (i + 1), en ▸ Nat.sub_succ_lt_self _ _ hlt, fun G k => k (i + 1) x rfl hlt hP (S.perm (List.Perm.swap ..))⟩
      cases f with
      | next => exact nx h₃
      | cont => exact nx h₃
      | brk => exact h₃
      | ret v => exact h₃
  · have e : i = src.vals.length := Nat.le_antisymm hi hge
    exact zj6 hh hsrc hge S hnew fun s' S' => wpAny_execs_nil (fin x s' (e ▸ hP) (e ▸ S'))
theorem zbd {σ : Type} {src : Src} {it : Addr} {px : Pos} {body rest : List Stmt} {Q : Flow → Shared → Prop} (P : Nat → σ → Prop) (gg : σ → PH) (lc : Nat → σ → Loc) (ld : Nat → σ → Led) (x0 : σ) (hE : PassesOwn (model prog w) A env E) (hh : A.handled = none) (hnew : K.s₀.heap.get? it = none)
    (S : SS w G0 K (gg x0) s ((it, .opq (src.iter 0)) :: (L, .ns (lc 0 x0)) :: ld 0 x0)) (h0 : P 0 x0)
    (hok : ∀ i x s, P i x → SS w G0 K (gg x) s ((it, .opq (src.iter i)) :: (L, .ns (lc i x)) :: ld i x) → src.ok w s.heap)
    (turn : ∀ Q' : Nat → Flow → Shared → Prop, (∀ i f x s, P (i + 1) x → SS w G0 K (gg x) s ((L, .ns (lc (i + 1) x)) :: (it, .opq (src.iter (i + 1))) :: ld (i + 1) x) → goesOn f = true → Q' i f s) →
      (∀ i s, wpAny (model prog w) A (execs rest env) Q E s → Q' i .brk s) → (∀ i v s, Q (.ret v) s → Q' i (.ret v) s) →
      ∀ i x' v s, P i x' → src.vals[i]? = some (V.of v) → SS w G0 K (gg x') s ((L, .ns (lc i x')) :: (it, .opq (src.iter (i + 1))) :: ld i x') →
      wpAny (model prog w) A (storeName env x v) (fun _ s₂ => wpAny (model prog w) A (execs body env) (Q' i) E s₂) E s)
    (fin : ∀ x s, P src.vals.length x → SS w G0 K (gg x) s ((L, .ns (lc src.vals.length x)) :: ld src.vals.length x) → wpAny (model prog w) A (execs rest env) Q E s) :
    codeAny (model prog w) A (.forLoop (.Name x px) (.ref it) body [] env) (forR (model prog w) A E env rest Q) s :=
  zhg P gg lc ld x0 hE hh hnew S h0 hok (fun Q' h1 h2 h3 i x' v s hP hv S => wpAny_of_eq (a := ()) rfl (wpAny_assign_Name (turn Q' h1 h2 h3 i x' v s hP hv S))) fin
theorem zby {P : Value → Prop} {n i : Nat} {v : Value} (h : (Src.rng 0 n).vals[i]? = some (V.of v)) (k : i < n → ∀ t, P (.int i t)) : P v := by
  have hlt : i < n := by
    have := (List.getElem?_eq_some_iff.mp h).1
    simpa [Src.vals] using this
  have hv : V.of v = .int i := by
    rw [Src.vals, List.getElem?_map, List.getElem?_range hlt] at h
    rw [← Option.some.inj h]; exact congrArg V.int (Int.zero_add _)
  obtain ⟨t, rfl⟩ := V.of_int hv
  exact k hlt t
theorem zbf {lo : Int} {n : Nat} : (Src.rng lo n).vals.length = n := by simp only [Src.vals, List.length_map, List.length_range]
theorem zem {P : Value → Prop} {ns : List Int} {i : Nat} {v : Value} (h : (ns.map V.int)[i]? = some (V.of v)) (k : ∀ n t, ns[i]? = some n → P (.int n t)) : P v := by
  rw [List.getElem?_map] at h
  cases q : ns[i]? with
  | none => rw [q] at h; cases h
  | some n =>
    rw [q] at h
    obtain ⟨t, rfl⟩ := V.of_int (Option.some.inj h).symm
    exact k n t q
theorem zjz {P : Value → Prop} {n : Int} {v : Value} (h : V.of v = .int n) (k : ∀ t, P (.int n t)) : P v := by
  obtain ⟨t, rfl⟩ := V.of_int h; exact k t
theorem zh3 {P : Value → Prop} {lo : Int} {n i : Nat} {v : Value} (h : (Src.rng lo n).vals[i]? = some (V.of v)) (k : i < n → ∀ t, P (.int (lo + i) t)) : P v := by
  have hlt : i < n := by
    have := (List.getElem?_eq_some_iff.mp h).1
    simpa [Src.vals] using this
  have hv : V.of v = .int (lo + i) := by
    rw [Src.vals, List.getElem?_map, List.getElem?_range hlt] at h
    exact (Option.some.inj h).symm
  exact zjz hv (k hlt)
noncomputable def testsOf (ifs : List Expr) (env : Env) : Sem Bool := forIn ifs true fun c r => if r = true then do let ok ← isTrue c env (eval c env); pure (ForInStep.yield ok) else pure (ForInStep.yield r)
theorem zb4 {Q : Bool → Shared → Prop} (h : Q true s) : wpAny (model prog w) A (testsOf [] env) Q E s := wpAny_tests_nil h
theorem zde {e : Expr} {Q : Bool → Shared → Prop} (h : wpAny (model prog w) A (isTrue e env (eval e env)) Q E s) : wpAny (model prog w) A (testsOf [e] env) Q E s := wpAny_tests_one h
noncomputable def compKinds (names : List (Str × NameKind)) (kinds : List (Str × NameKind)) : List (Str × NameKind) :=
  names.map fun p => if (p.2 == .free && kinds.lookup p.1 == some .cell) = true then (p.1, .cell) else (p.1, p.2)
noncomputable def closOf (cl : List (Str × Addr)) : List (Str × NameKind) → List (Str × Addr) → List (Str × Addr)
  | [], acc => acc
  | (n, k) :: r, acc => match k == .free, cl.lookup n with
    | true, some c => closOf cl r ((n, c) :: acc)
    | _, _ => closOf cl r acc
noncomputable def closAll (cl : List (Str × Addr)) (names : List (Str × NameKind)) : Prop := ∀ p ∈ names, p.2 = .free → (cl.lookup p.1).isSome = true
theorem zgv {cells : List (Str × Addr)} (hc : ∀ x c, cl.lookup x = some c → cells.lookup x = some c) (henv : env.cells = cells) (f : Str × NameKind → List (Str × Addr) → Sem (ForInStep (List (Str × Addr))))
    (hf : ∀ n k r, f (n, k) r = if (k == NameKind.free) = true then (do let a ← cellOf env n; pure (ForInStep.yield ((n, a) :: r))) else pure (ForInStep.yield r)) :
    ∀ (names : List (Str × NameKind)) (acc : List (Str × Addr)), closAll cl names → forIn names acc f = (pure (closOf cl names acc) : Sem (List (Str × Addr)))
  | [], acc, _ => by rw [List.forIn_nil]; rfl
  | (n, k) :: r, acc, hall => by
    have hr : closAll cl r := fun q hq => hall q (.tail _ hq)
    rw [List.forIn_cons, hf]
    cases hk : (k == NameKind.free) with
    | false =>
      rw [if_neg (by decide)]
      have e : closOf cl ((n, k) :: r) acc = closOf cl r acc := by rw [closOf, hk]
      rw [e, ← zgv hc henv f hf r acc hr]; rfl
    | true =>
      rw [if_pos rfl]
      obtain ⟨c, hl⟩ := Option.isSome_iff_exists.mp (hall (n, k) (.head _) (by simpa using hk))
      have e : closOf cl ((n, k) :: r) acc = closOf cl r ((n, c) :: acc) := by
        rw [closOf, hk, hl]
      have e2 : cellOf env n = pure c := by unfold cellOf; rw [henv, hc n c hl]
      rw [e, e2, ← zgv hc henv f hf r ((n, c) :: acc) hr]; rfl
theorem zfh (X : EnvOk env L fr kinds cl) {scope : Scope} (h : closAll cl scope.names) : closureFor scope env = pure (closOf cl scope.names []) := by
  simp only [closureFor]
  rw [zgv (fun x c e => X.cls x c (mem_of_lookup e)) rfl _ (fun n k r => rfl) scope.names [] h]
  rfl
theorem zc1 : ∀ (names : List (Str × NameKind)) (acc : List (Str × Addr)), (names.map Prod.fst).Nodup → (acc.map Prod.fst).Nodup → (∀ n ∈ names.map Prod.fst, n ∉ acc.map Prod.fst) → ((closOf cl names acc).map Prod.fst).Nodup
  | [], acc, _, h, _ => h
  | (n, k) :: r, acc, h1, h2, h3 => by
    simp only [List.map_cons, List.nodup_cons] at h1
    unfold closOf
    split
    · refine zc1 r _ h1.2 ?_ ?_
      · simp only [List.map_cons, List.nodup_cons]; exact ⟨h3 n (.head _), h2⟩
      · intro m hm
        simp only [List.map_cons, List.mem_cons, not_or]
        exact ⟨fun e => h1.1 (e ▸ hm), h3 m (.tail _ hm)⟩
    · exact zc1 r acc h1.2 h2 fun m hm => h3 m (.tail _ hm)
theorem ze5 {α : Type} {l : List (Str × α)} (nd : (l.map Prod.fst).Nodup) {x : Str} {c : α} (h : (x, c) ∈ l) : l.lookup x = some c := by
  induction l with
  | nil => cases h
  | cons p r ih =>
    obtain ⟨y, q⟩ := p
    simp only [List.map_cons, List.nodup_cons] at nd
    rw [List.lookup_cons]
    rcases List.mem_cons.mp h with e | h
    · cases e; simp
    · have : (x == y) = false := by
        simp only [beq_eq_false_iff_ne]; intro e; exact nd.1 (e ▸ List.mem_map_of_mem (f := Prod.fst) h)
      rw [this]; exact ih nd.2 h
theorem zkp {scope : Scope} {kinds' : List (Str × NameKind)} {cl' : List (Str × Addr)} {C : Addr} (X : EnvOk env L fr kinds cl) (hnm : NamesOk scope.names) (hkind : scope.kind = .function)
    (hfr : scope.names.all (fun p => !(p.2 == .free) || (kinds.lookup p.1).isSome) = true) (hk : compKinds scope.names kinds = kinds') (hc : closOf cl scope.names [] = cl') : EnvOk (compEnvC scope cl' C env) C fr kinds' cl' := by
  subst hk hc
  have fsts : (compKinds scope.names kinds).map Prod.fst = scope.names.map Prod.fst := by
    unfold compKinds
    rw [List.map_map]
    refine List.map_congr_left fun p _ => ?_
    simp only [Function.comp]
    split <;> rfl
  refine ⟨rfl, hkind, X.glob, X.blt, fun x k hm => ?_, fun x k hm => ?_, fun x c hm => ?_, X.frame⟩
  · show (relabel scope env).names.lookup x = some k
    have e : (relabel scope env).names = compKinds scope.names kinds := by
      unfold relabel compKinds
      refine List.map_congr_left fun p hp => ?_
      obtain ⟨n, kk⟩ := p
      have hall := List.all_eq_true.mp hfr _ hp
      simp only at hall ⊢
      cases hf : (kk == NameKind.free) with
      | false => simp [hf]
      | true =>
        rw [hf] at hall
        simp only [Bool.not_true, Bool.false_or] at hall
        obtain ⟨k', hk'⟩ := Option.isSome_iff_exists.mp hall
        have e1 := X.kd n k' (mem_of_lookup hk')
        have e2 : (env.scope.kind == ScopeKind.function) = true := by rw [X.kind]; rfl
        rw [hk', e1, e2]
        simp only [Bool.true_and]
    rw [e]
    exact za1 (by rw [fsts]; exact hnm.1) hm
  · refine hnm.2 x ?_
    rw [← fsts]; exact List.mem_map_of_mem (f := Prod.fst) hm
  · exact ze5 (zc1 _ _ hnm.1 (by simp) (fun n _ h => by cases h)) hm
end
end Mine
end
section
namespace Mine
open PySem PySem.W PySem.Calls PyProof.Rows
section
variable {prog : Program} {w : World} {G0 : Heap} {K : Kon} {g g' : PH} {s s' : Shared} {ℓ ℓ' ρ : Led} {a L : Addr} {c c' : Cell} {h' : Heap} {t : Nat}
  {env : Env} {fr : Option Addr} {kinds kinds' : List (Str × NameKind)} {cl cl' : List (Str × Addr)} {loc loc' : Loc} {A : Around} {E : Value → Shared → Prop} {x : Str} {pos pos' px : Pos}
theorem zmb {src : Src} {i : Nat} {it : Addr} {Q : Value → Shared → Prop} (S : SS w G0 K g s ℓ) (hm : (it, .opq (src.iter i)) ∈ ℓ) (h : Q (.ref it) s) : wpAny (model prog w) A (pyIter (.ref it)) Q E s := by
  obtain ⟨o, ho, hP⟩ := S.at hm
  cases src with
  | seqL a vs => exact wpAny_pyIter_listiter ⟨o, ho, hP⟩ h
  | seqT a vs => exact wpAny_pyIter_tupleiter ⟨o, ho, hP⟩ h
  | rng lo n =>
    have ho' : IsRangeIter s.heap it (lo + i) (n - i) 1 := by rw [hP] at ho; exact ho
    exact wpAny_pyIter_rangeiter ho' h
  | str x =>
    obtain ⟨ty, tt, hty, hc, hd⟩ := hP
    rcases hty with rfl | rfl
    · exact wpAny_pyIter_striter_ascii ⟨o, ho, hc, hd⟩ h
    · exact wpAny_pyIter_striter_wide ⟨o, ho, hc, hd⟩ h
structure ScopeOk (scope : Scope) (x : Str) (kinds kinds' : List (Str × NameKind)) (cl cl' : List (Str × Addr)) : Prop where
  kind : scope.kind = .function
  nm : NamesOk scope.names
  nocell : scope.names.all (fun p => !(p.2 == .cell)) = true
  tgt : (x, .local) ∈ scope.names
  fr : scope.names.all (fun p => !(p.2 == .free) || ((kinds.lookup p.1).isSome && (cl.lookup p.1).isSome)) = true
  kk : compKinds scope.names kinds = kinds'
  cc : closOf cl scope.names [] = cl'
theorem ScopeOk.free1 {scope : Scope} (k : ScopeOk scope x kinds kinds' cl cl') : scope.names.all (fun p => !(p.2 == .free) || (kinds.lookup p.1).isSome) = true := by
  refine List.all_eq_true.mpr fun p hp => ?_
  have := List.all_eq_true.mp k.fr p hp
  cases h : (p.2 == NameKind.free) <;> simp_all
theorem ScopeOk.free2 {scope : Scope} (k : ScopeOk scope x kinds kinds' cl cl') : closAll cl scope.names := fun p hp h => by
  have := List.all_eq_true.mp k.fr p hp
  simp_all
theorem ScopeOk.clos {scope : Scope} (k : ScopeOk scope x kinds kinds' cl cl') (X : EnvOk env L fr kinds cl) : closureFor scope env = pure cl' := by rw [zfh X k.free2, k.cc]
theorem ScopeOk.names {scope : Scope} (k : ScopeOk scope x kinds kinds' cl cl') : ∀ y ∈ scope.names, y.2 = .local → scope.names.lookup y.1 = some .local := fun y hy h => za1 k.nm.1 (by rw [← h]; exact hy)
theorem ScopeOk.envOk {scope : Scope} {C : Addr} (k : ScopeOk scope x kinds kinds' cl cl') (X : EnvOk env L fr kinds cl) : EnvOk (compEnvC scope cl' C env) C fr kinds' cl' := zkp X k.nm k.kind k.free1 k.kk k.cc
theorem zm7 {σ : Type} {scope : Scope} {elt iter : Expr} {ifs : List Expr} {src : Src} {it C D : Addr} {R : Result → Shared → Prop} {cenv : Env} {P : Nat → σ → Prop} {gg : σ → PH} {ac : Nat → σ → List V} {ld : Nat → σ → Led} {x0 : σ} {names : List (Str × NameKind)} (hh : A.handled = none)
    (hkk : compKinds names kinds = kinds') (htgt : (x, .local) ∈ names) (X : EnvOk cenv C fr kinds' cl') (hsz : src.vals.length ≤ sizeLine) (hnew : K.s₀.heap.get? it = none) (hC : K.s₀.heap.get? C = none) (hD : K.s₀.heap.get? D = none)
    (S : SS w G0 K (gg x0) s ((it, .opq (src.iter 0)) :: (L, .ns loc) :: (C, .ns [(x, none)]) :: (D, .list []) :: ld 0 x0)) (hac : ac 0 x0 = []) (h0 : P 0 x0)
    (hok : ∀ i y s C D o, P i y → SS w G0 K (gg y) s ((it, .opq (src.iter i)) :: (L, .ns loc) :: (C, .ns [(x, o)]) :: (D, .list (ac i y)) :: ld i y) → src.ok w s.heap)
    (turn : ∀ (QY : Nat → σ → Addr → Addr → V → Value → Shared → Prop) (QN : Nat → σ → Addr → Addr → V → Shared → Prop),
      (∀ i y y' C D pv v s, P (i + 1) y' → ac (i + 1) y' = ac i y ++ [V.of v] → SS w G0 K (gg y') s ((C, .ns [(x, some pv)]) :: (L, .ns loc) :: (it, .opq (src.iter (i + 1))) :: (D, .list (ac i y)) :: ld (i + 1) y') → QY i y C D pv v s) →
      (∀ i y y' C D pv s, P (i + 1) y' → ac (i + 1) y' = ac i y → SS w G0 K (gg y') s ((C, .ns [(x, some pv)]) :: (L, .ns loc) :: (it, .opq (src.iter (i + 1))) :: (D, .list (ac i y)) :: ld (i + 1) y') → QN i y C D pv s) →
      ∀ i y v s C D cenv, P i y → src.vals[i]? = some (V.of v) → EnvOk cenv C fr kinds' cl' → SS w G0 K (gg y) s ((C, .ns [(x, some (V.of v))]) :: (L, .ns loc) :: (it, .opq (src.iter (i + 1))) :: (D, .list (ac i y)) :: ld i y) →
        wpAny (model prog w) A (testsOf ifs cenv) (fun ok s => if ok = true then wpAny (model prog w) A (eval elt cenv) (QY i y C D (V.of v)) (fun _ _ => False) s else QN i y C D (V.of v) s) (fun _ _ => False) s)
    (fin : ∀ y s cloc, P src.vals.length y → SS w G0 K (gg y) s ((L, .ns loc) :: (C, .ns cloc) :: (D, .list (ac src.vals.length y)) :: ld src.vals.length y) → R (.ok .next) s) :
    codeAny (model prog w) A (.compStart (.ListComp elt [⟨.Name x px, iter, ifs, 0⟩] scope pos) 0 (.ref it) (.ref D) cenv) R s := by
  rw [← hac] at S
  have hloc : (x, NameKind.local) ∈ kinds' := hkk ▸ List.mem_map.mpr ⟨(x, .local), htgt, rfl⟩
  have loop : codeAny (model prog w) A (.compLoop (.ListComp elt [⟨.Name x px, iter, ifs, 0⟩] scope pos) 0 (.ref it) (.ref D) cenv) R s := by
    refine codeAny_compLoop_tests (fun n s => ∀ G : Prop, (∀ i y o, n = src.vals.length - i → i ≤ src.vals.length → (ac i y).length ≤ i → P i y → SS w G0 K (gg y) s ((it, .opq (src.iter i)) :: (L, .ns loc) :: (C, .ns [(x, o)]) :: (D, .list (ac i y)) :: ld i y) → G) → G) ?_ (src.vals.length - 0)
      (fun G k => k 0 x0 none rfl (Nat.zero_le _) (by rw [hac]; exact Nat.le_refl _) h0 S) (fun _ => rfl)
    intro n s hI
    refine hI _ fun i y o en hi hacc hP S => ?_
    have hsrc := hok i y s C D o hP S
    refine (Nat.lt_or_ge i src.vals.length).elim (fun hlt => ?_) fun hge => ?_
    · refine zix hsrc (List.getElem?_eq_getElem hlt) S .head fun v s' hv S' => ?_
      refine wpAny_assign_Name (zcm X (S'.sel (.cons (.tail (.tail .head)) (.cons (.tail .head) .refl))) hloc rfl .head fun s S => ?_)
      refine wpAny_mono (turn (fun i y C D pv v s => ∀ G : Prop, (∀ y', P (i + 1) y' → ac (i + 1) y' = ac i y ++ [V.of v] → SS w G0 K (gg y') s ((C, .ns [(x, some pv)]) :: (L, .ns loc) :: (it, .opq (src.iter (i + 1))) :: (D, .list (ac i y)) :: ld (i + 1) y') → G) → G)
        (fun i y C D pv s => ∀ G : Prop, (∀ y', P (i + 1) y' → ac (i + 1) y' = ac i y → SS w G0 K (gg y') s ((C, .ns [(x, some pv)]) :: (L, .ns loc) :: (it, .opq (src.iter (i + 1))) :: (D, .list (ac i y)) :: ld (i + 1) y') → G) → G)
        (fun i y y' C D pv v s hP he S G k => k y' hP he S) (fun i y y' C D pv s hP he S G k => k y' hP he S) i y v s C D cenv hP (by rw [List.getElem?_eq_getElem hlt, hv]) X S) (fun ok s h => ?_) fun _ _ f => f.elim
      have hlt' : src.vals.length - (i + 1) < n := en ▸ Nat.sub_succ_lt_self _ _ hlt
      cases ok with
      | false => exact h _ fun y' hP' he S => ⟨_, hlt', fun G k => k (i + 1) y' _ rfl hlt (by rw [he]; exact Nat.le_succ_of_le hacc) hP' (he ▸ S.sel (.cons (.tail (.tail .head)) (.cons (.tail .head) .refl)))⟩
      | true =>
        refine wpAny_mono h (fun z s h => h _ fun y' hP' he S => ?_) fun _ _ f => f.elim
        refine zd9 S (.tail (.tail (.tail .head))) (Nat.le_trans hacc (Nat.le_trans (Nat.le_of_lt hlt) hsz)) rfl fun s S => ?_
        exact ⟨_, hlt', fun G k => k (i + 1) y' _ rfl hlt (by rw [he, List.length_append]; exact Nat.succ_le_succ hacc) hP' (he ▸ S.sel (.cons (.tail (.tail .head)) (.cons (.tail .head) .refl)))⟩
    · have e : i = src.vals.length := Nat.le_antisymm hi hge
      exact zj6 hh hsrc hge S hnew fun s' S' => fin y s' _ (e ▸ hP) (e ▸ S')
  exact codeAny_compStart_list loop (zmb S (.head _) loop)
noncomputable def CompK (prog : Program) (w : World) (A : Around) (G0 : Heap) (K : Kon) (L : Addr) (fr : Option Addr) (kinds' : List (Str × NameKind)) (cl' : List (Str × Addr)) (x : Str) (elt : Expr) (ifs : List Expr) (fin : PH → Loc → Led → Addr → List V → Prop) (CC : Value → Shared → Prop) : Prop :=
  ∀ (σ : Type) (src : Src) (it₀ : Addr) (P : Nat → σ → Prop) (gg : σ → PH) (loc : Loc) (ac : Nat → σ → List V) (ld : Nat → σ → Led) (x0 : σ) (s₂ : Shared), src.vals.length ≤ sizeLine → K.s₀.heap.get? it₀ = none →
    SS w G0 K (gg x0) s₂ ((it₀, .opq (Src.iter src 0)) :: (L, .ns loc) :: ld 0 x0) → ac 0 x0 = [] → P 0 x0 →
    (∀ i y s C D o, P i y → SS w G0 K (gg y) s ((it₀, .opq (src.iter i)) :: (L, .ns loc) :: (C, .ns [(x, o)]) :: (D, .list (ac i y)) :: ld i y) → src.ok w s.heap) →
    (∀ (QY : Nat → σ → Addr → Addr → V → Value → Shared → Prop) (QN : Nat → σ → Addr → Addr → V → Shared → Prop),
      (∀ i y y' C D pv v s, P (i + 1) y' → ac (i + 1) y' = ac i y ++ [V.of v] → SS w G0 K (gg y') s ((C, .ns [(x, some pv)]) :: (L, .ns loc) :: (it₀, .opq (src.iter (i + 1))) :: (D, .list (ac i y)) :: ld (i + 1) y') → QY i y C D pv v s) →
      (∀ i y y' C D pv s, P (i + 1) y' → ac (i + 1) y' = ac i y → SS w G0 K (gg y') s ((C, .ns [(x, some pv)]) :: (L, .ns loc) :: (it₀, .opq (src.iter (i + 1))) :: (D, .list (ac i y)) :: ld (i + 1) y') → QN i y C D pv s) →
      ∀ i y v s C D cenv, P i y → src.vals[i]? = some (V.of v) → EnvOk cenv C fr kinds' cl' → SS w G0 K (gg y) s ((C, .ns [(x, some (V.of v))]) :: (L, .ns loc) :: (it₀, .opq (src.iter (i + 1))) :: (D, .list (ac i y)) :: ld i y) →
        wpAny (model prog w) A (testsOf ifs cenv) (fun ok s => if ok = true then wpAny (model prog w) A (eval elt cenv) (QY i y C D (V.of v)) (fun _ _ => False) s else QN i y C D (V.of v) s) (fun _ _ => False) s) →
    (∀ y D, P src.vals.length y → K.s₀.heap.get? D = none → fin (gg y) loc (ld src.vals.length y) D (ac src.vals.length y)) → CC (.ref it₀) s₂
theorem CompK.block {scope : Scope} {elt iter : Expr} {ifs : List Expr} {fin : PH → Loc → Led → Addr → List V → Prop} {RR : Value → Addr → Result → Shared → Prop} (hh : A.handled = none) (X : EnvOk env L fr kinds cl) (O : ScopeOk scope x kinds kinds' cl cl')
    (k : ∀ g loc ℓ s C D cloc acc, fin g loc ℓ D acc → K.s₀.heap.get? C = none → SS w G0 K g s ((L, .ns loc) :: (C, .ns cloc) :: (D, .list acc) :: ℓ) → RR (.ref D) C (.ok .next) s) :
    CompK prog w A G0 K L fr kinds' cl' x elt ifs fin (fun it s => wpAny (model prog w) A (newList []) (fun acc s₃ => wpAny (model prog w) A (newFunctionEnv scope env.globals cl' [] env.qual none .none (some env)) (fun cenv s₄ =>
      codeAny (model prog w) A (.compStart (.ListComp elt [⟨.Name x px, iter, ifs, 0⟩] scope pos) 0 it acc { cenv with scope := relabel scope env }) (RR acc cenv.locals) s₄) E s₃) E s) := by
  intro σ src it₀ P gg loc ac ld x0 s₂ hsz hnew S hac h0 hok turn fin
  have hcell : ∀ y ∈ scope.names, y.2 ≠ .cell := fun y hy e => by
    have := List.all_eq_true.mp O.nocell y hy
    rw [e] at this; cases this
  have S₁ := S.push (t := s₂.toks) (c := .list []) (o := { cls := .type "list", data := .seq ([] : List Value).toArray }) ⟨#[], _, rfl, rfl⟩ rfl
  refine wpAny_newObj_type (wpAny_newFunctionEnv hcell (fun _ h => nomatch h) (fun h₁ hns₁ hsb₁ => ?_) O.kind)
  dsimp only at hns₁ hsb₁ ⊢
  have hD : K.s₀.heap.get? s₂.heap.objs.size = none := S.unborn (zay _)
  generalize s₂.heap.objs.size = D at S₁ hD ⊢
  generalize s₂.heap.push { cls := .type "list", data := .seq ([] : List Value).toArray } = H at S₁ hns₁ hsb₁ ⊢
  have hC : K.s₀.heap.get? H.objs.size = none := S₁.unborn (zay _)
  have S₂ : SS w G0 K (gg x0) { s₂ with heap := h₁, toks := s₂.toks + ([] : List (Str × Value)).length } ((H.objs.size, .ns [(x, none)]) :: (D, .list []) :: (it₀, .opq (src.iter 0)) :: (L, .ns loc) :: ld 0 x0) :=
    S₁.add (zay _) (fun b o e => hsb₁.extBut b o (Nat.ne_of_lt (Heap.lt_size e)) (Heap.get?_push_of_some _ e)) (At.of_ns hns₁ (List.nodup_cons.mpr ⟨List.not_mem_nil, List.nodup_nil⟩) fun y pv hm => nomatch List.mem_singleton.mp hm)
  exact zm7 hh O.kk O.tgt (O.envOk (C := H.objs.size) X) hsz hnew hC hD (S₂.sel (.cons (.tail (.tail .head)) (.cons (.tail (.tail .head)) .refl))) hac h0 hok turn fun y s cloc hP S => k _ _ _ s _ _ cloc _ (fin y _ hP hD) hC S
theorem zcn {scope : Scope} {elt iter : Expr} {ifs : List Expr} {Q : Value → Shared → Prop} (hh : A.handled = none) (X : EnvOk env L fr kinds cl) (O : ScopeOk scope x kinds kinds' cl cl')
    (h : ∀ CC, CompK prog w A G0 K L fr kinds' cl' x elt ifs (fun g loc ℓ D acc => ∀ s, SS w G0 K g s ((L, .ns loc) :: (D, .list acc) :: ℓ) → Q (.ref D) s) CC → wpAny (model prog w) A (eval iter env) (fun xv s₁ => wpAny (model prog w) A (pyIter xv) CC E s₁) E s)
    (hs : ∀ x, foldedSetIterable iter env x = pure x) :
    wpAny (model prog w) A (eval (.ListComp elt [⟨.Name x px, iter, ifs, 0⟩] scope pos) env) Q E s := by
  rw [eval_ListComp]
  refine wpAny_comprehension_free (use := none) rfl hs (O.clos X) O.kind O.names (h _ (CompK.block hh X O fun g loc ℓ s C D cloc acc hf hC S => ?_))
  obtain ⟨m, hn, -, -⟩ := (S.at (.tail _ (.head _))).ns_any
  exact ⟨m, hn, fun h' hb => hf _ ((S.sel (.cons (.tail .head) .refl)).dropExt (t := s.toks) hC hb.extBut)⟩
theorem zcb {scope : Scope} {y : Str} {py spos : Pos} {elt iter : Expr} {ifs : List Expr} {rest : List Stmt} {Q : Flow → Shared → Prop} (hh : A.handled = none) (X : EnvOk env L fr kinds cl) (O : ScopeOk scope x kinds kinds' cl cl')
    (hsw : swapsWith (.ListComp elt [⟨.Name x px, iter, ifs, 0⟩] scope pos) (some (.Name y py)) spos.line env = pure true) (hk : (y, .local) ∈ kinds)
    (h : ∀ CC, CompK prog w A G0 K L fr kinds' cl' x elt ifs (fun g loc ℓ D acc => ∃ loc', UpdL y (.ref D) loc loc' ∧ ∀ s, SS w G0 K g s ((L, .ns loc') :: (D, .list acc) :: ℓ) → wpAny (model prog w) A (execs rest env) Q E s) CC → wpAny (model prog w) A (eval iter env) (fun xv s₁ => wpAny (model prog w) A (pyIter xv) CC E s₁) E s)
    (hs : ∀ x, foldedSetIterable iter env x = pure x) :
    wpAny (model prog w) A (execs (.Assign [.Name y py] (.ListComp elt [⟨.Name x px, iter, ifs, 0⟩] scope pos) spos :: rest) env) Q E s := by
  refine wpAny_execs_cons ?_
  rw [exec_Assign_Name_used _ _ _ _ hsw]
  refine wpAny_bind (wpAny_standAt (wpAny_bind ?_))
  show wpAny _ A (do let _ ← comprehension (.ListComp elt [⟨.Name x px, iter, ifs, 0⟩] scope pos) scope env _ (newList []) false (eval iter env) (some (assign (.Name y py) env))) _ _ s
  refine wpAny_bind (wpAny_mono (wpAny_comprehension_free (use := some (assign (.Name y py) env)) (Q := fun _ s' => wpAny (model prog w) A (execs rest env) Q E s') rfl hs (O.clos X) O.kind O.names
    (h _ (CompK.block hh X O fun g loc ℓ s C D cloc acc hf hC S => ?_))) (fun _ s' hq => wpAny_pure (wpAny_pure hq)) fun _ _ e => e)
  show wpAny _ A (assign (.Name y py) env (.ref D)) _ _ _
  obtain ⟨loc', hu, k⟩ := hf
  refine wpAny_assign_Name (za5 X S hk hu fun s' S' => ?_)
  obtain ⟨m, hn, -, -⟩ := (S'.at (.tail _ (.head _))).ns_any
  exact ⟨m, hn, fun h' hb => k _ ((S'.sel (.cons (.tail .head) .refl)).dropExt (t := s'.toks) hC hb.extBut)⟩
end
end Mine
end
section
namespace Mine
open PySem PySem.W PySem.Calls PyProof.Rows
noncomputable def isCellK : NameKind → Bool
  | .cell => true
  | _ => false
theorem zkv (k : NameKind) : (k == .cell) = isCellK k := by cases k <;> rfl
noncomputable def mkLocC : List Value → List (Str × NameKind) → Loc
  | v :: vs, p :: ps => (p.1, bif isCellK p.2 then none else some (V.of v)) :: mkLocC vs ps
  | [], p :: ps => (p.1, none) :: mkLocC [] ps
  | _, [] => []
noncomputable def mkCells (n : Nat) : List Value → List (Str × NameKind) → Led
  | v :: vs, p :: ps => bif isCellK p.2 then (n, .cell (some (V.of v))) :: mkCells (n + 1) vs ps else mkCells n vs ps
  | [], p :: ps => bif isCellK p.2 then (n, .cell none) :: mkCells (n + 1) [] ps else mkCells n [] ps
  | _, [] => []
noncomputable def mkCl (n : Nat) : List (Str × NameKind) → List (Str × Addr)
  | [] => []
  | p :: ps => bif isCellK p.2 then (p.1, n) :: mkCl (n + 1) ps else mkCl n ps
theorem zfk : ∀ (vals : List Value) (names : List (Str × NameKind)), (mkLocC vals names).map Prod.fst = names.map Prod.fst
  | _ :: vs, p :: ps => by simp [mkLocC, zfk vs ps]
  | [], p :: ps => by simp [mkLocC, zfk [] ps]
  | [], [] => rfl
  | _ :: _, [] => rfl
theorem zfo : ∀ {vals : List Value} {names : List (Str × NameKind)} {x : Str} {pv : V}, (x, some pv) ∈ mkLocC vals names → ∃ v k, (x, v) ∈ bindsOf names vals ∧ V.of v = pv ∧ (x, k) ∈ names ∧ isCellK k = false
  | v :: vs, p :: ps, x, pv, h => by
    unfold mkLocC at h
    rcases List.mem_cons.mp h with e | h
    · obtain ⟨n, k⟩ := p
      cases hk : isCellK k with
      | true => rw [hk] at e; cases e
      | false => rw [hk] at e; cases e; exact ⟨v, k, .head _, rfl, .head _, hk⟩
    · obtain ⟨u, k, hu, e, h1, h2⟩ := zfo h
      exact ⟨u, k, .tail _ hu, e, .tail _ h1, h2⟩
  | [], p :: ps, x, pv, h => by
    unfold mkLocC at h
    rcases List.mem_cons.mp h with e | h
    · cases e
    · obtain ⟨u, k, hu, e⟩ := zfo h
      simp [bindsOf] at hu
  | [], [], x, pv, h => by cases h
  | _ :: _, [], x, pv, h => by cases h
theorem zcu : ∀ (n : Nat) (vals : List Value) (names : List (Str × NameKind)), (mkCells n vals names).map Prod.fst = (mkCl n names).map Prod.snd
  | n, v :: vs, p :: ps => by
    unfold mkCells mkCl
    cases isCellK p.2
    · exact zcu n vs ps
    · simp only [cond_true, List.map_cons]; rw [zcu (n + 1) vs ps]
  | n, [], p :: ps => by
    unfold mkCells mkCl
    cases isCellK p.2
    · exact zcu n [] ps
    · simp only [cond_true, List.map_cons]; rw [zcu (n + 1) [] ps]
  | n, [], [] => rfl
  | n, _ :: _, [] => rfl
theorem zgt : ∀ (n : Nat) (names : List (Str × NameKind)), ∀ a ∈ (mkCl n names).map Prod.snd, n ≤ a
  | n, [], a, h => by cases h
  | n, p :: ps, a, h => by
    unfold mkCl at h
    cases hk : isCellK p.2 with
    | false => rw [hk] at h; exact zgt n ps a h
    | true =>
      rw [hk] at h
      simp only [cond_true, List.map_cons, List.mem_cons] at h
      rcases h with rfl | h
      · exact Nat.le_refl _
      · exact Nat.le_of_succ_le (zgt (n + 1) ps a h)
theorem zi6 : ∀ (n : Nat) (names : List (Str × NameKind)), ((mkCl n names).map Prod.snd).Nodup
  | n, [] => by simp [mkCl]
  | n, p :: ps => by
    unfold mkCl
    cases isCellK p.2
    · exact zi6 n ps
    · simp only [cond_true, List.map_cons, List.nodup_cons]
      exact ⟨fun h => Nat.lt_irrefl _ (zgt (n + 1) ps n h), zi6 (n + 1) ps⟩
theorem zcq : ∀ (names : List (Str × NameKind)) (n : Nat) (acc : List (Str × Addr)) (q : Str × Addr), q ∈ cellsFrom n names acc ↔ q ∈ mkCl n names ∨ q ∈ acc
  | [], n, acc, q => by simp [cellsFrom, mkCl]
  | (y, k) :: r, n, acc, q => by
    unfold cellsFrom mkCl
    rw [zkv]
    cases isCellK k
    · exact zcq r n acc q
    · simp only [if_true, cond_true]
      rw [zcq r (n + 1)]
      simp only [List.mem_cons]
      constructor
      · rintro (h | h | h)
        · exact .inl (.inr h)
        · exact .inl (.inl h)
        · exact .inr h
      · rintro ((h | h) | h)
        · exact .inr (.inl h)
        · exact .inl h
        · exact .inr (.inr h)
theorem zfq : ∀ (names : List (Str × NameKind)) (n : Nat), ((mkCl n names).map Prod.fst).Sublist (names.map Prod.fst)
  | [], n => .slnil
  | (y, k) :: r, n => by
    unfold mkCl
    cases isCellK k
    · exact (zfq r n).cons _
    · exact (zfq r (n + 1)).cons_cons _
theorem zgw : ∀ (names : List (Str × NameKind)) (n : Nat), ∀ q ∈ mkCl n names, ∃ k, (q.1, k) ∈ names ∧ isCellK k = true
  | [], n, q, h => by cases h
  | (y, k) :: r, n, q, h => by
    unfold mkCl at h
    cases hk : isCellK k with
    | false => rw [hk] at h; obtain ⟨k', h1, h2⟩ := zgw r n q h; exact ⟨k', .tail _ h1, h2⟩
    | true =>
      rw [hk] at h
      rcases List.mem_cons.mp h with rfl | h
      · exact ⟨k, .head _, hk⟩
      · obtain ⟨k', h1, h2⟩ := zgw r (n + 1) q h; exact ⟨k', .tail _ h1, h2⟩
theorem zij (names : List (Str × NameKind)) (n : Nat) (nd : (names.map Prod.fst).Nodup) : ((cellsFrom n names []).map Prod.fst).Nodup := by
  suffices ∀ (names : List (Str × NameKind)) (n : Nat) (acc : List (Str × Addr)), (names.map Prod.fst).Nodup → (acc.map Prod.fst).Nodup → (∀ x ∈ names.map Prod.fst, x ∉ acc.map Prod.fst) → ((cellsFrom n names acc).map Prod.fst).Nodup from
    this names n [] nd (by simp) (fun _ _ h => by cases h)
  intro names
  induction names with
  | nil => intro n acc _ h _; exact h
  | cons p r ih =>
    obtain ⟨y, k⟩ := p
    intro n acc h1 h2 h3
    simp only [List.map_cons, List.nodup_cons] at h1
    unfold cellsFrom
    split
    · refine ih _ _ h1.2 ?_ ?_
      · simp only [List.map_cons, List.nodup_cons]; exact ⟨h3 y (.head _), h2⟩
      · intro m hm
        simp only [List.map_cons, List.mem_cons, not_or]
        exact ⟨fun e => h1.1 (e ▸ hm), h3 m (.tail _ hm)⟩
    · exact ih _ _ h1.2 h2 fun m hm => h3 m (.tail _ hm)
theorem zex : ∀ {vals : List Value} {names : List (Str × NameKind)} {n : Nat} {a : Addr} {c : Cell}, (a, c) ∈ mkCells n vals names →
    ∃ x, (x, a) ∈ mkCl n names ∧ ((∃ v, (x, v) ∈ bindsOf names vals ∧ c = .cell (some (V.of v))) ∨ (c = .cell none ∧ ((names.map Prod.fst).Nodup → x ∉ (bindsOf names vals).map Prod.fst)))
  | v :: vs, p :: ps, n, a, c, h => by
    unfold mkCells at h
    have lift : ∀ {m}, (a, c) ∈ mkCells m vs ps → (∀ q, q ∈ mkCl m ps → q ∈ mkCl n (p :: ps)) → ∃ x, (x, a) ∈ mkCl n (p :: ps) ∧ ((∃ v', (x, v') ∈ bindsOf (p :: ps) (v :: vs) ∧ c = .cell (some (V.of v'))) ∨ (c = .cell none ∧ (((p :: ps).map Prod.fst).Nodup → x ∉ (bindsOf (p :: ps) (v :: vs)).map Prod.fst))) := by
      intro m h hsub
      obtain ⟨x, h1, h2⟩ := zex h
      refine ⟨x, hsub _ h1, ?_⟩
      rcases h2 with ⟨u, h2, h3⟩ | ⟨h2, h3⟩
      · exact .inl ⟨u, .tail _ h2, h3⟩
      · refine .inr ⟨h2, fun nd hm => ?_⟩
        simp only [List.map_cons, List.nodup_cons] at nd
        have hm' : x = p.1 ∨ x ∈ (bindsOf ps vs).map Prod.fst := by
          have : x ∈ p.1 :: (bindsOf ps vs).map Prod.fst := hm
          exact List.mem_cons.mp this
        rcases hm' with e | hm'
        · refine nd.1 (e ▸ ?_)
          exact (zfq ps m).mem (List.mem_map_of_mem (f := Prod.fst) h1)
        · exact h3 nd.2 hm'
    cases hk : isCellK p.2 with
    | false => rw [hk] at h; exact lift h fun q hq => by unfold mkCl; rw [hk]; exact hq
    | true =>
      rw [hk] at h
      rcases List.mem_cons.mp h with e | h
      · cases e
        exact ⟨p.1, by unfold mkCl; rw [hk]; exact .head _, .inl ⟨v, .head _, rfl⟩⟩
      · exact lift h fun q hq => by unfold mkCl; rw [hk]; exact .tail _ hq
  | [], p :: ps, n, a, c, h => by
    unfold mkCells at h
    have lift : ∀ {m}, (a, c) ∈ mkCells m [] ps → (∀ q, q ∈ mkCl m ps → q ∈ mkCl n (p :: ps)) → ∃ x, (x, a) ∈ mkCl n (p :: ps) ∧ ((∃ v', (x, v') ∈ bindsOf (p :: ps) [] ∧ c = .cell (some (V.of v'))) ∨ (c = .cell none ∧ (((p :: ps).map Prod.fst).Nodup → x ∉ (bindsOf (p :: ps) []).map Prod.fst))) := by
      intro m h hsub
      obtain ⟨x, h1, h2⟩ := zex h
      refine ⟨x, hsub _ h1, ?_⟩
      rcases h2 with ⟨u, h2, h3⟩ | ⟨h2, h3⟩
      · simp [bindsOf] at h2
      · exact .inr ⟨h2, fun _ hm => by simp [bindsOf] at hm⟩
    cases hk : isCellK p.2 with
    | false => rw [hk] at h; exact lift h fun q hq => by unfold mkCl; rw [hk]; exact hq
    | true =>
      rw [hk] at h
      rcases List.mem_cons.mp h with e | h
      · cases e
        exact ⟨p.1, by unfold mkCl; rw [hk]; exact .head _, .inr ⟨rfl, fun _ hm => by simp [bindsOf] at hm⟩⟩
      · exact lift h fun q hq => by unfold mkCl; rw [hk]; exact .tail _ hq
  | [], [], n, a, c, h => by cases h
  | _ :: _, [], n, a, c, h => by cases h
theorem zh7 {kof : Str → Option NameKind} {x : Str} : ∀ {r : List (Str × Value)} {m : Str → Option Value}, x ∉ r.map Prod.fst → bindL kof r m x = m x
  | [], m, _ => rfl
  | (n, u) :: r, m, hx => by
    simp only [List.map_cons, List.mem_cons, not_or] at hx
    unfold bindL
    rw [zh7 hx.2]
    split
    · show (if x = n then some u else m x) = _
      rw [if_neg hx.1]
    · rfl
theorem zil {kof : Str → Option NameKind} : ∀ {binds : List (Str × Value)} {m : Str → Option Value} {x : Str} {v : Value}, (binds.map Prod.fst).Nodup → (x, v) ∈ binds → kof x = some .local → bindL kof binds m x = some v
  | [], m, x, v, _, h, _ => by cases h
  | (n, u) :: r, m, x, v, nd, h, hk => by
    simp only [List.map_cons, List.nodup_cons] at nd
    unfold bindL
    rcases List.mem_cons.mp h with e | h
    · cases e
      rw [zh7 nd.1, if_pos hk]
      exact if_pos rfl
    · exact zil nd.2 h hk
theorem zg8 {kof : Str → Option NameKind} {x : Str} : ∀ {r : List (Str × Value)} {m : Str → Option Value}, x ∉ r.map Prod.fst → bindC kof r m x = m x
  | [], m, _ => rfl
  | (n, u) :: r, m, hx => by
    simp only [List.map_cons, List.mem_cons, not_or] at hx
    unfold bindC
    rw [zg8 hx.2]
    split
    · rfl
    · show (if x = n then some u else m x) = _
      rw [if_neg hx.1]
theorem ziu {kof : Str → Option NameKind} : ∀ {binds : List (Str × Value)} {m : Str → Option Value} {x : Str} {v : Value}, (binds.map Prod.fst).Nodup → (x, v) ∈ binds → kof x ≠ some .local → bindC kof binds m x = some v
  | [], m, x, v, _, h, _ => by cases h
  | (n, u) :: r, m, x, v, nd, h, hk => by
    simp only [List.map_cons, List.nodup_cons] at nd
    unfold bindC
    rcases List.mem_cons.mp h with e | h
    · cases e
      rw [zg8 nd.1, if_neg hk]
      exact if_pos rfl
    · exact ziu nd.2 h hk
theorem St.addAll {w : World} {G0 : Heap} {Φ : List Addr} {h₀ h h' : Heap} {g₀ g : PH} {C : List Addr} {ℓ : Led} (new : Led) (S : St w G0 Φ h₀ g₀ C g h ℓ) (hn : ∀ p ∈ new, h.get? p.1 = none) (nd : (new.map Prod.fst).Nodup)
    (k : ∀ b o, h.get? b = some o → h'.get? b = some o) (ha : ∀ p ∈ new, At w h' p.1 p.2) : St w G0 Φ h₀ g₀ C g h' (new ++ ℓ) := by
  obtain ⟨I, T⟩ := S.grow k
  obtain ⟨I₀, T₀⟩ := S
  have old : ∀ p ∈ ℓ, ∀ q ∈ new, p.1 ≠ q.1 := fun p hp q hq e => (I₀.led p hp).live (e ▸ hn q hq)
  refine ⟨⟨I.stat, I.facts, fun p hp => ?_, ?_, fun p hp => ?_, fun p hp => ?_, fun b hb => ?_⟩, ⟨T.kept, T.slots, T.alive, T.gm, T.gn, fun p hp => ?_⟩⟩
  · rcases List.mem_append.mp hp with hp | hp
    · exact ha p hp
    · exact I.led p hp
  · rw [List.map_append]
    refine List.nodup_append.mpr ⟨nd, I.nd, fun x hx y hy e => ?_⟩
    obtain ⟨c, hc⟩ := zdd hx
    obtain ⟨d, hd⟩ := zdd hy
    exact old _ hd _ hc e.symm
  · rcases List.mem_append.mp hp with hp | hp
    · cases q : g p.1 with
      | none => rfl
      | some c => exact absurd (hn p hp) (I₀.facts _ c q).live
    · exact I.gl p hp
  · rcases List.mem_append.mp hp with hp | hp
    · cases q : G0.get? p.1 with
      | none => rfl
      | some o => have := I₀.stat _ o q; rw [hn p hp] at this; cases this
    · exact I.gst p hp
  · obtain ⟨x1, x2, x3, x4⟩ := I.ph b hb
    refine ⟨x1, fun hm => ?_, x3, x4⟩
    rw [List.map_append] at hm
    rcases List.mem_append.mp hm with hm | hm
    · obtain ⟨c, hc⟩ := zdd hm
      obtain ⟨o, es, n, y, _⟩ := (I₀.ph b hb).2.2.2
      have := hn _ hc
      rw [y] at this; cases this
    · exact x2 hm
  · rcases List.mem_append.mp hp with hp | hp
    · exact .inr (T₀.alive _ (hn p hp))
    · exact T.ln p hp
section
variable {prog : Program} {w : World} {G0 : Heap} {K : Kon} {g g' : PH} {s s' : Shared} {ℓ ℓ' ρ cells : Led} {a L : Addr} {A : Around} {Φ : List Addr} {R : Result → Shared → Prop}
theorem zb3 {KF : Frag} {oc : Value} {od : Option Addr} {osl : Array (Option Value)} {name qual : Str} {params : Arguments} {body : List Stmt} {names : List (Str × NameKind)} {more : List (Str × Const)} {dV kV doc pm cdv ct : Value} {an : Option Addr} {args : Args} {vals : List Value}
    (I : Inv w G0 Φ g s.heap cells) (X : KF.In G0) (hlim : G0.NoLimit) (hroom : A.depth < recursionLimit)
    (ho : KF.lookup a = some ⟨oc, od, .func { name := name, qualname := qual, params := params, body := .stmts body, scope := { kind := .function, names := names, isGenerator := false, isCoroutine := false, more := more }, globals := mainGlobals, closure := [], defaults := dV, kwdefaults := kV, doc := doc, pyModule := pm, annotations := an, code := cdv, closureTuple := ct, builtins := builtinsNs }, osl⟩)
    (hcd : codeIn KF cdv qual = true)
    (hbind : BindsTo s { name := name, qualname := qual, params := params, body := .stmts body, scope := { kind := .function, names := names, isGenerator := false, isCoroutine := false, more := more }, globals := mainGlobals, closure := [], defaults := dV, kwdefaults := kV, doc := doc, pyModule := pm, annotations := an, code := cdv, closureTuple := ct, builtins := builtinsNs } args (bindsOf names vals))
    (hnm : NamesOk names) (hloc : (names.take vals.length).all (fun p => p.2 == .local || p.2 == .cell) = true)
    (k : ∀ env L s₁, EnvOk env L (some L) names (mkCl (L + 1) names) → (env.func = some a ∧ env.code = cdv ∧ env.qual = qual ++ ".<locals>.") → SS w G0 ⟨Φ, s, g, cells.map Prod.fst⟩ g s₁ ((L, .ns (mkLocC vals names)) :: (mkCells (L + 1) vals names ++ cells)) →
      ∀ (Q : Flow → Shared → Prop) (E : Value → Shared → Prop), (∀ v s', R (.ok (.ret v)) s' → Q (.ret v) s') → (∀ s', R (.ok (.ret .none)) s' → Q .next s') →
        (∀ e s', wpAny (model prog w) (A.deeper env) (leaving env e) (fun _ s'' => R (.error e) s'') (fun e' s'' => R (.error e') s'') s' → E e s') → PassesOwn (model prog w) (A.deeper env) env E →
        wpAny (model prog w) (A.deeper env) (execs body env) Q E s₁) :
    codeAny (model prog w) A (.call (.ref a) args) R s := by
  have ho' := I.stat _ _ (X _ _ ho)
  have ndB : ((bindsOf names vals).map Prod.fst).Nodup := hnm.1.sublist (zew _ _)
  have kindB : ∀ x ∈ bindsOf names vals, ∃ k, (x.1, k) ∈ names ∧ (k = .local ∨ k = .cell) := fun p hp => by
    obtain ⟨q, hq, e⟩ := zez hp
    have hl := List.all_eq_true.mp hloc q hq
    obtain ⟨n, kk⟩ := q
    refine ⟨kk, e ▸ List.mem_of_mem_take hq, by simpa using hl⟩
  refine codeAny_call_function hroom ho' rfl rfl rfl rfl ((codeRec_of X hcd).keeps I.stat) (hbind _ _ _ _ (wpAny_newFunctionEnv_cells rfl (fun p hp => ?_) fun env he s' x => ?_))
  · obtain ⟨kk, h1, h2⟩ := kindB p hp
    rcases h2 with rfl | rfl
    · exact .inl (za1 hnm.1 h1)
    · refine .inr ⟨za1 hnm.1 h1, ?_⟩
      have : ∃ c, (p.1, c) ∈ mkCl (s.heap.objs.size + 1) names := by
        clear ho' ndB kindB hbind hcd ho hroom hlim X I k hp hloc hnm
        generalize s.heap.objs.size + 1 = n
        induction names generalizing n with
        | nil => cases h1
        | cons q r ih =>
          unfold mkCl
          rcases List.mem_cons.mp h1 with e | h1
          · subst e; exact ⟨n, .head _⟩
          · cases isCellK q.2
            · exact ih h1 n
            · obtain ⟨c, hc⟩ := ih h1 (n + 1); exact ⟨c, .tail _ hc⟩
      obtain ⟨c, hc⟩ := this
      have hm := (zcq names (s.heap.objs.size + 1) [] (p.1, c)).mpr (.inl hc)
      cases q : List.lookup p.1 (cellsFrom (s.heap.objs.size + 1) names []) with
      | some _ => rfl
      | none =>
        exfalso
        have := List.lookup_eq_none_iff.mp q
        have := this _ hm
        simp at this
  · subst he
    obtain ⟨⟨same, ns, keep, fresh⟩, hcell, apart, above⟩ := x
    refine ⟨hlim.keeps fun b o e => keep b o (I.stat b o e), codeAny_func ?_⟩
    have ndC : ((cellsFrom (s.heap.objs.size + 1) names []).map Prod.fst).Nodup := zij _ _ hnm.1
    refine k _ s.heap.objs.size _ ?h0 ?h1 ?h2 _ _ (fun _ _ h => h) (fun _ h => h) (fun _ _ h => h) (by passes_own)
    case h0 => exact ⟨rfl, rfl, rfl, rfl, fun x kk hm => za1 hnm.1 hm, fun x kk hm => hnm.2 _ (List.mem_map_of_mem (f := Prod.fst) hm), fun x c hm => ze5 ndC ((zcq _ _ _ _).mpr (.inl hm)), rfl⟩
    case h1 => exact ⟨rfl, rfl, rfl⟩
    refine ⟨?_, ?_⟩
    · refine St.addAll ((s.heap.objs.size, .ns (mkLocC vals names)) :: mkCells (s.heap.objs.size + 1) vals names) I.start (fun p hp => ?_) ?_ keep fun p hp => ?_
      · rcases List.mem_cons.mp hp with rfl | hp
        · exact zay _
        · have hm : p.1 ∈ (mkCells (s.heap.objs.size + 1) vals names).map Prod.fst := List.mem_map_of_mem hp
          rw [zcu] at hm
          have hge := zgt _ _ _ hm
          cases q : s.heap.get? p.1 with
          | none => rfl
          | some o => exact absurd (Heap.lt_size q) (Nat.not_lt.mpr (Nat.le_of_succ_le hge))
      · simp only [List.map_cons, List.nodup_cons]
        rw [zcu]
        exact ⟨fun hm => Nat.not_succ_le_self _ (zgt _ _ _ hm), zi6 _ _⟩
      · rcases List.mem_cons.mp hp with rfl | hp
        · refine At.of_ns ns (by rw [zfk]; exact hnm.1) fun x pv hm => ?_
          obtain ⟨v, kk, hv, e, h1, h2⟩ := zfo hm
          have hl : names.lookup x = some .local := by
            obtain ⟨kk', h3, h4⟩ := kindB _ hv
            rcases h4 with rfl | rfl
            · exact za1 hnm.1 h3
            · have e1 := za1 hnm.1 h3
              have e2 := za1 hnm.1 h1
              rw [e1] at e2; cases e2; cases h2
          exact ⟨v, zil ndB hv hl, e⟩
        · obtain ⟨b, c⟩ := p
          obtain ⟨x, h1, h2⟩ := zex hp
          have hc := hcell x b (ze5 ndC ((zcq _ _ _ _).mpr (.inl h1)))
          obtain ⟨o, ho₁, hd⟩ := hc
          obtain ⟨kk, h3, h4⟩ := zgw _ _ _ h1
          have hl : names.lookup x = some kk := za1 hnm.1 h3
          have hnl : names.lookup x ≠ some .local := by rw [hl]; intro e; cases e; cases h4
          rcases h2 with ⟨v, h5, rfl⟩ | ⟨rfl, h5⟩
          · rw [ziu ndB h5 hnl] at hd
            exact ⟨o, ho₁, _, hd, rfl⟩
          · rw [zg8 (h5 hnm.1)] at hd
            exact ⟨o, ho₁, _, hd, rfl⟩
    · obtain ⟨h', tk, rfl⟩ := same
      exact Same.upd _ _ _
end
end Mine
end
section
namespace Mine
open PySem PySem.W PySem.Calls PyProof.Rows
section
variable {prog : Program} {w : World} {G0 : Heap} {K : Kon} {g g' : PH} {s s' : Shared} {ℓ ℓ' ρ : Led} {a L : Addr} {c c' : Cell} {h' : Heap} {t : Nat} {p : Addr × Cell}
  {env : Env} {fr : Option Addr} {kinds : List (Str × NameKind)} {cl : List (Str × Addr)} {loc loc' : Loc} {A : Around} {E : Value → Shared → Prop} {x : Str} {pos pos' : Pos} {vs : List V}
theorem SS.In {KF : Frag} (S : SS w G0 K g s ℓ) (XX : KF.In G0) : KF.In s.heap := fun a o q => S.st.inv.stat a o (XX a o q)
theorem SS.swap {q : Addr × Cell} (S : SS w G0 K g s (q :: p :: ℓ)) : SS w G0 K g s (p :: q :: ℓ) := S.perm (List.Perm.swap ..)
noncomputable def Rd (g : PH) (ℓ : Led) (a : Addr) (c : Cell) : Prop := (a, c) ∈ ℓ ∨ g a = some c
theorem Rd.cons (r : Rd g ℓ a c) : Rd g (p :: ℓ) a c := r.imp (.tail _) id
theorem SS.rd (S : SS w G0 K g s ℓ) (r : Rd g ℓ a c) : At w s.heap a c := r.elim S.at S.fact
noncomputable def IsSeq (w : World) (h : Heap) (a : Addr) (vs : List V) : Prop := IsL w h a vs ∨ IsT w h a vs
noncomputable def SeqC (c : Cell) (vs : List V) : Prop := c = .list vs ∨ c = .tup vs
theorem SeqC.ofL : SeqC (.list vs) vs := .inl rfl
theorem SeqC.ofT : SeqC (.tup vs) vs := .inr rfl
theorem At.seq {h : Heap} (x : At w h a c) (k : SeqC c vs) : IsSeq w h a vs := by
  rcases k with rfl | rfl
  · exact .inl x.isL
  · exact .inr x.isT
theorem SS.push2 {o : Obj} (S : SS w G0 K g s (p :: ℓ)) (ho : c.holds w o) (hf : o.isFreed = false) : SS w G0 K g { s with heap := s.heap.push o, toks := t } (p :: (s.heap.objs.size, c) :: ℓ) := (S.push (t := t) ho hf).swap
theorem za2 {ws : List Value} {Q : Value → Shared → Prop} (S : SS w G0 K g s (p :: ℓ)) (hsz : ws.length ≤ sizeLine) (k : ∀ a s', K.s₀.heap.get? a = none → SS w G0 K g s' (p :: (a, .tup (ws.map V.of)) :: ℓ) → Q (.ref a) s') :
    wpAny (model prog w) A (newTuple ws) Q E s :=
  wpAny_newObj_type (k _ _ (S.unborn (zay _)) (S.push2 (t := s.toks) ⟨_, rfl, by simp⟩ rfl)) (by show ws.toArray.size ≤ sizeLine; rw [List.size_toArray]; exact hsz)
theorem zbg {ws : List Value} {Q : Value → Shared → Prop} (S : SS w G0 K g s (p :: ℓ)) (hsz : ws.length ≤ sizeLine) (k : ∀ a s', K.s₀.heap.get? a = none → SS w G0 K g s' (p :: (a, .list (ws.map V.of)) :: ℓ) → Q (.ref a) s') :
    wpAny (model prog w) A (newList ws) Q E s :=
  wpAny_newObj_type (k _ _ (S.unborn (zay _)) (S.push2 (t := s.toks) ⟨_, _, rfl, by simp⟩ rfl)) (by show ws.toArray.size ≤ sizeLine; rw [List.size_toArray]; exact hsz)
theorem zcw {n : Nat} (h : n ≤ sizeLine) : (n : Int) < 2 ^ 63 := by
  rw [sizeLine_eq] at h
  have : (2 : Int) ^ 63 = 9223372036854775808 := by decide
  rw [this]; omega
theorem zi4 {Q : Value → Shared → Prop} (S : SS w G0 K g s ℓ) (hl : IsSeq w s.heap a vs) (hsz : vs.length ≤ sizeLine) (k : ∀ t s', SS w G0 K g s' ℓ → Q (.int vs.length t) s') :
    wpAny (model prog w) A (call (.builtin "len") [.ref a]) Q E s := by
  rcases hl with ⟨ws, hl, hm⟩ | ⟨ws, hl, hm⟩
  · have := k (s.toks + 1) _ (S.tok (t := s.toks + 1 + 1))
    rw [← za4 hm] at this
    exact call_len_list hl (by rw [za4 hm]; exact zcw hsz) this
  · have := k (s.toks + 1) _ (S.tok (t := s.toks + 1 + 1))
    rw [← za4 hm] at this
    exact PyProof.Rows.len_tuple hl (by rw [za4 hm]; exact zcw hsz) this
theorem zc8 {Q : Value → Shared → Prop} (S : SS w G0 K g s ℓ) (hr : At w s.heap a c) (hc : SeqC c vs)
    (k : ∀ src it s', src.vals = vs → (∀ h, At w h a c → src.ok w h) → K.s₀.heap.get? it = none → SS w G0 K g s' ((it, .opq (Src.iter src 0)) :: ℓ) → Q (.ref it) s') : wpAny (model prog w) A (pyIter (.ref a)) Q E s := by
  rcases hc with rfl | rfl
  · exact zc0 S hr.isL fun it s' h1 h2 => k (.seqL a vs) it s' rfl (fun h x => x.isL) h1 h2
  · exact zj3 S hr.isT fun it s' h1 h2 => k (.seqT a vs) it s' rfl (fun h x => x.isT) h1 h2
theorem zia {k : Int} {n : Nat} (h0 : 0 ≤ k) (h1 : k < n) : seqIndex? k n = some k.toNat := by
  unfold seqIndex?
  simp only [if_neg (show ¬ k < 0 by omega)]
  rw [if_pos (by simp only [Bool.and_eq_true, decide_eq_true_eq]; omega)]
theorem zlv {i : Int} {t : Tok} {pv : V} {value slice : Expr} {Q : Value → Shared → Prop} (hl : IsSeq w s.heap a vs) (hsz : vs.length ≤ sizeLine) (h0 : 0 ≤ i) (hi : i < vs.length) (hx : vs[i.toNat]? = some pv) (hs : IsIdx slice) (k : ∀ v, V.of v = pv → Q v s) :
    wpAny (model prog w) A (subscriptTail value slice (.ref a) (.int i t)) Q E s := by
  have := zcw hsz
  rcases hl with hl | hl
  · exact zfr hl h0 (Int.lt_trans hi this) hx hs k
  · exact zmf hl (Int.le_trans (by decide) h0) (Int.lt_trans hi this) (zia h0 hi) hx hs k
theorem zbc {i : Int} {t : Tok} {b : Addr} {value slice : Expr} {Q : Value → Shared → Prop} (hl : IsSeq w s.heap a vs) (hsz : vs.length ≤ sizeLine) (h0 : 0 ≤ i) (hx : vs[i.toNat]? = some (.ref b)) (hs : IsIdx slice) (k : Q (.ref b) s) :
    wpAny (model prog w) A (subscriptTail value slice (.ref a) (.int i t)) Q E s := zlv hl hsz h0 (zlu h0 hx) hx hs fun v hv => by rw [V.of_ref hv]; exact k
theorem zen {i n : Int} {t : Tok} {value slice : Expr} {Q : Value → Shared → Prop} (hl : IsSeq w s.heap a vs) (hsz : vs.length ≤ sizeLine) (h0 : 0 ≤ i) (hx : vs[i.toNat]? = some (.int n)) (hs : IsIdx slice) (k : ∀ t, Q (.int n t) s) :
    wpAny (model prog w) A (subscriptTail value slice (.ref a) (.int i t)) Q E s := zlv hl hsz h0 (zlu h0 hx) hx hs fun v hv => by obtain ⟨t, rfl⟩ := V.of_int hv; exact k t
theorem zk8 {i : Int} {t : Tok} {pv : V} {value slice : Expr} {Q : Value → Shared → Prop} (hl : IsSeq w s.heap a vs) (hsz : vs.length ≤ sizeLine) (h0 : i < 0) (hi : -(vs.length : Int) ≤ i) (hx : vs[(i + vs.length).toNat]? = some pv) (hs : IsIdx slice) (k : ∀ v, V.of v = pv → Q v s) :
    wpAny (model prog w) A (subscriptTail value slice (.ref a) (.int i t)) Q E s := by
  have h63 := zcw hsz
  have lo : -(2 ^ 63) ≤ i := by
    have e : (2 : Int) ^ 63 = 9223372036854775808 := by decide
    rw [e] at h63 ⊢; omega
  rcases hl with ⟨ws, hl, hm⟩ | hl
  · obtain ⟨v, hv, e⟩ := zdt hm hx
    refine tail_any hl.typeIs slot_list_getitem.lookup (wpAny_getItem_list_neg hl h0 (by rw [za4 hm]; exact hi) lo (by rw [za4 hm]; exact hv) (k v e)) (hs _ _ _)
  · exact zmf hl lo (Int.lt_trans h0 (by decide)) (seqIndex_neg h0 hi) hx hs k
noncomputable def oInt : Option Nat → Option Int
  | none => none
  | some n => some (n : Int)
inductive Part : Value → Option Nat → Prop
  | none : Part .none none
  | int (i : Int) (t : Tok) (h : 0 ≤ i) : Part (.int i t) (some i.toNat)
noncomputable def sliceV {α : Type} (vs : List α) (lo hi : Option Nat) : List α := (vs.take (hi.getD vs.length)).drop (lo.getD 0)
theorem zek {α : Type} {l : List α} {n : Nat} (h : l.length = n + 3) : (sliceV l (some 1) (some (n + 2))).length = n + 1 := by
  unfold sliceV; rw [List.length_drop, List.length_take]; exact zoa h
theorem Part.isPart {v : Value} {o : Option Nat} (x : Part v o) : IsPart v (oInt o) := by
  cases x with
  | none => exact .none
  | int i t h =>
    have e : oInt (some i.toNat) = some i := by show some ((i.toNat : Nat) : Int) = _; rw [Int.toNat_of_nonneg h]
    rw [e]; exact .int i t
theorem zjl (items : Array Value) (lo hi : Option Nat) : slicePick items (oInt lo) (oInt hi) none = (sliceV items.toList lo hi).toArray := by
  rw [slicePick_plain]
  unfold sliceV
  congr 1
  have e1 : (oInt lo).elim 0 (clipAt items.size) = min (lo.getD 0) items.size := by cases lo <;> simp [oInt, clipAt_nat]
  have e2 : (oInt hi).elim items.size (clipAt items.size) = min (hi.getD items.toList.length) items.size := by cases hi <;> simp [oInt, clipAt_nat]
  rw [e1, e2]
  rw [List.drop_take]
  have hl : items.toList.length = items.size := by simp
  generalize items.toList = l at hl ⊢
  rcases Nat.le_total (lo.getD 0) items.size with h | h
  · rw [Nat.min_eq_left h]
    rcases Nat.le_total (hi.getD l.length) items.size with h' | h'
    · rw [Nat.min_eq_left h']
    · rw [Nat.min_eq_right h', List.take_of_length_le (by simp; omega), List.take_of_length_le (by simp; omega)]
  · rw [Nat.min_eq_right h, List.drop_of_length_le (by omega), List.drop_of_length_le (by omega)]; simp
theorem zhn (ws : List Value) (lo hi : Option Nat) : (sliceV ws lo hi).map V.of = sliceV (ws.map V.of) lo hi := by
  unfold sliceV; rw [List.map_drop, List.map_take, List.length_map]
theorem zma {lower upper : Option Expr} {p : Pos} (b c : Addr) : subscripted (.Slice lower upper none p) false (.ref b) (.ref c) = operate [.ref c, .ref b] (getItem (.ref b) (.ref c)) := by with_unfolding_all rfl
theorem zcx {lo hi : Option Nat} {vl vu : Value} {value : Expr} {lower upper : Option Expr} {pp : Pos} {Q : Value → Shared → Prop} (S : SS w G0 K g s (p :: ℓ)) (hl : IsL w s.heap a vs) (hsz : vs.length ≤ sizeLine) (pl : Part vl lo) (pu : Part vu hi)
    (k : ∀ r s', K.s₀.heap.get? r = none → SS w G0 K g s' (p :: (r, .list (sliceV vs lo hi)) :: ℓ) → Q (.ref r) s') :
    wpAny (model prog w) A (subscriptTail value (.Slice lower upper none pp) (.ref a) (.ref s.heap.objs.size)) Q E { s with heap := s.heap.push { cls := .type "slice", data := .fields #[vl, vu, .none] } } := by
  obtain ⟨ws, hl, hm⟩ := hl
  have S₁ : SS w G0 K g { s with heap := s.heap.push { cls := .type "slice", data := .fields #[vl, vu, .none] } } (p :: ℓ) := S.grow (t := s.toks) fun b o e => Heap.get?_push_of_some _ e
  have hl₁ : (s.heap.push { cls := .type "slice", data := .fields #[vl, vu, .none] }).IsList a ws := hl.push _
  refine tail_any (Heap.IsList.typeIs (s := { s with heap := s.heap.push { cls := .type "slice", data := .fields #[vl, vu, .none] } }) hl₁) slot_list_getitem.lookup
    (wpAny_getItem_list_slice hl₁ (Heap.IsSliceOf.new ..) pl.isPart pu.isPart .none (by simp) ?_ (by rw [za4 hm]; exact hsz)) (zma _ _)
  rw [zjl]
  exact k _ _ (S₁.unborn (zay _)) (S₁.push2 (t := s.toks) ⟨_, _, rfl, by rw [← hm, ← zhn]⟩ rfl)
end
end Mine
end
section
namespace Mine
open PySem PySem.W PySem.Calls PyProof.Rows
section
variable {prog : Program} {w : World} {G0 : Heap} {K : Kon} {g g' : PH} {s s' : Shared} {ℓ ℓ' ρ : Led} {a L : Addr} {c c' : Cell} {h' : Heap} {t : Nat} {p : Addr × Cell}
  {env : Env} {fr : Option Addr} {kinds : List (Str × NameKind)} {cl : List (Str × Addr)} {loc loc' : Loc} {A : Around} {E : Value → Shared → Prop} {x : Str} {pos pos' : Pos} {vs : List V}
theorem zi2 {v : Value} {o : Option Nat} {Q : Option Int → Shared → Prop} (x : Part v o) (h : Q (oInt o) s) : wpAny (model prog w) A (Builtin.Slice.slicePartIndex v) Q E s := by
  cases x with
  | none => exact slicePart_none h
  | int i t h0 =>
    have e : oInt (some i.toNat) = some i := by show some ((i.toNat : Nat) : Int) = _; rw [Int.toNat_of_nonneg h0]
    rw [e] at h
    exact slicePart_int h
theorem zk3 (lo hi : Option Nat) (n : Nat) : Builtin.Slice.sliceAdjust (oInt lo) (oInt hi) 1 (n : Int) = (((min (lo.getD 0) n : Nat) : Int), ((min (hi.getD n) n : Nat) : Int)) := by
  unfold Builtin.Slice.sliceAdjust
  have h1 : ¬ ((1 : Int) < 0) := by omega
  simp only [h1, if_false]
  cases lo <;> cases hi <;> simp [oInt] <;> omega
theorem zkt (a b : Nat) : Builtin.Slice.slicePlaces (a : Int) (b : Int) 1 = b - a := by
  unfold Builtin.Slice.slicePlaces
  have h1 : (1 : Int) > 0 := by omega
  simp only [h1, if_true, Int.ediv_one]
  split <;> omega
theorem zf2 {sl : Addr} {n : Nat} {vl vu : Value} {lo hi : Option Nat} {Q : Int × Int × Nat → Shared → Prop} (hs : s.heap.IsSliceOf sl vl vu .none) (pl : Part vl lo) (pu : Part vu hi)
    (h : Q (((min (lo.getD 0) n : Nat) : Int), 1, min (hi.getD n) n - min (lo.getD 0) n) s) : wpAny (model prog w) A (Builtin.Slice.sliceApplied (.ref sl) (pure (n : Int))) Q E s := by
  obtain ⟨os, hos, hcs, hds⟩ := id hs
  unfold Builtin.Slice.sliceApplied Builtin.Slice.sliceFields
  refine wpAny_bind (wpAny_bind (wpAny_field hos hds (x := vl) rfl (wpAny_bind (wpAny_field hos hds (x := vu) rfl (wpAny_bind (wpAny_field hos hds (x := .none) rfl (wpAny_pure ?_)))))))
  refine wpAny_bind (slicePart_none ?_)
  show wpAny _ _ (if ((1 : Int) == 0) = true then _ else _) _ _ s
  rw [if_neg (by decide)]
  refine wpAny_bind (zi2 pl (wpAny_bind (zi2 pu (wpAny_bind (wpAny_pure ?_)))))
  show wpAny _ _ (match Builtin.Slice.sliceAdjust (oInt lo) (oInt hi) 1 (n : Int) with | (lo, hi) => pure (lo, (1 : Int), Builtin.Slice.slicePlaces lo hi 1)) _ _ s
  rw [zk3]
  show wpAny _ _ (pure (((min (lo.getD 0) n : Nat) : Int), (1 : Int), Builtin.Slice.slicePlaces ((min (lo.getD 0) n : Nat) : Int) ((min (hi.getD n) n : Nat) : Int) 1)) _ _ s
  rw [zkt]
  exact wpAny_pure h
theorem zm0 (xs : Array Value) (lo hi : Option Nat) : ((List.range (min (hi.getD xs.size) xs.size - min (lo.getD 0) xs.size)).filterMap fun (k : Nat) => xs[(((min (lo.getD 0) xs.size : Nat) : Int) + (k : Int) * 1).toNat]?).toArray = (sliceV xs.toList lo hi).toArray := by
  generalize hA : min (lo.getD 0) xs.size = a
  generalize hB : min (hi.getD xs.size) xs.size = b
  have e : (fun (k : Nat) => xs[((a : Int) + (k : Int) * 1).toNat]?) = fun k => xs[a + k]? := by
    funext k
    have : ((a : Int) + (k : Int) * 1).toNat = a + k := by omega
    rw [this]
  rw [e]
  have := pick_run xs a (b - a)
  rw [List.filterMap_map] at this
  have e2 : ((fun x => xs[x]?) ∘ fun x => a + x) = fun k => xs[a + k]? := rfl
  rw [e2] at this
  rw [this]
  unfold sliceV
  congr 1
  rw [List.drop_take]
  have hl : xs.toList.length = xs.size := by simp
  generalize xs.toList = l at hl ⊢
  rw [← hl] at hA hB
  rcases Nat.le_total (lo.getD 0) l.length with h | h
  · rw [Nat.min_eq_left h] at hA
    subst hA
    rcases Nat.le_total (hi.getD l.length) l.length with h' | h'
    · rw [Nat.min_eq_left h'] at hB; rw [hB]
    · rw [Nat.min_eq_right h'] at hB
      rw [List.take_of_length_le (by simp; omega), List.take_of_length_le (by simp; omega)]
  · rw [Nat.min_eq_right h] at hA
    rw [List.drop_of_length_le (by omega), List.drop_of_length_le (by omega)]; simp
theorem zmq {lo hi : Option Nat} {vl vu : Value} {value : Expr} {lower upper : Option Expr} {pp : Pos} {Q : Value → Shared → Prop} (S : SS w G0 K g s ℓ) (hl : IsT w s.heap a vs) (hsz : vs.length ≤ sizeLine) (pl : Part vl lo) (pu : Part vu hi)
    (k : ∀ r s', SS w G0 K g s' ℓ → IsT w s'.heap r (sliceV vs lo hi) → Q (.ref r) s') :
    wpAny (model prog w) A (subscriptTail value (.Slice lower upper none pp) (.ref a) (.ref s.heap.objs.size)) Q E { s with heap := s.heap.push { cls := .type "slice", data := .fields #[vl, vu, .none] } } := by
  obtain ⟨ws, ht, hm⟩ := hl
  have S₁ : SS w G0 K g { s with heap := s.heap.push { cls := .type "slice", data := .fields #[vl, vu, .none] } } ℓ := S.grow (t := s.toks) fun b o e => Heap.get?_push_of_some _ e
  have ht₁ : IsTup (s.heap.push { cls := .type "slice", data := .fields #[vl, vu, .none] }) a ws := ht.keeps fun _ _ e => Heap.get?_push_of_some _ e
  have hs := Heap.IsSliceOf.new s.heap vl vu .none
  generalize s.heap.objs.size = sl at hs ⊢
  have hsz' : ws.size ≤ sizeLine := by rw [za4 hm]; exact hsz
  generalize hs₁ : ({ s with heap := s.heap.push { cls := .type "slice", data := .fields #[vl, vu, .none] } } : Shared) = s₁ at S₁ ⊢
  have hh : s₁.heap = s.heap.push { cls := .type "slice", data := .fields #[vl, vu, .none] } := by rw [← hs₁]
  rw [← hh] at ht₁ hs
  clear hs₁ hh
  have hpick : sizeOk (.seq (sliceV ws.toList lo hi).toArray) := by
    show (sliceV ws.toList lo hi).toArray.size ≤ sizeLine
    rw [List.size_toArray]
    unfold sliceV
    rw [List.length_drop, List.length_take, Array.length_toList]
    omega
  refine tail_any ht₁.typeIs slot_tuple_getitem.lookup (Q := Q) ?_ (zma _ _)
  obtain ⟨os, hos, hcs, hds⟩ := id hs
  have hTs : s₁.TypeIs (.ref sl) "slice" := ⟨os, hos, hcs⟩
  unfold getItem
  try with_reducible refine wpAny_holding ?_
  first | refine wpAny_bind (wpAny_pure ?_) | skip
  refine wpAny_bind (wpAny_sequenceKey ht₁.typeIs (by decide) ?_)
  refine wpAny_bind (wpAny_callSpecial?_slot (name := Str.ofString "__getitem__") ht₁.typeIs slot_tuple_getitem
    (wpAny_call_entry slot_tuple_getitem ht₁.typeIs entry_tuple_getitem ?_ (args_tuple_getitem _ _)))
  show wpAny _ _ (Builtin.Tuple.tupleItemsOf (.ref a) >>= _) _ _ s₁
  refine wpAny_bind (tupleItemsOf_ ht₁ ?_)
  refine wpAny_bind (wpAny_typeOf hTs ?_)
  rw [if_pos (by decide)]
  refine wpAny_bind (zf2 hs pl pu ?_)
  show wpAny _ _ (if (((min (lo.getD 0) ws.size : Nat) : Int) == 0 && (1 : Int) == 1 && (min (hi.getD ws.size) ws.size - min (lo.getD 0) ws.size) == ws.size) = true then _ else _) _ _ s₁
  by_cases hall : (((min (lo.getD 0) ws.size : Nat) : Int) == 0 && (1 : Int) == 1 && (min (hi.getD ws.size) ws.size - min (lo.getD 0) ws.size) == ws.size) = true
  · rw [if_pos hall]
    have e : sliceV vs lo hi = vs := by
      simp only [Bool.and_eq_true, beq_iff_eq] at hall
      have hl := za4 hm
      rw [hl] at hall
      unfold sliceV
      rcases Nat.eq_zero_or_pos vs.length with h0 | h0
      · have : vs = [] := List.length_eq_zero_iff.mp h0
        subst this; simp
      · have h1 : lo.getD 0 = 0 := by omega
        rw [h1, List.drop_zero, List.take_of_length_le (by omega)]
    have := k a s₁ S₁ ⟨ws, ht₁, hm.trans e.symm⟩
    unfold Builtin.Tuple.tupleIsExact
    refine wpAny_bind (wpAny_bind (wpAny_typeOf ht₁.typeIs (wpAny_pure ?_)))
    rw [if_pos (show (Value.type "tuple" == Value.type "tuple") = true from by decide)]
    exact wpAny_bind (wpAny_rule (wpAny_pure ⟨_, rfl, wpAny_pure this⟩))
  · rw [if_neg hall, zm0 ws lo hi]
    have h := k s₁.heap.objs.size { s₁ with heap := s₁.heap.push { cls := .type "tuple", data := .seq (sliceV ws.toList lo hi).toArray } } (S₁.grow (t := s₁.toks) fun b o e => Heap.get?_push_of_some _ e)
      ⟨_, ⟨_, Heap.get?_push_size _ rfl, rfl, _, rfl⟩, by rw [← hm, ← zhn]⟩
    first
      | exact wpAny_bind (m := Builtin.Tuple.tupleExact _) (wpAny_newObj_type (wpAny_pure (show ∃ v, _ = _ ∧ _ from ⟨_, rfl, wpAny_pure h⟩)) hpick)
      | exact wpAny_bind (m := Builtin.Tuple.tupleExact _) (wpAny_newObj_type (wpAny_pure ⟨_, rfl, wpAny_pure h⟩) hpick)
      | exact wpAny_bind (m := Builtin.Tuple.tupleExact _) (wpAny_newObj_type (wpAny_bind (wpAny_pure (wpAny_pure ⟨_, rfl, wpAny_pure h⟩))) hpick)
      | exact wpAny_bind (wpAny_bind (m := Builtin.Tuple.tupleExact _) (wpAny_newObj_type (wpAny_pure (wpAny_pure ⟨_, rfl, wpAny_pure h⟩)) hpick))
      | exact wpAny_bind (wpAny_bind (m := Builtin.Tuple.tupleExact _) (wpAny_newObj_type (wpAny_pure ⟨_, rfl, wpAny_pure h⟩) hpick))
theorem zl6 {lo hi : Option Nat} {vl vu : Value} {value : Expr} {lower upper : Option Expr} {pp : Pos} {Q : Value → Shared → Prop} (S : SS w G0 K g s (p :: ℓ)) (hl : IsSeq w s.heap a vs) (hsz : vs.length ≤ sizeLine) (pl : Part vl lo) (pu : Part vu hi)
    (k : ∀ r s', SS w G0 K g s' (p :: ℓ) → IsSeq w s'.heap r (sliceV vs lo hi) → Q (.ref r) s') :
    wpAny (model prog w) A (subscriptTail value (.Slice lower upper none pp) (.ref a) (.ref s.heap.objs.size)) Q E { s with heap := s.heap.push { cls := .type "slice", data := .fields #[vl, vu, .none] } } := by
  rcases hl with hl | hl
  · exact zcx S hl hsz pl pu fun r s' _ S' => k r s' (S'.sel (.cons .head (.drop .refl))) (.inl (S'.at (.tail _ (.head _))).isL)
  · exact zmq S hl hsz pl pu fun r s' S' h => k r s' S' (.inr h)
theorem zfb {Q : Value → Shared → Prop} (S : SS w G0 K g s (p :: ℓ)) (hl : IsSeq w s.heap a vs) (hsz : vs.length ≤ sizeLine) (k : ∀ r s', K.s₀.heap.get? r = none → SS w G0 K g s' (p :: (r, .list vs) :: ℓ) → Q (.ref r) s') :
    wpAny (model prog w) A (call (.type "list") [.ref a]) Q E s := by
  have go : ∀ (T : String) (ws : Array Value) (o : Obj) (n : Nat), (T = "list" ∨ T = "tuple") → s.heap.get? a = some o → o.cls = .type T → o.data = .seq ws n → ws.toList.map V.of = vs → wpAny (model prog w) A (call (.type "list") [.ref a]) Q E s := by
    intro T ws o n hT ho hc hd hm
    refine call_list_seq a hT ho hc hd (fun h' c' hk ho' => ?_) (by rw [za4 hm]; exact hsz)
    exact k _ _ (S.unborn (zay _)) (S.add (c := .list vs) (t := s.toks) (zay _) hk ⟨_, ho', ws, c', rfl, hm⟩).swap
  rcases hl with ⟨ws, ⟨o, ho, hc, n, hd⟩, hm⟩ | ⟨ws, ⟨o, ho, hc, n, hd⟩, hm⟩
  · exact go "list" ws o n (.inl rfl) ho hc hd hm
  · exact go "tuple" ws o n (.inr rfl) ho hc hd hm
theorem not_t {Q : Value → Shared → Prop} (h : Q (.bool false) s) : wpAny (model prog w) A (unaryOp .Not (.bool true)) Q E s := not_of (wpAny_truthy_bool h)
theorem not_f {Q : Value → Shared → Prop} (h : Q (.bool true) s) : wpAny (model prog w) A (unaryOp .Not (.bool false)) Q E s := not_of (wpAny_truthy_bool h)
theorem zly {op : CmpOp} {a : Value} {r : Sem Value} {Q : Value → Shared → Prop} (h : wpAny (model prog w) A r (fun b s₁ => wpAny (model prog w) A (compareOp op a b) Q E s₁) E s) : wpAny (model prog w) A (compareChain pos a [op] (r :: evalEach [] env)) Q E s := chain_last h
theorem zdq {op : CmpOp} {a : Value} {r : Sem Value} {Q : Bool → Shared → Prop} (h : wpAny (model prog w) A r (fun b s₁ => wpAny (model prog w) A (compareOp op a b) (fun c s₂ => wpAny (model prog w) A (truthy c) Q E s₂) E s₁) E s) : wpAny (model prog w) A (testChain pos a [op] (r :: evalEach [] env)) Q E s := test_last h
theorem zb8 {P R : Prop} (h : P) : if true = true then P else R := h
theorem zc9 {P R : Prop} (h : R) : if false = true then P else R := h
theorem zdg {P R : Prop} {b : Bool} (h1 : b = true → P) (h2 : b = false → R) : if b = true then P else R := by
  cases b
  · exact h2 rfl
  · exact h1 rfl
theorem br_t {P R : Prop} (h : P) : (true = true → P) ∧ (true = false → R) := ⟨fun _ => h, nofun⟩
theorem br_f {P R : Prop} (h : R) : (false = true → P) ∧ (false = false → R) := ⟨nofun, fun _ => h⟩
theorem zn6 {P R : Prop} (h : R) : ((!true) = true → P) ∧ ((!true) = false → R) := ⟨nofun, fun _ => h⟩
theorem zmk {P R : Prop} (h : P) : ((!false) = true → P) ∧ ((!false) = false → R) := ⟨fun _ => h, nofun⟩
theorem zdz {P R : Prop} (h : R) : if (!true) = true then P else R := h
theorem zfv {P R : Prop} (h : P) : if (!false) = true then P else R := h
theorem zh5 {h : Heap} {b : Addr} {T U : String} (y : At w h b (.tup [.type T, .type U])) : h.get? b = some { cls := .type "tuple", data := .seq [Value.type T, Value.type U].toArray } := by
  obtain ⟨o, ho, ws, rfl, hm⟩ := y
  obtain ⟨l⟩ := ws
  rcases l with _ | ⟨u, _ | ⟨v, _ | ⟨z, r⟩⟩⟩
  · simp at hm
  · simp at hm
  · simp only [List.map_cons, List.map_nil, List.cons.injEq, and_true] at hm
    rw [V.of_type hm.1, V.of_type hm.2] at ho
    exact ho
  · simp at hm
theorem zey {b : Addr} {Q : Value → Shared → Prop} (S : SS w G0 K g s ℓ) (hl : IsSeq w s.heap a vs) (hb : (b, .tup [.type "tuple", .type "list"]) ∈ ℓ) (k : ∀ s', SS w G0 K g s' ℓ → Q (.bool true) s') : wpAny (model prog w) A (call (.builtin "isinstance") [.ref a, .ref b]) Q E s := by
  have ht := zh5 (S.at hb)
  rcases hl with ⟨ws, hl, hm⟩ | ⟨ws, hl, hm⟩
  · refine IsiPair.tupleOfB (Tx := "list") (x := .ref a) (cs := [.type "tuple", .type "list"]) (vs := [false, true]) ?_ hl.typeIs ht rfl fun tk => k _ S.tok
    apply AnswersAll.cons
    · pv_isi_answer
    apply AnswersAll.cons
    · pv_isi_answer
    · exact AnswersAll.nil
  · refine IsiPair.tupleOfB (Tx := "tuple") (x := .ref a) (cs := [.type "tuple", .type "list"]) (vs := [true, false]) ?_ hl.typeIs ht rfl fun tk => k _ S.tok
    apply AnswersAll.cons
    · pv_isi_answer
    apply AnswersAll.cons
    · pv_isi_answer
    · exact AnswersAll.nil
noncomputable def NoSeq : Value → Prop
  | .int _ _ => True
  | .str _ _ => True
  | .none => True
  | _ => False
theorem zeb {b : Addr} {v : Value} {Q : Value → Shared → Prop} (S : SS w G0 K g s ℓ) (hv : NoSeq v) (hb : (b, .tup [.type "tuple", .type "list"]) ∈ ℓ) (k : ∀ s', SS w G0 K g s' ℓ → Q (.bool false) s') : wpAny (model prog w) A (call (.builtin "isinstance") [v, .ref b]) Q E s := by
  have ht := zh5 (S.at hb)
  cases v with
  | int i t =>
    refine IsiPair.tupleOfB (Tx := "int") (x := .int i t) (cs := [.type "tuple", .type "list"]) (vs := [false, false]) ?_ (typeIs_int s i t) ht rfl fun tk => k _ S.tok
    apply AnswersAll.cons
    · pv_isi_answer
    apply AnswersAll.cons
    · pv_isi_answer
    · exact AnswersAll.nil
  | str i t =>
    refine IsiPair.tupleOfB (Tx := "str") (x := .str i t) (cs := [.type "tuple", .type "list"]) (vs := [false, false]) ?_ (typeIs_str s i t) ht rfl fun tk => k _ S.tok
    apply AnswersAll.cons
    · pv_isi_answer
    apply AnswersAll.cons
    · pv_isi_answer
    · exact AnswersAll.nil
  | none =>
    refine IsiPair.tupleOfB (Tx := "NoneType") (x := .none) (cs := [.type "tuple", .type "list"]) (vs := [false, false]) ?_ rfl ht rfl fun tk => k _ S.tok
    apply AnswersAll.cons
    · pv_isi_answer
    apply AnswersAll.cons
    · pv_isi_answer
    · exact AnswersAll.nil
  | _ => exact hv.elim
end
end Mine
end
section
namespace Mine
open PySem PySem.W PySem.Calls PyProof.Rows
section
variable {prog : Program} {w : World} {G0 : Heap} {K : Kon} {g g' : PH} {s s' : Shared} {ℓ ℓ' ρ : Led} {a L : Addr} {c c' : Cell} {h' : Heap} {t : Nat} {p : Addr × Cell}
  {env : Env} {fr : Option Addr} {kinds : List (Str × NameKind)} {cl : List (Str × Addr)} {loc loc' : Loc} {A : Around} {E : Value → Shared → Prop} {x y : Str} {pos pos' : Pos} {vs : List V} {v1 v2 : V}
theorem r_isub {Q : Value → Shared → Prop} {i j : Int} {t u : Tok} (k : Q (.int (i - j) s.toks) (tick s)) : wpAny (model prog w) A (inplaceOp .Sub (.int i t) (.int j u)) Q E s := PyProof.Rows.isub_int k
theorem zc4 {test : Expr} {body orelse rest : List Stmt} {Q : Flow → Shared → Prop} (P : Shared → Prop)
    (h : ∀ J : Flow → Shared → Prop, (∀ s', P s' → J .next s') → wpAny (model prog w) A (isTrue test env (eval test env)) (fun b s₂ => (b = true → wpAny (model prog w) A (execs body env) J E s₂) ∧ (b = false → wpAny (model prog w) A (execs orelse env) J E s₂)) E s)
    (k : ∀ s', P s' → wpAny (model prog w) A (execs rest env) Q E s') : wpAny (model prog w) A (execs (.If test body orelse pos :: rest) env) Q E s := by
  refine x_if (wpAny_mono (h (fun f s' => f = .next ∧ P s') fun s' h => ⟨rfl, h⟩) (fun b s₂ h₂ => ⟨fun e => wpAny_mono (h₂.1 e) (fun f s' h' => ?_) fun _ _ x => x, fun e => wpAny_mono (h₂.2 e) (fun f s' h' => ?_) fun _ _ x => x⟩) fun _ _ x => x)
  · obtain ⟨rfl, h'⟩ := h'; exact k _ h'
  · obtain ⟨rfl, h'⟩ := h'; exact k _ h'
theorem FlyS.sel {outer : List Env} {C e : Addr} (F : FlyS w G0 outer C e K g s ℓ) (hs : Sel ℓ ℓ') : FlyS w G0 outer C e K g s ℓ' := by
  obtain ⟨B, a0, fl, k⟩ := F
  exact ⟨B, a0, fl, fun h' t x y => (k h' t x y).sel hs⟩
theorem FlyS.selN {outer : List Env} {C e : Addr} (F : FlyS w G0 outer C e K g s ℓ) (os : List Nat) (h : selOps os ℓ = ℓ') : FlyS w G0 outer C e K g s ℓ' := h ▸ F.sel (Sel.ops os ℓ)
theorem zb6 {ns : List Int} {i n : Int} {t : Tok} {value slice : Expr} {Q : Value → Shared → Prop} (hl : IsSeq w s.heap a (ns.map V.int)) (hsz : ns.length ≤ sizeLine) (h0 : 0 ≤ i) (hx : ns[i.toNat]? = some n) (hs : IsIdx slice) (k : ∀ t, Q (.int n t) s) :
    wpAny (model prog w) A (subscriptTail value slice (.ref a) (.int i t)) Q E s :=
  zlv hl (by simpa using hsz) h0 (by rw [List.length_map]; exact zlu h0 hx) (by rw [List.getElem?_map, hx]; rfl) hs fun v e => by obtain ⟨t, rfl⟩ := V.of_int e; exact k t
theorem zjw {ns : List Int} {i n : Int} {t : Tok} {value slice : Expr} {Q : Value → Shared → Prop} (hl : IsSeq w s.heap a (ns.map V.int)) (hsz : ns.length ≤ sizeLine) (h0 : i < 0) (hi : -(ns.length : Int) ≤ i) (hx : ns[(i + ns.length).toNat]? = some n) (hs : IsIdx slice) (k : ∀ t, Q (.int n t) s) :
    wpAny (model prog w) A (subscriptTail value slice (.ref a) (.int i t)) Q E s :=
  zk8 hl (by simpa using hsz) h0 (by simpa using hi) (by rw [List.getElem?_map, List.length_map, hx]; rfl) hs fun v e => by obtain ⟨t, rfl⟩ := V.of_int e; exact k t
theorem fm2 {f : Expr → Option Str} {a b : Expr} {o1 o2 : Option Str} (h1 : f a = o1) (h2 : f b = o2) : [a, b].filterMap f = o1.toList ++ o2.toList := by
  subst h1 h2; unfold List.filterMap; cases f a <;> cases q : f b <;> simp [List.filterMap, q]
theorem znb {e1 e2 : Expr} (X : EnvOk env L fr kinds cl) : ¬ (!(2 == 2 || 2 == 3) || [e1, e2].length != 2 || env.blockKind != ScopeKind.function) = true := by
  have hk : env.blockKind = .function := by unfold Env.blockKind; rw [X.kind]; rfl
  rw [hk]; exact Bool.false_ne_true
theorem zmz {p1 p2 tp vp : Pos} {k vk : Nat} {e1 e2 : Expr} (X : EnvOk env L fr kinds cl) (hx : (x, .local) ∈ kinds) (hy : (y, .local) ∈ kinds) (hl : p1.line = p2.line) (hed : [x, y].eraseDups.length = 2)
    (h1 : ([e1, e2].any fun | .Starred .. => true | _ => false) = false) (h2 : [e1, e2].all (foldedForSure 8) = false) (h3 : [e1, e2].all (constantsAlone 8) = false) :
    swappedStores [.Tuple [.Name x p1, .Name y p2] k tp] (.Tuple [e1, e2] vk vp) env = pure (some [x, y]) := by
  have e1 : (env.kindOf x == some NameKind.local && p1.line == p1.line) = true := by rw [X.kd _ _ hx]; simp
  have e2 : (env.kindOf y == some NameKind.local && p2.line == p1.line) = true := by rw [X.kd _ _ hy, hl]; simp
  refine (if_neg (znb X)).trans ((if_neg (fun hc => Bool.noConfusion (hc.symm.trans h1))).trans ((if_neg (?_)).trans ((if_neg (by rw [h2]; decide)).trans ((if_neg (by rw [h3]; decide)).trans ?_))))
  · rw [fm2 (a := .Name x p1) (b := .Name y p2) (if_pos e1) (if_pos e2)]; rw [show (some x).toList ++ (some y).toList = [x, y] from rfl, hed]; exact Bool.false_ne_true
  · exact congrArg (fun l => pure (some l)) (fm2 (o1 := some x) (o2 := some y) (if_pos e1) (if_pos e2))
theorem zci {p1 p2 tp vp : Pos} {k vk : Nat} {e1 e2 : Expr} {rest : List Stmt} {Q : Flow → Shared → Prop} (hh : A.handled = none) (X : EnvOk env L fr kinds cl) (hx : (x, .local) ∈ kinds) (hy : (y, .local) ∈ kinds)
    (h : wpAny (model prog w) A (eval (.Tuple [e1, e2] vk vp) env) (fun v s₁ => ∀ Z : Prop, (∀ a v1 v2 K g ℓ, v = .ref a → SS w G0 K g s₁ ℓ → IsT w s₁.heap a [v1, v2] → (∀ u1 u2 s₂, V.of u1 = v1 → V.of u2 = v2 → SS w G0 K g s₂ ℓ →
      wpAny (model prog w) A (storeName env y u2) (fun _ s₃ => wpAny (model prog w) A (storeName env x u1) (fun _ s₄ => wpAny (model prog w) A (execs rest env) Q E s₄) E s₃) E s₂) → Z) → Z) E s)
    (hl : p1.line = p2.line) (hed : [x, y].eraseDups.length = 2)
    (h1 : ([e1, e2].any fun | .Starred .. => true | _ => false) = false) (h2 : [e1, e2].all (foldedForSure 8) = false) (h3 : [e1, e2].all (constantsAlone 8) = false)
    (hs : swapsWithSole [.Tuple [.Name x p1, .Name y p2] k tp] (.Tuple [e1, e2] vk vp) pos.line env = pure false) :
    wpAny (model prog w) A (execs (.Assign [.Tuple [.Name x p1, .Name y p2] k tp] (.Tuple [e1, e2] vk vp) pos :: rest) env) Q E s := by
  refine wpAny_execs_cons (Assign_Tuple_swapped (names := [x, y]) (wpAny_mono h (fun v s₁ h₁ => ?_) fun _ _ e => e) hs (zmz X hx hy hl hed h1 h2 h3))
  refine h₁ _ fun a v1 v2 K g ℓ e S ⟨ws, hT, hm⟩ hk => ?_
  subst e
  have hn : ws.size = 2 := za4 hm
  have e2 : ([x, y] : List Str).length = ws.size := hn.symm
  rw [e2]
  refine wpAny_unpackItems_tuple hh hT fun h' he => ?_
  obtain ⟨l⟩ := ws
  rcases l with _ | ⟨u1, _ | ⟨u2, _ | ⟨z, r⟩⟩⟩
  · simp at hm
  · simp at hm
  · simp only [List.map_cons, List.map_nil, List.cons.injEq, and_true] at hm
    have S' := S.grow (h' := h') (t := s₁.toks) fun b o e => he b o (fun q => by subst q; rw [zay] at e; cases e) e
    show wpAny _ _ (assignInOrder [bindName env y, bindName env x] [u2, u1]) _ _ _
    refine assignInOrder_cons (wpAny_bindName ?_)
    refine wpAny_mono (hk u1 u2 _ hm.1 hm.2 S') (fun _ s₃ h₃ => ?_) fun _ _ e => e
    refine assignInOrder_cons (wpAny_bindName ?_)
    refine wpAny_mono h₃ (fun _ s₄ h₄ => ?_) fun _ _ e => e
    exact assignInOrder_nil h₄
  · simp at hm
theorem zbq {elts : List Expr} {k : Nat} {tp : Pos} {value : Expr} {rest : List Stmt} {Q : Flow → Shared → Prop}
    (h : wpAny (model prog w) A (eval value env) (fun v s₁ => wpAny (model prog w) A (assign (.Tuple elts k tp) env v) (fun _ s₂ => wpAny (model prog w) A (execs rest env) Q E s₂) E s₁) E s)
    (hs : swapsWithSole [.Tuple elts k tp] value pos.line env = pure false) (hw : swappedStores [.Tuple elts k tp] value env = pure none) :
    wpAny (model prog w) A (execs (.Assign [.Tuple elts k tp] value pos :: rest) env) Q E s := wpAny_execs_cons (Assign_Tuple h hs hw)
theorem one_of (o : Option Str) : ((none.toList ++ o.toList).length != 2 || (none.toList ++ o.toList).eraseDups.length != (none.toList ++ o.toList).length) = true := by cases o <;> rfl
theorem zd5 {p1 p2 tp vp : Pos} {k vk : Nat} {e1 e2 : Expr} (X : EnvOk env L fr kinds cl) (hx : (x, .cell) ∈ kinds) :
    swappedStores [.Tuple [.Name x p1, .Name y p2] k tp] (.Tuple [e1, e2] vk vp) env = pure none := by
  have e1 : (env.kindOf x == some NameKind.local && p1.line == p1.line) ≠ true := by rw [X.kd _ _ hx]; exact Bool.false_ne_true
  refine (if_neg (znb X)).trans ((ite_eq_left_iff (α := Sem (Option (List Str)))).mpr fun _ => if_pos ?_)
  rw [fm2 (a := .Name x p1) (b := .Name y p2) (if_neg e1) rfl]
  exact one_of _
theorem zbz {p1 p2 tp : Pos} {k : Nat} {Q : Unit → Shared → Prop} (hh : A.handled = none) (S : SS w G0 K g s ℓ) (hT : IsT w s.heap a [v1, v2])
    (h : ∀ u1 u2 s', V.of u1 = v1 → V.of u2 = v2 → SS w G0 K g s' ℓ → wpAny (model prog w) A (storeName env x u1) (fun _ s₁ => wpAny (model prog w) A (storeName env y u2) (fun _ s₂ => Q () s₂) E s₁) E s') :
    wpAny (model prog w) A (assign (.Tuple [.Name x p1, .Name y p2] k tp) env (.ref a)) Q E s := by
  obtain ⟨ws, hT, hm⟩ := hT
  have hn : ws.size = 2 := za4 hm
  refine wpAny_assign_Tuple hh hT (by rw [hn]; rfl) (by rfl) fun h' he => ?_
  obtain ⟨l⟩ := ws
  rcases l with _ | ⟨u1, _ | ⟨u2, _ | ⟨z, r⟩⟩⟩
  · simp at hm
  · simp at hm
  · simp only [List.map_cons, List.map_nil, List.cons.injEq, and_true] at hm
    have S' := S.grow (h' := h') (t := s.toks) fun b o e => he b o (fun q => by subst q; rw [zay] at e; cases e) e
    show wpAny _ _ (assignInOrder [assign (.Name x p1) env, assign (.Name y p2) env] [u1, u2]) _ _ _
    refine assignInOrder_cons (wpAny_assign_Name ?_)
    refine wpAny_mono (h u1 u2 _ hm.1 hm.2 S') (fun _ s₃ h₃ => ?_) fun _ _ e => e
    refine assignInOrder_cons (wpAny_assign_Name ?_)
    refine wpAny_mono h₃ (fun _ s₄ h₄ => ?_) fun _ _ e => e
    exact assignInOrder_nil h₄
  · simp at hm
end
end Mine
end
section
namespace Mine
open PySem PySem.W PySem.Calls PyProof.Rows
section
variable {prog : Program} {w : World} {G0 : Heap} {K : Kon} {g g' : PH} {s s' : Shared} {ℓ ℓ' ρ : Led} {a L : Addr} {c c' : Cell} {h' : Heap} {t u : Tok} {p : Addr × Cell}
  {env : Env} {fr : Option Addr} {kinds : List (Str × NameKind)} {cl : List (Str × Addr)} {loc loc' : Loc} {A : Around} {E : Value → Shared → Prop} {x y : Str} {pos pos' : Pos} {vs : List V} {i j : Int} {Q : Value → Shared → Prop}
theorem ziv (hh : A.handled = none) (S : SS w G0 K g s ℓ) (k : ∀ t s', SS w G0 K g s' ℓ → Q (.int (max i j) t) s') : wpAny (model prog w) A (call (.builtin "max") [.int i t, .int j u]) Q E s := by
  refine max_two_ints hh fun h' tk hk => ?_
  by_cases h : j > i
  · rw [if_pos h]; have := k u _ (S.grow (t := tk) hk); rw [Int.max_eq_right (by omega)] at this; exact this
  · rw [if_neg h]; have := k t _ (S.grow (t := tk) hk); rw [Int.max_eq_left (by omega)] at this; exact this
theorem zlg (hh : A.handled = none) (S : SS w G0 K g s ℓ) (k : ∀ t s', SS w G0 K g s' ℓ → Q (.int (min i j) t) s') : wpAny (model prog w) A (call (.builtin "min") [.int i t, .int j u]) Q E s := by
  refine min_two_ints hh fun h' tk hk => ?_
  by_cases h : j < i
  · rw [if_pos h]; have := k u _ (S.grow (t := tk) hk); rw [Int.min_eq_right (by omega)] at this; exact this
  · rw [if_neg h]; have := k t _ (S.grow (t := tk) hk); rw [Int.min_eq_left (by omega)] at this; exact this
theorem zkx (S : SS w G0 K g s ℓ) (h0 : 0 ≤ i) (h1 : i ≤ 0x10FFFF) (k : ∀ t s', SS w G0 K g s' ℓ → Q (.str ⟨#[i.toNat]⟩ t) s') : wpAny (model prog w) A (call (.builtin "chr") [.int i t]) Q E s :=
  P.chr_of_int (by simp; omega) (k _ _ S.tok)
theorem r_abs (S : SS w G0 K g s ℓ) (k : ∀ t s', SS w G0 K g s' ℓ → Q (.int i.natAbs t) s') : wpAny (model prog w) A (call (.builtin "abs") [.int i t]) Q E s := by
  refine call_abs_int fun u tk => ?_
  have := k u _ (S.tok (t := tk))
  by_cases h : i < 0
  · rw [if_pos h, show -i = (i.natAbs : Int) by omega]; exact this
  · rw [if_neg h, show i = (i.natAbs : Int) by omega]; exact this
theorem znc {b : Bool} (S : SS w G0 K g s ℓ) (k : ∀ t s', SS w G0 K g s' ℓ → Q (.int (if b then 1 else 0) t) s') : wpAny (model prog w) A (call (.type "int") [.bool b]) Q E s := call_int_bool (k _ _ S.tok)
theorem zmo (k : Q (.int (256 * j) s.toks) (tick s)) : wpAny (model prog w) A (binaryOp .Mult (.int 256 t) (.int j u)) Q E s :=
  znq (.of_left (PySem.intBits_le_64 (by omega) (by omega))) k
end
end Mine
end
section
namespace Mine
open PySem PySem.W PySem.Calls PyProof.Rows
section
variable {prog : Program} {w : World} {G0 : Heap} {K : Kon} {g g' : PH} {s s' : Shared} {ℓ ℓ' ρ : Led} {a L : Addr} {c c' : Cell} {h' : Heap} {t u : Tok} {p : Addr × Cell}
  {env : Env} {fr : Option Addr} {kinds : List (Str × NameKind)} {cl : List (Str × Addr)} {loc loc' : Loc} {A : Around} {E : Value → Shared → Prop} {x y : Str} {pos pos' : Pos} {vs : List V} {i j : Int} {Q : Value → Shared → Prop}
theorem zbj {pl : Sem Bool} {Q : Value × List Value → Shared → Prop} (S : SS w G0 K g s ℓ) (hm : (a, .list vs) ∈ ℓ) (k : Q (.builtin "list.append", [.ref a]) s) : wpAny (model prog w) A (getMethod (.ref a) "append" pl) Q E s := by
  obtain ⟨o, ho, ws, n, rfl, -⟩ := S.at hm
  exact Calls.getMethod_list_append ho rfl rfl k
theorem zd6 {id : String} {first : List Value} {e : Expr} {rest : List Expr} (h : wpAny (model prog w) A (spliced (backTo pos (starEach (e :: rest) env))) (fun vs s₁ => wpAny (model prog w) A (call (.builtin id) (first ++ vs)) Q E s₁) E s)
    (he : starEach (e :: rest) env = (false, eval e env) :: starEach rest env) (hplain : (backTo pos (starEach rest env)).any (·.1) = false) :
    wpAny (model prog w) A (callWith pos (.builtin id) first (backTo pos (starEach (e :: rest) env)) (backToKw pos (keywordEach [] env))) Q E s := by
  rw [he] at h ⊢
  exact Calls.callWith_builtin (by show (false || (backTo pos (starEach rest env)).any (·.1)) = false; rw [hplain]; rfl) (Calls.evalArgs_plain h)
theorem zbk {KF : Frag} {f : Value} {first : List Value} {e : Expr} {rest : List Expr} (hk : keepIn KF f = true) (h : wpAny (model prog w) A (spliced (backTo pos (starEach (e :: rest) env))) (fun vs s₁ => KF.In s₁.heap ∧ wpAny (model prog w) A (call f (first ++ vs)) Q E s₁) E s)
    (he : starEach (e :: rest) env = (false, eval e env) :: starEach rest env) (hplain : (backTo pos (starEach rest env)).any (·.1) = false) :
    wpAny (model prog w) A (callWith pos f first (backTo pos (starEach (e :: rest) env)) (backToKw pos (keywordEach [] env))) Q E s := by
  rw [he] at h ⊢
  exact callWith_of (by show ((false || (backTo pos (starEach rest env)).any (·.1)) || false) = false; rw [hplain]; rfl) (keeps_K hk) (evalArgs_plain h)
theorem r_cwF0 {KF : Frag} {f : Value} {first : List Value} (S : SS w G0 K g s ℓ) (XX : KF.In G0) (hk : keepIn KF f = true) (h : wpAny (model prog w) A (call f (first ++ [])) Q E s) : wpAny (model prog w) A (callWith pos f first (backTo pos (starEach [] env)) (backToKw pos (keywordEach [] env))) Q E s :=
  callWith_K0 (S.In XX) hk h
theorem r_eqS {x y : Str} (k : Q (.bool (x == y)) s) : wpAny (model prog w) A (compareOp .Eq (.str x t) (.str y u)) Q E s := eq_str k
set_option maxRecDepth 100000 in
theorem zjp {items : Array Value} {n : Nat} {k : Int} {t : Tok} {v : Value} {Q : Unit → Shared → Prop} (hl : s.heap.get? a = some (listOf items n))
    (h0 : k < 0) (h1 : -(items.size : Int) ≤ k) (hfit : -(2 ^ 63) ≤ k)
    (hQ : ∀ h', h'.PlainList a (items.setIfInBounds (k + items.size).toNat v) → Heap.SameBut a s.heap h' → Q () { s with heap := h' }) :
    wpAny (model prog w) A (setItem (.ref a) (.int k t) v) Q E s := by
  have hL : s.heap.IsList a items := ⟨_, hl, rfl, n, rfl⟩
  unfold setItem
  try with_reducible refine wpAny_holding ?_
  first | refine wpAny_bind (wpAny_pure ?_) | skip
  refine wpAny_bind (wpAny_sequenceKey hL.typeIs (by decide) ?_)
  refine wpAny_bind (wpAny_callSpecial?_slot (name := Str.ofString "__setitem__") hL.typeIs slot_list_setitem
    (wpAny_call_entry slot_list_setitem hL.typeIs entry_list_setitem ?_ (args_list_setitem _ _ _)))
  show wpAny _ _ (Builtin.List.listSubscript? (.int k t) >>= _) _ _ s
  refine wpAny_bind (wpAny_listSubscript_int (fitsIndex_neg h0 hfit) ?_)
  clear hfit
  have hidx := seqIndex_neg h0 h1
  have hj : (k + items.size).toNat < items.size := by omega
  generalize (k + items.size).toNat = jj at hidx hj hQ
  obtain ⟨j, rfl⟩ : ∃ j : Nat, k = Int.negSucc j := by
    cases k with
    | ofNat n => exact absurd h0 (Int.not_lt.mpr (Int.ofNat_nonneg n))
    | negSucc n => exact ⟨n, rfl⟩
  show wpAny _ _ ((Builtin.List.listItems (.ref a) >>= fun xs => pure ((seqIndex? (Int.negSucc j) xs.size).bind fun i => xs[i]?.map (i, ·))) >>= _) _ _ s
  refine wpAny_bind (wpAny_bind ?_)
  show wpAny _ _ (seqItems? (.ref a) >>= _) _ _ s
  refine wpAny_bind (wpAny_seqItems hl rfl (wpAny_pure (wpAny_pure ?_)))
  rw [hidx]
  simp only [Option.bind_some, Array.getElem?_eq_getElem hj, Option.map_some]
  show wpAny _ _ (setSeqItemAt a jj v >>= _) _ _ s
  refine wpAny_bind (wpAny_setSeqItemAt hl rfl ?_)
  have e : Obj.mapSeq (·.setIfInBounds jj v) (listOf items n) = listOf (items.setIfInBounds jj v) n := by simp [Obj.mapSeq]
  have fin : (s.heap.update a (Obj.mapSeq (·.setIfInBounds jj v))).PlainList a (items.setIfInBounds jj v) :=
    ⟨n, by rw [Heap.get?_update_self _ hl (by rw [e]; rfl), e]⟩
  first
    | exact wpAny_bind (wpAny_pure (wpAny_pure ⟨.none, rfl, wpAny_pure (hQ _ fin (Heap.SameBut.update ..))⟩))
    | exact wpAny_pure ⟨.none, rfl, wpAny_pure (hQ _ fin (Heap.SameBut.update ..))⟩
theorem zgf {vs' : List V} {i : Int} {t : Tok} {v : Value} {pv : V} {Q : Unit → Shared → Prop} (S : SS w G0 K g s ℓ) (u : Upd a (.list vs) (.list vs') ℓ ℓ') (hne : 1 ≤ vs.length) (hi : i = -1) (hv : V.of v = pv) (e : vs.set (vs.length - 1) pv = vs')
    (k : ∀ s', SS w G0 K g s' ℓ' → Q () s') : wpAny (model prog w) A (setItem (.ref a) (.int i t) v) Q E s := by
  subst hi
  obtain ⟨o, ho, ws, n, rfl, hm⟩ := S.at u.mem
  have hl := za4 hm
  refine zjp ho (by omega) (by omega) (by decide) fun h' hp hs => k _ ?_
  refine S.change (t := s.toks) u hs (At.of_plain hp ?_)
  rw [← e, ← hm, ← hv, Array.toList_setIfInBounds, List.map_set, List.length_map, Array.length_toList]
  congr 2
  omega
end
end Mine
end
section
namespace Mine
open PySem PySem.W PySem.Calls PyProof.Rows
noncomputable def lookV (kvs : List (Int × V)) (k : Int) : Option V := (kvs.find? fun kv => kv.1 = k).map (·.2)
noncomputable def storedV (kvs : List (Int × V)) (k : Int) (v : V) : List (Int × V) :=
  if kvs.any (fun kv => kv.1 = k) then kvs.map (fun kv => if kv.1 = k then (kv.1, v) else kv) else kvs ++ [(k, v)]
noncomputable def vpair (p : Int × Value) : Int × V := (p.1, V.of p.2)
noncomputable def IDict (w : World) (kvs : List (Int × V)) (o : Obj) : Prop :=
  ∃ es ep kvs', o.ExactDict ∧ o.data = .dict es ep ∧ KeysOf (PySem.intKind pg w) es ∧ Pairs (PySem.intKind pg w) es.toList kvs' ∧ (kvs'.map (·.1)).Nodup ∧ kvs'.map vpair = kvs
noncomputable abbrev DC (w : World) (kvs : List (Int × V)) : Cell := .opq (IDict w kvs)
theorem zfg (kvs : List (Int × Value)) (k : Int) : (valueAt kvs k).map V.of = lookV (kvs.map vpair) k := by
  unfold valueAt lookV
  induction kvs with
  | nil => rfl
  | cons p r ih =>
    simp only [List.map_cons, List.find?_cons, vpair]
    by_cases h : p.1 = k
    · simp [h]
    · simp only [h, decide_false]; exact ih
theorem zjf (kvs : List (Int × Value)) (k : Int) (v : Value) : (stored kvs k v).map vpair = storedV (kvs.map vpair) k (V.of v) := by
  unfold stored storedV
  have e : (kvs.map vpair).any (fun kv => decide (kv.1 = k)) = kvs.any (fun kv => decide (kv.1 = k)) := by rw [List.any_map]; rfl
  rw [e]
  split
  · rw [List.map_map, List.map_map]
    refine List.map_congr_left fun p _ => ?_
    simp only [Function.comp, vpair]
    by_cases hp : p.1 = k
    · simp [hp]
    · simp [hp]
  · rw [List.map_append]; rfl
theorem zdm (kvs : List (Int × V)) (k : Int) (v : V) : (storedV kvs k v).length ≤ kvs.length + 1 := by
  unfold storedV; split <;> simp
theorem zcz (kvs : List (Int × V)) (k j : Int) (v : V) : lookV (storedV kvs k v) j = if j = k then some v else lookV kvs j := by
  unfold storedV
  split
  · rename_i h
    unfold lookV
    induction kvs with
    | nil => simp at h
    | cons p r ih =>
      simp only [List.any_cons, Bool.or_eq_true, decide_eq_true_eq] at h
      simp only [List.map_cons, List.find?_cons]
      by_cases hp : p.1 = k
      · simp only [hp, if_true]
        by_cases hj : k = j
        · subst hj; simp
        · simp only [hj, decide_false, if_neg (Ne.symm hj)]
          by_cases hr : (r.any fun kv => decide (kv.1 = k)) = true
          · have := ih hr
            rw [if_neg (Ne.symm hj)] at this
            exact this
          · have e : (r.map fun kv => if kv.1 = k then (kv.1, v) else kv) = r := by
              refine (List.map_congr_left fun q hq => ?_).trans (List.map_id _)
              have : ¬ q.1 = k := fun e => hr (List.any_eq_true.mpr ⟨q, hq, by simp [e]⟩)
              simp [this]
            rw [e]
      · have hr := h.resolve_left hp
        simp only [hp, if_false]
        by_cases hj : p.1 = j
        · have hjk : j ≠ k := fun e => hp (hj.trans e)
          simp [hj, hjk]
        · simp only [hj, decide_false]
          exact ih hr
  · rename_i h
    unfold lookV
    rw [List.find?_append]
    by_cases hj : j = k
    · subst hj
      have : kvs.find? (fun kv => decide (kv.1 = j)) = none := by
        rw [List.find?_eq_none]
        intro x hx
        simp only [decide_eq_true_eq]
        intro e
        exact h (List.any_eq_true.mpr ⟨x, hx, by simp [e]⟩)
      rw [this]; simp
    · cases q : kvs.find? (fun kv => decide (kv.1 = j)) with
      | some x => simp [hj]
      | none => simp [hj, Ne.symm hj]
section
variable {w : World} {G0 : Heap} {K : Kon} {g g' : PH} {s s' : Shared} {ℓ ℓ' ρ : Led} {a L d : Addr} {c c' : Cell} {h' : Heap} {t u : Tok} {p : Addr × Cell}
  {env : Env} {A : Around} {E : Value → Shared → Prop} {pos pos' : Pos} {vs : List V} {i j k : Int} {Q : Value → Shared → Prop} {kvs : List (Int × V)}
theorem At.dictOf {h : Heap} (x : At w h d (DC w kvs)) : ∃ kvs', h.DictOf (PySem.intKind pg w) d kvs' ∧ kvs'.map vpair = kvs := by
  obtain ⟨o, ho, es, ep, kvs', h1, h2, h3, h4, h5, h6⟩ := x
  exact ⟨kvs', ⟨o, es, ep, ho, h1, h2, h3, h4, h5⟩, h6⟩
theorem At.of_dictOf {h : Heap} {kvs' : List (Int × Value)} (x : h.DictOf (PySem.intKind pg w) d kvs') (e : kvs'.map vpair = kvs) : At w h d (DC w kvs) := by
  obtain ⟨o, es, ep, ho, h1, h2, h3, h4, h5⟩ := x
  exact ⟨o, ho, es, ep, kvs', h1, h2, h3, h4, h5, e⟩
theorem zdb : (PySem.intKind pg w).is i (.int i t) = true := by show Value.isInt i (.int i t) = true; simp [Value.isInt]
theorem zeo {pl : Sem Bool} {Q : Value × List Value → Shared → Prop} (S : SS w G0 K g s ℓ) (hm : (d, DC w kvs) ∈ ℓ) (h : Q (.builtin "dict.get", [.ref d]) s) : wpAny (model pg w) A (getMethod (.ref d) "get" pl) Q E s := by
  obtain ⟨kvs', hD, e⟩ := (S.at hm).dictOf
  exact getMethod_builtin hD.typeIs PySem.F.plainAttrs_dict PySem.F.slot_dict_get PySem.F.type_dict_get hD.mapOf.noDict h
theorem zge {dflt : Value} (S : SS w G0 K g s ℓ) (hm : (d, DC w kvs) ∈ ℓ) (hd : (d == sysModules) = false)
    (h : ∀ v s', SS w G0 K g s' ℓ → lookV kvs i = some (V.of v) → Q v s') (h0 : ∀ s', SS w G0 K g s' ℓ → lookV kvs i = none → Q dflt s') : wpAny (model pg w) A (call (.builtin "dict.get") [.ref d, .int i t, dflt]) Q E s := by
  obtain ⟨kvs', hD, e⟩ := (S.at hm).dictOf
  refine call_meetsIn PySem.F.slot_dict_get hD.typeIs PySem.F.entry_dict_get (PySem.F.args_dict_get_3 _ _ _) (meets_dict_get_default (PySem.intKind pg w) d zdb hd dflt) ⟨_, hD.mapOf, ?_⟩
  have hl := zfg kvs' i
  rw [e] at hl
  cases q : valueAt kvs' i with
  | some v => rw [q] at hl; exact h v _ S.tok hl.symm
  | none => rw [q] at hl; exact h0 _ S.tok hl.symm
theorem zmx (S : SS w G0 K g s ℓ) (hm : (d, DC w kvs) ∈ ℓ) (hd : (d == sysModules) = false) (h : ∀ s', SS w G0 K g s' ℓ → Q (.bool (lookV kvs i).isSome) s') : wpAny (model pg w) A (compareOp .In (.int i t) (.ref d)) Q E s := by
  obtain ⟨kvs', hD, e⟩ := (S.at hm).dictOf
  refine wpAny_in_of (knd := PySem.intKind pg w) zdb hd hD.mapOf ?_
  have hl := zfg kvs' i
  rw [e] at hl
  have := h _ (S.tok (t := s.toks + 1))
  rw [← hl, Option.isSome_map] at this
  exact this
theorem zji (S : SS w G0 K g s ℓ) (hm : (d, DC w kvs) ∈ ℓ) (hd : (d == sysModules) = false) (h : ∀ s', SS w G0 K g s' ℓ → Q (.bool (!(lookV kvs i).isSome)) s') : wpAny (model pg w) A (compareOp .NotIn (.int i t) (.ref d)) Q E s := by
  obtain ⟨kvs', hD, e⟩ := (S.at hm).dictOf
  refine wpAny_notIn_of (knd := PySem.intKind pg w) zdb hd hD.mapOf ?_
  have hl := zfg kvs' i
  rw [e] at hl
  have := h _ (S.tok (t := s.toks + 1))
  rw [← hl, Option.isSome_map] at this
  exact this
theorem zhj {pv : V} {value slice : Expr} (S : SS w G0 K g s ℓ) (hm : (d, DC w kvs) ∈ ℓ) (hl : lookV kvs i = some pv) (hs : IsIdx slice) (h : ∀ v s', SS w G0 K g s' ℓ → V.of v = pv → Q v s') : wpAny (model pg w) A (subscriptTail value slice (.ref d) (.int i t)) Q E s := by
  obtain ⟨kvs', hD, e⟩ := (S.at hm).dictOf
  have hl' := zfg kvs' i
  rw [e, hl] at hl'
  cases q : valueAt kvs' i with
  | none => rw [q] at hl'; cases hl'
  | some v =>
    rw [q] at hl'
    exact tail_any hD.typeIs slot_dict_getitem.lookup (wpAny_getItem_of (knd := PySem.intKind pg w) zdb hD.mapOf q (h v _ S.tok (Option.some.inj hl'))) (hs _ _ _)
theorem zg1 {v : Value} {pv : V} {Q : Unit → Shared → Prop} (S : SS w G0 K g s ℓ) (hu : Upd d (DC w kvs) (DC w (storedV kvs i pv)) ℓ ℓ') (hsz : kvs.length ≤ sizeLine) (hv : V.of v = pv) (h : ∀ s', SS w G0 K g s' ℓ' → Q () s') :
    wpAny (model pg w) A (setItem (.ref d) (.int i t) v) Q E s := by
  obtain ⟨kvs', hD, e⟩ := (S.at hu.mem).dictOf
  refine wpAny_setItem_pairs (knd := PySem.intKind pg w) (hsz := by rw [← e, List.length_map] at hsz; exact hsz) zdb hD fun h' hD' hs => h _ ?_
  exact S.change (t := s.toks + 1) hu hs (At.of_dictOf hD' (by rw [zjf, e, hv]))
theorem zgo (S : SS w G0 K g s (p :: ℓ)) (G : Gd w G0) (h : ∀ d s', K.s₀.heap.get? d = none → (d == sysModules) = false → SS w G0 K g s' (p :: (d, DC w []) :: ℓ) → Q (.ref d) s') : wpAny (model pg w) A (eval (.Dict [] [] pos) env) Q E s := by
  refine wpAny_Dict_empty (h _ _ (S.unborn (zay _)) ?_ (S.push2 (c := DC w []) (t := s.toks) ?_ rfl))
  · obtain ⟨mg, o, es, n, ho, _⟩ := G.gl
    have h3 : mainGlobals < s.heap.objs.size := Heap.lt_size (S.st.inv.stat _ _ ho)
    have e3 : mainGlobals = 3 := rfl
    have e1 : sysModules = 1 := rfl
    have : s.heap.objs.size ≠ sysModules := by
      intro e; rw [e, e1, e3] at h3; exact absurd h3 (by decide)
    exact beq_false_of_ne this
  · exact ⟨#[], 0, [], ⟨rfl, rfl, rfl⟩, rfl, fun e he => by simp at he, .nil, by simp, rfl⟩
end
end Mine
end
section
namespace Mine
open PySem PySem.W PySem.Calls PyProof.Rows PySem.Builtin PySem.Builtin.ObjectAttr
noncomputable def AttrD (l : List (Str × V)) (o : Obj) : Prop := ∃ es ep, o.data = .dict es ep ∧ StrKeys es ∧ UniqKeys es ∧ ∀ x, (nsFind es x).map V.of = l.lookup x
noncomputable abbrev AC (l : List (Str × V)) : Cell := .opq (AttrD l)
noncomputable abbrev IC (C dx : Addr) : Cell := .inst C dx
theorem zid {o : Obj} {es : Array DictEntry} {ep : Nat} (hd : o.data = .dict es ep) (hk : StrKeys es) (name : Str) : lookIn name o = some (nsFind es name) := by
  unfold lookIn nsFind findBy
  rw [hd]
  simp only
  have e : (es.find? fun e => e.key.isStr name) = es.toList.find? (fun e => e.key.isStr name) := by rw [Array.find?_toList]
  rw [e]
  cases q : es.toList.find? (fun e => e.key.isStr name) with
  | some e => rfl
  | none =>
    have hany : es.toList.any (·.refKey) = false := by
      rw [List.any_eq_false]
      intro e he
      obtain ⟨n, t, h⟩ := hk e (by simpa using he)
      simp [DictEntry.refKey, h]
    simp only [hany, Bool.false_eq_true, if_false, Option.map_none]
theorem At.of_ns1 {w : World} {h : Heap} {d : Addr} {l : List (Str × V)} {m : Str → Option Value} (x : h.Ns1 d m) (e : ∀ x, (m x).map V.of = l.lookup x) : At w h d (AC l) := by
  obtain ⟨o, es, ep, ho, hd, hk, hu, hl⟩ := x
  exact ⟨o, ho, es, ep, hd, hk, hu, fun x => by rw [hl]; exact e x⟩
structure InstCls (KF : Frag) (C : Addr) : Prop where
  ga : findIn KF (.ref C) "__getattribute__" = some (some (.builtin "object.__getattribute__"))
  gx : findIn KF (.ref C) "__getattr__" = some none
  sets : findIn KF (.ref C) "__setattr__" = some (some (.builtin "object.__setattr__"))
  cd : ∃ cd mro, clsIn KF C = some cd ∧ cd.mro = mro ∧ cd.hasDict = true ∧ ∀ x : Value, refuseLoop x "__setattr__" mro = pure ()
  top : mroIn KF C (.type "object") = some true
  hd : hasDictIn KF C = true
section
variable {w : World} {G0 : Heap} {K : Kon} {g g' : PH} {s s' : Shared} {ℓ ℓ' ρ : Led} {a L d x dx C : Addr} {c c' : Cell} {h' : Heap} {t u : Tok} {p : Addr × Cell}
  {env : Env} {A : Around} {E : Value → Shared → Prop} {pos pos' : Pos} {Q : Value → Shared → Prop} {l : List (Str × V)} {name : Str} {pv : V}
theorem zl3 (S : SS w G0 K g s ℓ) (h1 : (x, IC C dx) ∈ ℓ) (h2 : (dx, AC l) ∈ ℓ) : ∃ od es ep, InstAt s.heap x (instObj C dx) C (some od) ∧ s.heap.get? dx = some od ∧ od.data = .dict es ep ∧ StrKeys es ∧ UniqKeys es ∧ ∀ x, (nsFind es x).map V.of = l.lookup x := by
  obtain ⟨o, ho, rfl⟩ := S.at h1
  obtain ⟨od, hod, es, ep, hd, hk, hu, hl⟩ := S.at h2
  exact ⟨od, es, ep, ⟨ho, rfl, rfl, hod⟩, hod, hd, hk, hu, hl⟩
theorem zmg {v : Value} {pv : V} (h : V.of v = pv) (hb : ∀ n, pv ≠ .bi n) : handedIn v = true := by
  subst h
  cases v <;> first | rfl | exact absurd rfl (hb _)
theorem zie {expr : Bool} (XX : (KK w).In G0) (hC : InstCls (KK w) C) (S : SS w G0 K g s ℓ) (h1 : (x, IC C dx) ∈ ℓ) (h2 : (dx, AC l) ∈ ℓ) (hn : findIn (KK w) (.ref C) name = some none) (hl : l.lookup name = some pv) (hb : ∀ n, pv ≠ .bi n)
    (k : ∀ v s', V.of v = pv → SS w G0 K g s' ℓ → Q v s') : wpAny (model pg w) A (getAttr (.ref x) name expr) Q E s := by
  obtain ⟨od, es, ep, I, hod, hd, hk, hu, hf⟩ := zl3 S h1 h2
  have hx := hf name
  rw [hl] at hx
  cases q : nsFind es name with
  | none => rw [q] at hx; cases hx
  | some v =>
    rw [q] at hx
    have hv : V.of v = pv := Option.some.inj hx
    exact get_value (S.In XX) I hC.ga (findObj_own hC.hd hn rfl (by rw [zid hd hk, q])) (zmg hv hb) (k v _ hv S.tok)
theorem zbx {expr : Bool} {b : Addr} (XX : (KK w).In G0) (hC : InstCls (KK w) C) (S : SS w G0 K g s ℓ) (h1 : (x, IC C dx) ∈ ℓ) (h2 : (dx, AC l) ∈ ℓ) (hn : findIn (KK w) (.ref C) name = some none) (hl : l.lookup name = some (.ref b))
    (k : ∀ s', SS w G0 K g s' ℓ → Q (.ref b) s') : wpAny (model pg w) A (getAttr (.ref x) name expr) Q E s :=
  zie XX hC S h1 h2 hn hl (fun _ => nofun) fun v s' hv S' => by rw [V.of_ref hv]; exact k s' S'
theorem zhl {expr : Bool} {i : Int} (XX : (KK w).In G0) (hC : InstCls (KK w) C) (S : SS w G0 K g s ℓ) (h1 : (x, IC C dx) ∈ ℓ) (h2 : (dx, AC l) ∈ ℓ) (hn : findIn (KK w) (.ref C) name = some none) (hl : l.lookup name = some (.int i))
    (k : ∀ t s', SS w G0 K g s' ℓ → Q (.int i t) s') : wpAny (model pg w) A (getAttr (.ref x) name expr) Q E s :=
  zie XX hC S h1 h2 hn hl (fun _ => nofun) fun v s' hv S' => by obtain ⟨t, rfl⟩ := V.of_int hv; exact k t s' S'
theorem zam {f : Addr} {pl : Sem Bool} {Q : Value × List Value → Shared → Prop} (XX : (KK w).In G0) (hC : InstCls (KK w) C) (S : SS w G0 K g s ℓ) (h1 : (x, IC C dx) ∈ ℓ) (h2 : (dx, AC l) ∈ ℓ) (hf : findIn (KK w) (.ref C) name = some (some (.ref f)))
    (ht : typeIn (KK w) (.ref f) = some (.type "function")) (hl : l.lookup name = none) (k : Q (.ref f, [.ref x]) s) : wpAny (model pg w) A (getMethod (.ref x) name pl) Q E s := by
  obtain ⟨od, es, ep, I, hod, hd, hk, hu, hfn⟩ := zl3 S h1 h2
  have hx := hfn name
  rw [hl] at hx
  have q : nsFind es name = none := by cases q : nsFind es name with
    | none => rfl
    | some v => rw [q] at hx; cases hx
  exact method_fn (S.In XX) I hC.ga hC.gx hf ht (by unfold shadowIn; simp only [zid hd hk, q, Option.map_some]; rfl) k
theorem zlc {l l' : List (Str × V)} {name : Str} {pv : V} (h : ∀ y, l'.lookup y = if y = name then some pv else l.lookup y) {m : Str → Option Value} (hm : ∀ x, (m x).map V.of = l.lookup x) {v : Value} (hv : V.of v = pv) :
    ∀ y, ((if y = name then some v else m y : Option Value)).map V.of = l'.lookup y := fun y => by
  rw [h y]
  by_cases e : y = name
  · rw [if_pos e, if_pos e]; simp [hv]
  · rw [if_neg e, if_neg e]; exact hm y
theorem zea {l' : List (Str × V)} {v : Value} {Q : Unit → Shared → Prop} (XX : (KK w).In G0) (hC : InstCls (KK w) C) (S : SS w G0 K g s ℓ) (h1 : (x, IC C dx) ∈ ℓ) (hu : Upd dx (AC l) (AC l') ℓ ℓ') (hn : findIn (KK w) (.ref C) name = some none) (hv : V.of v = pv)
    (hl : ∀ y, l'.lookup y = if y = name then some pv else l.lookup y) (hlen : l'.length ≤ 1000) (k : ∀ s', SS w G0 K g s' ℓ' → Q () s') : wpAny (model pg w) A (setAttr (.ref x) name v) Q E s := by
  obtain ⟨cd, mro, c1, c2, c3, c4⟩ := hC.cd
  obtain ⟨od, es, ep, I, hod, hd, hk, huq, hf⟩ := zl3 S h1 hu.mem
  refine zfx (S.In XX) I hC.sets c1 c2 hC.top (c4 _) hn fun tk Q' hQ' => ?_
  obtain ⟨hx, hcl, hno, -⟩ := I
  have hcd : Looks (model pg w) ({ s with toks := s.toks + 1 } : Shared).heap (classData C) cd := looks_clsIn (S.In XX) c1
  unfold storeInOwnDict
  refine wpAny_bind (wpAny_pure ?_)
  have e1 : (Value.ref C == Value.type "module") = false := rfl
  simp only [e1, Bool.false_eq_true, if_false]
  refine wpAny_bind ?_
  show wpAny _ _ (instanceDict x true) _ _ _
  unfold instanceDict
  have hx' : ({ s with toks := s.toks + 1 } : Shared).heap.get? x = some (instObj C dx) := hx
  refine wpAny_bind (wpAny_loadPart hx' ?_)
  dsimp only
  refine wpAny_bind (hcd.here ?_)
  rw [c3]
  simp only [Bool.not_true, Bool.false_eq_true, if_false, typeHasDict, Bool.or_self]
  refine wpAny_pure ?_
  show wpAny _ _ (storeInDict dx (.str name tk) name v) _ _ _
  unfold storeInDict
  have hns : ({ s with toks := s.toks + 1 } : Shared).heap.Ns1 dx (nsFind es) := ⟨od, es, ep, hod, hd, hk, huq, fun _ => rfl⟩
  refine wpAny_bind (wpAny_pure (wpAny_bind (wpAny_nsSet1 hns fun h' hn' hs' => ?_)))
  have hall := zlc hl hf hv
  have hw : Within (fun y => if y = name then some v else nsFind es y) (l'.map Prod.fst) := fun y hy => by
    have := hall y
    cases q : l'.lookup y with
    | none =>
      rw [q] at this
      cases z : (if y = name then some v else nsFind es y : Option Value) with
      | none => exact absurd z hy
      | some u => rw [z] at this; cases this
    | some u => exact List.mem_map_of_mem (f := Prod.fst) (mem_of_lookup q)
  obtain ⟨oD, esD, epD, hoD, hdD, hcD⟩ := hn'.count hw
  refine wpAny_bind (wpAny_lookBehind hoD (by rw [hdD]; exact pastItsLine_dict (Nat.le_trans hcD (by rw [List.length_map, sizeLine_eq]; omega))) ?_)
  exact wpAny_pure (hQ' .none _ (k _ (S.change (t := s.toks + 1 + 1) hu hs' (At.of_ns1 hn' hall))))
end
theorem zik (x : Value) : refuseLoop x "__setattr__" [.type "object"] = pure () := by kernel_rfl
theorem zat (w : World) : InstCls (KK w) 185 where
  ga := by kernel_rfl
  gx := by kernel_rfl
  sets := by kernel_rfl
  cd := ⟨_, _, rfl, rfl, rfl, fun x => zik x⟩
  top := by kernel_rfl
  hd := by kernel_rfl
end Mine
end
section
namespace Mine
open PySem PySem.W PySem.Calls PyProof.Rows
section
variable {prog : Program} {w : World} {G0 : Heap} {K : Kon} {g g' : PH} {s s' : Shared} {ℓ ℓ' ρ : Led} {a L : Addr} {c c' : Cell} {h' : Heap} {t u : Tok} {p : Addr × Cell}
  {env : Env} {fr : Option Addr} {kinds : List (Str × NameKind)} {cl : List (Str × Addr)} {loc loc' : Loc} {A : Around} {E : Value → Shared → Prop} {x y : Str} {pos pos' : Pos} {vs : List V} {i j : Int}
theorem SS.freeze' (S : SS w G0 K g s ((a, c) :: ℓ)) (hn : K.s₀.heap.get? a = none) : SS w G0 K (g.set a c) s ℓ := ⟨S.st.freeze hn, S.same⟩
theorem zku {M : Model} {o value : Expr} {attr : Str} {op : Operator} {rest : List Stmt} {Q : Flow → Shared → Prop}
    (h : wpAny M A (eval o env) (fun ov s₁ => wpAny M A (getAttr ov attr true) (fun old s₂ => wpAny M A (eval value env) (fun v s₃ => wpAny M A (inplaceOp op old v) (fun new s₄ =>
            wpAny M A (setAttr ov attr new) (fun _ s₅ => wpAny M A (execs rest env) Q E s₅) E s₄) E s₃) E s₂) E s₁) E s) :
    wpAny M A (execs (.AugAssign (.Attribute o attr pos') op value pos :: rest) env) Q E s := wpAny_execs_cons (wpAny_AugAssign_AttributeAny h)
theorem zdc {Q : Value → Shared → Prop} (S : SS w G0 K g s (p :: ℓ)) (hl : IsL w s.heap a vs) (hsz : vs.length ≤ sizeLine) (k : ∀ r s', K.s₀.heap.get? r = none → SS w G0 K g s' (p :: (r, .tup vs) :: ℓ) → Q (.ref r) s') :
    wpAny (model prog w) A (call (.type "tuple") [.ref a]) Q E s := by
  obtain ⟨ws, hl, hm⟩ := hl
  refine call_tuple_list hl (fun h' hk => ?_) (by rw [za4 hm]; exact hsz)
  have S₁ := S.grow (t := s.toks) hk
  exact k _ _ (S₁.unborn (zay _)) (S₁.push2 (c := .tup vs) (t := s.toks) ⟨_, rfl, hm⟩ rfl)
end
end Mine
end
section
namespace Mine
open PySem PySem.W PySem.Calls PyProof.Rows PySem.SeqAt
section
variable {prog : Program} {w : World} {G0 : Heap} {K : Kon} {g g' : PH} {s s' : Shared} {ℓ ℓ' ρ : Led} {a L : Addr} {c c' : Cell} {h' : Heap} {t u : Tok} {p : Addr × Cell}
  {env : Env} {fr : Option Addr} {kinds : List (Str × NameKind)} {cl : List (Str × Addr)} {loc loc' : Loc} {A : Around} {E : Value → Shared → Prop} {x y : Str} {pos pos' : Pos} {vs : List V} {i j : Int} {Q : Value → Shared → Prop} {ns : List Int}
theorem zn9 {M : Model} {b b' : Addr} (X : EnvOk env L fr kinds cl) (hk : (x, .cell) ∈ kinds ∨ (x, .free) ∈ kinds) (hc : (x, b) ∈ cl) (S : SS w G0 K g s ℓ) (hm : (b, .cell (some (.ref b'))) ∈ ℓ) (k : Q (.ref b') s) : wpAny M A (eval (.Name x pos) env) Q E s :=
  zne X (S.at hm) hk hc fun v hv => by rw [V.of_ref hv]; exact k
theorem zoh {M : Model} {b : Addr} (X : EnvOk env L fr kinds cl) (hk : (x, .cell) ∈ kinds ∨ (x, .free) ∈ kinds) (hc : (x, b) ∈ cl) (S : SS w G0 K g s ℓ) (hm : (b, .cell (some (.int i))) ∈ ℓ) (k : Q (.int i (tokAt s.heap b x)) s) : wpAny M A (eval (.Name x pos) env) Q E s :=
  zme X (S.at hm) hk hc fun e => by rw [zi8 e]; exact k
theorem zns {M : Model} {b : Addr} {z : Str} (X : EnvOk env L fr kinds cl) (hk : (x, .cell) ∈ kinds ∨ (x, .free) ∈ kinds) (hc : (x, b) ∈ cl) (S : SS w G0 K g s ℓ) (hm : (b, .cell (some (.str z))) ∈ ℓ) (k : Q (.str z (tokAt s.heap b x)) s) : wpAny M A (eval (.Name x pos) env) Q E s :=
  zme X (S.at hm) hk hc fun e => by rw [zli e]; exact k
theorem zn4 {M : Model} {b : Addr} {pv : V} (X : EnvOk env L fr kinds cl) (hk : (x, .cell) ∈ kinds ∨ (x, .free) ∈ kinds) (hc : (x, b) ∈ cl) (S : SS w G0 K g s ℓ) (hm : (b, .cell (some pv)) ∈ ℓ) (k : ∀ v, V.of v = pv → Q v s) : wpAny M A (eval (.Name x pos) env) Q E s :=
  zne X (S.at hm) hk hc k
theorem zbr (S : SS w G0 K g s (p :: ℓ)) (k : ∀ r s', K.s₀.heap.get? r = none → SS w G0 K g s' (p :: (r, .opq (RangeObj 0 i)) :: ℓ) → Q (.ref r) s') : wpAny (model prog w) A (call (.type "range") [.int i t]) Q E s :=
  call_range_1 (k _ _ (S.unborn (zay _)) (S.push2 (c := .opq (RangeObj 0 i)) ⟨_, _, _, rfl⟩ rfl))
theorem zj4 (S : SS w G0 K g s (p :: ℓ)) (k : ∀ r s', K.s₀.heap.get? r = none → SS w G0 K g s' (p :: (r, .opq (RangeObj i j)) :: ℓ) → Q (.ref r) s') : wpAny (model prog w) A (call (.type "range") [.int i t, .int j u]) Q E s :=
  call_range_2 (k _ _ (S.unborn (zay _)) (S.push2 (c := .opq (RangeObj i j)) ⟨_, _, _, rfl⟩ rfl))
theorem zlx {ws : Array Value} {ns : List Int} (hm : ws.toList.map V.of = ns.map V.int) (k : Int) (t : Tok) (A : Around) (s : Shared) : (∀ y, y ∈ ws → EqAt A s y (.int k t) (isInt k y)) ∧ ws.any (isInt k) = ns.any (· == k) := by
  have key : ∀ (l : List Value) (ns : List Int), l.map V.of = ns.map V.int → (∀ y ∈ l, EqAt A s y (.int k t) (isInt k y)) ∧ l.any (isInt k) = ns.any (· == k) := by
    intro l
    induction l with
    | nil => intro ns h; cases ns with
      | nil => exact ⟨fun _ h => (nomatch h), rfl⟩
      | cons _ _ => simp at h
    | cons v r ih =>
      intro ns h
      cases ns with
      | nil => simp at h
      | cons n q =>
        simp only [List.map_cons, List.cons.injEq] at h
        obtain ⟨u, rfl⟩ := V.of_int h.1
        obtain ⟨h1, h2⟩ := ih q h.2
        refine ⟨fun y hy => ?_, by simp only [List.any_cons, h2]; rfl⟩
        rcases List.mem_cons.mp hy with rfl | hy
        · exact (MeetsSeq.EqGives.int n k u t).at A s
        · exact h1 y hy
  obtain ⟨h1, h2⟩ := key ws.toList ns hm
  exact ⟨fun y hy => h1 y (by simpa using hy), by rw [← h2, Array.any_toList]⟩
theorem zej (hl : IsSeq w s.heap a (ns.map V.int)) (k : Q (.bool (ns.any (· == i))) s) : wpAny (model prog w) A (compareOp .In (.int i t) (.ref a)) Q E s := by
  rcases hl with ⟨ws, hl, hm⟩ | ⟨ws, hl, hm⟩
  · obtain ⟨h1, h2⟩ := zlx hm i t A.in1 s
    exact in_listAt (isInt i) hl h1 (by rw [h2]; exact k)
  · obtain ⟨h1, h2⟩ := zlx hm i t A.in1 s
    exact in_tupleAt (isInt i) hl h1 (by rw [h2]; exact k)
end
end Mine
end
section
namespace Mine
open PySem PySem.W PySem.Calls PyProof.Rows PySem.SeqAt
section
variable {prog : Program} {w : World} {G0 : Heap} {K : Kon} {g g' : PH} {s s' : Shared} {ℓ ℓ' ρ : Led} {a b L : Addr} {c c' : Cell} {h' : Heap} {t u : Tok} {p : Addr × Cell}
  {env : Env} {A : Around} {E : Value → Shared → Prop} {x y : Str} {pos pos' : Pos} {vs us : List V} {i j : Int} {Q : Value → Shared → Prop} {ns : List Int}
theorem zff (S : SS w G0 K g s (p :: ℓ)) (hl : IsL w s.heap a vs) (hb : IsL w s.heap b us) (hsz : vs.length + us.length ≤ sizeLine) (k : ∀ r s', K.s₀.heap.get? r = none → SS w G0 K g s' (p :: (r, .list (vs ++ us)) :: ℓ) → Q (.ref r) s') :
    wpAny (model prog w) A (binaryOp .Add (.ref a) (.ref b)) Q E s := by
  obtain ⟨ws, ⟨⟨cls, dd, data, sl⟩, ho, hc, n, hd⟩, hm⟩ := hl
  obtain ⟨ws2, ⟨⟨cls2, dd2, data2, sl2⟩, ho2, hc2, n2, hd2⟩, hm2⟩ := hb
  simp only at hc hd hc2 hd2
  subst hc hd hc2 hd2
  refine concat_meets ⟨_, ho, rfl⟩ ⟨_, ho2, rfl⟩ noFill_list_add seq_list_add PySem.F.slot_list_add PySem.F.entry_list_add (PySem.F.args_list_add_2 _ _) (list_addW a b ws ws2 n n2 dd dd2 sl sl2 (by rw [za4 hm, za4 hm2]; exact hsz)) ⟨ho, ho2, ?_⟩
  exact k _ _ (S.unborn (zay _)) (S.push2 (c := .list (vs ++ us)) (t := s.toks) ⟨ws ++ ws2, _, rfl, by rw [Array.toList_append, List.map_append, hm, hm2]⟩ rfl)
theorem zi3 (S : SS w G0 K g s (p :: ℓ)) (hl : IsT w s.heap a vs) (hb : IsT w s.heap b us) (hne : vs ≠ []) (hne2 : us ≠ []) (hsz : vs.length + us.length ≤ sizeLine) (k : ∀ r s', K.s₀.heap.get? r = none → SS w G0 K g s' (p :: (r, .tup (vs ++ us)) :: ℓ) → Q (.ref r) s') :
    wpAny (model prog w) A (binaryOp .Add (.ref a) (.ref b)) Q E s := by
  obtain ⟨ws, ⟨⟨cls, dd, data, sl⟩, ho, hc, n, hd⟩, hm⟩ := hl
  obtain ⟨ws2, ⟨⟨cls2, dd2, data2, sl2⟩, ho2, hc2, n2, hd2⟩, hm2⟩ := hb
  simp only at hc hd hc2 hd2
  subst hc hd hc2 hd2
  have e1 : ¬ ws.isEmpty = true := fun e => hne (by rw [← hm]; simp [Array.isEmpty_iff.mp e])
  have e2 : ¬ ws2.isEmpty = true := fun e => hne2 (by rw [← hm2]; simp [Array.isEmpty_iff.mp e])
  refine concat_meets ⟨_, ho, rfl⟩ ⟨_, ho2, rfl⟩ noFill_tuple_add seq_tuple_add PySem.F.slot_tuple_add PySem.F.entry_tuple_add (PySem.F.args_tuple_add_2 _ _) (tuple_addW2 a b ws ws2 n n2 dd dd2 sl sl2 e1 e2 (by rw [za4 hm, za4 hm2]; exact hsz)) ⟨ho, ho2, ?_⟩
  exact k _ _ (S.unborn (zay _)) (S.push2 (c := .tup (vs ++ us)) (t := s.toks) ⟨ws ++ ws2, rfl, by rw [Array.toList_append, List.map_append, hm, hm2]⟩ rfl)
theorem zgi (S : SS w G0 K g s (p :: ℓ)) (hl : IsL w s.heap a vs) (hlo : -(2 ^ 63 : Int) ≤ i) (hhi : i < 2 ^ 63) (hsz : vs.length * i.toNat ≤ 2 ^ 24) (k : ∀ r s', K.s₀.heap.get? r = none → SS w G0 K g s' (p :: (r, .list (List.replicate i.toNat vs).flatten) :: ℓ) → Q (.ref r) s') :
    wpAny (model prog w) A (binaryOp .Mult (.ref a) (.int i u)) Q E s := by
  obtain ⟨ws, ⟨⟨cls, d, data, sl⟩, ho, hcl, n, hd⟩, hm⟩ := hl
  simp only at hcl hd
  subst hcl hd
  have hsz' : ws.size * i.toNat ≤ 2 ^ 24 := by rw [za4 hm]; exact hsz
  refine wpAny_binaryOp_repeat_ref (T := "list") (U := "int") (by decide) ⟨_, ho, rfl⟩ (fun s' => typeIs_int s' i u) noFill_list_mul F.fills_int_mul F.slot_int_rmul repeat_list F.slot_int_index.lookup
    (call_meets F.slot_int_rmul (typeIs_int s i u) F.entry_int_rmul (F.args_int_rmul_2 _ _) (lm_int_rmul_list_any i u a ws n d sl)
      ⟨ho, rfl, ⟨_, ho, rfl⟩, call_meets F.slot_list_mul ⟨_, ho, rfl⟩ F.entry_list_mul (F.args_list_mul_2 _ _)
        (lm_list_mul_any a ws n d sl i u (by simp [Builtin.List.listFitsIndex]; omega) (by omega) (by simp [Builtin.List.listTooLong, sizeLine]; omega))
        ⟨ho, ?_⟩⟩)
  refine k _ _ (S.unborn (zay _)) (S.push2 (c := .list (List.replicate i.toNat vs).flatten) (t := s.toks) ⟨_, _, rfl, ?_⟩ rfl)
  rw [listMul_foldl_if]
  show ((List.replicate i.toNat ws.toList).flatten).map V.of = _
  rw [List.map_flatten, List.map_replicate, hm]
end
end Mine
end
section
namespace Mine
open PySem PySem.W PySem.Calls PyProof.Rows PySem.SeqAt
noncomputable def PH.le (g g' : PH) : Prop := ∀ a c, g a = some c → g' a = some c
theorem PH.le.refl (g : PH) : g.le g := fun _ _ h => h
theorem PH.le.trans {g g' g'' : PH} (h : g.le g') (h' : g'.le g'') : g.le g'' := fun a c x => h' a c (h a c x)
theorem PH.le_set {g : PH} {a : Addr} {c : Cell} (h : g a = none) : g.le (g.set a c) := fun b d x => by
  unfold PH.set
  by_cases e : b = a
  · subst e; rw [h] at x; cases x
  · rw [if_neg e]; exact x
theorem PH.set_self {g : PH} {a : Addr} {c : Cell} : (g.set a c) a = some c := by unfold PH.set; rw [if_pos rfl]
section
variable {prog : Program} {w : World} {G0 : Heap} {K : Kon} {g g' : PH} {s s' : Shared} {ℓ ℓ' ρ : Led} {a b L : Addr} {c c' : Cell} {h' : Heap} {t u : Tok} {p : Addr × Cell}
  {env : Env} {fr : Option Addr} {kinds : List (Str × NameKind)} {cl : List (Str × Addr)} {loc : Loc} {A : Around} {E : Value → Shared → Prop} {x y : Str} {pos pos' py : Pos} {vs us : List V} {i j : Int} {Q : Value → Shared → Prop} {ns : List Int}
theorem zd8 {elt : Expr} {gens : List Comprehension} {scope : Scope} {ln : Nat} (X : EnvOk env L fr kinds cl) (hy : (y, .local) ∈ kinds) (hl : (py.line == pos.line) = true) (hn : (scope.names.any fun (n, k) => n == y && (k == .local || k == .cell)) = false) :
    swapsWith (.ListComp elt gens scope pos) (some (.Name y py)) ln env = pure true := by
  have e1 : (env.blockKind == ScopeKind.function) = true := by unfold Env.blockKind; rw [X.kind]; rfl
  have e2 : (env.kindOf y == some NameKind.local) = true := by rw [X.kd _ _ hy]; rfl
  unfold swapsWith
  simp only [show (Expr.Name y py).pos = py from rfl, show (Expr.ListComp elt gens scope pos).pos = pos from rfl, e1, e2, hl, Bool.true_and]
  show pure (!(scope.names.any fun (n, k) => n == y && (k == .local || k == .cell))) = _
  rw [hn]; rfl
theorem zko {elt : Expr} {gens : List Comprehension} {scope : Scope} {ln : Nat} (X : EnvOk env L fr kinds cl) (hy : (y, .cell) ∈ kinds) :
    swapsWith (.ListComp elt gens scope pos) (some (.Name y py)) ln env = pure false := by
  have e2 : (env.kindOf y == some NameKind.local) = false := by rw [X.kd _ _ hy]; rfl
  unfold swapsWith
  simp only [e2, Bool.and_false, Bool.false_and]
theorem znu (h0 : 0 ≤ j) (hsz : (Builtin.Int.intBits i : Int) * j ≤ 2 ^ 27) (k : Q (.int (i ^ j.toNat) s.toks) (tick s)) : wpAny (model prog w) A (binaryOp .Pow (.int i t) (.int j u)) Q E s :=
  pow_int h0 hsz k
theorem zec {x y : Str} (S : SS w G0 K g s ℓ) (hsz : x.cps.toList.length + y.cps.toList.length ≤ sizeLine) (k : ∀ t s', SS w G0 K g s' ℓ → Q (.str (x ++ y) t) s') : wpAny (model prog w) A (binaryOp .Add (.str x t) (.str y u)) Q E s :=
  PyProof.Rows.add_str (fun _ _ => k _ _ S.tok) (by show x.cps.size + y.cps.size ≤ sizeLine; simpa using hsz)
theorem zkr {d : Int} (h0 : 0 ≤ d) (h1 : d ≤ 9) : Str.ofString (toString d) = ⟨#[48 + d.toNat]⟩ := by
  obtain ⟨n, rfl⟩ := Int.eq_ofNat_of_zero_le h0
  rcases n with _ | _ | _ | _ | _ | _ | _ | _ | _ | _ | n
  all_goals first | decide +kernel | omega
theorem zng {d : Int} (S : SS w G0 K g s ℓ) (h0 : 0 ≤ d) (h1 : d ≤ 9) (k : ∀ t s', SS w G0 K g s' ℓ → Q (.str ⟨#[48 + d.toNat]⟩ t) s') : wpAny (model prog w) A (call (.type "str") [.int d t]) Q E s := by
  refine P.str_of_int ?_ ?_
  · have : d.natAbs < 2 ^ 1920 := Nat.lt_of_lt_of_le (show d.natAbs < 16 by omega) (by decide +kernel)
    by_cases h : d.natAbs = 0
    · rw [h]; decide
    · exact (Nat.log2_lt h).mpr this
  · have := k s.toks _ (S.tok (t := s.toks + 1))
    rw [← zkr h0 h1] at this
    exact this
end
theorem SS.freeze1 {w : World} {G0 : Heap} {K : Kon} {g : PH} {s : Shared} {ℓ : Led} {a : Addr} {c : Cell} (S : SS w G0 K g s ((a, c) :: ℓ)) (hn : K.s₀.heap.get? a = none) : ∃ g', SS w G0 K g' s ℓ ∧ g.le g' ∧ g' a = some c :=
  ⟨_, S.freeze' hn, PH.le_set (S.st.inv.gl _ (.head _)), PH.set_self⟩
theorem SS.freeze2 {w : World} {G0 : Heap} {K : Kon} {g : PH} {s : Shared} {ℓ : Led} {a b : Addr} {c d : Cell} (S : SS w G0 K g s ((a, c) :: (b, d) :: ℓ)) (hn : K.s₀.heap.get? a = none) (hm : K.s₀.heap.get? b = none) : ∃ g', SS w G0 K g' s ℓ ∧ g.le g' ∧ g' a = some c ∧ g' b = some d := by
  obtain ⟨g1, S1, l1, h1⟩ := S.freeze1 hn
  obtain ⟨g2, S2, l2, h2⟩ := S1.freeze1 hm
  exact ⟨g2, S2, l1.trans l2, l2 _ _ h1, h2⟩
end Mine
end
section
namespace Mine
open PySem PySem.W PySem.Calls PyProof.Rows PySem.SeqAt
theorem zdp : ∀ {l : List Value} {ns : List Int}, l.map V.of = ns.map V.int → IntsAre l ns
  | [], [], _ => .nil
  | [], _ :: _, h => by simp at h
  | _ :: _, [], h => by simp at h
  | v :: r, n :: q, h => by
    simp only [List.map_cons, List.cons.injEq] at h
    obtain ⟨t, rfl⟩ := V.of_int h.1
    exact .cons _ _ (zdp h.2)
theorem zfw {α : Type} [DecidableEq α] {ns ms : List α} (hl : ns.length = ms.length) : (List.range ns.length).all (fun j => decide (ns[j]? = ms[j]?)) = decide (ns = ms) := by
  by_cases h : ns = ms
  · subst h; simp
  · rw [decide_eq_false h, List.all_eq_false]
    have : ¬ ∀ j, j < ns.length → ns[j]? = ms[j]? := fun hall => h (List.ext_getElem? fun j => by
      rcases Nat.lt_or_ge j ns.length with hj | hj
      · exact hall j hj
      · rw [List.getElem?_eq_none hj, List.getElem?_eq_none (by omega)])
    have this := Classical.not_forall.mp this
    obtain ⟨j, hj⟩ := this
    have hj := Classical.not_imp.mp hj
    exact ⟨j, List.mem_range.mpr hj.1, by simp [hj.2]⟩
section
variable {prog : Program} {w : World} {G0 : Heap} {K : Kon} {g g' : PH} {s s' : Shared} {ℓ ℓ' ρ : Led} {a b L : Addr} {c c' : Cell} {h' : Heap} {t u : Tok} {p : Addr × Cell}
  {env : Env} {A : Around} {E : Value → Shared → Prop} {vs us : List V} {i j : Int} {Q : Value → Shared → Prop} {ns ms : List Int}
theorem r_maxL (hh : A.handled = none) (S : SS w G0 K g s ℓ) (hl : IsL w s.heap a (ns.map V.int)) (hne : ns ≠ []) (k : ∀ M t s', M ∈ ns → (∀ x ∈ ns, x ≤ M) → SS w G0 K g s' ℓ → Q (.int M t) s') : wpAny (model prog w) A (call (.builtin "max") [.ref a]) Q E s := by
  obtain ⟨ws, hl, hm⟩ := hl
  have hi := zdp hm
  obtain ⟨xs, e⟩ := hi.allInts.items
  have e : ws = intItems xs := by rw [← e]
  have hns : ns = xs.toList.map (·.1) := by rw [← hi.numsOf, ← nums_intItems, ← e]
  have hpos := List.length_pos_iff.mpr hne
  have hsz : 0 < xs.size := by rw [hns, List.length_map, Array.length_toList] at hpos; exact hpos
  rw [e] at hl
  refine max_intList hh hl hsz fun v h' tk hv hk => ?_
  obtain ⟨t, rfl⟩ := intItems_at hv
  obtain ⟨h1, h2⟩ := argBest_gt (numAt xs) (xs.size - 1)
  have hlen : ns.length = xs.size := by rw [hns, List.length_map, Array.length_toList]
  have hget : ∀ j, j < xs.size → ns[j]? = some (numAt xs j) := fun j hj => by
    rw [numAt_eq, ← hns, List.getD_eq_getElem?_getD, List.getElem?_eq_getElem (by omega)]; rfl
  refine k _ _ _ (List.mem_of_getElem? (hget _ (by omega))) (fun x hx => ?_) (S.grow (t := tk) hk)
  obtain ⟨j, hj, e⟩ := List.getElem_of_mem hx
  have := hget j (by omega)
  rw [List.getElem?_eq_getElem hj, e] at this
  rw [Option.some.inj this]
  exact h2 j (by omega)
theorem rcI {s : Shared} {a b : Addr} (hl : IsL w s.heap a (ns.map V.int)) (hb : IsL w s.heap b (ms.map V.int)) (hu : A.units < cLine) : RcAt A s (.ref a) (.ref b) (decide (ns = ms)) := by
  obtain ⟨ws, hl, hm⟩ := hl
  obtain ⟨us, hb, hm'⟩ := hb
  have s1 := za4 hm
  have s2 := za4 hm'
  rw [List.length_map] at s1 s2
  by_cases hlen : ns.length = ms.length
  · have := RcAt.lists (A := A) (e := fun j => decide (ns[j]? = ms[j]?)) hl hb (by rw [s1, s2, hlen]) hu fun j h1 h2 => by
      have e1 : ns[j]? = some ns[j] := List.getElem?_eq_getElem (by omega)
      have e2 : ms[j]? = some ms[j] := List.getElem?_eq_getElem (by omega)
      obtain ⟨v1, f1, g1⟩ := zdt hm (i := j) (pv := .int ns[j]) (by rw [List.getElem?_map, e1]; rfl)
      obtain ⟨v2, f2, g2⟩ := zdt hm' (i := j) (pv := .int ms[j]) (by rw [List.getElem?_map, e2]; rfl)
      rw [Array.getElem?_eq_getElem h1] at f1
      rw [Array.getElem?_eq_getElem h2] at f2
      rw [Option.some.inj f1, Option.some.inj f2]
      obtain ⟨t1, rfl⟩ := V.of_int g1
      obtain ⟨t2, rfl⟩ := V.of_int g2
      have := (MeetsSeq.EqGives.int ns[j] ms[j] t1 t2).at A.in1 s
      rw [e1, e2]
      have e : decide (some ns[j] = some ms[j]) = (ns[j] == ms[j]) := by
        by_cases h : ns[j] = ms[j] <;> simp [h]
      rw [e]
      exact this
    rw [s1, zfw hlen] at this
    exact this
  · have e : decide (ns = ms) = false := decide_eq_false fun h => hlen (by rw [h])
    rw [e]
    exact RcAt.lists_lengths hl hb (by rw [s1, s2]; simpa using hlen) hu
theorem eqI {s : Shared} {a b : Addr} (hl : IsL w s.heap a (ns.map V.int)) (hb : IsL w s.heap b (ms.map V.int)) (hu : A.units < cLine) : EqAt A s (.ref a) (.ref b) (decide (ns = ms)) := by
  by_cases h : a = b
  · subst h
    obtain ⟨ws, hl, hm⟩ := hl
    obtain ⟨us, hb, hm'⟩ := hb
    have : ws = us := by
      obtain ⟨o, ho, _, n, hd⟩ := hl
      obtain ⟨o', ho', _, n', hd'⟩ := hb
      rw [ho] at ho'
      cases ho'
      rw [hd] at hd'
      injection hd' 
    subst this
    have e : ns = ms := by
      have := hm.symm.trans hm'
      exact (List.map_inj_right (fun x y h => by injection h)).mp this
    rw [e, decide_eq_true rfl]
    exact EqAt.same _
  · exact .of_refs h (rcI hl hb hu)
theorem zmi (hl : IsL w s.heap a (ns.map V.int)) (hb : IsL w s.heap b (ms.map V.int)) (hu : A.units < cLine) (k : Q (.bool (decide (ns = ms))) s) : wpAny (model prog w) A (compareOp .Eq (.ref a) (.ref b)) Q E s :=
  rcI hl hb hu prog w E Q k
noncomputable def Rows2 (w : World) (h : Heap) (vs : List V) (xs : List (List Int)) : Prop := vs.length = xs.length ∧ ∀ (i : Nat) v x, vs[i]? = some v → xs[i]? = some x → ∃ a, v = .ref a ∧ IsL w h a (x.map V.int)
theorem znd {xs ys : List (List Int)} (hl : IsL w s.heap a vs) (hb : IsL w s.heap b us) (h1 : Rows2 w s.heap vs xs) (h2 : Rows2 w s.heap us ys) (hu : A.units + 1 < cLine) (k : Q (.bool (decide (xs = ys))) s) : wpAny (model prog w) A (compareOp .Eq (.ref a) (.ref b)) Q E s := by
  obtain ⟨ws, hl, hm⟩ := hl
  obtain ⟨zs, hb, hm'⟩ := hb
  have s1 := za4 hm
  have s2 := za4 hm'
  have l1 := h1.1
  have l2 := h2.1
  by_cases hlen : xs.length = ys.length
  · refine eq_listAt (e := fun j => decide (xs[j]? = ys[j]?)) hl hb (by omega) (by omega) (fun j g1 g2 => ?_) ?_
    · have e1 : xs[j]? = some xs[j] := List.getElem?_eq_getElem (by omega)
      have e2 : ys[j]? = some ys[j] := List.getElem?_eq_getElem (by omega)
      have d1 : vs[j]? = some vs[j] := List.getElem?_eq_getElem (by omega)
      have d2 : us[j]? = some us[j] := List.getElem?_eq_getElem (by omega)
      obtain ⟨a1, q1, i1⟩ := h1.2 j _ _ d1 e1
      obtain ⟨a2, q2, i2⟩ := h2.2 j _ _ d2 e2
      obtain ⟨v1, f1, p1⟩ := zdt hm d1
      obtain ⟨v2, f2, p2⟩ := zdt hm' d2
      rw [Array.getElem?_eq_getElem g1] at f1
      rw [Array.getElem?_eq_getElem g2] at f2
      rw [Option.some.inj f1, Option.some.inj f2, V.of_ref (p1.trans q1), V.of_ref (p2.trans q2)]
      have e : decide (xs[j]? = ys[j]?) = decide (xs[j] = ys[j]) := by
        rw [e1, e2]
        by_cases h : xs[j] = ys[j] <;> simp [h]
      rw [e]
      exact eqI i1 i2 hu
    · rw [show ws.size = xs.length by omega, zfw hlen]; exact k
  · have e : decide (xs = ys) = false := decide_eq_false fun h => hlen (by rw [h])
    rw [e] at k
    exact eq_list_lengthsAt hl hb (by simp; omega) (by omega) k
theorem r_inLL {xs : List (List Int)} (hl : IsL w s.heap a vs) (h1 : Rows2 w s.heap vs xs) (hb : IsL w s.heap b (ms.map V.int)) (hu : A.units + 1 < cLine) (k : Q (.bool (xs.any (· == ms))) s) : wpAny (model prog w) A (compareOp .In (.ref b) (.ref a)) Q E s := by
  obtain ⟨ws, hl, hm⟩ := hl
  have s1 := za4 hm
  have l1 := h1.1
  have key : ∀ (l : List Value) (us : List V) (xs : List (List Int)), l.map V.of = us → Rows2 w s.heap us xs → ∃ e : Value → Bool, (∀ y ∈ l, EqAt A.in1 s y (.ref b) (e y)) ∧ l.any e = xs.any (· == ms) := by
    intro l us xs h1 h2
    classical
    refine ⟨fun v => decide (∃ a x, v = .ref a ∧ IsL w s.heap a (x.map V.int) ∧ x = ms), fun y hy => ?_, ?_⟩
    · obtain ⟨j, hj, e⟩ := List.getElem_of_mem hy
      have d1 : us[j]? = some (V.of y) := by rw [← h1, List.getElem?_map, List.getElem?_eq_getElem hj, e]; rfl
      have hj' : j < xs.length := by rw [← h2.1, ← h1, List.length_map]; exact hj
      obtain ⟨a1, q1, i1⟩ := h2.2 j _ _ d1 (List.getElem?_eq_getElem hj')
      obtain rfl := V.of_ref q1
      have := eqI (A := A.in1) i1 hb hu
      have e : decide (∃ a x, Value.ref a1 = .ref a ∧ IsL w s.heap a (x.map V.int) ∧ x = ms) = decide (xs[j] = ms) := by
        by_cases h : xs[j] = ms
        · rw [decide_eq_true h]; exact decide_eq_true ⟨_, _, rfl, i1, h⟩
        · rw [decide_eq_false h]
          refine decide_eq_false fun ⟨a, x, e1, e2, e3⟩ => h ?_
          injection e1 with e1
          subst e1
          obtain ⟨ws, q1, m1⟩ := i1
          obtain ⟨zs, q2, m2⟩ := e2
          have : ws = zs := by
            obtain ⟨o, ho, _, n, hd⟩ := q1
            obtain ⟨o', ho', _, n', hd'⟩ := q2
            rw [ho] at ho'
            cases ho'
            rw [hd] at hd'
            injection hd' 
          subst this
          rw [← e3]
          exact (List.map_inj_right (fun x y h => by injection h)).mp (m1.symm.trans m2)
      exact Eq.mpr (congrArg (EqAt A.in1 s (Value.ref a1) (Value.ref b)) e) this
    · induction l generalizing us xs with
      | nil =>
        subst h1
        cases xs with
        | nil => rfl
        | cons _ _ => exact absurd h2.1 (by simp)
      | cons v r ih =>
        subst h1
        cases xs with
        | nil => exact absurd h2.1 (by simp)
        | cons x q =>
          have hr : Rows2 w s.heap (r.map V.of) q := ⟨by have := h2.1; simpa using this, fun i v x h3 h4 => h2.2 (i + 1) v x h3 h4⟩
          obtain ⟨a1, q1, i1⟩ := h2.2 0 _ _ rfl rfl
          obtain rfl := V.of_ref q1
          simp only [List.any_cons]
          rw [ih _ q rfl hr]
          congr 1
          by_cases h : x = ms
          · rw [beq_iff_eq.mpr h]; exact decide_eq_true ⟨_, _, rfl, i1, h⟩
          · rw [beq_false_of_ne h]
            refine decide_eq_false fun ⟨a, x', e1, e2, e3⟩ => h ?_
            injection e1 with e1
            subst e1
            obtain ⟨ws, q1, m1⟩ := i1
            obtain ⟨zs, q2, m2⟩ := e2
            have : ws = zs := by
              obtain ⟨o, ho, _, n, hd⟩ := q1
              obtain ⟨o', ho', _, n', hd'⟩ := q2
              rw [ho] at ho'
              cases ho'
              rw [hd] at hd'
              injection hd' 
            subst this
            rw [← e3]
            exact (List.map_inj_right (fun x y h => by injection h)).mp (m1.symm.trans m2)
  obtain ⟨e, he, hany⟩ := key ws.toList vs xs hm h1
  refine in_listAt e hl (fun y hy => he y (by simpa using hy)) ?_
  rw [← Array.any_toList, hany]; exact k
theorem zk7 {it : Addr} {i : Nat} {a : Addr} {elts : List Expr} {x1 : Nat} {tp : Pos} {v : Addr} {Q : Unit → Shared → Prop} (S : SS w G0 K g s ℓ) (hm : (it, .opq ((Src.seqL a vs).iter i)) ∈ ℓ) (h : Q () s) :
    wpAny (model prog w) A (letOwnedTupleGo (.Tuple elts x1 tp) (.ref it) (.ref v)) Q E s := by
  obtain ⟨o, ho, hc, hd⟩ := S.at hm
  exact wpAny_letOwnedTupleGo_listiter ⟨o, ho, hc, hd⟩ h
end
end Mine
end
section
namespace Mine
open PySem PySem.W PySem.Calls PyProof.Rows PySem.SeqAt
noncomputable abbrev tk (w : World) : HeapKind pg w (List Int) := tupleKind (PySem.intKind pg w)
noncomputable def TDict (w : World) (xs : List (List Int × Addr × Value)) (o : Obj) : Prop := ∃ es ep, o.ExactDict ∧ o.data = .dict es ep ∧ es.toList = xs.map (entryOfKey (tk w)) ∧ (xs.map (·.1)).Nodup
noncomputable abbrev TC (w : World) (xs : List (List Int × Addr × Value)) : Cell := .opq (TDict w xs)
noncomputable def xlook (kp : List (List Int × List Int)) (k : List Int) : Option (List Int) := (kp.find? fun x => decide (x.1 = k)).map (·.2)
theorem zho (kp : List (List Int × List Int)) (k k' st : List Int) : xlook ((k, st) :: kp) k' = if k' = k then some st else xlook kp k' := by
  unfold xlook
  by_cases h : k' = k
  · subst h; simp
  · rw [List.find?_cons, if_neg h]
    rw [decide_eq_false (fun e => h e.symm)]
structure KeptAre (g : PH) (xs : List (List Int × Addr × Value)) (kp : List (List Int × List Int)) : Prop where
  keys : ∀ x ∈ xs, g x.2.1 = some (.tup (x.1.map V.int))
  miss : ∀ k, atKey xs k = none → xlook kp k = none
  hit : ∀ k a v, atKey xs k = some (a, v) → ∃ sa st, v = .ref sa ∧ g sa = some (.list (st.map V.int)) ∧ xlook kp k = some st
theorem zis (xs : List (List Int × Addr × Value)) (k k' : List Int) (a : Addr) (v : Value) : (atKey (storedH xs k a v) k').map (·.2) = if k' = k then some v else (atKey xs k').map (·.2) := by
  cases h : atKey xs k with
  | none =>
    rw [storedH_new h]
    unfold atKey at h ⊢
    rw [List.find?_append]
    by_cases e : k' = k
    · subst e
      rw [Option.map_eq_none_iff] at h
      rw [h]; simp
    · rw [if_neg e]
      cases q : xs.find? (fun x => decide (x.1 = k')) with
      | some x => simp
      | none => simp [Ne.symm e]
  | some p =>
    rw [storedH_old h]
    unfold atKey at h ⊢
    have e1 : ∀ xs : List (List Int × Addr × Value), (xs.map (putAt k v)).find? (fun x => decide (x.1 = k')) = (xs.find? (fun x => decide (x.1 = k'))).map (putAt k v) := fun xs => by
      rw [List.find?_map]
      congr 1
      refine congrArg (fun f => List.find? f xs) (funext fun x => ?_)
      simp only [Function.comp, putAt]
      split <;> rfl
    rw [e1]
    by_cases e : k' = k
    · subst e
      rw [if_pos rfl]
      cases q : xs.find? (fun x => decide (x.1 = k')) with
      | none => rw [q] at h; cases h
      | some x =>
        have hx := List.find?_some q
        simp only [decide_eq_true_eq] at hx
        simp [putAt, hx]
    · rw [if_neg e]
      cases q : xs.find? (fun x => decide (x.1 = k')) with
      | none => rfl
      | some x =>
        have hx := List.find?_some q
        simp only [decide_eq_true_eq] at hx
        simp [putAt, hx, e]
theorem KeptAre.nil (g : PH) : KeptAre g [] [] := ⟨fun _ h => by simp at h, fun _ _ => rfl, fun _ _ _ h => by simp [atKey] at h⟩
theorem KeptAre.store {g : PH} {xs : List (List Int × Addr × Value)} {kp : List (List Int × List Int)} {k st : List Int} {a sa : Addr} (h : KeptAre g xs kp) (ha : g a = some (.tup (k.map V.int))) (hs : g sa = some (.list (st.map V.int))) : KeptAre g (storedH xs k a (.ref sa)) ((k, st) :: kp) := by
  have key := fun k' => zis xs k k' a (.ref sa)
  refine ⟨fun x hx => ?_, fun k' h' => ?_, fun k' b v h' => ?_⟩
  · cases q : atKey xs k with
    | none =>
      rw [storedH_new q] at hx
      rcases List.mem_append.mp hx with hx | hx
      · exact h.keys x hx
      · rw [List.mem_singleton.mp hx]; exact ha
    | some p =>
      rw [storedH_old q] at hx
      obtain ⟨y, hy, rfl⟩ := List.mem_map.mp hx
      have := h.keys y hy
      unfold putAt
      split <;> exact this
  · have := key k'
    rw [h'] at this
    rw [zho]
    by_cases e : k' = k
    · rw [if_pos e] at this; cases this
    · rw [if_neg e] at this ⊢
      exact h.miss k' (Option.map_eq_none_iff.mp this.symm)
  · have := key k'
    rw [h'] at this
    rw [zho]
    by_cases e : k' = k
    · rw [if_pos e] at this ⊢
      exact ⟨sa, st, Option.some.inj this, hs, rfl⟩
    · rw [if_neg e] at this ⊢
      cases q : atKey xs k' with
      | none => rw [q] at this; cases this
      | some p =>
        rw [q] at this
        obtain ⟨b', v'⟩ := p
        have e2 : v = v' := Option.some.inj this
        subst e2
        exact h.hit k' b' v q
theorem zgu {w : World} : ∀ {l : List Value} {ns : List Int}, l.map V.of = ns.map V.int → PySem.ItemsAre (PySem.intKind pg w) ns l
  | [], [], _ => .nil
  | [], _ :: _, h => by simp at h
  | _ :: _, [], h => by simp at h
  | v :: r, n :: q, h => by
    simp only [List.map_cons, List.cons.injEq] at h
    obtain ⟨t, rfl⟩ := V.of_int h.1
    exact .cons zdb (zgu h.2)
section
variable {w : World} {G0 : Heap} {K : Kon} {g g' : PH} {s s' : Shared} {ℓ ℓ' ρ : Led} {a b d L : Addr} {c c' : Cell} {h' : Heap} {t u : Tok} {p : Addr × Cell}
  {env : Env} {A : Around} {E : Value → Shared → Prop} {vs us : List V} {Q : Value → Shared → Prop} {k : List Int} {xs : List (List Int × Addr × Value)} {pos : Pos}
theorem zm1 {h : Heap} (x : IsT w h a (k.map V.int)) : (tk w).is h k a := by
  obtain ⟨ws, ⟨o, ho, hc, n, hd⟩, hm⟩ := x
  exact ⟨o, ws, n, ho, hc, hd, zgu hm⟩
theorem zn7 (S : SS w G0 K g s ℓ) (hm : (d, TC w xs) ∈ ℓ) (hk : ∀ x ∈ xs, g x.2.1 = some (.tup (x.1.map V.int))) : s.heap.DictOfH (tk w) d xs := by
  obtain ⟨o, ho, es, ep, h1, h2, h3, h4⟩ := S.at hm
  exact ⟨o, es, ep, ho, h1, h2, h3, fun x hx => zm1 (S.fact (hk x hx)).isT, h4⟩
theorem r_tdIn (S : SS w G0 K g s ℓ) (hm : (d, TC w xs) ∈ ℓ) (hk : ∀ x ∈ xs, g x.2.1 = some (.tup (x.1.map V.int))) (hd : (d == sysModules) = false) (hu : A.units + 1 < cLine) (ha : IsT w s.heap a (k.map V.int))
    (h : ∀ s', SS w G0 K g s' ℓ → Q (.bool (atKey xs k).isSome) s') : wpAny (model pg w) A (compareOp .In (.ref a) (.ref d)) Q E s :=
  wpAny_in_heap (knd := tk w) (tupleKind_room_in1 hu) (zm1 ha) hd (zn7 S hm hk) (h _ S.tok)
noncomputable def IsRefIdx (slice : Expr) : Prop := ∀ (b c : Addr), subscripted slice false (.ref b) (.ref c) = operate [.ref b, .ref c] (getItem (.ref b) (.ref c))
theorem znp {f : Expr} {as : List Expr} {ks : List Keyword} {p : Pos} : IsRefIdx (.Call f as ks p) := fun _ _ => by with_unfolding_all rfl
theorem zn8 {value slice : Expr} {q : Addr × Value} (S : SS w G0 K g s ℓ) (hm : (d, TC w xs) ∈ ℓ) (hk : ∀ x ∈ xs, g x.2.1 = some (.tup (x.1.map V.int))) (hu : A.units + 1 < cLine) (ha : IsT w s.heap a (k.map V.int)) (hq : atKey xs k = some q) (hs : IsRefIdx slice)
    (h : ∀ s', SS w G0 K g s' ℓ → Q q.2 s') : wpAny (model pg w) A (subscriptTail value slice (.ref d) (.ref a)) Q E s := by
  have hD := zn7 S hm hk
  exact tail_any hD.typeIs slot_dict_getitem.lookup (wpAny_getItem_heap (knd := tk w) (tupleKind_room_in1 hu) (zm1 ha) hD hq (h _ S.tok)) (hs _ _)
theorem zol {v : Value} {Q : Unit → Shared → Prop} (S : SS w G0 K g s ℓ) (hu' : Upd d (TC w xs) (TC w (storedH xs k a v)) ℓ ℓ') (hk : ∀ x ∈ xs, g x.2.1 = some (.tup (x.1.map V.int))) (hu : A.units + 1 < cLine) (ha : IsT w s.heap a (k.map V.int)) (hsz : xs.length ≤ sizeLine)
    (h : ∀ s', SS w G0 K g s' ℓ' → Q () s') : wpAny (model pg w) A (setItem (.ref d) (.ref a) v) Q E s := by
  have hD := zn7 S hu'.mem hk
  refine wpAny_setItem_heap (knd := tk w) (hsz := hsz) (tupleKind_room_in1 hu) (zm1 ha) hD fun h' hm' hs => h _ ?_
  obtain ⟨o, es, ep, ho, h1, h2, h3, h4, h5⟩ := hm'
  exact S.change (t := _) hu' hs ⟨o, ho, es, ep, h1, h2, h3, h5⟩
theorem znn (S : SS w G0 K g s (p :: ℓ)) (G : Gd w G0) (h : ∀ d s', K.s₀.heap.get? d = none → (d == sysModules) = false → SS w G0 K g s' (p :: (d, TC w []) :: ℓ) → Q (.ref d) s') : wpAny (model pg w) A (eval (.Dict [] [] pos) env) Q E s := by
  refine wpAny_Dict_empty (h _ _ (S.unborn (zay _)) ?_ (S.push2 (c := TC w []) (t := s.toks) ?_ rfl))
  · obtain ⟨mg, o, es, n, ho, _⟩ := G.gl
    have h3 : mainGlobals < s.heap.objs.size := Heap.lt_size (S.st.inv.stat _ _ ho)
    have e3 : mainGlobals = 3 := rfl
    have e1 : sysModules = 1 := rfl
    have : s.heap.objs.size ≠ sysModules := by
      intro e; rw [e, e1, e3] at h3; exact absurd h3 (by decide)
    exact beq_false_of_ne this
  · exact ⟨#[], 0, ⟨rfl, rfl, rfl⟩, rfl, rfl, List.nodup_nil⟩
end
end Mine
end
section
namespace Mine
open PySem PySem.W PySem.Calls PyProof.Rows
structure Gl (w : World) (G0 : Heap) : Prop extends Gd w G0 where
  bmain : ∃ mg bm ob, G0.Ns mainGlobals mg ∧ mg "__builtins__" = some (.ref bm) ∧ bm ≠ builtinsNs ∧ bm ≠ mainGlobals ∧ G0.get? bm = some ob ∧ ob.cls = .type "module" ∧ ob.dict = some builtinsNs ∧ ob.data = .plain
noncomputable def IsCodeRec (q : Str) (o : Obj) : Prop := ∃ vs t, o.data = .fields vs ∧ vs[1]? = some (.str q t)
noncomputable def TabOk (q : Str) (g : PH) (ps : Array Value) : Prop := TriplesOk ps.toList ∧ ∀ pos cv, codeAmong pos ps.toList = some cv → ∃ c', cv = .ref c' ∧ g c' = some (.opq (IsCodeRec q))
noncomputable abbrev TabC (ps : Array Value) : Cell := .raw (tabObj ps)
theorem TabOk.mono {q : Str} {g g' : PH} {ps : Array Value} (h : TabOk q g ps) (l : ∀ a c, g a = some c → g' a = some c) : TabOk q g' ps := ⟨h.1, fun pos cv e => by
  obtain ⟨c', e1, e2⟩ := h.2 pos cv e
  exact ⟨c', e1, l _ _ e2⟩⟩
theorem TabOk.nil (q : Str) (g : PH) : TabOk q g #[] := ⟨trivial, fun _ _ h => by simp [codeAmong] at h⟩
theorem ze7 {pos : Pos} {a b : Int} {c cv : Value} (l : List Value) (h : TriplesOk l) (e : codeAmong pos (l ++ [rawInt a, rawInt b, c]) = some cv) : codeAmong pos l = some cv ∨ cv = c := by
  fun_induction TriplesOk l with
  | case1 =>
    simp only [List.nil_append, rawInt, codeAmong] at e
    split at e
    · exact .inr (Option.some.inj e).symm
    · cases e
  | case2 a' t b' u x rest ih =>
    simp only [List.cons_append, codeAmong] at e ⊢
    split at e
    · rename_i hc; rw [if_pos hc]; exact .inl e
    · rename_i hc; rw [if_neg hc]; exact ih h e
  | case3 l h1 h2 => exact h.elim
section
variable {w : World} {G0 : Heap} {Φ : List Addr} {h₀ h h' : Heap} {g₀ g : PH} {C : List Addr} {ℓ ℓ' : Led} {a b : Addr} {c c' d : Cell}
theorem St.mutAdd {o' : Obj} (S : St w G0 Φ h₀ g₀ C g h ℓ) (u : Upd a c c' ℓ ℓ') (hs : ∀ b o, b ≠ a → h.get? b = some o → h'.get? b = some o) (ha : h'.get? a = some o') (hac : c'.holds w o')
    (hb : h.get? b = none) (hbd : At w h' b d) : St w G0 Φ h₀ g₀ C g h' ((b, d) :: ℓ') := by
  obtain ⟨oP, hoP, hP⟩ := S.inv.led _ u.mem
  have hne : b ≠ a := fun e => by rw [e] at hb; rw [hoP] at hb; cases hb
  have hfr : oP.isFreed = false := (Heap.get?_some_iff.mp hoP).2
  have h1 : (h'.update a fun _ => oP).get? a = some oP := Heap.get?_update_self _ ha hfr
  have h2 : ∀ x, x ≠ a → (h'.update a fun _ => oP).get? x = h'.get? x := fun x hx => Heap.get?_update_other _ _ (Ne.symm hx)
  have S₁ : St w G0 Φ h₀ g₀ C g (h'.update a fun _ => oP) ((b, d) :: ℓ) := by
    refine S.add hb (fun x o e => ?_) ?_
    · by_cases hx : x = a
      · subst hx; rw [hoP] at e; cases e; exact h1
      · rw [h2 x hx]; exact hs x o hx e
    · obtain ⟨o, ho, r⟩ := hbd
      exact ⟨o, by rw [h2 b hne]; exact ho, r⟩
  refine S₁.mutate (.tail u) (fun x o hx e => by rw [h2 x hx] at e; exact e) ⟨o', ha, hac⟩ fun x e => ?_
  by_cases hx : x = a
  · subst hx; rw [ha] at e; cases e
  · rw [h2 x hx]; exact e
end
section
variable {w : World} {G0 : Heap} {K : Kon} {g g' : PH} {s s' : Shared} {ℓ ℓ' ρ : Led} {a L c P : Addr} {loc : Loc}
  {env : Env} {fr : Option Addr} {kinds : List (Str × NameKind)} {cl : List (Str × Addr)} {A : Around} {E : Value → Shared → Prop} {Q : Value → Shared → Prop} {params : Arguments} {body : Expr} {scope : Scope} {pos : Pos} {ps : Array Value} {qual : Str}
theorem zfe (G : Gl w G0) (X : EnvOk env L fr kinds cl) (hcode : env.code = .ref c) (hq : env.qual ++ "<lambda>" = qual) (C : CodeHd G0 c P) (hPg : G0.get? P = none) (S : SS w G0 K g s ((L, .ns loc) :: (P, TabC ps) :: ρ)) (T : TabOk qual g ps) (hfree : closAll cl scope.names) (hdef : defaultsOf params env = ([], []))
    (k : ∀ f g' ps' s' pm c' ctv, g.le g' → TabOk qual g' ps' → g' f = some (.raw (kla_obj "<lambda>" qual params body scope (closOf cl scope.names []) pm c' ctv)) → g' c' = some (.opq (IsCodeRec qual)) → SS w G0 K g' s' ((L, .ns loc) :: (P, TabC ps') :: ρ) → Q (.ref f) s') :
    wpAny (model pg w) A (eval (.Lambda params body scope pos) env) Q E s := by
  refine kla_eval hdef ?_
  rw [hq]
  obtain ⟨mg, bm, ob, hg, b1, b2, b3, b4, b5, b6, b7⟩ := G.bmain
  have stat := S.st.inv.stat
  obtain ⟨oP, hP, rfl⟩ := S.at (.tail _ (.head _))
  have hgP : mainGlobals ≠ P := fun e => by
    obtain ⟨o, es, n, ho, _⟩ := hg
    rw [e, hPg] at ho; cases ho
  have hbP : bm ≠ P := fun e => by rw [e, hPg] at b4; cases b4
  have hB : s.heap.BuiltinsAt mg P := ⟨bm, ob, b1, b2, b3, hbP, stat _ _ b4, b5, b6, b7⟩
  have hgs : s.heap.Ns mainGlobals mg := hg.keeps stat
  have hcl := zfh X hfree
  obtain ⟨ht, hT⟩ := T
  cases hf : codeAmong pos ps.toList with
  | some cv =>
    obtain ⟨c', rfl, hc'⟩ := hT _ _ hf
    refine kla_makeFunctionHit (mg := mg) hcl X.glob hgs hcode (C.keeps stat) hP ht hf hB fun ctv h' tk hk hsz => ?_
    have S₁ := S.grow (t := tk) hk
    have hfn : K.s₀.heap.get? h'.objs.size = none := S₁.unborn (zay _)
    have S₂ := (S₁.push (t := tk) (c := .raw (kla_obj "<lambda>" qual params body scope (closOf cl scope.names []) ((mg "__name__").getD .none) c' ctv)) rfl rfl)
    have hgf : g h'.objs.size = none := S₂.st.inv.gl _ (.head _)
    have S₃ := S₂.freeze' hfn
    exact k h'.objs.size _ ps _ _ c' ctv (PH.le_set hgf) (TabOk.mono ⟨ht, hT⟩ (PH.le_set hgf)) PH.set_self (PH.le_set hgf _ _ hc') S₃
  | none =>
    refine kla_makeFunction (mg := mg) hcl X.glob hgs hcode (C.keeps stat) hP ht hf hgP hB fun c' ctv h' tk hx hge hlt hrec htb => ?_
    obtain ⟨c₂, oc, vs, t, e2, hoc, hd, hv⟩ := hrec
    cases e2
    have hcn : s.heap.get? c' = none := Heap.get?_none_of_le hge
    have S₁ : SS w G0 K g { s with heap := h', toks := tk } ((c', .opq (IsCodeRec qual)) :: (L, .ns loc) :: (P, TabC (ps ++ #[rawInt pos.line, rawInt pos.col, .ref c'])) :: ρ) :=
      ⟨S.st.mutAdd (.tail .head) (fun b o hb e => hx b o hb e) htb rfl hcn ⟨oc, hoc, vs, t, hd, hv⟩, S.same.trans ⟨rfl, rfl, rfl⟩⟩
    have hgc : g c' = none := S₁.st.inv.gl _ (.head _)
    have S₂ := S₁.freeze' (S.unborn hcn)
    have hfn : K.s₀.heap.get? h'.objs.size = none := S₂.unborn (zay _)
    have S₃ := (S₂.push (t := tk) (c := .raw (kla_obj "<lambda>" qual params body scope (closOf cl scope.names []) ((mg "__name__").getD .none) c' ctv)) rfl rfl)
    have hgf : (g.set c' (.opq (IsCodeRec qual))) h'.objs.size = none := S₃.st.inv.gl _ (.head _)
    have S₄ := S₃.freeze' hfn
    have l1 : g.le (g.set c' (.opq (IsCodeRec qual))) := PH.le_set hgc
    have l2 := PH.le_set (c := .raw (kla_obj "<lambda>" qual params body scope (closOf cl scope.names []) ((mg "__name__").getD .none) c' ctv)) hgf
    refine k h'.objs.size _ (ps ++ #[rawInt pos.line, rawInt pos.col, .ref c']) _ _ c' ctv (l1.trans l2) ⟨?_, fun pos' cv e => ?_⟩ PH.set_self (l2 _ _ PH.set_self) S₄
    · rw [Array.toList_append]; exact TriplesOk_snoc _ _ _ _ ht
    · rw [Array.toList_append] at e
      rcases ze7 _ ht e with e | rfl
      · obtain ⟨c3, q1, q2⟩ := hT _ _ e
        exact ⟨c3, q1, l2 _ _ (l1 _ _ q2)⟩
      · exact ⟨c', rfl, l2 _ _ PH.set_self⟩
end
end Mine
end
section
namespace Mine
open PySem PySem.W PySem.Calls PyProof.Rows
theorem zkz (xs : List Str) : (Txt.join (Str.ofString "") xs).cps.toList = (xs.map fun x => x.cps.toList).flatten := by
  have key : ∀ (l : List Str) (acc : Array Nat), (l.foldl (fun acc p => acc ++ (Str.ofString "").cps ++ p.cps) acc).toList = acc.toList ++ (l.map fun x => x.cps.toList).flatten := by
    intro l
    induction l with
    | nil => intro acc; simp
    | cons x r ih =>
      intro acc
      rw [List.foldl_cons, ih]
      have e : (Str.ofString "").cps = #[] := by decide +kernel
      rw [e]
      simp
  show ((xs.drop 1).foldl (fun acc p => acc ++ (Str.ofString "").cps ++ p.cps) (xs.headD Str.empty).cps).toList = _
  rw [key]
  cases xs with
  | nil => rfl
  | cons x r => simp
section
variable {prog : Program} {w : World} {G0 : Heap} {K : Kon} {g g' : PH} {s s' : Shared} {ℓ ℓ' ρ : Led} {a b L : Addr} {c c' : Cell} {h' : Heap} {t u : Tok} {p : Addr × Cell}
  {env : Env} {A : Around} {E : Value → Shared → Prop} {vs us : List V} {i j : Int} {Q : Value → Shared → Prop} {ns ms : List Int}
theorem zhs : ∀ {l : List Value} {xs : List Str}, l.map V.of = xs.map V.str → ∃ ps : List (Str × Tok), l = strValues ps ∧ ps.map (·.1) = xs
  | [], [], _ => ⟨[], rfl, rfl⟩
  | [], _ :: _, h => by simp at h
  | _ :: _, [], h => by simp at h
  | v :: r, x :: q, h => by
    simp only [List.map_cons, List.cons.injEq] at h
    obtain ⟨t, rfl⟩ := V.of_str h.1
    obtain ⟨ps, rfl, e⟩ := zhs h.2
    exact ⟨(x, t) :: ps, rfl, by rw [List.map_cons, e]⟩
theorem r_join {xs : List Str} {x : Str} (S : SS w G0 K g s ℓ) (hl : IsL w s.heap a (xs.map V.str)) (hsz : (xs.map (·.length)).sum + xs.length * x.length ≤ sizeLine) (k : ∀ t s', SS w G0 K g s' ℓ → Q (.str (Txt.join x xs) t) s') : wpAny (model prog w) A (call (.builtin "str.join") [.str x t, .ref a]) Q E s := by
  obtain ⟨ws, hl, hm⟩ := hl
  obtain ⟨ps, e, e2⟩ := zhs hm
  have e' : ws = (strValues ps).toArray := by rw [← e]
  rw [e'] at hl
  refine SC.join hl e2 ?_ fun t' tk => k _ _ S.tok
  unfold JoinOk
  rw [StrLaws.joinTotal]
  unfold Builtin.Str.tooLong
  simp; omega
theorem r_revL {value : Expr} {lower upper step : Option Expr} {pp : Pos} {vk : Value} {ops : List Value} (S : SS w G0 K g s (p :: ℓ)) (hl : IsL w s.heap a vs) (hsz : vs.length ≤ sizeLine) (pk : IsPart vk (some (-1))) (hs : subscripted (.Slice lower upper step pp) false (.ref a) (.ref s.heap.objs.size) = operate ops (getItem (.ref a) (.ref s.heap.objs.size)))
    (k : ∀ r s', K.s₀.heap.get? r = none → SS w G0 K g s' (p :: (r, .list vs.reverse) :: ℓ) → Q (.ref r) s') :
    wpAny (model prog w) A (subscriptTail value (.Slice lower upper step pp) (.ref a) (.ref s.heap.objs.size)) Q E { s with heap := s.heap.push { cls := .type "slice", data := .fields #[.none, .none, vk] } } := by
  obtain ⟨ws, hl, hm⟩ := hl
  have S₁ : SS w G0 K g { s with heap := s.heap.push { cls := .type "slice", data := .fields #[.none, .none, vk] } } (p :: ℓ) := S.grow (t := s.toks) fun b o e => Heap.get?_push_of_some _ e
  have hl₁ : (s.heap.push { cls := .type "slice", data := .fields #[.none, .none, vk] }).IsList a ws := hl.push _
  refine tail_any (Heap.IsList.typeIs (s := { s with heap := s.heap.push { cls := .type "slice", data := .fields #[.none, .none, vk] } }) hl₁) slot_list_getitem.lookup
    (wpAny_getItem_list_slice hl₁ (Heap.IsSliceOf.new ..) .none .none pk (by decide) ?_ (by rw [za4 hm]; exact hsz)) hs
  rw [krv_pick]
  exact k _ _ (S₁.unborn (zay _)) (S₁.push2 (t := s.toks) ⟨_, _, rfl, by rw [List.map_reverse, hm]⟩ rfl)
end
end Mine
end
section
namespace Mine
open PySem PySem.W PySem.Calls PyProof.Rows
theorem zf6 : fillsNumberSlot (.type "tuple") "mul" = pure false := by
  first
  | kernel_rfl
  | (unfold fillsNumberSlot; kernel_rfl)
theorem zif : seqRepeat? (.type "tuple") = pure (some (.builtin "tuple.__mul__")) := by
  first
  | kernel_rfl
  | (unfold seqRepeat?; kernel_rfl)
theorem zed (a : Int) (t : Tok) (l : Addr) (items : Array Value) (n : Nat) (d : Option Addr) (sl : Array (Option Value)) :
    Meets (Builtin.«int.__rmul__» ⟨[.int a t, .ref l], []⟩) (fun _ R s => s.heap.get? l = some { cls := .type "tuple", dict := d, data := .seq items n, slots := sl } ∧ R (.ok (.ret Value.notImplemented)) s) :=
  .of_wp fun prog w A R s h => by obtain ⟨hp, g, d, tk, os⟩ := s; obtain ⟨hl, h⟩ := h; wp_walk; exact ⟨_, rfl, h⟩
theorem zf7 (l : Addr) (items : Array Value) (n : Nat) (d : Option Addr) (sl : Array (Option Value)) (u : Tok) :
    Meets (Builtin.«tuple.__mul__» ⟨[.ref l, .int 1 u], []⟩) (fun _ R s => s.heap.get? l = some { cls := .type "tuple", dict := d, data := .seq items n, slots := sl } ∧ R (.ok (.ret (Value.ref l))) s) :=
  .of_wp fun prog w A R s h => by
    obtain ⟨hp, g, d, tk, os⟩ := s; obtain ⟨hl, h⟩ := h
    have f1 := AutoSeq1.idx_int
    have e1 : (items.isEmpty || (1 : Int) == 1) = true := by simp
    wp_walk using wpAny_loadPart' hl
    exact ⟨_, rfl, h⟩
theorem zib (l : Addr) (items : Array Value) (n : Nat) (d : Option Addr) (sl : Array (Option Value)) (x : Int) (u : Tok) (hne : items.isEmpty = false) (h1 : 2 ≤ x) (h2 : items.size * x.toNat ≤ 2 ^ 20) :
    Meets (Builtin.«tuple.__mul__» ⟨[.ref l, .int x u], []⟩) (fun _ R s => s.heap.get? l = some { cls := .type "tuple", dict := d, data := .seq items n, slots := sl } ∧ R (.ok (.ret (Value.ref s.heap.objs.size))) { s with heap := s.heap.push { cls := .type "tuple", data := .seq ((List.replicate x.toNat items).foldl (· ++ ·) #[]) } }) :=
  .of_wp fun prog w A R s h => by
    obtain ⟨hp, g, d, tk, os⟩ := s; obtain ⟨hl, h⟩ := h
    have f1 := AutoSeq1.idx_int
    have e1 : ¬ (items.isEmpty || x == 1) = true := by rw [hne]; simp; omega
    have hpos : 1 ≤ items.size := by
      rcases Nat.eq_zero_or_pos items.size with h | h
      · rw [Array.isEmpty_iff_size_eq_zero.mpr h] at hne; cases hne
      · exact h
    have hx : x.toNat ≤ 2 ^ 20 := Nat.le_trans (Nat.le_mul_of_pos_left _ hpos) h2
    have hx2 : x ≤ 1048576 := by have : (2 : Nat) ^ 20 = 1048576 := by decide
                                 omega
    have hm : (items.size : Int) * x ≤ 1048576 := by
      have e : (items.size : Int) * x = ((items.size * x.toNat : Nat) : Int) := by
        rw [Int.natCast_mul, Int.toNat_of_nonneg (by omega)]
      rw [e]
      have : (2 : Nat) ^ 20 = 1048576 := by decide
      omega
    have e63 : (2 : Int) ^ 63 = 9223372036854775808 := by decide
    have e2 : ¬ (decide (x < -2 ^ 63) || decide (x ≥ 2 ^ 63)) = true := by rw [e63]; simp; omega
    have e3 : ¬ (decide (x ≤ 0) || items.isEmpty) = true := by rw [hne]; simp; omega
    have e4 : ¬ ((items.size : Int) * x > (2 ^ 63 - 1) / 8) := by rw [e63]; omega
    have e5 : ¬ Builtin.Tuple.tupleTooMany ((items.size : Int) * x) = true := by
      unfold Builtin.Tuple.tupleTooMany
      rw [sizeLine_eq]; simp; omega
    have hfit : ((List.replicate x.toNat items).foldl (· ++ ·) (#[] : Array Value)).size ≤ sizeLine := by
      have key : ∀ (k : Nat) (acc : Array Value), ((List.replicate k items).foldl (· ++ ·) acc).size = acc.size + k * items.size := by
        intro k
        induction k with
        | zero => intro acc; simp
        | succ k ih => intro acc; rw [List.replicate_succ, List.foldl_cons, ih, Array.size_append, Nat.add_mul]; omega
      rw [key, sizeLine_eq]
      have : (2 : Nat) ^ 20 = 1048576 := by decide
      rw [Nat.mul_comm] at h2
      show 0 + _ ≤ _
      omega
    wp_walk using wpAny_loadPart' hl
    rw [if_neg e2]
    wp_walk using wpAny_loadPart' hl
    rw [if_neg e1]
    dsimp only
    rw [if_neg e3, if_neg e4, if_neg e5]
    exact wpAny_bind (m := Builtin.Tuple.tupleExact _) (wpAny_newObj_type (wpAny_pure ⟨_, rfl, h⟩) hfit)
section
variable {prog : Program} {w : World} {G0 : Heap} {K : Kon} {g g' : PH} {s s' : Shared} {ℓ ℓ' ρ : Led} {a b L : Addr} {c c' : Cell} {h' : Heap} {t u : Tok} {p : Addr × Cell}
  {env : Env} {A : Around} {E : Value → Shared → Prop} {vs us : List V} {i j : Int} {Q : Value → Shared → Prop} {ns ms : List Int}
theorem zlp (S : SS w G0 K g s (p :: (a, .tup vs) :: ℓ)) (hne : vs ≠ []) (h1 : 1 ≤ i) (hsz : vs.length * i.toNat ≤ 2 ^ 20) (ha : K.s₀.heap.get? a = none) (k : ∀ r s', K.s₀.heap.get? r = none → SS w G0 K g s' (p :: (r, .tup (List.replicate i.toNat vs).flatten) :: ℓ) → Q (.ref r) s') :
    wpAny (model prog w) A (binaryOp .Mult (.ref a) (.int i u)) Q E s := by
  obtain ⟨o, ho, ws, rfl, hm⟩ := S.at (.tail _ (.head _))
  have hws : ws.isEmpty = false := by
    cases q : ws.isEmpty with
    | false => rfl
    | true => exact absurd (by rw [← hm]; simp [Array.isEmpty_iff.mp q]) hne
  refine wpAny_binaryOp_repeat_ref (T := "tuple") (U := "int") (by decide) ⟨_, ho, rfl⟩ (fun s' => typeIs_int s' i u) zf6 F.fills_int_mul F.slot_int_rmul zif F.slot_int_index.lookup
    (call_meets F.slot_int_rmul (typeIs_int s i u) F.entry_int_rmul (F.args_int_rmul_2 _ _) (zed i u a ws _ _ _)
      ⟨ho, rfl, ⟨_, ho, rfl⟩, ?_⟩)
  by_cases e1 : i = 1
  · subst e1
    refine call_meets PySem.F.slot_tuple_mul ⟨_, ho, rfl⟩ PySem.F.entry_tuple_mul (PySem.F.args_tuple_mul_2 _ _) (zf7 a ws _ _ _ u) ⟨ho, ?_⟩
    have e : (List.replicate (1 : Int).toNat vs).flatten = vs := by simp
    rw [e] at k
    exact k a s ha S
  · refine call_meets PySem.F.slot_tuple_mul ⟨_, ho, rfl⟩ PySem.F.entry_tuple_mul (PySem.F.args_tuple_mul_2 _ _) (zib a ws _ _ _ i u hws (by omega) (by rw [za4 hm]; exact hsz)) ⟨ho, ?_⟩
    have S₂ := S.push2 (c := .tup (List.replicate i.toNat vs).flatten) (t := s.toks) (o := { cls := .type "tuple", data := .seq ((List.replicate i.toNat ws).foldl (· ++ ·) #[]) }) ⟨_, rfl, by
      have key : ∀ (k : Nat) (acc : Array Value), ((List.replicate k ws).foldl (· ++ ·) acc).toList.map V.of = acc.toList.map V.of ++ (List.replicate k vs).flatten := by
        intro k
        induction k with
        | zero => intro acc; simp
        | succ k ih => intro acc; rw [List.replicate_succ, List.foldl_cons, ih, Array.toList_append, List.map_append, hm, List.replicate_succ, List.flatten_cons, List.append_assoc]
      rw [key]; simp⟩ rfl
    exact k _ _ (S.unborn (zay _)) (S₂.sel (.cons .head (.cons .head (.drop .refl))))
end
end Mine
end
section
namespace Mine
open PySem PySem.W PySem.Calls PyProof.Rows PySem.SeqAt
noncomputable abbrev tks (s : Shared) (n : Nat) : Shared := { s with toks := n }
structure Ev (w : World) (A : Around) (E : Value → Shared → Prop) (env : Env) (s : Shared) (n : Nat) (e : Expr) (v : Value) (m : Nat) : Prop where
  run : ∀ Q : Value → Shared → Prop, Q v (tks s m) → wpAny (model pg w) A (eval e env) Q E (tks s n)
structure EvT (w : World) (A : Around) (E : Value → Shared → Prop) (env : Env) (s : Shared) (n : Nat) (e : Expr) (b : Bool) (m : Nat) : Prop where
  run : ∀ Q : Bool → Shared → Prop, Q b (tks s m) → wpAny (model pg w) A (isTrue e env (eval e env)) Q E (tks s n)
noncomputable def notStar : Expr → Bool
  | .Starred .. => false
  | _ => true
structure EvL (w : World) (A : Around) (E : Value → Shared → Prop) (env : Env) (s : Shared) (n : Nat) (es : List Expr) (vs : List Value) (m : Nat) : Prop where
  plain : es.all notStar = true
  run : ∀ (pos : Pos) (Q : List Value → Shared → Prop), Q vs (tks s m) → wpAny (model pg w) A (spliced (backTo pos (starEach es env))) Q E (tks s n)
structure EvC (w : World) (A : Around) (E : Value → Shared → Prop) (s : Shared) (n : Nat) (f : Value) (vs : List Value) (v : Value) (m : Nat) : Prop where
  run : ∀ Q : Value → Shared → Prop, Q v (tks s m) → wpAny (model pg w) A (call f vs) Q E (tks s n)
inductive Callee (w : World) : Value → Prop
  | fn {f : Addr} (h : keepIn (KK w) (.ref f) = true) : Callee w (.ref f)
  | bi (f : String) : Callee w (.builtin f)
  | ty (f : String) : Callee w (.type f)
structure EvO (w : World) (A : Around) (E : Value → Shared → Prop) (op : CmpOp) (a b : Value) (r : Bool) : Prop where
  run : ∀ (Q : Value → Shared → Prop) (s : Shared), Q (.bool r) s → wpAny (model pg w) A (compareOp op a b) Q E s
inductive OfV : Value → V → Prop
  | ref (a : Addr) : OfV (.ref a) (.ref a)
  | int (i : Int) (t : Tok) : OfV (.int i t) (.int i)
  | bool (b : Bool) : OfV (.bool b) (.bool b)
  | str (x : Str) (t : Tok) : OfV (.str x t) (.str x)
  | none : OfV .none .none
theorem OfV.eq {v : Value} {p : V} (h : OfV v p) : V.of v = p := by cases h <;> rfl
theorem zcl {e : Expr} {es : List Expr} {env : Env} (h : notStar e = true) : starEach (e :: es) env = (false, eval e env) :: starEach es env := by
  cases e <;> first | rfl | cases h
theorem zdj {env : Env} {pos : Pos} : ∀ {es : List Expr}, es.all notStar = true → (backTo pos (starEach es env)).any (·.1) = false
  | [], _ => rfl
  | e :: es, h => by
    have h := Bool.and_eq_true_iff.mp (show (notStar e && es.all notStar) = true from h)
    rw [zcl h.1]
    exact zdj (es := es) h.2
section
variable {w : World} {G0 : Heap} {K : Kon} {g : PH} {s : Shared} {ℓ : Led} {a L : Addr} {c : Cell} {n m l : Nat} {t u : Tok}
  {env : Env} {fr : Option Addr} {kinds : List (Str × NameKind)} {cl : List (Str × Addr)} {loc loc' : Loc} {A : Around} {E : Value → Shared → Prop} {x : Str} {pos pos' np : Pos} {i j : Int} {b : Bool} {v f : Value} {e e1 e2 : Expr} {es : List Expr} {vs : List Value} {y z : Str}
theorem r_ev {Q : Value → Shared → Prop} (h : Ev w A E env s n e v m) (k : Q v (tks s m)) : wpAny (model pg w) A (eval e env) Q E (tks s n) := h.run Q k
theorem zbs {Q : Bool → Shared → Prop} (h : EvT w A E env s n e b m) (k : Q b (tks s m)) : wpAny (model pg w) A (isTrue e env (eval e env)) Q E (tks s n) := h.run Q k
theorem zaf {Q : List Value → Shared → Prop} (h : EvL w A E env s n es vs m) (k : Q vs (tks s m)) : wpAny (model pg w) A (spliced (backTo pos (starEach es env))) Q E (tks s n) := h.run pos Q k
theorem zag (X : EnvOk env L fr kinds cl) (S : SS w G0 K g s ((L, .ns loc) :: ℓ)) (hk : (x, .local) ∈ kinds) (hv : (x, some (.int i)) ∈ loc) : Ev w A E env s n (.Name x pos) (.int i (tokAt s.heap L x)) n := ⟨fun Q h => r_int (s := tks s n) X S hk hv h⟩
theorem zct (X : EnvOk env L fr kinds cl) (S : SS w G0 K g s ((L, .ns loc) :: ℓ)) (hk : (x, .local) ∈ kinds) (hv : (x, some (.str y)) ∈ loc) : Ev w A E env s n (.Name x pos) (.str y (tokAt s.heap L x)) n := ⟨fun Q h => r_str (s := tks s n) X S hk hv h⟩
theorem zae (X : EnvOk env L fr kinds cl) (S : SS w G0 K g s ((L, .ns loc) :: ℓ)) (hk : (x, .local) ∈ kinds) (hv : (x, some (.ref a)) ∈ loc) : Ev w A E env s n (.Name x pos) (.ref a) n := ⟨fun Q h => zof (s := tks s n) X S hk hv h⟩
theorem zbw (X : EnvOk env L fr kinds cl) (S : SS w G0 K g s ((L, .ns loc) :: ℓ)) (hk : (x, .local) ∈ kinds) (hv : (x, some (.bool b)) ∈ loc) : Ev w A E env s n (.Name x pos) (.bool b) n := ⟨fun Q h => r_bool (s := tks s n) X S hk hv h⟩
theorem zh1 (X : EnvOk env L fr kinds cl) (S : SS w G0 K g s ((L, .ns loc) :: ℓ)) (hk : (x, .local) ∈ kinds) (hv : (x, some .none) ∈ loc) : Ev w A E env s n (.Name x pos) .none n := ⟨fun Q h => r_none (s := tks s n) X S hk hv h⟩
theorem zaw (X : EnvOk env L fr kinds cl) (S : SS w G0 K g s ℓ) (hk : (x, .globalImplicit) ∈ kinds) (hg : Glob G0 x v) : Ev w A E env s n (.Name x pos) v n := ⟨fun Q h => zax (s := tks s n) X S hk hg h⟩
theorem zad (X : EnvOk env L fr kinds cl) (S : SS w G0 K g s ℓ) (hk : (x, .cell) ∈ kinds ∨ (x, .free) ∈ kinds) (hc : (x, a) ∈ cl) {b : Addr} (hm : (a, .cell (some (.ref b))) ∈ ℓ) : Ev w A E env s n (.Name x pos) (.ref b) n := ⟨fun Q h => zn9 (s := tks s n) X hk hc S hm h⟩
theorem zga (X : EnvOk env L fr kinds cl) (S : SS w G0 K g s ℓ) (hk : (x, .cell) ∈ kinds ∨ (x, .free) ∈ kinds) (hc : (x, a) ∈ cl) (hm : (a, .cell (some (.int i))) ∈ ℓ) : Ev w A E env s n (.Name x pos) (.int i (tokAt s.heap a x)) n := ⟨fun Q h => zoh (s := tks s n) X hk hc S hm h⟩
theorem zj7 (X : EnvOk env L fr kinds cl) (S : SS w G0 K g s ℓ) (hk : (x, .cell) ∈ kinds ∨ (x, .free) ∈ kinds) (hc : (x, a) ∈ cl) (hm : (a, .cell (some (.str y))) ∈ ℓ) : Ev w A E env s n (.Name x pos) (.str y (tokAt s.heap a x)) n := ⟨fun Q h => zns (s := tks s n) X hk hc S hm h⟩
theorem zac {kk : Nat} : Ev w A E env s n (.Constant (.int i) kk pos) (.int i n) (n + 1) := ⟨fun Q h => r_cint (s := tks s n) h⟩
theorem zb5 {kk : Nat} : Ev w A E env s n (.Constant (.str y) kk pos) (.str y n) (n + 1) := ⟨fun Q h => r_cstr (s := tks s n) h⟩
theorem zbu {kk : Nat} : Ev w A E env s n (.Constant (.bool b) kk pos) (.bool b) n := ⟨fun Q h => PyProof.Rows.Constant_bool h⟩
theorem zep {kk : Nat} : Ev w A E env s n (.Constant .none kk pos) .none n := ⟨fun Q h => PyProof.Rows.Constant_none h⟩
theorem zdr (h1 : Ev w A E env s n e1 (.int i t) m) (h2 : Ev w A E env s m e2 (.int j u) l) : Ev w A E env s n (.BinOp e1 .Add e2 pos) (.int (i + j) l) (l + 1) := ⟨fun Q h => wpAny_BinOp (h1.run _ (h2.run _ (zeq (s := tks s l) h)))⟩
theorem zlt (h1 : Ev w A E env s n e1 (.int i t) m) (h2 : Ev w A E env s m e2 (.int j u) l) : Ev w A E env s n (.BinOp e1 .Sub e2 pos) (.int (i - j) l) (l + 1) := ⟨fun Q h => wpAny_BinOp (h1.run _ (h2.run _ (zmp (s := tks s l) h)))⟩
theorem ze9 (h1 : Ev w A E env s n e1 (.int 256 t) m) (h2 : Ev w A E env s m e2 (.int j u) l) : Ev w A E env s n (.BinOp e1 .Mult e2 pos) (.int (256 * j) l) (l + 1) := ⟨fun Q h => wpAny_BinOp (h1.run _ (h2.run _ (zmo (s := tks s l) h)))⟩
theorem zeu (h1 : Ev w A E env s n e1 (.int i t) m) : Ev w A E env s n (.UnaryOp .USub e1 pos) (.int (-i) m) (m + 1) := ⟨fun Q h => PyProof.Rows.UnaryOp_ (h1.run _ (r_neg (s := tks s m) h))⟩
theorem zih : EvO w A E .Lt (.int i t) (.int j u) (decide (i < j)) := ⟨fun _ _ h => PyProof.Rows.lt_int h⟩
theorem zmc : EvO w A E .Gt (.int i t) (.int j u) (decide (j < i)) := ⟨fun _ _ h => PyProof.Rows.gt_int h⟩
theorem zhc : EvO w A E .Eq (.int i t) (.int j u) (i == j) := ⟨fun _ _ h => PyProof.Rows.eq_int h⟩
theorem eo_ne : EvO w A E .NotEq (.int i t) (.int j u) (i != j) := ⟨fun _ _ h => PyProof.Rows.ne_int h⟩
theorem eo_eqS : EvO w A E .Eq (.str y t) (.str z u) (y == z) := ⟨fun _ _ h => r_eqS h⟩
theorem zlf {op : CmpOp} {p q : Value} (h1 : Ev w A E env s n e1 p m) (h2 : Ev w A E env s m e2 q l) (h3 : EvO w A E op p q b) (hm : behindInMarks op e2 = false) : Ev w A E env s n (.Compare e1 [op] [e2] pos) (.bool b) l := ⟨fun Q h => wpAny_Compare1 (h1.run _ (h2.run _ (h3.run _ _ h))) hm⟩
theorem zbn {op : CmpOp} {p q : Value} (h1 : Ev w A E env s n e1 p m) (h2 : Ev w A E env s m e2 q l) (h3 : EvO w A E op p q b) (hm : behindInMarks op e2 = false) : EvT w A E env s n (.Compare e1 [op] [e2] pos) b l := ⟨fun Q h => wpAny_isTrue_Compare1 (h1.run _ (h2.run _ (h3.run _ _ (wpAny_truthy_bool h)))) hm⟩
theorem zc6 (h1 : EvT w A E env s n e1 b m) : EvT w A E env s n (.UnaryOp .Not e1 pos) (!b) m := ⟨fun Q h => PyProof.Rows.isTrue_not (h1.run _ h)⟩
theorem zba (h1 : Ev w A E env s n e1 (.bool b) m) (he : isTrue e1 env (eval e1 env) = (do let v ← eval e1 env; standAt e1.pos; holding [v] (truthy v))) : EvT w A E env s n e1 b m := ⟨fun Q h => PyProof.Rows.isTrue_plain (h1.run _ (wpAny_truthy_bool h)) he⟩
theorem zab : EvL w A E env s n [] [] n := ⟨rfl, fun _ _ h => args_nil h⟩
theorem zaa (hs : notStar e = true) (h1 : Ev w A E env s n e v m) (h2 : EvL w A E env s m es vs l) : EvL w A E env s n (e :: es) (v :: vs) l :=
  ⟨Bool.and_eq_true_iff.mpr ⟨hs, h2.plain⟩, fun pos Q h => args_cons (h1.run _ (h2.run pos _ h)) (zcl hs)⟩
theorem zai {Q : Value → Shared → Prop} (X : EnvOk env L fr kinds cl) (XX : (KK w).In G0) (S : SS w G0 K g s ℓ) (hk : (x, .globalImplicit) ∈ kinds) (hg : Glob G0 x f) (hc : Callee w f) (h : EvL w A E env s n (e :: es) vs m) (k : wpAny (model pg w) A (call f vs) Q E (tks s m)) :
    wpAny (model pg w) A (eval (.Call (.Name x np) (e :: es) [] pos) env) Q E (tks s n) := by
  have hs : notStar e = true := (Bool.and_eq_true_iff.mp (show (notStar e && es.all notStar) = true from h.plain)).1
  have ha : es.all notStar = true := (Bool.and_eq_true_iff.mp (show (notStar e && es.all notStar) = true from h.plain)).2
  refine Call_ (zax (s := tks s n) X S hk hg ?_)
  cases hc with
  | fn hc => exact callWith_K XX hc (h.run pos _ ⟨fun a o q => S.st.inv.stat a o (XX a o q), k⟩) (zcl hs) (zdj ha)
  | bi f => exact PyProof.Rows.callWith_builtin1 (h.run pos _ k) (zcl hs) (zdj ha)
  | ty f => exact PyProof.Rows.callWith_type1 (h.run pos _ k) (zcl hs) (zdj ha)
theorem zaz (X : EnvOk env L fr kinds cl) (XX : (KK w).In G0) (S : SS w G0 K g s ℓ) (hk : (x, .globalImplicit) ∈ kinds) (hg : Glob G0 x f) (hc : Callee w f) (h : EvL w A E env s n (e :: es) vs m) (k : EvC w A E s m f vs v l) : Ev w A E env s n (.Call (.Name x np) (e :: es) [] pos) v l :=
  ⟨fun Q q => zai X XX S hk hg hc h (k.run Q q)⟩
theorem zb7 {vs : List V} (S : SS w G0 K g s ℓ) (hl : IsSeq w s.heap a vs) (hsz : vs.length ≤ sizeLine) : EvC w A E s n (.builtin "len") [.ref a] (.int vs.length (n + 1)) (n + 1 + 1) := by
  refine ⟨fun Q h => ?_⟩
  rcases hl with ⟨ws, hl, hm⟩ | ⟨ws, hl, hm⟩
  · rw [← za4 hm] at h hsz
    exact call_len_list (s := tks s n) hl (zcw hsz) h
  · rw [← za4 hm] at h hsz
    exact PyProof.Rows.len_tuple (s := tks s n) hl (zcw hsz) h
theorem zgx {c : Nat} : EvC w A E s n (.builtin "ord") [.str ⟨#[c]⟩ t] (.int c n) (n + 1) := ⟨fun Q h => P.ord_of_char (s := tks s n) h⟩
theorem zmj : EvC w A E s n (.type "int") [.bool b] (.int (if b then 1 else 0) n) (n + 1) := ⟨fun Q h => call_int_bool (s := tks s n) h⟩
theorem ec_ii : EvC w A E s n (.builtin "isinstance") [.int i t, .type "int"] (.bool true) n := ⟨fun Q h => IsiPair.int_int h⟩
theorem ec_bi : EvC w A E s n (.builtin "isinstance") [.bool b, .type "int"] (.bool true) n := ⟨fun Q h => IsiPair.bool_int h⟩
theorem ec_bb : EvC w A E s n (.builtin "isinstance") [.bool b, .type "bool"] (.bool true) n := ⟨fun Q h => IsiPair.bool_bool h⟩
theorem ec_ss : EvC w A E s n (.builtin "isinstance") [.str y t, .type "str"] (.bool true) n := ⟨fun Q h => IsiPair.str_str h⟩
theorem ec_ib : EvC w A E s n (.builtin "isinstance") [.int i t, .type "bool"] (.bool false) (n + 1) := ⟨fun Q h => IsiPair.int_bool (s := tks s n) h⟩
theorem ec_is : EvC w A E s n (.builtin "isinstance") [.int i t, .type "str"] (.bool false) (n + 1) := ⟨fun Q h => IsiPair.int_str (s := tks s n) h⟩
theorem ec_ns : EvC w A E s n (.builtin "isinstance") [.none, .type "str"] (.bool false) (n + 1) := ⟨fun Q h => IsiPair.NoneType_str (s := tks s n) h⟩
theorem ec_ni : EvC w A E s n (.builtin "isinstance") [.none, .type "int"] (.bool false) (n + 1) := ⟨fun Q h => IsiPair.NoneType_int (s := tks s n) h⟩
theorem zbb {Q : Value → Shared → Prop} (h1 : Ev w A E env s n e1 v m) (h2 : Ev w A E env s m e2 f l) (k : wpAny (model pg w) A (subscriptTail e1 e2 v f) Q E (tks s l)) : wpAny (model pg w) A (eval (.Subscript e1 e2 pos) env) Q E (tks s n) := Subscript_ (h1.run _ (h2.run _ k))
theorem zki {Q : Value → Shared → Prop} {op : Operator} (h1 : Ev w A E env s n e1 v m) (h2 : Ev w A E env s m e2 f l) (k : wpAny (model pg w) A (binaryOp op v f) Q E (tks s l)) : wpAny (model pg w) A (eval (.BinOp e1 op e2 pos) env) Q E (tks s n) := wpAny_BinOp (h1.run _ (h2.run _ k))
theorem zm9 {Q : Value → Shared → Prop} {op : CmpOp} (h1 : Ev w A E env s n e1 v m) (h2 : Ev w A E env s m e2 f l) (hm : behindInMarks op e2 = false) (k : wpAny (model pg w) A (compareOp op v f) Q E (tks s l)) : wpAny (model pg w) A (eval (.Compare e1 [op] [e2] pos) env) Q E (tks s n) := wpAny_Compare1 (h1.run _ (h2.run _ k)) hm
theorem zh2 {Q : Bool → Shared → Prop} {op : CmpOp} (h1 : Ev w A E env s n e1 v m) (h2 : Ev w A E env s m e2 f l) (hm : behindInMarks op e2 = false) (k : wpAny (model pg w) A (compareOp op v f) (fun c s => wpAny (model pg w) A (truthy c) Q E s) E (tks s l)) : wpAny (model pg w) A (isTrue (.Compare e1 [op] [e2] pos) env (eval (.Compare e1 [op] [e2] pos) env)) Q E (tks s n) := wpAny_isTrue_Compare1 (h1.run _ (h2.run _ k)) hm
theorem zdw {rest : List Stmt} {Q : Flow → Shared → Prop} {pv : V} (X : EnvOk env L fr kinds cl) (S : SS w G0 K g s ((L, .ns loc) :: ℓ)) (hk : (x, .local) ∈ kinds) (h : Ev w A E env s n e v m) (hv : OfV v pv) (u : UpdL x pv loc loc')
    (hs : swapsWith e (some (.Name x pos')) pos.line env = pure false) (k : ∀ s', SS w G0 K g s' ((L, .ns loc') :: ℓ) → wpAny (model pg w) A (execs rest env) Q E s') : wpAny (model pg w) A (execs (.Assign [.Name x pos'] e pos :: rest) env) Q E (tks s n) :=
  zav (h.run _ (zcm (s := tks s m) X S hk hv.eq u k)) hs
theorem zdy {rest : List Stmt} {Q : Flow → Shared → Prop} (h : Ev w A E env s n e v m) (k : Q (.ret v) (tks s m)) : wpAny (model pg w) A (execs (.Return (some e) pos :: rest) env) Q E (tks s n) := za9 (h.run _ k)
end
end Mine
end
namespace Mine
open PySem PySem.W PySem.Calls PyProof.Rows
set_option hygiene false in
local macro_rules | `(tactic| walk_at "newo") => `(tactic| (clear S; (try clear s); intro aN s hN S; (try simp only [List.map_cons, List.map_nil, zah, zap, zar, zal, zaj, zak, za0] at S)))
set_option hygiene false in
local macro_rules | `(tactic| walk_at "newt") => `(tactic| (clear S; (try clear s); intro t s S))
set_option hygiene false in
local macro_rules | `(tactic| walk_at "new") => `(tactic| (clear S; (try clear s); intro s S))
section
variable {prog : Program} {w : World} {G0 : Heap} {K : Kon} {g : PH} {s : Shared} {ℓ : Led} {A : Around} {E : Value → Shared → Prop} {Q : Value → Shared → Prop} {b : Bool} {i : Int} {x : Str} {t : Tok}
end
noncomputable def wholeV (v : V) (lo hi : Int) : Bool := match v with
  | .int i => decide (lo ≤ i) && decide (i ≤ hi)
  | _ => false
noncomputable def NumV (v : V) : Prop := (∃ i, v = .int i) ∨ ∃ b, v = .bool b
theorem zdx {w : World} {G0 : Heap} {Φ : List Addr} {g : PH} {s : Shared} {A : Around} {R : Result → Shared → Prop} {cells : Led} {v : Value} {lo hi : Int} {t1 t2 : Tok}
    (G : Gd w G0) (I : Inv w G0 Φ g s.heap cells) (hroom : Room A 1) (hv : NumV (V.of v))
    (k : ∀ s', SS w G0 ⟨Φ, s, g, cells.map Prod.fst⟩ g s' cells → R (.ok (.ret (.bool (wholeV (V.of v) lo hi)))) s') :
    codeAny (model pg w) A (.call (.ref 66) ⟨[v, .int lo t1, .int hi t2], []⟩) R s := by
  refine zan (vals := [v, .int lo t1, .int hi t2]) I G.XX G.lim hroom.lt (by exact rfl) (by kernel_rfl) (BindsTo.of_eq rfl) (by decide +kernel) (by decide) (by rfl) ?_
  intro env L s X S Q E hQ hEnd hEr hPO
  rcases hv with ⟨i, hv⟩ | ⟨b, hv⟩
  · obtain ⟨t, rfl⟩ := V.of_int hv
    dsimp only [mkLoc, zah, zap, zar, zal, zaj, zak, za0] at S
    refine za9 ?_; refine BoolOp_and ?_; refine r_ev (zaz X G.XX S ixm3 (zao G) (Callee.bi _) (zaa rfl (zag X S ixm0 ixm0) (zaa rfl (zaw X S ixm4 (zhw G)) zab)) ec_ii) ?_; refine wpAny_truthy_bool ?_; refine zb8 ?_; refine BoolOp_and ?_; refine UnaryOp_ ?_; refine r_ev (zaz X G.XX S ixm3 (zao G) (Callee.bi _) (zaa rfl (zag X S ixm0 ixm0) (zaa rfl (zaw X S ixm5 (zkd G)) zab)) ec_ib) ?_; refine not_f ?_; refine wpAny_truthy_bool ?_; refine zb8 ?_; refine BoolOp_one ?_; refine Compare_chain ?_ (by rfl); refine r_ev (zag X S ixm1 ixm1) ?_; refine chain_link ?_; refine r_ev (zag X S ixm0 ixm0) ?_; refine PyProof.Rows.le_int ?_; refine wpAny_truthy_bool ?_
    refine zdg (fun h1 => ?_) (fun h1 => ?_)
    · refine zly ?_; refine r_ev (zag X S ixm2 ixm2) ?_; refine PyProof.Rows.le_int ?_; refine hQ _ _ ?_
      have h1 := of_decide_eq_true h1
      have := k (tks s (s.toks + 1)) S.drop1
      simp only [V.of, wholeV, h1, decide_true, Bool.true_and] at this
      exact this
    · have h1 := of_decide_eq_false h1
      have := k (tks s (s.toks + 1)) S.drop1
      simp only [V.of, wholeV, h1, decide_false, Bool.false_and] at this
      simp only [h1, decide_false]
      exact hQ _ _ this
  · obtain rfl := V.of_bool hv
    dsimp only [mkLoc, zah, zap, zar, zal, zaj, zak, za0] at S
    refine za9 ?_; refine BoolOp_and ?_; refine r_ev (zaz X G.XX S ixm3 (zao G) (Callee.bi _) (zaa rfl (zbw X S ixm0 ixm0) (zaa rfl (zaw X S ixm4 (zhw G)) zab)) ec_bi) ?_; refine wpAny_truthy_bool ?_; refine zb8 ?_; refine BoolOp_and ?_; refine UnaryOp_ ?_; refine r_ev (zaz X G.XX S ixm3 (zao G) (Callee.bi _) (zaa rfl (zbw X S ixm0 ixm0) (zaa rfl (zaw X S ixm5 (zkd G)) zab)) ec_bb) ?_; refine not_t ?_; refine wpAny_truthy_bool ?_; refine zc9 ?_; refine hQ _ _ ?_
    exact k _ S.drop1
theorem zha {w : World} {G0 : Heap} {Φ : List Addr} {g : PH} {s : Shared} {A : Around} {R : Result → Shared → Prop} {outer : List Env} {cells : Led} {v : Value}
    (G : Gd w G0) (K₀ : Stk A outer Φ) (I : Inv w G0 Φ g s.heap cells) (hroom : Room A 3) (hv : NumV (V.of v) ∨ v = .none)
    (k : ∀ i t s', V.of v = .int i → SS w G0 ⟨Φ, s, g, cells.map Prod.fst⟩ g s' cells → R (.ok (.ret (.int i t))) s')
    (kx : (∀ i, V.of v ≠ .int i) → ∀ e s', FlyS w G0 outer 45 e ⟨Φ, s, g, cells.map Prod.fst⟩ g s' cells → R (.error (.ref e)) s') :
    codeAny (model pg w) A (.call (.ref 73) ⟨[v], []⟩) R s := by
  refine zan (vals := [v]) I G.XX G.lim hroom.lt (by exact rfl) (by kernel_rfl) (BindsTo.of_eq rfl) (by decide +kernel) (by decide) (by rfl) ?_
  intro env L s X S Q E hQ hEnd hEr hPO
  rcases hv with (⟨i, hv⟩ | ⟨b, hv⟩) | hv
  · obtain ⟨t, rfl⟩ := V.of_int hv
    dsimp only [mkLoc, zah, zap, zar, zal, zaj, zak, za0] at S
    refine x_if ?_; refine isTrue_or ?_; refine zbs (zc6 (zba (zaz X G.XX S ixm1 (zao G) (Callee.bi _) (zaa rfl (zag X S ixm0 ixm0) (zaa rfl (zaw X S ixm2 (zhw G)) zab)) ec_ii) (by rfl))) ?_; refine zdz ?_; refine isTrue_or ?_; refine zbs (zba (zaz X G.XX S ixm1 (zao G) (Callee.bi _) (zaa rfl (zag X S ixm0 ixm0) (zaa rfl (zaw X S ixm3 (zkd G)) zab)) ec_ib) (by rfl)) ?_; refine zc9 ?_; refine isTrue_or_nil ?_; refine br_f ?_; refine zas ?_; refine zdy (zag X S ixm0 ixm0) ?_; refine hQ _ _ ?_
    exact k _ _ _ rfl S.drop1
  · obtain rfl := V.of_bool hv
    dsimp only [mkLoc, zah, zap, zar, zal, zaj, zak, za0] at S
    refine x_if ?_; refine isTrue_or ?_; refine zbs (zc6 (zba (zaz X G.XX S ixm1 (zao G) (Callee.bi _) (zaa rfl (zbw X S ixm0 ixm0) (zaa rfl (zaw X S ixm2 (zhw G)) zab)) ec_bi) (by rfl))) ?_; refine zdz ?_; refine isTrue_or ?_; refine zbs (zba (zaz X G.XX S ixm1 (zao G) (Callee.bi _) (zaa rfl (zbw X S ixm0 ixm0) (zaa rfl (zaw X S ixm3 (zkd G)) zab)) ec_bb) (by rfl)) ?_; refine zb8 ?_; refine br_t ?_
    exact zbo G.XX G.lim (zf3 w) X S ixm4 (za7 G) hroom.deeper fun e s' T => hEr _ _ <| zau K₀ X T S fun s'' F => kx (fun _ => nofun) e s'' F
  · subst hv
    dsimp only [mkLoc, zah, zap, zar, zal, zaj, zak, za0] at S
    refine x_if ?_; refine isTrue_or ?_; refine zbs (zc6 (zba (zaz X G.XX S ixm1 (zao G) (Callee.bi _) (zaa rfl (zh1 X S ixm0 ixm0) (zaa rfl (zaw X S ixm2 (zhw G)) zab)) ec_ni) (by rfl))) ?_; refine zfv ?_; refine br_t ?_
    exact zbo G.XX G.lim (zf3 w) X S ixm4 (za7 G) hroom.deeper fun e s' T => hEr _ _ <| zau K₀ X T S fun s'' F => kx (fun _ => nofun) e s'' F
noncomputable def wordV (vs : List V) : Bool := !vs.isEmpty && vs.all fun v => wholeV v 1 255
theorem zfn {w : World} {G0 : Heap} {Φ : List Addr} {g : PH} {s : Shared} {A : Around} {R : Result → Shared → Prop} {cells : Led} {a : Addr} {c : Cell} {vs : List V}
    (G : Gd w G0) (I : Inv w G0 Φ g s.heap cells) (hroom : Room A 2) (hr : Rd g cells a c) (hc : SeqC c vs) (hn : ∀ v ∈ vs, NumV v) (hsz : vs.length ≤ sizeLine)
    (k : ∀ s', SS w G0 ⟨Φ, s, g, cells.map Prod.fst⟩ g s' cells → R (.ok (.ret (.bool (wordV vs)))) s') :
    codeAny (model pg w) A (.call (.ref 80) ⟨[.ref a], []⟩) R s := by
  refine zan (vals := [.ref a]) I G.XX G.lim hroom.lt (by exact rfl) (by kernel_rfl) (BindsTo.of_eq rfl) (by decide +kernel) (by decide) (by rfl) ?_
  intro env L s X S Q E hQ hEnd hEr hPO
  dsimp only [mkLoc, zah, zap, zar, zal, zaj, zak, za0] at S
  refine x_if ?_; refine isTrue_or ?_; refine isTrue_not ?_; refine PyProof.Rows.isTrue_plain ?_ (by rfl); refine Call_ ?_ (by rfl); refine zax X S ixm2 (zao G) ?_; refine PyProof.Rows.callWith_builtin1 ?_ (by rfl) (by rfl); refine args_cons ?_ (by rfl); refine r_ev (zae X S ixm0 ixm0) ?_; refine args_cons ?_ (by rfl); refine Tuple_ ?_; refine zaf (zaa rfl (zaw X S ixm3 (zb0 G)) (zaa rfl (zaw X S ixm4 (zc3 G)) zab)) ?_; refine za2 S sz2 ?_; walk_at "newo"; refine zaf zab ?_; refine zey S ((S.rd (Rd.cons (Rd.cons hr))).seq hc) ixm1 ?_; walk_at "new"; refine wpAny_truthy_bool ?_; refine zdz ?_; refine isTrue_or ?_; refine zbs (zbn (zaz X G.XX S ixm5 (zcc G) (Callee.bi _) (zaa rfl (zae X S ixm0 ixm0) zab) (zb7 S ((S.rd (Rd.cons (Rd.cons hr))).seq hc) hsz)) zac zhc (by rfl)) ?_
  refine zdg (fun h1 => ?_) (fun h1 => ?_)
  · refine br_t ?_; refine zdy zbu ?_; refine hQ _ _ ?_
    have e : vs = [] := by simpa using h1
    subst e
    exact k _ (S.sel (.drop (.drop .refl)))
  · refine isTrue_or_nil ?_; refine br_f ?_; refine zas ?_; refine zdn ?_ (by intro _; with_unfolding_all rfl); refine r_ev (zae X S ixm0 ixm0) ?_
    have hne : vs.isEmpty = false := by cases vs <;> simp_all
    refine zc8 S (S.rd (.cons (.cons hr))) hc fun src it s hv hok hnew S => ?_
    refine zbd (σ := Option V × Addr × Cell) (fun i _ => ∀ j v, j < i → vs[j]? = some v → wholeV v 1 255 = true) (fun _ => g) (fun _ x => [(("letters" : Str), some (V.ref a)), ("letter", x.1), ("isinstance", none), ("tuple", none), ("list", none), ("len", none), ("is_whole", none)]) (fun _ x => x.2 :: cells) (_, _)
      hPO hroom.handled hnew S (fun j v h => absurd h (Nat.not_lt_zero _)) ?_ ?_ ?_
    · intro i x s _ S
      exact hok _ (S.rd (.cons (.cons (.cons hr))))
    · intro Q hL hB hR i x v s hall hvi S
      rw [hv] at hvi
      have hnum := hn _ (List.mem_of_getElem? hvi)
      refine zcm X S ixm1 rfl ixu1 ?_; walk_at "new"
      refine x_if ?_; refine isTrue_not ?_; refine PyProof.Rows.isTrue_plain ?_ (by rfl); refine Call_ ?_ (by rfl); refine zax X S ixm6 (zeg G) ?_; refine callWith_K G.XX (by kernel_rfl) ?_ (by rfl) (by rfl); refine args_cons ?_ (by rfl); refine zbv X S ixm1 ixm1 ?_; intro vN hvN; refine zaf (zaa rfl zac (zaa rfl zac zab)) ?_; refine ⟨S.In G.XX, ?_⟩
      refine wpAny_call (zdx G S.enter0 hroom.deeper (hvN ▸ hnum) fun s' S' => ?_)
      replace S := S'.ret0 S
      clear S'
      show wpAny _ _ (truthy _) _ _ _
      rw [hvN]
      refine wpAny_truthy_bool ?_
      refine ⟨fun h2 => ?_, fun h2 => ?_⟩
      · refine zdy zbu ?_; refine hR _ _ _ ?_; refine hQ _ _ ?_
        have e : wordV vs = false := by
          unfold wordV
          have : vs.all (fun v => wholeV v 1 255) = false := by
            rw [List.all_eq_false]
            exact ⟨_, List.mem_of_getElem? hvi, by simpa using h2⟩
          rw [this, Bool.and_false]
        rw [← e]
        exact k _ (S.sel (.drop (.drop (.drop .refl))))
      · refine zas ?_; refine zas ?_
        refine hL i .next (_, x.2) _ (fun j u hj hu => ?_) S rfl
        rcases Nat.lt_or_ge j i with h | h
        · exact hall j u h hu
        · have : j = i := by omega
          subst this
          rw [hvi] at hu
          cases hu
          simpa using h2
    · intro x s hall S
      refine zdy zbu ?_; refine hQ _ _ ?_
      have e : wordV vs = true := by
        unfold wordV
        rw [hne, hv] at *
        simp only [Bool.not_false, Bool.true_and, List.all_eq_true]
        intro v hv'
        obtain ⟨j, hj, rfl⟩ := List.getElem_of_mem hv'
        exact hall j _ hj (List.getElem?_eq_getElem hj)
      rw [← e]
      exact k _ (S.sel (.drop (.drop .refl)))
noncomputable def beginOf (ns : List Int) : Nat := if ns.head? = some 0 then 1 else 0
noncomputable def endOf (ns : List Int) : Nat := if beginOf ns < ns.length ∧ ns.getLast? = some 0 then ns.length - 1 else ns.length
noncomputable def innerL (ns : List Int) : List Int := sliceV ns (some (beginOf ns)) (some (endOf ns))
theorem zf5 {w : World} {G0 : Heap} {Φ : List Addr} {g : PH} {s : Shared} {A : Around} {R : Result → Shared → Prop} {cells : Led} {a : Addr} {c : Cell} {ns : List Int}
    (G : Gd w G0) (I : Inv w G0 Φ g s.heap cells) (hroom : Room A 1) (hr : Rd g cells a c) (hc : SeqC c (ns.map V.int)) (hsz : ns.length ≤ sizeLine)
    (k : ∀ r s', s.heap.get? r = none → SS w G0 ⟨Φ, s, g, cells.map Prod.fst⟩ g s' ((r, .list ((innerL ns).map V.int)) :: cells) → R (.ok (.ret (.ref r))) s') :
    codeAny (model pg w) A (.call (.ref 87) ⟨[.ref a], []⟩) R s := by
  refine zan (vals := [.ref a]) I G.XX G.lim hroom.lt (by exact rfl) (by kernel_rfl) (BindsTo.of_eq rfl) (by decide +kernel) (by decide) (by rfl) ?_
  intro env L s X S Q E hQ hEnd hEr hPO
  dsimp only [mkLoc, zah, zap, zar, zal, zaj, zak, za0] at S
  generalize hK : (⟨Φ, _, g, cells.map Prod.fst⟩ : Kon) = K at S k
  have hszm : (ns.map V.int).length ≤ sizeLine := by simpa using hsz
  refine zci (G0 := G0) hroom.handled X ixm1 ixm2 ?_ rfl (by decide +kernel) rfl rfl rfl rfl
  refine Tuple_ ?_; refine zaf (zaa rfl zac (zaa rfl (zaz X G.XX S ixm3 (zcc G) (Callee.bi _) (zaa rfl (zae X S ixm0 ixm0) zab) (zb7 S ((S.rd (Rd.cons hr)).seq hc) hszm)) zab)) ?_; refine za2 S sz2 ?_; walk_at "newo"
  refine fun Z kZ => kZ _ _ _ _ _ _ rfl S (S.at ixm1).isT fun u1 u2 s e1 e2 S => ?_
  obtain ⟨t1, rfl⟩ := V.of_int e1
  obtain ⟨t2, rfl⟩ := V.of_int e2
  clear e1 e2
  refine za3 X S ixm2 ixu2 ?_; walk_at "new"; refine za3 X S ixm1 ixu1 ?_; walk_at "new"
  have S := S.sel (.cons .head (.drop .refl))
  rw [List.length_map] at S
  refine zc4 (fun s => SS w G0 K g s ((L, .ns [("letters", some (.ref a)), ("begin", some (.int (beginOf ns : Nat))), ("end", some (.int ns.length)), ("len", none), ("EDGE", none), ("list", none)]) :: cells)) (fun J hJ => ?_) ?_
  · refine isTrue_and ?_; refine zbs (zbn (zag X S ixm2 ixm2) (zag X S ixm1 ixm1) zmc (by rfl)) ?_
    refine zdg (fun h1 => ?_) (fun h1 => ?_)
    · refine isTrue_and ?_; refine wpAny_isTrue_Compare1 ?_; refine zbb (zae X S ixm0 ixm0) (zag X S ixm1 ixm1) ?_
      have hlen : 0 < ns.length := by simpa using h1
      obtain ⟨n0, hn0⟩ : ∃ n0, ns[0]? = some n0 := ⟨_, List.getElem?_eq_getElem hlen⟩
      have hhead : ns.head? = some n0 := by rw [List.head?_eq_getElem?]; exact hn0
      refine zb6 ((S.rd (Rd.cons hr)).seq hc) hsz (by decide) hn0 zbm fun t => ?_
      refine r_ev (zaw X S ixm4 (zgh G)) ?_; refine PyProof.Rows.eq_int ?_; refine wpAny_truthy_bool ?_
      refine zdg (fun h2 => ?_) (fun h2 => ?_)
      · have hb : beginOf ns = 1 := by unfold beginOf; rw [hhead]; simp at h2; simp [h2]
        refine isTrue_and_nil ?_; refine br_t ?_; refine zny ?_; refine znt X S ixm1 ixm1 ?_; refine r_ev zac ?_; refine zl1 ?_; refine za3 X S ixm1 ixu1 ?_; walk_at "new"; refine zas ?_
        exact hJ _ (by rw [hb]; exact S)
      · have hb : beginOf ns = 0 := by unfold beginOf; rw [hhead]; simp at h2; simp [h2]
        refine br_f ?_; refine zas ?_
        exact hJ _ (by rw [hb]; exact S)
    · have hlen : ns = [] := by simpa using h1
      refine br_f ?_; refine zas ?_
      exact hJ _ (by subst hlen; exact S)
  clear S
  intro s S
  refine zc4 (fun s => SS w G0 K g s ((L, .ns [("letters", some (.ref a)), ("begin", some (.int (beginOf ns : Nat))), ("end", some (.int (endOf ns : Nat))), ("len", none), ("EDGE", none), ("list", none)]) :: cells)) (fun J hJ => ?_) ?_
  · refine isTrue_and ?_; refine zbs (zbn (zag X S ixm2 ixm2) (zag X S ixm1 ixm1) zmc (by rfl)) ?_
    refine zdg (fun h1 => ?_) (fun h1 => ?_)
    · refine isTrue_and ?_; refine wpAny_isTrue_Compare1 ?_; refine zbb (zae X S ixm0 ixm0) (zlt (zag X S ixm2 ixm2) zac) ?_
      have hlen : beginOf ns < ns.length := by simpa using h1
      obtain ⟨n0, hn0⟩ : ∃ n0, ns[ns.length - 1]? = some n0 := ⟨_, List.getElem?_eq_getElem (by omega)⟩
      have hlast : ns.getLast? = some n0 := by rw [List.getLast?_eq_getElem?]; exact hn0
      refine zb6 (n := n0) ((S.rd (Rd.cons hr)).seq hc) hsz (by omega) (by rw [← hn0]; congr 1; omega) zl4 fun t => ?_
      refine r_ev (zaw X S ixm4 (zgh G)) ?_; refine PyProof.Rows.eq_int ?_; refine wpAny_truthy_bool ?_
      refine zdg (fun h2 => ?_) (fun h2 => ?_)
      · have hb : endOf ns = ns.length - 1 := by unfold endOf; rw [hlast]; simp at h2; simp [h2, hlen]
        refine isTrue_and_nil ?_; refine br_t ?_; refine zny ?_; refine znt X S ixm2 ixm2 ?_; refine r_ev zac ?_; refine r_isub ?_; refine za3 X S ixm2 ixu2 ?_; walk_at "new"; refine zas ?_
        exact hJ _ (by rw [hb, Int.ofNat_sub (by omega)]; exact S)
      · have hb : endOf ns = ns.length := by unfold endOf; rw [hlast]; simp at h2; simp [h2]
        refine br_f ?_; refine zas ?_
        exact hJ _ (by rw [hb]; exact S)
    · have hb : endOf ns = ns.length := by
        unfold endOf
        rw [if_neg]
        intro h
        have := of_decide_eq_false h1
        omega
      refine br_f ?_; refine zas ?_
      exact hJ _ (by rw [hb]; exact S)
  clear S
  intro s S
  refine za9 ?_; refine Call_ ?_ (by rfl); refine zax X S ixm5 (zc3 G) ?_; refine PyProof.Rows.callWith_type1 ?_ (by rfl) (by rfl); refine args_cons ?_ (by rfl); refine Subscript_ ?_; refine r_ev (zae X S ixm0 ixm0) ?_; refine wpAny_Slice ?_; refine wpAny_evalPart_some ?_; refine r_ev (zag X S ixm1 ixm1) ?_; refine wpAny_evalPart_some ?_; refine r_ev (zag X S ixm2 ixm2) ?_; refine wpAny_evalPart_none ?_
  refine zl6 S ((S.rd (Rd.cons hr)).seq hc) hszm (Part.int _ _ (Int.natCast_nonneg _)) (Part.int _ _ (Int.natCast_nonneg _)) fun r s' S' hr' => ?_
  clear S
  have S := S'
  clear S'
  refine zaf zab ?_
  refine zfb S hr' ?_ fun r s' hnew S => ?_
  · unfold sliceV; rw [List.length_drop, List.length_take]; omega
  · have e : sliceV (ns.map V.int) (some (beginOf ns)) (some (endOf ns)) = (innerL ns).map V.int := by
      unfold innerL sliceV; rw [List.map_drop, List.map_take, List.length_map]
    rw [show ((beginOf ns : Nat) : Int).toNat = beginOf ns from rfl, show ((endOf ns : Nat) : Int).toNat = endOf ns from rfl, e] at S
    try with_reducible first | refine hQ _ _ ?_ | refine hEnd _ ?_
    refine k r s' ?_ S.drop1
    rw [← hK] at hnew; exact hnew
noncomputable def patOk (vs ds : List V) : Prop := ∃ ns ms : List Int, vs = ns.map V.int ∧ ds = ms.map V.int ∧ (∀ n ∈ ns, 0 ≤ n ∧ n ≤ 255) ∧ wordV ((innerL ns).map V.int) = true ∧ ns.length ≤ 63 ∧ ms.length = ns.length + 1 ∧ ∀ m ∈ ms, 0 ≤ m ∧ m ≤ 9
theorem zjs {v : V} {lo hi : Int} (h : wholeV v lo hi = true) : ∃ n, v = .int n ∧ lo ≤ n ∧ n ≤ hi := by
  cases v <;> simp [wholeV] at h
  exact ⟨_, rfl, h⟩
theorem zfa {vs : List V} {lo hi : Int} (h : ∀ j v, j < vs.length → vs[j]? = some v → wholeV v lo hi = true) : ∃ ns : List Int, vs = ns.map V.int ∧ ∀ n ∈ ns, lo ≤ n ∧ n ≤ hi := by
  induction vs with
  | nil => exact ⟨[], rfl, fun _ h => nomatch h⟩
  | cons v r ih =>
    obtain ⟨n, rfl, hn⟩ := zjs (h 0 v (by simp) rfl)
    obtain ⟨ns, rfl, hns⟩ := ih fun j u hj hu => h (j + 1) u (by simpa using hj) (by simpa using hu)
    exact ⟨n :: ns, rfl, fun m hm => by
      rcases List.mem_cons.mp hm with rfl | hm
      · exact hn
      · exact hns m hm⟩
theorem zml {n lo hi : Int} (h : wholeV (.int n) lo hi = false) : ¬ (lo ≤ n ∧ n ≤ hi) := by
  simp [wholeV] at h; omega
theorem zaq {ns ms : List Int} (h : ns.map V.int = ms.map V.int) : ns = ms := by
  induction ns generalizing ms with
  | nil => cases ms <;> simp_all
  | cons n r ih =>
    cases ms with
    | nil => simp at h
    | cons m q =>
      simp only [List.map_cons, List.cons.injEq, V.int.injEq] at h
      rw [h.1, ih h.2]
theorem zgj {vs : List V} {lo hi : Int} {i : Nat} {v : V} (h : vs[i]? = some v) (hw : wholeV v lo hi = false) {ns : List Int} (e : vs = ns.map V.int) : ¬ ∀ n ∈ ns, lo ≤ n ∧ n ≤ hi := by
  intro hall
  subst e
  rw [List.getElem?_map] at h
  cases q : ns[i]? with
  | none => rw [q] at h; cases h
  | some n =>
    rw [q] at h
    cases Option.some.inj h
    exact zml hw (hall n (List.mem_of_getElem? q))
theorem zf4 {w : World} {G0 : Heap} {Φ : List Addr} {g : PH} {s : Shared} {A : Around} {R : Result → Shared → Prop} {outer : List Env} {cells : Led} {la da : Addr} {c1 c2 : Cell} {vs ds : List V}
    (G : Gd w G0) (K₀ : Stk A outer Φ) (I : Inv w G0 Φ g s.heap cells) (hroom : Room A 3) (hr1 : Rd g cells la c1) (hc1 : SeqC c1 vs) (hr2 : Rd g cells da c2) (hc2 : SeqC c2 ds) (hn1 : ∀ v ∈ vs, NumV v) (hn2 : ∀ v ∈ ds, NumV v)
    (hs1 : vs.length ≤ sizeLine) (hs2 : ds.length ≤ sizeLine)
    (k : ∀ s', patOk vs ds → SS w G0 ⟨Φ, s, g, cells.map Prod.fst⟩ g s' cells → R (.ok (.ret .none)) s')
    (kx : ¬ patOk vs ds → ∀ e s', FlyS w G0 outer 57 e ⟨Φ, s, g, cells.map Prod.fst⟩ g s' cells → R (.error (.ref e)) s') :
    codeAny (model pg w) A (.call (.ref 94) ⟨[.ref la, .ref da], []⟩) R s := by
  refine zan (vals := [.ref la, .ref da]) I G.XX G.lim hroom.lt (by exact rfl) (by kernel_rfl) (BindsTo.of_eq rfl) (by decide +kernel) (by decide) (by rfl) ?_
  intro env L s X S Q E hQ hEnd hEr hPO
  dsimp only [mkLoc, zah, zap, zar, zal, zaj, zak, za0] at S
  generalize hK : (⟨Φ, _, g, cells.map Prod.fst⟩ : Kon) = K at S k kx
  have K₁ : Stk A outer K.Φ := by rw [← hK]; exact K₀
  refine x_if ?_; refine isTrue_or ?_; refine isTrue_not ?_; refine PyProof.Rows.isTrue_plain ?_ (by rfl); refine Call_ ?_ (by rfl); refine zax X S ixm4 (zao G) ?_; refine PyProof.Rows.callWith_builtin1 ?_ (by rfl) (by rfl); refine args_cons ?_ (by rfl); refine r_ev (zae X S ixm0 ixm0) ?_; refine args_cons ?_ (by rfl); refine Tuple_ ?_; refine zaf (zaa rfl (zaw X S ixm5 (zb0 G)) (zaa rfl (zaw X S ixm6 (zc3 G)) zab)) ?_; refine za2 S sz2 ?_; walk_at "newo"; refine zaf zab ?_; refine zey S ((S.rd (Rd.cons (Rd.cons hr1))).seq hc1) ixm1 ?_; walk_at "new"; refine wpAny_truthy_bool ?_; refine zdz ?_; refine isTrue_or ?_; refine isTrue_not ?_; refine PyProof.Rows.isTrue_plain ?_ (by rfl); refine Call_ ?_ (by rfl); refine zax X S ixm4 (zao G) ?_; refine PyProof.Rows.callWith_builtin1 ?_ (by rfl) (by rfl); refine args_cons ?_ (by rfl); refine r_ev (zae X S ixm1 ixm1) ?_; refine args_cons ?_ (by rfl); refine Tuple_ ?_; refine zaf (zaa rfl (zaw X S ixm5 (zb0 G)) (zaa rfl (zaw X S ixm6 (zc3 G)) zab)) ?_; refine za2 S sz2 ?_; walk_at "newo"; refine zaf zab ?_; refine zey S ((S.rd (Rd.cons (Rd.cons (Rd.cons hr2)))).seq hc2) ixm1 ?_; walk_at "new"; refine wpAny_truthy_bool ?_; refine zdz ?_; refine isTrue_or_nil ?_; refine br_f ?_; refine zas ?_; refine zdn ?_ (by intro _; with_unfolding_all rfl); refine r_ev (zae X S ixm0 ixm0) ?_
  have S := S.sel (.cons .head (.drop (.drop .refl)))
  refine zc8 S (S.rd (.cons hr1)) hc1 fun src it s hv hok hnew S => ?_
  refine zbd (σ := Option V) (fun i _ => ∀ j v, j < i → vs[j]? = some v → wholeV v 0 255 = true) (fun _ => g) (fun _ o => [(("letters" : Str), some (V.ref la)), ("digits", some (.ref da)), ("letter", o), ("digit", none), ("isinstance", none), ("tuple", none), ("list", none), ("BadArgument", none), ("is_whole", none), ("BadPattern", none), ("is_word", none), ("inner_letters", none), ("len", none), ("LONGEST", none)]) (fun _ _ => cells) _
    hPO hroom.handled hnew S (fun j v h => absurd h (Nat.not_lt_zero _)) ?_ ?_ ?_
  · intro i o s hall S
    exact hok _ (S.rd (.cons (.cons hr1)))
  · intro Q hL hB hR i o v s hall hvi S
    rw [hv] at hvi
    have hnum := hn1 _ (List.mem_of_getElem? hvi)
    refine zcm X S ixm2 rfl ixu2 ?_; walk_at "new"
    refine x_if ?_; refine isTrue_not ?_; refine PyProof.Rows.isTrue_plain ?_ (by rfl); refine Call_ ?_ (by rfl); refine zax X S ixm8 (zeg G) ?_; refine callWith_K G.XX (by kernel_rfl) ?_ (by rfl) (by rfl); refine args_cons ?_ (by rfl); refine zbv X S ixm2 ixm2 ?_; intro vN hvN; refine zaf (zaa rfl zac (zaa rfl zac zab)) ?_; refine ⟨S.In G.XX, ?_⟩
    refine wpAny_call (zdx G S.enter0 (hroom.deeper.mono (by decide)) (hvN ▸ hnum) fun s' S' => ?_)
    replace S := S'.ret0 S
    clear S'
    show wpAny _ _ (truthy _) _ _ _
    rw [hvN]
    refine wpAny_truthy_bool ?_
    refine ⟨fun h2 => ?_, fun h2 => ?_⟩
    · refine zbo G.XX G.lim (zg9 w) X S ixm9 (zbe G) hroom.deeper fun e s' T => hEr _ _ <| zau K₁ X T S fun s'' F => kx (fun hp => ?_) e s'' (F.sel (.drop .refl))
      obtain ⟨ns, ms, e1, e2, h3, h4⟩ := hp
      exact zgj hvi (by simpa using h2) e1 h3
    · refine zas ?_; refine zas ?_
      refine hL i .next _ _ (fun j u hj hu => ?_) S rfl
      rcases Nat.lt_or_ge j i with h | h
      · exact hall j u h hu
      · have : j = i := by omega
        subst this
        rw [hvi] at hu
        cases hu
        simpa using h2
  · intro o s hall S
    clear hnew
    rw [hv] at hall
    obtain ⟨ns, rfl, hns⟩ := zfa hall
    clear hall hv hok
    refine x_if ?_; refine isTrue_not ?_; refine PyProof.Rows.isTrue_plain ?_ (by rfl); refine Call_ ?_ (by rfl); refine zax X S zcf (ze4 G) ?_; refine callWith_K G.XX (by kernel_rfl) ?_ (by rfl) (by rfl); refine args_cons ?_ (by rfl); refine zai X G.XX S zcp (zgl G) (Callee.fn (by kernel_rfl)) (zaa rfl (zae X S ixm0 ixm0) zab) ?_
    refine wpAny_call (zf5 G S.enter0 (hroom.deeper.mono (by decide)) hr1 hc1 (by simpa using hs1) fun r s' hnew S' => ?_)
    replace S := S'.ret0 S
    clear S'
    show wpAny _ _ (spliced _) _ _ _
    refine zaf zab ?_; refine ⟨S.In G.XX, ?_⟩
    have hnn : ∀ v ∈ (innerL ns).map V.int, NumV v := fun v hv => by
      obtain ⟨n, _, rfl⟩ := List.mem_map.mp hv; exact .inl ⟨n, rfl⟩
    have hsl : ((innerL ns).map V.int).length ≤ sizeLine := by
      unfold innerL sliceV
      simp only [List.length_map, List.length_drop, List.length_take] at hs1 ⊢
      omega
    refine wpAny_call (zfn G S.enter0 hroom.deeper (.inl (.head _)) (.inl rfl) hnn hsl fun s' S' => ?_)
    replace S := S'.ret0 S
    clear S'
    show wpAny _ _ (truthy _) _ _ _
    refine wpAny_truthy_bool ?_
    refine ⟨fun h2 => ?_, fun h2 => ?_⟩
    · refine zbo G.XX G.lim (zg9 w) X S ixm9 (zbe G) hroom.deeper fun e s' T => hEr _ _ <| zau K₁ X T S fun s'' F => kx (fun hp => ?_) e s'' (F.sel (.drop .refl))
      obtain ⟨ns', ms, e1, e2, h3, h4, h5⟩ := hp
      rw [zaq e1, h4] at h2; cases h2
    have hword : wordV ((innerL ns).map V.int) = true := by simpa using h2
    refine zas ?_; refine x_if ?_; refine zbs (zbn (zaz X G.XX S (ixmt ixm0) (zcc G) (Callee.bi _) (zaa rfl (zae X S ixm0 ixm0) zab) (zb7 S ((S.rd (Rd.cons (Rd.cons hr1))).seq hc1) hs1)) (zaw X S (ixmt ixm1) (zfc G)) zmc (by rfl)) ?_
    refine ⟨fun h3 => ?_, fun h3 => ?_⟩
    · refine zbo G.XX G.lim (zg9 w) X S ixm9 (zbe G) hroom.deeper fun e s' T => hEr _ _ <| zau K₁ X T S fun s'' F => kx (fun hp => ?_) e s'' (F.sel (.drop .refl))
      obtain ⟨ns', ms, e1, e2, h4, h5, h6, h7⟩ := hp
      rw [zaq e1] at h3
      simp at h3; omega
    have hlen : ns.length ≤ 63 := by simp at h3; omega
    refine zas ?_; refine x_if ?_; refine zbs (zbn (zaz X G.XX S (ixmt ixm0) (zcc G) (Callee.bi _) (zaa rfl (zae X S ixm1 ixm1) zab) (zb7 S ((S.rd (Rd.cons (Rd.cons hr2))).seq hc2) hs2)) (zdr (zaz X G.XX S (ixmt ixm0) (zcc G) (Callee.bi _) (zaa rfl (zae X S ixm0 ixm0) zab) (zb7 S ((S.rd (Rd.cons (Rd.cons hr1))).seq hc1) hs1)) zac) eo_ne (by rfl)) ?_
    refine ⟨fun h4 => ?_, fun h4 => ?_⟩
    · refine zbo G.XX G.lim (zg9 w) X S ixm9 (zbe G) hroom.deeper fun e s' T => hEr _ _ <| zau K₁ X T S fun s'' F => kx (fun hp => ?_) e s'' (F.sel (.drop .refl))
      obtain ⟨ns', ms, e1, e2, h5, h6, h7, h8, h9⟩ := hp
      rw [zaq e1] at h4
      rw [e2] at h4
      simp at h4; omega
    have hdl : ds.length = ns.length + 1 := by simp at h4; omega
    clear h2 h3 h4
    refine zas ?_; refine zdn ?_ (by intro _; with_unfolding_all rfl); refine r_ev (zae X S ixm1 ixm1) ?_
    have S := S.sel (.cons .head (.drop .refl))
    refine zc8 S (S.rd (.cons hr2)) hc2 fun src it s hv hok hnew S => ?_
    refine zbd (σ := Option V) (fun i _ => ∀ j v, j < i → ds[j]? = some v → wholeV v 0 9 = true) (fun _ => g) (fun _ o' => [(("letters" : Str), some (V.ref la)), ("digits", some (.ref da)), ("letter", o), ("digit", o'), ("isinstance", none), ("tuple", none), ("list", none), ("BadArgument", none), ("is_whole", none), ("BadPattern", none), ("is_word", none), ("inner_letters", none), ("len", none), ("LONGEST", none)]) (fun _ _ => cells) _
      hPO hroom.handled hnew S (fun j v h => absurd h (Nat.not_lt_zero _)) ?_ ?_ ?_
    · intro i o' s hall S
      exact hok _ (S.rd (.cons (.cons hr2)))
    · intro Q hL hB hR i o' v s hall hvi S
      rw [hv] at hvi
      have hnum := hn2 _ (List.mem_of_getElem? hvi)
      refine zcm X S ixm3 rfl ixu3 ?_; walk_at "new"
      refine x_if ?_; refine isTrue_not ?_; refine PyProof.Rows.isTrue_plain ?_ (by rfl); refine Call_ ?_ (by rfl); refine zax X S ixm8 (zeg G) ?_; refine callWith_K G.XX (by kernel_rfl) ?_ (by rfl) (by rfl); refine args_cons ?_ (by rfl); refine zbv X S ixm3 ixm3 ?_; intro vN hvN; refine zaf (zaa rfl zac (zaa rfl zac zab)) ?_; refine ⟨S.In G.XX, ?_⟩
      refine wpAny_call (zdx G S.enter0 (hroom.deeper.mono (by decide)) (hvN ▸ hnum) fun s' S' => ?_)
      replace S := S'.ret0 S
      clear S'
      show wpAny _ _ (truthy _) _ _ _
      rw [hvN]
      refine wpAny_truthy_bool ?_
      refine ⟨fun h2 => ?_, fun h2 => ?_⟩
      · refine zbo G.XX G.lim (zg9 w) X S ixm9 (zbe G) hroom.deeper fun e s' T => hEr _ _ <| zau K₁ X T S fun s'' F => kx (fun hp => ?_) e s'' (F.sel (.drop .refl))
        obtain ⟨ns', ms, e1, e2, h3, h4, h5, h6, h7⟩ := hp
        exact zgj hvi (by simpa using h2) e2 h7
      · refine zas ?_; refine zas ?_
        refine hL i .next _ _ (fun j u hj hu => ?_) S rfl
        rcases Nat.lt_or_ge j i with h | h
        · exact hall j u h hu
        · have : j = i := by omega
          subst this
          rw [hvi] at hu
          cases hu
          simpa using h2
    · intro o' s hall S
      rw [hv] at hall
      obtain ⟨ms, rfl, hms⟩ := zfa hall
      refine zas ?_; refine hEnd _ ?_
      try with_reducible first | refine hQ _ _ ?_ | refine hEnd _ ?_
      exact k _ ⟨ns, ms, rfl, rfl, hns, hword, hlen, by simpa using hdl, hms⟩ S.drop1
theorem zdh {u v : Value} (h : NoSeq v) (e : V.of u = V.of v) : NoSeq u := by
  cases v <;> simp only [NoSeq] at h <;> cases u <;> simp [V.of, NoSeq] at e ⊢
theorem zd1 {w : World} {G0 : Heap} {Φ : List Addr} {g : PH} {s : Shared} {A : Around} {R : Result → Shared → Prop} {outer : List Env} {cells : Led} {lv dv : Value} {la : Addr} {c1 : Cell} {vs : List V}
    (G : Gd w G0) (K₀ : Stk A outer Φ) (I : Inv w G0 Φ g s.heap cells) (hroom : Room A 3) (hb : NoSeq lv ∨ (lv = .ref la ∧ Rd g cells la c1 ∧ SeqC c1 vs ∧ NoSeq dv))
    (kx : ∀ e s', FlyS w G0 outer 45 e ⟨Φ, s, g, cells.map Prod.fst⟩ g s' cells → R (.error (.ref e)) s') :
    codeAny (model pg w) A (.call (.ref 94) ⟨[lv, dv], []⟩) R s := by
  refine zan (vals := [lv, dv]) I G.XX G.lim hroom.lt (by exact rfl) (by kernel_rfl) (BindsTo.of_eq rfl) (by decide +kernel) (by decide) (by rfl) ?_
  intro env L s X S Q E hQ hEnd hEr hPO
  dsimp only [mkLoc, zah, zap, zar, zal, zaj, zak, za0] at S
  generalize hK : (⟨Φ, _, g, cells.map Prod.fst⟩ : Kon) = K at S kx
  have K₁ : Stk A outer K.Φ := by rw [← hK]; exact K₀
  rcases hb with hb | ⟨rfl, hr, hc, hb⟩
  · refine x_if ?_; refine isTrue_or ?_; refine isTrue_not ?_; refine PyProof.Rows.isTrue_plain ?_ (by rfl); refine Call_ ?_ (by rfl); refine zax X S ixm4 (zao G) ?_; refine PyProof.Rows.callWith_builtin1 ?_ (by rfl) (by rfl); refine args_cons ?_ (by rfl); refine zbv X S ixm0 ixm0 ?_; intro vN hvN; refine args_cons ?_ (by rfl); refine Tuple_ ?_; refine zaf (zaa rfl (zaw X S ixm5 (zb0 G)) (zaa rfl (zaw X S ixm6 (zc3 G)) zab)) ?_; refine za2 S sz2 ?_; walk_at "newo"; refine zaf zab ?_
    refine zeb S (zdh hb hvN) ixm1 ?_; walk_at "new"
    refine wpAny_truthy_bool ?_; refine zfv ?_; refine br_t ?_
    exact zbo G.XX G.lim (zf3 w) X S ixm7 (za7 G) hroom.deeper fun e s' T => hEr _ _ <| zau K₁ X T S fun s'' F => kx e s'' (F.sel (.drop .refl))
  · dsimp only [mkLoc, zah, zap, zar, zal, zaj, zak, za0] at S
    refine x_if ?_; refine isTrue_or ?_; refine isTrue_not ?_; refine PyProof.Rows.isTrue_plain ?_ (by rfl); refine Call_ ?_ (by rfl); refine zax X S ixm4 (zao G) ?_; refine PyProof.Rows.callWith_builtin1 ?_ (by rfl) (by rfl); refine args_cons ?_ (by rfl); refine r_ev (zae X S ixm0 ixm0) ?_; refine args_cons ?_ (by rfl); refine Tuple_ ?_; refine zaf (zaa rfl (zaw X S ixm5 (zb0 G)) (zaa rfl (zaw X S ixm6 (zc3 G)) zab)) ?_; refine za2 S sz2 ?_; walk_at "newo"; refine zaf zab ?_; refine zey S ((S.rd (Rd.cons (Rd.cons hr))).seq hc) ixm1 ?_; walk_at "new"; refine wpAny_truthy_bool ?_; refine zdz ?_; refine isTrue_or ?_; refine isTrue_not ?_; refine PyProof.Rows.isTrue_plain ?_ (by rfl); refine Call_ ?_ (by rfl); refine zax X S ixm4 (zao G) ?_; refine PyProof.Rows.callWith_builtin1 ?_ (by rfl) (by rfl); refine args_cons ?_ (by rfl); refine zbv X S ixm1 ixm1 ?_; intro vN hvN; refine args_cons ?_ (by rfl); refine Tuple_ ?_; refine zaf (zaa rfl (zaw X S ixm5 (zb0 G)) (zaa rfl (zaw X S ixm6 (zc3 G)) zab)) ?_; refine za2 S sz2 ?_; walk_at "newo"; refine zaf zab ?_
    refine zeb S (zdh hb hvN) ixm1 ?_; walk_at "new"
    refine wpAny_truthy_bool ?_; refine zfv ?_; refine br_t ?_
    exact zbo G.XX G.lim (zf3 w) X S ixm7 (za7 G) hroom.deeper fun e s' T => hEr _ _ <| zau K₁ X T S fun s'' F => kx e s'' (F.sel (.drop (.drop .refl)))
noncomputable def keyOf (ns : List Int) : Int := ns.foldl (fun f l => 256 * f + l) 0
theorem zda (ns : List Int) (n : Int) : keyOf (ns ++ [n]) = 256 * keyOf ns + n := by unfold keyOf; rw [List.foldl_append]; rfl
theorem zjq {ns : List Int} {i : Nat} {v : V} (h : (ns.map V.int)[i]? = some v) : ∃ n, v = .int n ∧ ns[i]? = some n := by
  rw [List.getElem?_map] at h
  cases q : ns[i]? with
  | none => rw [q] at h; cases h
  | some n => rw [q] at h; exact ⟨n, (Option.some.inj h).symm, rfl⟩
theorem zbl {α : Type} {l : List α} {i : Nat} {x : α} (h : l[i]? = some x) : l.take (i + 1) = l.take i ++ [x] := by
  rw [List.take_add_one, h]; rfl
theorem zgg {w : World} {G0 : Heap} {Φ : List Addr} {g : PH} {s : Shared} {A : Around} {R : Result → Shared → Prop} {cells : Led} {a : Addr} {c : Cell} {ns : List Int}
    (G : Gd w G0) (I : Inv w G0 Φ g s.heap cells) (hroom : Room A 1) (hr : Rd g cells a c) (hc : SeqC c (ns.map V.int))
    (k : ∀ t s', SS w G0 ⟨Φ, s, g, cells.map Prod.fst⟩ g s' cells → R (.ok (.ret (.int (keyOf ns) t))) s') :
    codeAny (model pg w) A (.call (.ref 101) ⟨[.ref a], []⟩) R s := by
  refine zan (vals := [.ref a]) I G.XX G.lim hroom.lt (by exact rfl) (by kernel_rfl) (BindsTo.of_eq rfl) (by decide +kernel) (by decide) (by rfl) ?_
  intro env L s X S Q E hQ hEnd hEr hPO
  dsimp only [mkLoc, zah, zap, zar, zal, zaj, zak, za0] at S
  generalize hK : (⟨Φ, _, g, cells.map Prod.fst⟩ : Kon) = K at S k
  refine zdw X S ixm1 zac (OfV.int _ _) ixu1 (by rfl) ?_; walk_at "new"; refine zdn ?_ (by intro _; with_unfolding_all rfl); refine r_ev (zae X S ixm0 ixm0) ?_
  refine zc8 S (S.rd (.cons hr)) hc fun src it s hv hok hnew S => ?_
  refine zbd (σ := Option V × Int) (fun i x => x.2 = keyOf (ns.take i)) (fun _ => g) (fun _ x => [(("letters" : Str), some (V.ref a)), ("found", some (.int x.2)), ("letter", x.1)]) (fun _ _ => cells) (_, _)
    hPO hroom.handled hnew S rfl ?_ ?_ ?_
  · intro i x s _ S
    exact hok _ (S.rd (.cons (.cons hr)))
  · intro Q hL hB hR i x v s hx hvi S
    rw [hv] at hvi
    apply zem hvi; intro n tn hn
    refine za3 X S ixm2 ixu2 ?_; walk_at "new"; refine zdw X S ixm1 (zdr (ze9 zac (zag X S ixm1 ixm1)) (zag X S ixm2 ixm2)) (OfV.int _ _) ixu1 (by rfl) ?_; walk_at "new"; refine zas ?_
    exact hL i .next (_, _) _ (by rw [zbl hn, zda, ← hx]) S rfl
  · intro x s hx S
    rw [hv, List.length_map, List.take_length] at hx
    refine zdy (zag X S ixm1 ixm1) ?_; refine hQ _ _ ?_
    rw [hx]
    exact k _ _ S.drop1
theorem ze3 {w : World} {G0 : Heap} {Φ : List Addr} {g : PH} {s : Shared} {A : Around} {R : Result → Shared → Prop} {outer : List Env} {cells : Led} {v : Value}
    (G : Gd w G0) (K₀ : Stk A outer Φ) (I : Inv w G0 Φ g s.heap cells) (hroom : Room A 4) (hv : NumV (V.of v) ∨ v = .none)
    (k : ∀ i t s', V.of v = .int i → SS w G0 ⟨Φ, s, g, cells.map Prod.fst⟩ g s' cells → R (.ok (.ret (.int (max 1 (min 63 i)) t))) s')
    (kx : (∀ i, V.of v ≠ .int i) → ∀ e s', FlyS w G0 outer 45 e ⟨Φ, s, g, cells.map Prod.fst⟩ g s' cells → R (.error (.ref e)) s') :
    codeAny (model pg w) A (.call (.ref 108) ⟨[v], []⟩) R s := by
  refine zan (vals := [v]) I G.XX G.lim hroom.lt (by exact rfl) (by kernel_rfl) (BindsTo.of_eq rfl) (by decide +kernel) (by decide) (by rfl) ?_
  intro env L s X S Q E hQ hEnd hEr hPO
  dsimp only [mkLoc, zah, zap, zar, zal, zaj, zak, za0] at S
  generalize hK : (⟨Φ, _, g, cells.map Prod.fst⟩ : Kon) = K at S k kx
  have K₁ : Stk A outer K.Φ := by rw [← hK]; exact K₀
  refine za9 ?_; refine Call_ ?_ (by rfl); refine zax X S ixm1 (zkn G) ?_; refine PyProof.Rows.callWith_builtin1 ?_ (by rfl) (by rfl); refine args_cons ?_ (by rfl); refine r_ev zac ?_; refine args_cons ?_ (by rfl); refine Call_ ?_ (by rfl); refine zax X S ixm2 (zn1 G) ?_; refine PyProof.Rows.callWith_builtin1 ?_ (by rfl) (by rfl); refine args_cons ?_ (by rfl); refine r_ev (zaw X S ixm3 (zfc G)) ?_; refine args_cons ?_ (by rfl); refine Call_ ?_ (by rfl); refine zax X S ixm4 (zh0 G) ?_; refine callWith_K G.XX (by kernel_rfl) ?_ (by rfl) (by rfl); refine args_cons ?_ (by rfl); refine zbv X S ixm0 ixm0 ?_; intro vN hvN; refine zaf zab ?_; refine ⟨S.In G.XX, ?_⟩
  refine wpAny_call (zha G (K₁.deeper X) S.enter0 hroom.deeper (hvN ▸ hv.imp id fun e => by subst e; cases vN <;> simp [V.of] at hvN ⊢) (fun i t s' hi S' => ?_) (fun hne e s' F => ?_))
  · replace S := S'.ret0 S
    clear S'
    show wpAny _ _ (spliced _) _ _ _
    refine zaf zab ?_; refine zlg hroom.deeper.handled S ?_; walk_at "newt"; refine zaf zab ?_; refine ziv hroom.deeper.handled S ?_; walk_at "newt"; refine hQ _ _ ?_
    try with_reducible first | refine hQ _ _ ?_ | refine hEnd _ ?_
    exact k i _ _ (hvN ▸ hi) S.drop1
  · exact hEr _ _ <| zbp K₁ X (F.up0 S) fun s'' F => kx (hvN ▸ hne) e s'' F
theorem zfp {w : World} {G0 : Heap} {Φ : List Addr} {g : PH} {s : Shared} {A : Around} {R : Result → Shared → Prop} {outer : List Env} {cells : Led} {v : Value}
    (G : Gd w G0) (K₀ : Stk A outer Φ) (I : Inv w G0 Φ g s.heap cells) (hroom : Room A 3) (hv : (∃ i t, v = .int i t) ∨ v = .none)
    (kx : ∀ e s', FlyS w G0 outer 45 e ⟨Φ, s, g, cells.map Prod.fst⟩ g s' cells → R (.error (.ref e)) s') :
    codeAny (model pg w) A (.call (.ref 122) ⟨[v], []⟩) R s := by
  refine zan (vals := [v]) I G.XX G.lim hroom.lt (by exact rfl) (by kernel_rfl) (BindsTo.of_eq rfl) (by decide +kernel) (by decide) (by rfl) ?_
  intro env L s X S Q E hQ hEnd hEr hPO
  generalize hK : (⟨Φ, _, g, cells.map Prod.fst⟩ : Kon) = K at S kx
  have K₁ : Stk A outer K.Φ := by rw [← hK]; exact K₀
  rcases hv with ⟨i, t, rfl⟩ | rfl
  · dsimp only [mkLoc, zah, zap, zar, zal, zaj, zak, za0] at S
    refine x_if ?_; refine zbs (zc6 (zba (zaz X G.XX S ixm4 (zao G) (Callee.bi _) (zaa rfl (zag X S ixm0 ixm0) (zaa rfl (zaw X S ixm5 (zit G)) zab)) ec_is) (by rfl))) ?_; refine zmk ?_
    exact zbo G.XX G.lim (zf3 w) X S ixm6 (za7 G) hroom.deeper fun e s' T => hEr _ _ <| zau K₁ X T S fun s'' F => kx e s'' F
  · dsimp only [mkLoc, zah, zap, zar, zal, zaj, zak, za0] at S
    refine x_if ?_; refine zbs (zc6 (zba (zaz X G.XX S ixm4 (zao G) (Callee.bi _) (zaa rfl (zh1 X S ixm0 ixm0) (zaa rfl (zaw X S ixm5 (zit G)) zab)) ec_ns) (by rfl))) ?_; refine zmk ?_
    exact zbo G.XX G.lim (zf3 w) X S ixm6 (za7 G) hroom.deeper fun e s' T => hEr _ _ <| zau K₁ X T S fun s'' F => kx e s'' F
theorem zgp {w : World} {G0 : Heap} {Φ : List Addr} {g : PH} {s : Shared} {A : Around} {R : Result → Shared → Prop} {outer : List Env} {cells : Led} {v : Value}
    (G : Gd w G0) (K₀ : Stk A outer Φ) (I : Inv w G0 Φ g s.heap cells) (hroom : Room A 3) (hv : (∃ i t, v = .int i t) ∨ v = .none)
    (kx : ∀ e s', FlyS w G0 outer 45 e ⟨Φ, s, g, cells.map Prod.fst⟩ g s' cells → R (.error (.ref e)) s') :
    codeAny (model pg w) A (.call (.ref 115) ⟨[v], []⟩) R s := by
  refine zan (vals := [v]) I G.XX G.lim hroom.lt (by exact rfl) (by kernel_rfl) (BindsTo.of_eq rfl) (by decide +kernel) (by decide) (by rfl) ?_
  intro env L s X S Q E hQ hEnd hEr hPO
  generalize hK : (⟨Φ, _, g, cells.map Prod.fst⟩ : Kon) = K at S kx
  have K₁ : Stk A outer K.Φ := by rw [← hK]; exact K₀
  rcases hv with ⟨i, t, rfl⟩ | rfl
  · dsimp only [mkLoc, zah, zap, zar, zal, zaj, zak, za0] at S
    refine x_if ?_; refine zbs (zc6 (zba (zaz X G.XX S ixm6 (zao G) (Callee.bi _) (zaa rfl (zag X S ixm0 ixm0) (zaa rfl (zaw X S ixm7 (zit G)) zab)) ec_is) (by rfl))) ?_; refine zmk ?_
    exact zbo G.XX G.lim (zf3 w) X S ixm8 (za7 G) hroom.deeper fun e s' T => hEr _ _ <| zau K₁ X T S fun s'' F => kx e s'' F
  · dsimp only [mkLoc, zah, zap, zar, zal, zaj, zak, za0] at S
    refine x_if ?_; refine zbs (zc6 (zba (zaz X G.XX S ixm6 (zao G) (Callee.bi _) (zaa rfl (zh1 X S ixm0 ixm0) (zaa rfl (zaw X S ixm7 (zit G)) zab)) ec_ns) (by rfl))) ?_; refine zmk ?_
    exact zbo G.XX G.lim (zf3 w) X S ixm8 (za7 G) hroom.deeper fun e s' T => hEr _ _ <| zau K₁ X T S fun s'' F => kx e s'' F
noncomputable def excStep (p : List Int × List Int) (c : Nat) : List Int × List Int := if c = 45 then (p.1, p.2 ++ [(p.1.length : Int)]) else (p.1 ++ [(c : Int)], p.2)
noncomputable def excRead (cps : List Nat) : List Int × List Int := cps.foldl excStep ([], [])
theorem zc2 (l : List Nat) (c : Nat) : excRead (l ++ [c]) = excStep (excRead l) c := by unfold excRead; rw [List.foldl_append]; rfl
theorem ze0 (l : List Nat) : (excRead l).1.length + (excRead l).2.length = l.length := by
  have : ∀ (l : List Nat) (p : List Int × List Int), (l.foldl excStep p).1.length + (l.foldl excStep p).2.length = l.length + p.1.length + p.2.length := by
    intro l
    induction l with
    | nil => intro p; simp
    | cons c r ih =>
      intro p
      rw [List.foldl_cons, ih]
      unfold excStep
      split <;> simp <;> omega
  have := this l ([], [])
  simpa [excRead] using this
theorem zod {x : Str} {i : Nat} {v : V} (h : (Src.str x).vals[i]? = some v) : ∃ c, v = .str ⟨#[c]⟩ ∧ x.cps.toList[i]? = some c := by
  rw [Src.vals, List.getElem?_map] at h
  cases q : x.cps.toList[i]? with
  | none => rw [q] at h; cases h
  | some c => rw [q] at h; exact ⟨c, (Option.some.inj h).symm, rfl⟩
theorem zj5 {P : Value → Prop} {x : Str} {i : Nat} {v : Value} (h : (Src.str x).vals[i]? = some (V.of v)) (k : ∀ c t, x.cps.toList[i]? = some c → P (.str ⟨#[c]⟩ t)) : P v := by
  obtain ⟨c, hvc, hc⟩ := zod h
  obtain ⟨t, rfl⟩ := V.of_str hvc
  exact k c t hc
theorem zfu {w : World} {G0 : Heap} {Φ : List Addr} {g : PH} {s : Shared} {A : Around} {R : Result → Shared → Prop} {cells : Led} {x : Str} {tx : Tok}
    (G : Gd w G0) (I : Inv w G0 Φ g s.heap cells) (hroom : Room A 2) (hsz : x.cps.toList.length ≤ sizeLine)
    (k : ∀ r l1 l2 s', SS w G0 ⟨Φ, s, g, cells.map Prod.fst⟩ g s' ((r, .tup [.ref l1, .ref l2]) :: (l1, .list ((excRead x.cps.toList).1.map V.int)) :: (l2, .list ((excRead x.cps.toList).2.map V.int)) :: cells) → R (.ok (.ret (.ref r))) s') :
    codeAny (model pg w) A (.call (.ref 122) ⟨[.str x tx], []⟩) R s := by
  refine zan (vals := [.str x tx]) I G.XX G.lim hroom.lt (by exact rfl) (by kernel_rfl) (BindsTo.of_eq rfl) (by decide +kernel) (by decide) (by rfl) ?_
  intro env L s X S Q E hQ hEnd hEr hPO
  dsimp only [mkLoc, zah, zap, zar, zal, zaj, zak, za0] at S
  generalize hK : (⟨Φ, _, g, cells.map Prod.fst⟩ : Kon) = K at S k
  refine x_if ?_; refine zbs (zc6 (zba (zaz X G.XX S ixm4 (zao G) (Callee.bi _) (zaa rfl (zct X S ixm0 ixm0) (zaa rfl (zaw X S ixm5 (zit G)) zab)) ec_ss) (by rfl))) ?_; refine zn6 ?_; refine zas ?_
  refine zci (G0 := G0) hroom.handled X ixm1 ixm2 ?_ rfl (by decide +kernel) rfl rfl rfl rfl
  refine Tuple_ ?_; refine args_cons ?_ (by rfl); refine List_ ?_; refine zaf zab ?_; refine zbg S sz0 ?_; walk_at "newo"; refine args_cons ?_ (by rfl); refine List_ ?_; refine zaf zab ?_; refine zbg S sz0 ?_; walk_at "newo"; refine zaf zab ?_; refine za2 S sz2 ?_; walk_at "newo"
  refine fun Z kZ => kZ _ _ _ _ _ _ rfl S (S.at ixm1).isT fun u1 u2 s e1 e2 S => ?_
  obtain rfl := V.of_ref e1
  obtain rfl := V.of_ref e2
  clear e1 e2
  refine za5 X S ixm2 ixu2 ?_; walk_at "new"; refine za5 X S ixm1 ixu1 ?_; walk_at "new"; refine zdn ?_ (by intro _; with_unfolding_all rfl); refine r_ev (zct X S ixm0 ixm0) ?_
  rename_i l1 _ l2 _ _ _
  have S := S.sel (.cons .head (.cons (.tail (.tail .head)) (.cons (.tail .head) (.drop .refl))))
  refine zkh S fun it s hnew S => ?_
  refine zbd (σ := Option V × List Int × List Int) (fun i y => y.2 = excRead (x.cps.toList.take i) ∧ y.2.1.length + y.2.2.length ≤ sizeLine) (fun _ => g) (fun _ y => [(("text" : Str), some (V.str x)), ("letters", some (.ref l1)), ("places", some (.ref l2)), ("mark", y.1), ("isinstance", none), ("str", none), ("BadArgument", none), ("len", none), ("ord", none)])
      (fun _ y => (l1, .list (y.2.1.map V.int)) :: (l2, .list (y.2.2.map V.int)) :: cells) (_, [], [])
    hPO hroom.handled hnew S ⟨rfl, by simp⟩ ?_ ?_ ?_
  · intros; exact trivial
  · intro Q hL hB hR i y v s hps hvi S
    apply zj5 hvi; intro c tn hc
    have hlen := hps.2
    generalize y.2 = ps at hps hlen S
    replace hps := hps.1
    have hsz1 : ps.1.length ≤ sizeLine := by omega
    have hsz1' : (ps.1.map V.int).length ≤ sizeLine := by rw [List.length_map]; exact hsz1
    have hnext : excStep ps c = excRead (x.cps.toList.take (i + 1)) := by rw [zbl hc, zc2, hps]
    have hlen' : (excStep ps c).1.length + (excStep ps c).2.length ≤ sizeLine := by
      rw [hnext, ze0, List.length_take]; exact Nat.le_trans (Nat.min_le_right _ _) hsz
    refine zcj X S ixm3 ixu3 ?_; walk_at "new"; refine x_if ?_; refine zbs (zbn (zct X S ixm3 ixm3) zb5 eo_eqS (by rfl)) ?_
    refine ⟨fun h => ?_, fun h => ?_⟩
    · have hc45 : c = 45 := by
        have := beq_iff_eq.mp h
        have : (⟨#[c]⟩ : Str) = ⟨#[45]⟩ := this
        simpa using this
      refine zcs X.kind ?_ (by rfl); refine methodCall_KW ?_ (by rfl); refine r_ev (zae X S ixm2 ixm2) ?_; refine zbj S ixm3 ?_; refine zd6 ?_ (by rfl) (by rfl); refine zaf (zaa rfl (zaz X G.XX S ixm7 (zcc G) (Callee.bi _) (zaa rfl (zae X S ixm1 ixm1) zab) (zb7 S ((S.at ixm2).seq SeqC.ofL) hsz1')) zab) ?_
      rw [List.length_map]
      refine zcr S ixv3 (by omega) ?_; walk_at "new"
      refine zas ?_; refine zas ?_
      unfold excStep at hnext hlen'
      rw [if_pos hc45] at hnext hlen'
      exact hL i .next (_, _) _ ⟨hnext, hlen'⟩ S rfl
    · have hc45 : c ≠ 45 := by
        intro e; subst e
        have : ((⟨#[45]⟩ : Str) == "-") = true := beq_iff_eq.mpr rfl
        rw [this] at h; cases h
      refine zcs X.kind ?_ (by rfl); refine methodCall_KW ?_ (by rfl); refine r_ev (zae X S ixm1 ixm1) ?_; refine zbj S ixm2 ?_; refine zd6 ?_ (by rfl) (by rfl); refine zaf (zaa rfl (zaz X G.XX S ixm8 (zjk G) (Callee.bi _) (zaa rfl (zct X S ixm3 ixm3) zab) zgx) zab) ?_
      refine zcr S ixv2 hsz1 ?_; walk_at "new"
      refine zas ?_; refine zas ?_
      unfold excStep at hnext hlen'
      rw [if_neg hc45] at hnext hlen'
      exact hL i .next (_, _) _ ⟨hnext, hlen'⟩ S rfl
  · intro y s hps S
    have e : y.2 = excRead x.cps.toList := by
      rw [hps.1]; congr 1
      rw [List.take_of_length_le]; simp [Src.vals]
    rw [e] at S
    refine za9 ?_; refine Tuple_ ?_; refine zaf (zaa rfl (zae X S ixm1 ixm1) (zaa rfl (zae X S ixm2 ixm2) zab)) ?_; refine za2 S sz2 ?_; walk_at "newo"; refine hQ _ _ ?_
    try with_reducible first | refine hQ _ _ ?_ | refine hEnd _ ?_
    exact k _ _ _ _ S.drop1
noncomputable def patStep (p : List Int × List Int × Bool) (c : Nat) : Option (List Int × List Int × Bool) :=
  if 48 ≤ c ∧ c ≤ 57 then (if p.2.2 = false then some (p.1, p.2.1.set (p.2.1.length - 1) ((c : Int) - 48), true) else none)
  else if c = 0 then none
  else some (p.1 ++ [if c = 46 then 0 else (c : Int)], p.2.1 ++ [0], false)
noncomputable def patFold (p : List Int × List Int × Bool) : List Nat → Option (List Int × List Int × Bool)
  | [] => some p
  | c :: r => match patStep p c with
    | some q => patFold q r
    | none => none
noncomputable def patRead (cps : List Nat) : Option (List Int × List Int × Bool) := patFold ([], [0], false) cps
theorem zer (p : List Int × List Int × Bool) (l r : List Nat) : patFold p (l ++ r) = (patFold p l).bind fun q => patFold q r := by
  induction l generalizing p with
  | nil => rfl
  | cons c l ih =>
    simp only [List.cons_append, patFold]
    cases patStep p c with
    | none => rfl
    | some q => exact ih q
theorem zd4 {p q : List Int × List Int × Bool} {l : List Nat} (h : patFold p l = some q) (c : Nat) : patFold p (l ++ [c]) = patStep q c := by
  rw [zer, h]
  show patFold q [c] = _
  unfold patFold
  cases patStep q c <;> rfl
theorem zh9 {cps : List Nat} {i c : Nat} {p : List Int × List Int × Bool} (hc : cps[i]? = some c) (h : patRead (cps.take i) = some p) (hs : patStep p c = none) : patRead cps = none := by
  have e : cps = cps.take (i + 1) ++ cps.drop (i + 1) := (List.take_append_drop _ _).symm
  rw [e]
  unfold patRead at h ⊢
  rw [zer, zbl hc, zd4 h, hs]
  rfl
theorem zj1 {p q : List Int × List Int × Bool} {l : List Nat} (h : patFold p l = some q) (hd : p.2.1.length = p.1.length + 1) : q.2.1.length = q.1.length + 1 ∧ q.1.length ≤ p.1.length + l.length := by
  induction l generalizing p with
  | nil => cases h; exact ⟨hd, Nat.le_refl _⟩
  | cons c r ih =>
    unfold patFold at h
    cases hs : patStep p c with
    | none => rw [hs] at h; cases h
    | some p' =>
      rw [hs] at h
      have key : p'.2.1.length = p'.1.length + 1 ∧ p'.1.length ≤ p.1.length + 1 := by
        unfold patStep at hs
        split at hs
        · split at hs
          · cases hs; simp [hd]
          · cases hs
        · split at hs
          · cases hs
          · cases hs; simp [hd]
      obtain ⟨h1, h2⟩ := ih h key.1
      exact ⟨h1, by simp; omega⟩
theorem zgz {w : World} {G0 : Heap} {Φ : List Addr} {g : PH} {s : Shared} {A : Around} {R : Result → Shared → Prop} {outer : List Env} {cells : Led} {x : Str} {tx : Tok}
    (G : Gd w G0) (K₀ : Stk A outer Φ) (I : Inv w G0 Φ g s.heap cells) (hroom : Room A 3) (hsz : x.cps.toList.length + 1 ≤ sizeLine)
    (k : ∀ p r l1 l2 s', patRead x.cps.toList = some p → SS w G0 ⟨Φ, s, g, cells.map Prod.fst⟩ g s' ((r, .tup [.ref l1, .ref l2]) :: (l1, .list (p.1.map V.int)) :: (l2, .list (p.2.1.map V.int)) :: cells) → R (.ok (.ret (.ref r))) s')
    (kx : patRead x.cps.toList = none → ∀ e s', FlyS w G0 outer 57 e ⟨Φ, s, g, cells.map Prod.fst⟩ g s' cells → R (.error (.ref e)) s') :
    codeAny (model pg w) A (.call (.ref 115) ⟨[.str x tx], []⟩) R s := by
  refine zan (vals := [.str x tx]) I G.XX G.lim hroom.lt (by exact rfl) (by kernel_rfl) (BindsTo.of_eq rfl) (by decide +kernel) (by decide) (by rfl) ?_
  intro env L s X S Q E hQ hEnd hEr hPO
  dsimp only [mkLoc, zah, zap, zar, zal, zaj, zak, za0] at S
  generalize hK : (⟨Φ, _, g, cells.map Prod.fst⟩ : Kon) = K at S k kx
  have K₁ : Stk A outer K.Φ := by rw [← hK]; exact K₀
  refine x_if ?_; refine zbs (zc6 (zba (zaz X G.XX S ixm6 (zao G) (Callee.bi _) (zaa rfl (zct X S ixm0 ixm0) (zaa rfl (zaw X S ixm7 (zit G)) zab)) ec_ss) (by rfl))) ?_; refine zn6 ?_; refine zas ?_
  refine zci (G0 := G0) hroom.handled X ixm1 ixm2 ?_ rfl (by decide +kernel) rfl rfl rfl rfl
  refine Tuple_ ?_; refine args_cons ?_ (by rfl); refine List_ ?_; refine zaf zab ?_; refine zbg S sz0 ?_; walk_at "newo"; refine args_cons ?_ (by rfl); refine List_ ?_; refine zaf (zaa rfl zac zab) ?_; refine zbg S sz1 ?_; walk_at "newo"; refine zaf zab ?_; refine za2 S sz2 ?_; walk_at "newo"
  refine fun Z kZ => kZ _ _ _ _ _ _ rfl S (S.at ixm1).isT fun u1 u2 s e1 e2 S => ?_
  obtain rfl := V.of_ref e1
  obtain rfl := V.of_ref e2
  clear e1 e2
  refine za5 X S ixm2 ixu2 ?_; walk_at "new"; refine za5 X S ixm1 ixu1 ?_; walk_at "new"; refine zdw X S ixm3 zbu (OfV.bool _) ixu3 (by rfl) ?_; walk_at "new"; refine zdn ?_ (by intro _; with_unfolding_all rfl); refine r_ev (zct X S ixm0 ixm0) ?_
  rename_i l1 _ t0 l2 _ _ _
  have S := S.sel (.cons .head (.cons (.tail (.tail .head)) (.cons (.tail .head) (.drop .refl))))
  refine zkh S fun it s hnew S => ?_
  refine zbd (σ := Option V × Option V × List Int × List Int × Bool) (fun i y => patRead (x.cps.toList.take i) = some y.2.2 ∧ y.2.2.2.1.length = y.2.2.1.length + 1 ∧ y.2.2.1.length ≤ i) (fun _ => g)
      (fun _ y => [(("text" : Str), some (V.str x)), ("letters", some (.ref l1)), ("digits", some (.ref l2)), ("is_behind_digit", some (.bool y.2.2.2.2)), ("mark", y.1), ("code", y.2.1), ("isinstance", none), ("str", none), ("BadArgument", none), ("ord", none), ("BadPattern", none), ("EDGE", none)])
      (fun _ y => (l1, .list (y.2.2.1.map V.int)) :: (l2, .list (y.2.2.2.1.map V.int)) :: cells) (_, _, [], [0], false)
    hPO hroom.handled hnew S ⟨rfl, rfl, Nat.le_refl _⟩ ?_ ?_ ?_
  · intros; exact trivial
  · intro Q hL hB hR i; refine pr5 ?_; intro o1 o2 pl pd pb v s hP hvi S
    have hp := hP.1
    have hd := hP.2.1
    have hlen := hP.2.2
    clear hP
    dsimp only at hp hd hlen S
    apply zj5 hvi; intro c tn hc
    have hilt : i < x.cps.toList.length := (List.getElem?_eq_some_iff.mp hc).1
    have hnext : ∀ q, patStep (pl, pd, pb) c = some q → patRead (x.cps.toList.take (i + 1)) = some q := fun q hq => by unfold patRead; rw [zbl hc, zd4 hp, hq]
    have hstop := fun hs => zh9 hc hp hs
    have raise : ∀ s ℓ', patStep (pl, pd, pb) c = none → SS w G0 K g s ((L, .ns [(("text" : Str), some (V.str x)), ("letters", some (.ref l1)), ("digits", some (.ref l2)), ("is_behind_digit", some (.bool pb)), ("mark", some (.str ⟨#[c]⟩)), ("code", some (.int c)), ("isinstance", none), ("str", none), ("BadArgument", none), ("ord", none), ("BadPattern", none), ("EDGE", none)]) :: ℓ') → ∀ (msg : Str) (np mp cpos pos : Pos) (kk : Nat) (rest : List Stmt) (Q : Flow → Shared → Prop), Sel ℓ' cells →
        wpAny (model pg w) (A.deeper env) (execs (.Raise (some (.Call (.Name "BadPattern" np) [.Constant (.str msg) kk mp] [] cpos)) none pos :: rest) env) Q E s := fun s ℓ' hs S msg np mp cpos pos kk rest Q hsel =>
      zbo G.XX G.lim (zg9 w) X S zcf (zbe G) hroom.deeper fun e s' T => hEr _ _ <| zau K₁ X T S fun s'' F => kx (hstop hs) e s'' (F.sel hsel)
    by_cases h48 : 48 ≤ c
    · have d1 : decide ((48 : Int) ≤ (c : Int)) = true := decide_eq_true (by omega)
      by_cases h57 : c ≤ 57
      · have d2 : decide ((c : Int) ≤ 57) = true := decide_eq_true (by omega)
        cases pb with
        | false =>
          have hq : patStep (pl, pd, false) c = some (pl, pd.set (pd.length - 1) ((c : Int) - 48), true) := by
            unfold patStep; rw [if_pos ⟨h48, h57⟩, if_pos rfl]
          refine zcj X S ixm4 ixu4 ?_; walk_at "new"; refine zdw X S ixm5 (zaz X G.XX S ixm9 (zjk G) (Callee.bi _) (zaa rfl (zct X S ixm4 ixm4) zab) zgx) (OfV.int _ _) ixu5 (by rfl) ?_; walk_at "new"; refine x_if ?_; refine isTrue_and ?_; refine isTrue_chain ?_ (by rfl); refine r_ev zac ?_; refine test_link ?_; refine r_ev (zag X S ixm5 ixm5) ?_; refine PyProof.Rows.le_int ?_; refine wpAny_truthy_bool ?_; rw [d1]; refine zb8 ?_; refine zdq ?_; refine r_ev zac ?_; refine PyProof.Rows.le_int ?_; refine wpAny_truthy_bool ?_; rw [d2]; refine zb8 ?_; refine isTrue_and ?_; refine zbs (zc6 (zba (zbw X S ixm3 ixm3) (by rfl))) ?_; refine zfv ?_; refine isTrue_and_nil ?_; refine br_t ?_; refine zbh ?_ (by rfl); refine r_ev (zlt (zag X S ixm5 ixm5) zac) ?_; refine r_ev (zae X S ixm2 ixm2) ?_; refine r_ev (zeu zac) ?_
          refine zgf (vs' := (pd.set (pd.length - 1) ((c : Int) - 48)).map V.int) S ixv3 (by simp; omega) rfl rfl (by rw [List.map_set, List.length_map]; rfl) ?_; walk_at "new"
          refine zdw X S ixm3 zbu (OfV.bool _) ixu3 (by rfl) ?_; walk_at "new"; refine zas ?_; refine zas ?_
          exact hL i .next (_, _, _, _, _) _ ⟨hnext _ hq, by rw [List.length_set]; exact hd, Nat.le_succ_of_le hlen⟩ S rfl
        | true =>
          have hq : patStep (pl, pd, true) c = none := by
            unfold patStep; rw [if_pos ⟨h48, h57⟩, if_neg (by simp)]
          refine zcj X S ixm4 ixu4 ?_; walk_at "new"; refine zdw X S ixm5 (zaz X G.XX S ixm9 (zjk G) (Callee.bi _) (zaa rfl (zct X S ixm4 ixm4) zab) zgx) (OfV.int _ _) ixu5 (by rfl) ?_; walk_at "new"; refine x_if ?_; refine isTrue_and ?_; refine isTrue_chain ?_ (by rfl); refine r_ev zac ?_; refine test_link ?_; refine r_ev (zag X S ixm5 ixm5) ?_; refine PyProof.Rows.le_int ?_; refine wpAny_truthy_bool ?_; rw [d1]; refine zb8 ?_; refine zdq ?_; refine r_ev zac ?_; refine PyProof.Rows.le_int ?_; refine wpAny_truthy_bool ?_; rw [d2]; refine zb8 ?_; refine isTrue_and ?_; refine zbs (zc6 (zba (zbw X S ixm3 ixm3) (by rfl))) ?_; refine zdz ?_; refine br_f ?_; refine x_if ?_; refine isTrue_or ?_; refine isTrue_chain ?_ (by rfl); refine r_ev zac ?_; refine test_link ?_; refine r_ev (zag X S ixm5 ixm5) ?_; refine PyProof.Rows.le_int ?_; refine wpAny_truthy_bool ?_; rw [d1]; refine zb8 ?_; refine zdq ?_; refine r_ev zac ?_; refine PyProof.Rows.le_int ?_; refine wpAny_truthy_bool ?_; rw [d2]; refine zb8 ?_; refine br_t ?_
          exact raise _ _ hq (by exact S) _ _ _ _ _ _ _ _ (.drop (.drop (.drop .refl)))
      · have d2 : decide ((c : Int) ≤ 57) = false := decide_eq_false (by omega)
        have d3 : ((c : Int) == 0) = false := by simp; omega
        have d4 : ((c : Int) == 46) = false := by simp; omega
        have hq : patStep (pl, pd, pb) c = some (pl ++ [(c : Int)], pd ++ [0], false) := by
          unfold patStep; rw [if_neg (by omega), if_neg (by omega), if_neg (by omega)]
        refine zcj X S ixm4 ixu4 ?_; walk_at "new"; refine zdw X S ixm5 (zaz X G.XX S ixm9 (zjk G) (Callee.bi _) (zaa rfl (zct X S ixm4 ixm4) zab) zgx) (OfV.int _ _) ixu5 (by rfl) ?_; walk_at "new"; refine x_if ?_; refine isTrue_and ?_; refine isTrue_chain ?_ (by rfl); refine r_ev zac ?_; refine test_link ?_; refine r_ev (zag X S ixm5 ixm5) ?_; refine PyProof.Rows.le_int ?_; refine wpAny_truthy_bool ?_; rw [d1]; refine zb8 ?_; refine zdq ?_; refine r_ev zac ?_; refine PyProof.Rows.le_int ?_; refine wpAny_truthy_bool ?_; rw [d2]; refine zc9 ?_; refine br_f ?_; refine x_if ?_; refine isTrue_or ?_; refine isTrue_chain ?_ (by rfl); refine r_ev zac ?_; refine test_link ?_; refine r_ev (zag X S ixm5 ixm5) ?_; refine PyProof.Rows.le_int ?_; refine wpAny_truthy_bool ?_; rw [d1]; refine zb8 ?_; refine zdq ?_; refine r_ev zac ?_; refine PyProof.Rows.le_int ?_; refine wpAny_truthy_bool ?_; rw [d2]; refine zc9 ?_; refine isTrue_or ?_; refine zbs (zbn (zag X S ixm5 ixm5) zac zhc (by rfl)) ?_; rw [d3]; refine zc9 ?_; refine isTrue_or_nil ?_; refine br_f ?_; refine zcs X.kind ?_ (by rfl); refine methodCall_KW ?_ (by rfl); refine r_ev (zae X S ixm1 ixm1) ?_; refine zbj S ixm2 ?_; refine zd6 ?_ (by rfl) (by rfl); refine args_cons ?_ (by rfl); refine IfExp_ ?_; refine zbs (zbn (zag X S ixm5 ixm5) zac zhc (by rfl)) ?_; rw [d4]; refine zc9 ?_; refine r_ev (zag X S ixm5 ixm5) ?_; refine zaf zab ?_
        refine zcr S ixv2 (by omega) ?_; walk_at "new"
        refine zcs X.kind ?_ (by rfl); refine methodCall_KW ?_ (by rfl); refine r_ev (zae X S ixm2 ixm2) ?_; refine zbj S ixm3 ?_; refine zd6 ?_ (by rfl) (by rfl); refine zaf (zaa rfl zac zab) ?_
        refine zcr S ixv3 (by omega) ?_; walk_at "new"
        refine zdw X S ixm3 zbu (OfV.bool _) ixu3 (by rfl) ?_; walk_at "new"; refine zas ?_; refine zas ?_; refine zas ?_
        exact hL i .next (_, _, _, _, _) _ ⟨hnext _ hq, by simp only [List.length_append, hd, List.length_singleton], by rw [List.length_append]; exact Nat.succ_le_succ hlen⟩ S rfl
    · have d1 : decide ((48 : Int) ≤ (c : Int)) = false := decide_eq_false (by omega)
      by_cases h0 : c = 0
      · have d3 : ((c : Int) == 0) = true := by simp; exact h0
        have hq : patStep (pl, pd, pb) c = none := by
          unfold patStep; rw [if_neg (by omega), if_pos h0]
        refine zcj X S ixm4 ixu4 ?_; walk_at "new"; refine zdw X S ixm5 (zaz X G.XX S ixm9 (zjk G) (Callee.bi _) (zaa rfl (zct X S ixm4 ixm4) zab) zgx) (OfV.int _ _) ixu5 (by rfl) ?_; walk_at "new"; refine x_if ?_; refine isTrue_and ?_; refine isTrue_chain ?_ (by rfl); refine r_ev zac ?_; refine test_link ?_; refine r_ev (zag X S ixm5 ixm5) ?_; refine PyProof.Rows.le_int ?_; refine wpAny_truthy_bool ?_; rw [d1]; refine zc9 ?_; refine zc9 ?_; refine br_f ?_; refine x_if ?_; refine isTrue_or ?_; refine isTrue_chain ?_ (by rfl); refine r_ev zac ?_; refine test_link ?_; refine r_ev (zag X S ixm5 ixm5) ?_; refine PyProof.Rows.le_int ?_; refine wpAny_truthy_bool ?_; rw [d1]; refine zc9 ?_; refine zc9 ?_; refine isTrue_or ?_; refine zbs (zbn (zag X S ixm5 ixm5) zac zhc (by rfl)) ?_; rw [d3]; refine zb8 ?_; refine br_t ?_
        exact raise _ _ hq (by exact S) _ _ _ _ _ _ _ _ (.drop (.drop (.drop .refl)))
      · have d3 : ((c : Int) == 0) = false := by simp; exact h0
        by_cases h46 : c = 46
        · have d4 : ((c : Int) == 46) = true := by simp; omega
          have hq : patStep (pl, pd, pb) c = some (pl ++ [0], pd ++ [0], false) := by
            unfold patStep; rw [if_neg (by omega), if_neg h0, if_pos h46]
          refine zcj X S ixm4 ixu4 ?_; walk_at "new"; refine zdw X S ixm5 (zaz X G.XX S ixm9 (zjk G) (Callee.bi _) (zaa rfl (zct X S ixm4 ixm4) zab) zgx) (OfV.int _ _) ixu5 (by rfl) ?_; walk_at "new"; refine x_if ?_; refine isTrue_and ?_; refine isTrue_chain ?_ (by rfl); refine r_ev zac ?_; refine test_link ?_; refine r_ev (zag X S ixm5 ixm5) ?_; refine PyProof.Rows.le_int ?_; refine wpAny_truthy_bool ?_; rw [d1]; refine zc9 ?_; refine zc9 ?_; refine br_f ?_; refine x_if ?_; refine isTrue_or ?_; refine isTrue_chain ?_ (by rfl); refine r_ev zac ?_; refine test_link ?_; refine r_ev (zag X S ixm5 ixm5) ?_; refine PyProof.Rows.le_int ?_; refine wpAny_truthy_bool ?_; rw [d1]; refine zc9 ?_; refine zc9 ?_; refine isTrue_or ?_; refine zbs (zbn (zag X S ixm5 ixm5) zac zhc (by rfl)) ?_; rw [d3]; refine zc9 ?_; refine isTrue_or_nil ?_; refine br_f ?_; refine zcs X.kind ?_ (by rfl); refine methodCall_KW ?_ (by rfl); refine r_ev (zae X S ixm1 ixm1) ?_; refine zbj S ixm2 ?_; refine zd6 ?_ (by rfl) (by rfl); refine args_cons ?_ (by rfl); refine IfExp_ ?_; refine zbs (zbn (zag X S ixm5 ixm5) zac zhc (by rfl)) ?_; rw [d4]; refine zb8 ?_; refine r_ev (zaw X S zcp (zgh G)) ?_; refine zaf zab ?_
          refine zcr S ixv2 (by omega) ?_; walk_at "new"
          refine zcs X.kind ?_ (by rfl); refine methodCall_KW ?_ (by rfl); refine r_ev (zae X S ixm2 ixm2) ?_; refine zbj S ixm3 ?_; refine zd6 ?_ (by rfl) (by rfl); refine zaf (zaa rfl zac zab) ?_
          refine zcr S ixv3 (by omega) ?_; walk_at "new"
          refine zdw X S ixm3 zbu (OfV.bool _) ixu3 (by rfl) ?_; walk_at "new"; refine zas ?_; refine zas ?_; refine zas ?_
          exact hL i .next (_, _, _, _, _) _ ⟨hnext _ hq, by simp only [List.length_append, hd, List.length_singleton], by rw [List.length_append]; exact Nat.succ_le_succ hlen⟩ S rfl
        · have d4 : ((c : Int) == 46) = false := by simp; omega
          have hq : patStep (pl, pd, pb) c = some (pl ++ [(c : Int)], pd ++ [0], false) := by
            unfold patStep; rw [if_neg (by omega), if_neg h0, if_neg h46]
          refine zcj X S ixm4 ixu4 ?_; walk_at "new"; refine zdw X S ixm5 (zaz X G.XX S ixm9 (zjk G) (Callee.bi _) (zaa rfl (zct X S ixm4 ixm4) zab) zgx) (OfV.int _ _) ixu5 (by rfl) ?_; walk_at "new"; refine x_if ?_; refine isTrue_and ?_; refine isTrue_chain ?_ (by rfl); refine r_ev zac ?_; refine test_link ?_; refine r_ev (zag X S ixm5 ixm5) ?_; refine PyProof.Rows.le_int ?_; refine wpAny_truthy_bool ?_; rw [d1]; refine zc9 ?_; refine zc9 ?_; refine br_f ?_; refine x_if ?_; refine isTrue_or ?_; refine isTrue_chain ?_ (by rfl); refine r_ev zac ?_; refine test_link ?_; refine r_ev (zag X S ixm5 ixm5) ?_; refine PyProof.Rows.le_int ?_; refine wpAny_truthy_bool ?_; rw [d1]; refine zc9 ?_; refine zc9 ?_; refine isTrue_or ?_; refine zbs (zbn (zag X S ixm5 ixm5) zac zhc (by rfl)) ?_; rw [d3]; refine zc9 ?_; refine isTrue_or_nil ?_; refine br_f ?_; refine zcs X.kind ?_ (by rfl); refine methodCall_KW ?_ (by rfl); refine r_ev (zae X S ixm1 ixm1) ?_; refine zbj S ixm2 ?_; refine zd6 ?_ (by rfl) (by rfl); refine args_cons ?_ (by rfl); refine IfExp_ ?_; refine zbs (zbn (zag X S ixm5 ixm5) zac zhc (by rfl)) ?_; rw [d4]; refine zc9 ?_; refine r_ev (zag X S ixm5 ixm5) ?_; refine zaf zab ?_
          refine zcr S ixv2 (by omega) ?_; walk_at "new"
          refine zcs X.kind ?_ (by rfl); refine methodCall_KW ?_ (by rfl); refine r_ev (zae X S ixm2 ixm2) ?_; refine zbj S ixm3 ?_; refine zd6 ?_ (by rfl) (by rfl); refine zaf (zaa rfl zac zab) ?_
          refine zcr S ixv3 (by omega) ?_; walk_at "new"
          refine zdw X S ixm3 zbu (OfV.bool _) ixu3 (by rfl) ?_; walk_at "new"; refine zas ?_; refine zas ?_; refine zas ?_
          exact hL i .next (_, _, _, _, _) _ ⟨hnext _ hq, by simp only [List.length_append, hd, List.length_singleton], by rw [List.length_append]; exact Nat.succ_le_succ hlen⟩ S rfl
  · intro y s hP S
    have hp := hP.1
    have e : x.cps.toList.take (Src.str x).vals.length = x.cps.toList := by rw [List.take_of_length_le]; simp [Src.vals]
    rw [e] at hp
    refine za9 ?_; refine Tuple_ ?_; refine zaf (zaa rfl (zae X S ixm1 ixm1) (zaa rfl (zae X S ixm2 ixm2) zab)) ?_; refine za2 S sz2 ?_; walk_at "newo"; refine hQ _ _ ?_
    try with_reducible first | refine hQ _ _ ?_ | refine hEnd _ ?_
    exact k _ _ _ _ _ hp S.drop1
noncomputable def lookI (lk : List (Int × Int)) (k : Int) : Option Int := (lk.find? fun kv => kv.1 = k).map (·.2)
noncomputable def vI (p : Int × Int) : Int × V := (p.1, .int p.2)
theorem zeh (lk : List (Int × Int)) (k : Int) : lookV (lk.map vI) k = (lookI lk k).map V.int := by
  unfold lookV lookI
  induction lk with
  | nil => rfl
  | cons p r ih =>
    simp only [List.map_cons, List.find?_cons, vI]
    by_cases h : p.1 = k
    · simp [h]
    · simp only [h, decide_false]; exact ih
noncomputable def walkS (lk : List (Int × Int)) : Int → List Int → Option Int
  | st, [] => some st
  | st, n :: r => match lookI lk (256 * st + n) with
    | some v => walkS lk v r
    | none => none
theorem zd7 (lk : List (Int × Int)) (st : Int) (l r : List Int) : walkS lk st (l ++ r) = (walkS lk st l).bind fun v => walkS lk v r := by
  induction l generalizing st with
  | nil => rfl
  | cons n l ih =>
    simp only [List.cons_append, walkS]
    cases lookI lk (256 * st + n) with
    | none => rfl
    | some v => exact ih v
theorem zhq {lk : List (Int × Int)} {st v : Int} {l : List Int} (h : walkS lk st l = some v) (n : Int) : walkS lk st (l ++ [n]) = lookI lk (256 * v + n) := by
  rw [zd7, h]
  show walkS lk v [n] = _
  simp only [walkS]
  cases lookI lk (256 * v + n) <;> rfl
theorem zht {w : World} {G0 : Heap} {K : Kon} {g : PH} {s : Shared} {ℓ : Led} {d : Addr} {A : Around} {E : Value → Shared → Prop} {Q : Value → Shared → Prop} {lk : List (Int × Int)} {i : Int} {t : Tok} {dflt : Value}
    (S : SS w G0 K g s ℓ) (hm : (d, DC w (lk.map vI)) ∈ ℓ) (hd : (d == sysModules) = false)
    (h : ∀ v t' s', SS w G0 K g s' ℓ → lookI lk i = some v → Q (.int v t') s') (h0 : ∀ s', SS w G0 K g s' ℓ → lookI lk i = none → Q dflt s') : wpAny (model pg w) A (call (.builtin "dict.get") [.ref d, .int i t, dflt]) Q E s := by
  refine zge S hm hd (fun v s' S' hl => ?_) (fun s' S' hl => ?_)
  · rw [zeh] at hl
    obtain ⟨v', hv1, hv2⟩ := Option.map_eq_some_iff.mp hl
    obtain ⟨tv, rfl⟩ := V.of_int hv2.symm
    exact h v' tv s' S' hv1
  · rw [zeh] at hl
    exact h0 s' S' (Option.map_eq_none_iff.mp hl)
theorem ltz_f {v : Int} (h : 0 ≤ v) : decide (v < 0) = false := decide_eq_false (Int.not_lt.mpr h)
theorem ltz_t : decide ((-1 : Int) < 0) = true := by decide
theorem zjh {w : World} {G0 : Heap} {Φ : List Addr} {g : PH} {s : Shared} {A : Around} {R : Result → Shared → Prop} {ρ : Led} {tb dx la na ea a : Addr} {c : Cell} {n : V} {lk : List (Int × Int)} {nk ek : List (Int × V)} {ns : List Int}
    (G : Gd w G0) (hla : (la == sysModules) = false)
    (I : Inv w G0 Φ g s.heap ((tb, IC 185 dx) :: (dx, AC [("links", .ref la), ("numbers", .ref na), ("states", n), ("exceptions", .ref ea)]) :: (la, DC w (lk.map vI)) :: (na, DC w nk) :: (ea, DC w ek) :: ρ)) (hroom : Room A 2) (hr : Rd g ρ a c) (hc : SeqC c (ns.map V.int))
    (hpos : ∀ k v, lookI lk k = some v → 0 ≤ v)
    (k : ∀ t s', SS w G0 ⟨Φ, s, g, ((tb, IC 185 dx) :: (dx, AC [("links", .ref la), ("numbers", .ref na), ("states", n), ("exceptions", .ref ea)]) :: (la, DC w (lk.map vI)) :: (na, DC w nk) :: (ea, DC w ek) :: ρ).map Prod.fst⟩ g s' ((tb, IC 185 dx) :: (dx, AC [("links", .ref la), ("numbers", .ref na), ("states", n), ("exceptions", .ref ea)]) :: (la, DC w (lk.map vI)) :: (na, DC w nk) :: (ea, DC w ek) :: ρ) →
      R (.ok (.ret (.int ((walkS lk 0 ns).getD (-1)) t))) s') :
    codeAny (model pg w) A (.call (.ref 143) ⟨[.ref tb, .ref a], []⟩) R s := by
  refine zan (vals := [.ref tb, .ref a]) I G.XX G.lim hroom.lt (by exact rfl) (by kernel_rfl) (BindsTo.of_eq rfl) (by decide +kernel) (by decide) (by rfl) ?_
  intro env L s X S Q E hQ hEnd hEr hPO
  dsimp only [mkLoc, zah, zap, zar, zal, zaj, zak, za0] at S
  generalize hK : (⟨Φ, _, g, _⟩ : Kon) = K at S k
  refine zdw X S ixm2 zac (OfV.int _ _) ixu2 (by rfl) ?_; walk_at "new"; refine zdn ?_ (by intro _; with_unfolding_all rfl); refine r_ev (zae X S ixm1 ixm1) ?_
  have hr' := (((((hr.cons (p := (ea, DC w ek))).cons (p := (na, DC w nk))).cons (p := (la, DC w (lk.map vI)))).cons (p := (dx, AC [("links", .ref la), ("numbers", .ref na), ("states", n), ("exceptions", .ref ea)]))).cons (p := (tb, IC 185 dx)))
  refine zc8 S (S.rd hr'.cons) hc fun src it s hv hok hnew S => ?_
  refine zbd (σ := Option V × Int) (fun i x => walkS lk 0 (ns.take i) = some x.2) (fun _ => g) (fun _ x => [(("self" : Str), some (V.ref tb)), ("letters", some (V.ref a)), ("state", some (.int x.2)), ("letter", x.1)])
      (fun _ _ => (tb, IC 185 dx) :: (dx, AC [("links", .ref la), ("numbers", .ref na), ("states", n), ("exceptions", .ref ea)]) :: (la, DC w (lk.map vI)) :: (na, DC w nk) :: (ea, DC w ek) :: ρ) (_, _)
    hPO hroom.handled hnew S rfl ?_ ?_ ?_
  · intro i x s _ S
    exact hok _ (S.rd hr'.cons.cons)
  · intro Q hL hB hR i x v s hst hvi S
    rw [hv] at hvi
    apply zem hvi; intro m tn hm
    have hnext : walkS lk 0 (ns.take (i + 1)) = lookI lk (256 * x.2 + m) := by rw [zbl hm]; exact zhq hst m
    refine za3 X S ixm3 ixu3 ?_; walk_at "new"; refine zav ?_ (by rfl); refine methodCall_KW ?_ (by rfl); refine Attribute_name ?_; refine r_ev (zae X S ixm0 ixm0) ?_; refine zbx G.XX (zat w) S ixm2 ixm3 (by kernel_rfl) (by rfl) ?_; walk_at "new"; refine zeo S ixm4 ?_; refine zd6 ?_ (by rfl) (by rfl); refine zaf (zaa rfl (zdr (ze9 zac (zag X S ixm2 ixm2)) (zag X S ixm3 ixm3)) (zaa rfl (zeu zac) zab)) ?_
    refine zht S ixm4 hla (fun v' tv s' S' hv1 => ?_) (fun s' S' hv1 => ?_)
    · replace S := S'
      clear S'
      rw [hv1] at hnext
      have d1 := ltz_f (hpos _ _ hv1)
      refine za3 X S ixm2 ixu2 ?_; walk_at "new"; refine x_if ?_; refine zbs (zbn (zag X S ixm2 ixm2) zac zih (by rfl)) ?_; rw [d1]; refine br_f ?_; refine zas ?_; refine zas ?_
      exact hL i .next (_, _) _ hnext S rfl
    · replace S := S'
      clear S'
      rw [hv1] at hnext
      refine za3 X S ixm2 ixu2 ?_; walk_at "new"; refine x_if ?_; refine zbs (zbn (zag X S ixm2 ixm2) zac zih (by rfl)) ?_; rw [ltz_t]; refine br_t ?_; refine zdy (zeu zac) ?_; refine hR _ _ _ ?_; refine hQ _ _ ?_
      have hnone : walkS lk 0 ns = none := by
        have e : ns = ns.take (i + 1) ++ ns.drop (i + 1) := (List.take_append_drop _ _).symm
        rw [e, zd7, hnext]; rfl
      have hv : (walkS lk 0 ns).getD (-1) = -1 := by rw [hnone]; rfl
      rw [← hv]
      exact k _ _ (S.sel (.drop (.drop .refl)))
  · intro x s hst S
    rw [hv, List.length_map, List.take_length] at hst
    refine zdy (zag X S ixm2 ixm2) ?_; refine hQ _ _ ?_
    have hv : (walkS lk 0 ns).getD (-1) = x.2 := by rw [hst]; rfl
    rw [← hv]
    exact k _ _ S.drop1
noncomputable def insS : List (Int × Int) → Int → Int → List Int → List (Int × Int) × Int × Int
  | lk, n, st, [] => (lk, n, st)
  | lk, n, st, m :: r => match lookI lk (256 * st + m) with
    | some v => insS lk n v r
    | none => insS (lk ++ [(256 * st + m, n)]) (n + 1) n r
theorem zll (lk : List (Int × Int)) (n st : Int) (l : List Int) (m : Int) : insS lk n st (l ++ [m]) =
    match lookI (insS lk n st l).1 (256 * (insS lk n st l).2.2 + m) with
    | some v => ((insS lk n st l).1, (insS lk n st l).2.1, v)
    | none => ((insS lk n st l).1 ++ [(256 * (insS lk n st l).2.2 + m, (insS lk n st l).2.1)], (insS lk n st l).2.1 + 1, (insS lk n st l).2.1) := by
  induction l generalizing lk n st with
  | nil =>
    simp only [List.nil_append, insS]
  | cons q r ih =>
    simp only [List.cons_append, insS]
    cases lookI lk (256 * st + q) with
    | some v => exact ih lk n v
    | none => exact ih _ _ _
theorem zkc (lk : List (Int × Int)) (n st : Int) (l : List Int) : (insS lk n st l).1.length ≤ lk.length + l.length := by
  induction l generalizing lk n st with
  | nil => simp [insS]
  | cons q r ih =>
    simp only [insS]
    cases lookI lk (256 * st + q) with
    | some v => have := ih lk n v; simp; exact Nat.le_succ_of_le this
    | none => have := ih (lk ++ [(256 * st + q, n)]) (n + 1) n; simp at this ⊢; omega
noncomputable def zeroA (ns ms : List Int) : List Int := if ns.head? = some 0 then ms.set 0 0 else ms
noncomputable def zeroE (ns ms : List Int) : List Int := if ns.getLast? = some 0 then (zeroA ns ms).set ((zeroA ns ms).length - 1) 0 else zeroA ns ms
theorem zg0 (ns ms : List Int) : (zeroA ns ms).length = ms.length := by unfold zeroA; split <;> simp
theorem zgs (ns ms : List Int) : (zeroE ns ms).length = ms.length := by unfold zeroE; split <;> simp [zg0]
noncomputable def knownS (lk : List (Int × Int)) (nk : List (Int × V)) (ns : List Int) : Bool := (lookV nk ((walkS lk 0 ns).getD (-1))).isSome
theorem zi7 {kvs : List (Int × V)} {k : Int} {v : V} (h : lookV kvs k = none) : storedV kvs k v = kvs ++ [(k, v)] := by
  unfold storedV
  rw [if_neg]
  intro hc
  obtain ⟨x, hx, he⟩ := List.any_eq_true.mp hc
  unfold lookV at h
  rw [Option.map_eq_none_iff, List.find?_eq_none] at h
  exact h x hx he
theorem zk4 {v1 v2 v3 v3' v4 : V} (y : Str) : ([(("links" : Str), v1), ("numbers", v2), ("states", v3'), ("exceptions", v4)] : List (Str × V)).lookup y = if y = "states" then some v3' else ([(("links" : Str), v1), ("numbers", v2), ("states", v3), ("exceptions", v4)] : List (Str × V)).lookup y := by
  simp only [List.lookup_cons]
  by_cases h1 : y = "links"
  · subst h1; rfl
  by_cases h2 : y = "numbers"
  · subst h2; rfl
  by_cases h3 : y = "states"
  · subst h3; rfl
  simp only [beq_false_of_ne h1, beq_false_of_ne h2, beq_false_of_ne h3, if_neg h3]
theorem zf0 (lk : List (Int × Int)) (k v j : Int) (h : lookI lk k = none) : lookI (lk ++ [(k, v)]) j = if j = k then some v else lookI lk j := by
  unfold lookI at h ⊢
  rw [List.find?_append]
  by_cases hj : j = k
  · subst hj
    rw [Option.map_eq_none_iff] at h
    rw [h]; simp
  · cases q : lk.find? (fun kv => decide (kv.1 = j)) with
    | some x => simp [hj]
    | none => simp [hj, Ne.symm hj]
theorem zle {w : World} {G0 : Heap} {Φ : List Addr} {g : PH} {s : Shared} {A : Around} {R : Result → Shared → Prop} {outer : List Env} {ρ : Led} {tb dx la na ea a1 a2 : Addr} {c1 c2 : Cell} {n : Int} {lk : List (Int × Int)} {nk ek : List (Int × V)} {vs ds : List V}
    (G : Gd w G0) (K₀ : Stk A outer Φ) (hla : (la == sysModules) = false) (hna : (na == sysModules) = false)
    (I : Inv w G0 Φ g s.heap ((tb, IC 185 dx) :: (dx, AC [("links", .ref la), ("numbers", .ref na), ("states", .int n), ("exceptions", .ref ea)]) :: (la, DC w (lk.map vI)) :: (na, DC w nk) :: (ea, DC w ek) :: ρ)) (hroom : Room A 4)
    (hr1 : Rd g ρ a1 c1) (hc1 : SeqC c1 vs) (hr2 : Rd g ρ a2 c2) (hc2 : SeqC c2 ds) (hn1 : ∀ v ∈ vs, NumV v) (hn2 : ∀ v ∈ ds, NumV v) (hs1 : vs.length ≤ sizeLine) (hs2 : ds.length ≤ sizeLine)
    (hpos : ∀ k v, lookI lk k = some v → 0 ≤ v) (hlk : lk.length + 63 ≤ sizeLine) (hnk : nk.length ≤ sizeLine)
    (k : ∀ ns ms ta s', vs = ns.map V.int → ds = ms.map V.int → patOk vs ds → knownS lk nk ns = false → s.heap.get? ta = none →
      SS w G0 ⟨Φ, s, g, ((tb, IC 185 dx) :: (dx, AC [("links", .ref la), ("numbers", .ref na), ("states", .int n), ("exceptions", .ref ea)]) :: (la, DC w (lk.map vI)) :: (na, DC w nk) :: (ea, DC w ek) :: ρ).map Prod.fst⟩ (g.set ta (.tup ((zeroE ns ms).map V.int))) s'
        ((tb, IC 185 dx) :: (dx, AC [("links", .ref la), ("numbers", .ref na), ("states", .int (insS lk n 0 ns).2.1), ("exceptions", .ref ea)]) :: (la, DC w ((insS lk n 0 ns).1.map vI)) :: (na, DC w (storedV nk (insS lk n 0 ns).2.2 (.ref ta))) :: (ea, DC w ek) :: ρ) → R (.ok (.ret .none)) s')
    (kx : (¬ patOk vs ds ∨ ∃ ns, vs = ns.map V.int ∧ knownS lk nk ns = true) → ∀ e s', FlyS w G0 outer 57 e ⟨Φ, s, g, ((tb, IC 185 dx) :: (dx, AC [("links", .ref la), ("numbers", .ref na), ("states", .int n), ("exceptions", .ref ea)]) :: (la, DC w (lk.map vI)) :: (na, DC w nk) :: (ea, DC w ek) :: ρ).map Prod.fst⟩ g s'
        ((tb, IC 185 dx) :: (dx, AC [("links", .ref la), ("numbers", .ref na), ("states", .int n), ("exceptions", .ref ea)]) :: (la, DC w (lk.map vI)) :: (na, DC w nk) :: (ea, DC w ek) :: ρ) → R (.error (.ref e)) s') :
    codeAny (model pg w) A (.call (.ref 150) ⟨[.ref tb, .ref a1, .ref a2], []⟩) R s := by
  refine zan (vals := [.ref tb, .ref a1, .ref a2]) I G.XX G.lim hroom.lt (by exact rfl) (by kernel_rfl) (BindsTo.of_eq rfl) (by decide +kernel) (by decide) (by rfl) ?_
  intro env L s X S Q E hQ hEnd hEr hPO
  dsimp only [mkLoc, zah, zap, zar, zal, zaj, zak, za0] at S
  generalize hK : (⟨Φ, _, g, _⟩ : Kon) = K at S k kx
  have K₁ : Stk A outer K.Φ := by rw [← hK]; exact K₀
  have up : ∀ {a c}, Rd g ρ a c → Rd g ((tb, IC 185 dx) :: (dx, AC [("links", .ref la), ("numbers", .ref na), ("states", .int n), ("exceptions", .ref ea)]) :: (la, DC w (lk.map vI)) :: (na, DC w nk) :: (ea, DC w ek) :: ρ) a c := fun h => h.cons.cons.cons.cons.cons
  refine zcs X.kind ?_ (by rfl); refine zai X G.XX S ixm7 (zdf G) (Callee.fn (by kernel_rfl)) (zaa rfl (zae X S ixm1 ixm1) (zaa rfl (zae X S ixm2 ixm2) zab)) ?_
  refine wpAny_call (zf4 G (K₁.deeper X) S.enter0 hroom.deeper (up hr1) hc1 (up hr2) hc2 hn1 hn2 hs1 hs2 (fun s' hp S' => ?_) (fun hp e s' F => ?_))
  rotate_left
  · exact hEr _ _ <| zbp K₁ X (F.up0 S) fun s'' F => kx (.inl hp) e s'' F
  replace S := S'.ret0 S
  clear S'
  show wpAny _ _ (execs _ env) _ _ _
  obtain ⟨ns, ms, rfl, rfl, hns, hword, hl63, hml, hms⟩ := id hp
  refine x_if ?_; refine wpAny_isTrue_Compare1 ?_; refine methodCall_KW ?_ (by rfl); refine r_ev (zae X S ixm0 ixm0) ?_; refine zam (f := 143) (name := "state_of") G.XX (zat w) S ixm1 ixm2 (by kernel_rfl) (by kernel_rfl) (by rfl) ?_; refine zbk (KF := KK w) (by kernel_rfl) ?_ (by rfl) (by rfl); refine zaf (zaa rfl (zae X S ixm1 ixm1) zab) ?_; refine ⟨S.In G.XX, ?_⟩
  refine wpAny_call (zjh G hla S.enter0 (hroom.deeper.mono (by decide)) hr1 hc1 hpos fun t s' S' => ?_)
  replace S := S'.ret0 S
  clear S'
  show wpAny _ _ (eval _ env) _ _ _
  refine Attribute_name ?_; refine r_ev (zae X S ixm0 ixm0) ?_; refine zbx G.XX (zat w) S ixm1 ixm2 (by kernel_rfl) (by rfl) ?_; walk_at "new"
  refine zmx S ixm4 hna ?_; walk_at "new"
  refine wpAny_truthy_bool ?_
  refine ⟨fun hk => ?_, fun hk => ?_⟩
  · exact zbo G.XX G.lim (zg9 w) X S ixm8 (zbe G) (hroom.deeper.mono (by decide)) fun e s' T => hEr _ _ <| zau K₁ X T S fun s'' F => kx (.inr ⟨ns, rfl, hk⟩) e s'' F
  refine zas ?_; refine zav ?_ (by rfl); refine zai X G.XX S ixm9 (zc3 G) (Callee.ty _) (zaa rfl (zae X S ixm2 ixm2) zab) ?_
  refine zfb S ((S.rd (Rd.cons (Rd.cons (Rd.cons (Rd.cons (Rd.cons (Rd.cons hr2))))))).seq hc2) (by simpa using hs2) fun rw s hrw S => ?_
  have hne : ns ≠ [] := by
    rintro rfl
    simp [innerL, sliceV, wordV] at hword
  have hpos0 : 0 < ns.length := List.length_pos_iff.mpr hne
  have hszn : ns.length ≤ sizeLine := by simpa using hs1
  obtain ⟨n0, hn0⟩ : ∃ n0, ns[0]? = some n0 := ⟨_, List.getElem?_eq_getElem hpos0⟩
  have hhead : ns.head? = some n0 := by rw [List.head?_eq_getElem?]; exact hn0
  obtain ⟨n1, hn1'⟩ : ∃ n1, ns[ns.length - 1]? = some n1 := ⟨_, List.getElem?_eq_getElem (Nat.sub_lt hpos0 (by decide))⟩
  have hlast : ns.getLast? = some n1 := by rw [List.getLast?_eq_getElem?]; exact hn1'
  refine za5 X S ixm3 ixu3 ?_; walk_at "new"
  have hAl := zg0 ns ms
  refine zc4 (fun s => SS w G0 K g s ((L, .ns [(("self" : Str), some (V.ref tb)), ("letters", some (.ref a1)), ("digits", some (.ref a2)), ("row", some (.ref rw)), ("state", none), ("letter", none), ("spot", none), ("check_pattern", none), ("BadPattern", none), ("list", none), ("EDGE", none), ("tuple", none)]) :: (rw, .list ((zeroA ns ms).map V.int)) ::
      ((tb, IC 185 dx) :: (dx, AC [("links", .ref la), ("numbers", .ref na), ("states", .int n), ("exceptions", .ref ea)]) :: (la, DC w (lk.map vI)) :: (na, DC w nk) :: (ea, DC w ek) :: ρ))) (fun J hJ => ?_) ?_
  · refine wpAny_isTrue_Compare1 ?_; refine zbb (zae X S ixm1 ixm1) zac ?_
    refine zb6 (n := n0) ((S.rd (Rd.cons (Rd.cons (Rd.cons (Rd.cons (Rd.cons (Rd.cons (Rd.cons hr1)))))))).seq hc1) hszn (by decide) hn0 zbi fun t => ?_
    refine r_ev (zaw X S zcf (zgh G)) ?_; refine PyProof.Rows.eq_int ?_; refine wpAny_truthy_bool ?_
    refine ⟨fun h => ?_, fun h => ?_⟩
    · have e : n0 = 0 := by simpa using h
      refine zbh ?_ (by rfl); refine r_ev zac ?_; refine r_ev (zae X S ixm3 ixm3) ?_; refine r_ev zac ?_
      refine zi1 S ixv1 (by decide) (by decide) (by simp; omega) rfl rfl ?_; walk_at "new"
      refine zas ?_
      refine hJ _ ?_
      unfold zeroA
      rw [hhead, e, if_pos rfl, List.map_set]
      exact S
    · have e : n0 ≠ 0 := by simpa using h
      refine zas ?_
      refine hJ _ ?_
      unfold zeroA
      rw [hhead, if_neg (by simpa using e)]
      exact S
  clear S
  intro s S
  refine zc4 (fun s => SS w G0 K g s ((L, .ns [(("self" : Str), some (V.ref tb)), ("letters", some (.ref a1)), ("digits", some (.ref a2)), ("row", some (.ref rw)), ("state", none), ("letter", none), ("spot", none), ("check_pattern", none), ("BadPattern", none), ("list", none), ("EDGE", none), ("tuple", none)]) :: (rw, .list ((zeroE ns ms).map V.int)) ::
      ((tb, IC 185 dx) :: (dx, AC [("links", .ref la), ("numbers", .ref na), ("states", .int n), ("exceptions", .ref ea)]) :: (la, DC w (lk.map vI)) :: (na, DC w nk) :: (ea, DC w ek) :: ρ))) (fun J hJ => ?_) ?_
  · refine wpAny_isTrue_Compare1 ?_; refine zbb (zae X S ixm1 ixm1) (zeu zac) ?_
    refine zjw (n := n1) ((S.rd (Rd.cons (Rd.cons (Rd.cons (Rd.cons (Rd.cons (Rd.cons (Rd.cons hr1)))))))).seq hc1) hszn (by decide) (by omega) (by rw [← hn1', zkj hpos0]) znr fun t => ?_
    refine r_ev (zaw X S zcf (zgh G)) ?_; refine PyProof.Rows.eq_int ?_; refine wpAny_truthy_bool ?_
    refine ⟨fun h => ?_, fun h => ?_⟩
    · have e : n1 = 0 := by simpa using h
      refine zbh ?_ (by rfl); refine r_ev zac ?_; refine r_ev (zae X S ixm3 ixm3) ?_; refine r_ev (zeu zac) ?_
      refine zgf S ixv1 (by simp; omega) rfl rfl rfl ?_; walk_at "new"
      refine zas ?_
      refine hJ _ ?_
      unfold zeroE
      rw [hlast, e, if_pos rfl, List.map_set]
      rw [List.length_map] at S
      exact S
    · have e : n1 ≠ 0 := by simpa using h
      refine zas ?_
      refine hJ _ ?_
      unfold zeroE
      rw [hlast, if_neg (by simpa using e)]
      exact S
  clear S
  intro s S
  refine zdw X S ixm4 zac (OfV.int _ _) ixu4 (by rfl) ?_; walk_at "new"; refine zdn ?_ (by intro _; with_unfolding_all rfl); refine r_ev (zae X S ixm1 ixm1) ?_
  refine zc8 S (S.rd (up hr1).cons.cons) hc1 fun src it s hv hok hnew S => ?_
  refine zbd (σ := Option V × Option V × List (Int × Int) × Int × Int) (fun i y => y.2.2 = insS lk n 0 (ns.take i)) (fun _ => g)
      (fun _ y => [(("self" : Str), some (V.ref tb)), ("letters", some (.ref a1)), ("digits", some (.ref a2)), ("row", some (.ref rw)), ("state", some (.int y.2.2.2.2)), ("letter", y.1), ("spot", y.2.1), ("check_pattern", none), ("BadPattern", none), ("list", none), ("EDGE", none), ("tuple", none)])
      (fun _ y => (rw, .list ((zeroE ns ms).map V.int)) :: (tb, IC 185 dx) :: (dx, AC [("links", .ref la), ("numbers", .ref na), ("states", .int y.2.2.2.1), ("exceptions", .ref ea)]) :: (la, DC w (y.2.2.1.map vI)) :: (na, DC w nk) :: (ea, DC w ek) :: ρ) (_, _, _, _, _)
    hPO hroom.handled hnew S rfl ?_ ?_ ?_
  · intro i y s _ S
    exact hok _ (S.rd hr1.cons.cons.cons.cons.cons.cons.cons.cons)
  · intro Q hL hB hR i; refine pr5 ?_; intro o1 o2 rl rn rs v s hr hvi S
    rw [hv] at hvi
    apply zem hvi; intro m tn hm
    dsimp only at hr S
    have hnext := zll lk n 0 (ns.take i) m
    rw [← zbl hm, ← hr] at hnext
    have hlen : rl.length ≤ sizeLine := by
      have := zkc lk n 0 (ns.take i)
      rw [← hr, List.length_take] at this
      dsimp only at this
      omega
    refine za3 X S ixm5 ixu5 ?_; walk_at "new"; refine zdw X S ixm6 (zdr (ze9 zac (zag X S ixm4 ixm4)) (zag X S ixm5 ixm5)) (OfV.int _ _) ixu6 (by rfl) ?_; walk_at "new"; refine x_if ?_; refine wpAny_isTrue_Compare1 ?_; refine r_ev (zag X S ixm6 ixm6) ?_; refine Attribute_name ?_; refine r_ev (zae X S ixm0 ixm0) ?_; refine zbx G.XX (zat w) S ixm3 ixm4 (by kernel_rfl) (by rfl) ?_; walk_at "new"
    refine zji S ixm5 hla ?_; walk_at "new"
    rw [zeh]
    cases hlk' : lookI rl (256 * rs + m) with
    | none =>
      rw [hlk'] at hnext
      refine wpAny_truthy_bool ?_
      refine ⟨fun h => ?_, fun h => by cases h⟩
      refine zbh ?_ (by rfl); refine Attribute_name ?_; refine r_ev (zae X S ixm0 ixm0) ?_; refine zhl G.XX (zat w) S ixm3 ixm4 (by kernel_rfl) (by rfl) ?_; walk_at "newt"; refine Attribute_name ?_; refine r_ev (zae X S ixm0 ixm0) ?_; refine zbx G.XX (zat w) S ixm3 ixm4 (by kernel_rfl) (by rfl) ?_; walk_at "new"; refine r_ev (zag X S ixm6 ixm6) ?_
      refine zg1 (pv := .int rn) S ixv5 (by simpa using hlen) rfl ?_; walk_at "new"
      have e1 : storedV (rl.map vI) (256 * rs + m) (.int rn) = (rl ++ [(256 * rs + m, rn)]).map vI := by
        rw [zi7 (by rw [zeh, hlk']; rfl), List.map_append]; rfl
      rw [e1] at S
      refine zku ?_; refine r_ev (zae X S ixm0 ixm0) ?_; refine zhl G.XX (zat w) S ixm3 ixm4 (by kernel_rfl) (by rfl) ?_; walk_at "newt"; refine r_ev zac ?_; refine zl1 ?_
      refine zea (l' := [("links", .ref la), ("numbers", .ref na), ("states", .int (rn + 1)), ("exceptions", .ref ea)]) G.XX (zat w) S ixm3 ixv4 (by kernel_rfl) rfl (fun y => zk4 y) (by show 4 ≤ 1000; decide) ?_; walk_at "new"
      refine zas ?_; refine zav ?_ (by rfl); refine Subscript_ ?_; refine Attribute_name ?_; refine r_ev (zae X S ixm0 ixm0) ?_; refine zbx G.XX (zat w) S ixm3 ixm4 (by kernel_rfl) (by rfl) ?_; walk_at "new"; refine r_ev (zag X S ixm6 ixm6) ?_
      have e2 : lookV ((rl ++ [(256 * rs + m, rn)]).map vI) (256 * rs + m) = some (.int rn) := by
        rw [zeh, zf0 _ _ _ _ hlk', if_pos rfl]; rfl
      refine zhj S ixm5 e2 zbm fun v s' S' hv' => ?_
      replace S := S'
      clear S'
      apply zjz hv'; intro t2
      refine za3 X S ixm4 ixu4 ?_; walk_at "new"; refine zas ?_
      exact hL i .next (_, _, _, _, _) _ hnext.symm S rfl
    | some v' =>
      rw [hlk'] at hnext
      refine wpAny_truthy_bool ?_
      refine ⟨fun h => (by cases h), fun h => ?_⟩
      refine zas ?_; refine zav ?_ (by rfl); refine Subscript_ ?_; refine Attribute_name ?_; refine r_ev (zae X S ixm0 ixm0) ?_; refine zbx G.XX (zat w) S ixm3 ixm4 (by kernel_rfl) (by rfl) ?_; walk_at "new"; refine r_ev (zag X S ixm6 ixm6) ?_
      refine zhj S ixm5 (by rw [zeh, hlk']; rfl) zbm fun v s' S' hv' => ?_
      replace S := S'
      clear S'
      apply zjz hv'; intro t2
      refine za3 X S ixm4 ixu4 ?_; walk_at "new"; refine zas ?_
      exact hL i .next (_, _, _, _, _) _ hnext.symm S rfl
  · intro y s hr S
    rw [hv, List.length_map, List.take_length] at hr
    rw [hr] at S
    refine zbh ?_ (by rfl); refine zai X G.XX S zcp (zb0 G) (Callee.ty _) (zaa rfl (zae X S ixm3 ixm3) zab) ?_
    refine zdc S ((S.at ixm1).isL) (by simp [zgs]; simpa using hs2) fun ta s hta S => ?_
    refine Attribute_name ?_; refine r_ev (zae X S ixm0 ixm0) ?_; refine zbx G.XX (zat w) S ixm3 ixm4 (by kernel_rfl) (by rfl) ?_; walk_at "new"; refine r_ev (zag X S ixm4 ixm4) ?_
    refine zg1 (pv := .ref ta) S ixv6 hnk rfl ?_; walk_at "new"
    refine zas ?_; refine hEnd _ ?_
    have S := (S.sel (.cons (.tail .head) (.drop (.drop .refl)))).freeze' hta
    try with_reducible first | refine hQ _ _ ?_ | refine hEnd _ ?_
    refine k ns ms ta s rfl rfl hp (by unfold knownS; simpa using hk) ?_ S
    rw [← hK] at hta; exact hta
theorem za8 {ns : List Int} : ∀ v ∈ ns.map V.int, NumV v := fun v hv => by
  obtain ⟨n, _, rfl⟩ := List.mem_map.mp hv; exact .inl ⟨n, rfl⟩
theorem zg3 {w : World} {G0 : Heap} {Φ : List Addr} {g : PH} {s : Shared} {A : Around} {R : Result → Shared → Prop} {outer : List Env} {ρ : Led} {tb dx la na ea : Addr} {n : Int} {lk : List (Int × Int)} {nk ek : List (Int × V)} {x : Str} {tx : Tok}
    (G : Gd w G0) (K₀ : Stk A outer Φ) (hla : (la == sysModules) = false) (hna : (na == sysModules) = false)
    (I : Inv w G0 Φ g s.heap ((tb, IC 185 dx) :: (dx, AC [("links", .ref la), ("numbers", .ref na), ("states", .int n), ("exceptions", .ref ea)]) :: (la, DC w (lk.map vI)) :: (na, DC w nk) :: (ea, DC w ek) :: ρ)) (hroom : Room A 5)
    (hsz : x.cps.toList.length + 2 ≤ sizeLine) (hpos : ∀ k v, lookI lk k = some v → 0 ≤ v) (hlk : lk.length + 63 ≤ sizeLine) (hnk : nk.length ≤ sizeLine)
    (k : ∀ p ta s', patRead x.cps.toList = some p → patOk (p.1.map V.int) (p.2.1.map V.int) → knownS lk nk p.1 = false → s.heap.get? ta = none →
      SS w G0 ⟨Φ, s, g, ((tb, IC 185 dx) :: (dx, AC [("links", .ref la), ("numbers", .ref na), ("states", .int n), ("exceptions", .ref ea)]) :: (la, DC w (lk.map vI)) :: (na, DC w nk) :: (ea, DC w ek) :: ρ).map Prod.fst⟩ (g.set ta (.tup ((zeroE p.1 p.2.1).map V.int))) s'
        ((tb, IC 185 dx) :: (dx, AC [("links", .ref la), ("numbers", .ref na), ("states", .int (insS lk n 0 p.1).2.1), ("exceptions", .ref ea)]) :: (la, DC w ((insS lk n 0 p.1).1.map vI)) :: (na, DC w (storedV nk (insS lk n 0 p.1).2.2 (.ref ta))) :: (ea, DC w ek) :: ρ) → R (.ok (.ret .none)) s')
    (kx : (patRead x.cps.toList = none ∨ ∃ p, patRead x.cps.toList = some p ∧ (¬ patOk (p.1.map V.int) (p.2.1.map V.int) ∨ knownS lk nk p.1 = true)) → ∀ e s', FlyS w G0 outer 57 e ⟨Φ, s, g, ((tb, IC 185 dx) :: (dx, AC [("links", .ref la), ("numbers", .ref na), ("states", .int n), ("exceptions", .ref ea)]) :: (la, DC w (lk.map vI)) :: (na, DC w nk) :: (ea, DC w ek) :: ρ).map Prod.fst⟩ g s'
        ((tb, IC 185 dx) :: (dx, AC [("links", .ref la), ("numbers", .ref na), ("states", .int n), ("exceptions", .ref ea)]) :: (la, DC w (lk.map vI)) :: (na, DC w nk) :: (ea, DC w ek) :: ρ) → R (.error (.ref e)) s') :
    codeAny (model pg w) A (.call (.ref 157) ⟨[.ref tb, .str x tx], []⟩) R s := by
  refine zan (vals := [.ref tb, .str x tx]) I G.XX G.lim hroom.lt (by exact rfl) (by kernel_rfl) (BindsTo.of_eq rfl) (by decide +kernel) (by decide) (by rfl) ?_
  intro env L s X S Q E hQ hEnd hEr hPO
  dsimp only [mkLoc, zah, zap, zar, zal, zaj, zak, za0] at S
  generalize hK : (⟨Φ, _, g, _⟩ : Kon) = K at S k kx
  have K₁ : Stk A outer K.Φ := by rw [← hK]; exact K₀
  refine zbq ?_ (by rfl) (by rfl); refine zai X G.XX S ixm4 (zet G) (Callee.fn (by kernel_rfl)) (zaa rfl (zct X S ixm1 ixm1) zab) ?_
  refine wpAny_call (zgz G (K₁.deeper X) S.enter0 (hroom.deeper.mono (by decide)) (Nat.le_of_lt hsz) (fun p r l1 l2 s' hp S' => ?_) (fun hp e s' F => ?_))
  rotate_left
  · exact hEr _ _ <| zbp K₁ X (F.up0 S) fun s'' F => kx (.inl hp) e s'' F
  replace S := S'.ret0 S
  clear S'
  show wpAny _ _ (assign _ env _) _ _ _
  refine zbz hroom.deeper.handled S ((S.at ixm1).isT) fun u1 u2 s e1 e2 S => ?_
  obtain rfl := V.of_ref e1
  obtain rfl := V.of_ref e2
  clear e1 e2
  obtain ⟨h1, h2⟩ := zj1 hp rfl
  simp only [List.length_nil, Nat.zero_add] at h2
  refine za5 X S ixm2 ixu2 ?_; walk_at "new"; refine za5 X S ixm3 ixu3 ?_; walk_at "new"; refine zcs X.kind ?_ (by rfl); refine methodCall_KW ?_ (by rfl); refine r_ev (zae X S ixm0 ixm0) ?_; refine zam (f := 150) (name := "add") G.XX (zat w) S ixm4 ixm5 (by kernel_rfl) (by kernel_rfl) (by rfl) ?_; refine zbk (KF := KK w) (by kernel_rfl) ?_ (by rfl) (by rfl); refine zaf (zaa rfl (zae X S ixm2 ixm2) (zaa rfl (zae X S ixm3 ixm3) zab)) ?_; refine ⟨S.In G.XX, ?_⟩
  have S : SS w G0 K g _ ((L, .ns [(("self" : Str), some (V.ref tb)), ("text", some (.str x)), ("letters", some (.ref l1)), ("digits", some (.ref l2)), ("read_pattern", none)]) :: ((tb, IC 185 dx) :: (dx, AC [("links", .ref la), ("numbers", .ref na), ("states", .int n), ("exceptions", .ref ea)]) :: (la, DC w (lk.map vI)) :: (na, DC w nk) :: (ea, DC w ek) :: ((l1, .list (p.1.map V.int)) :: (l2, .list (p.2.1.map V.int)) :: ρ))) := S.selN [1, 4, 4, 4, 4, 4, 2, 2, 0] (by rfl)
  refine wpAny_call (zle G (K₁.deeper X) hla hna S.enter0 hroom.deeper (.inl (.head _)) (.inl rfl) (.inl (.tail _ (.head _))) (.inl rfl) za8 za8 (by rw [List.length_map]; omega) (by rw [List.length_map]; omega) hpos hlk hnk (fun ns ms ta s' e1 e2 hok hkn hta S' => ?_) (fun hb e s' F => ?_))
  · obtain rfl := zaq e1
    obtain rfl := zaq e2
    have hta' := S.unborn hta
    replace S := S'.ret0 S
    clear S'
    show wpAny _ _ (execs [] env) _ _ _
    refine zas ?_; refine hEnd _ ?_
    try with_reducible first | refine hQ _ _ ?_ | refine hEnd _ ?_
    refine k p ta s' hp hok hkn ?_ (S.selN [2, 2, 2, 2, 2, 0, 0, 0] (by rfl))
    rw [← hK] at hta'; exact hta'
  · refine hEr _ _ <| zbp K₁ X (F.up0 S) fun s'' F => kx (.inr ⟨p, hp, ?_⟩) e s'' (F.selN [1, 1, 1, 1, 1, 0, 0] (by rfl))
    rcases hb with hb | ⟨ns, e1, hb⟩
    · exact .inl hb
    · rw [← zaq e1] at hb; exact .inr hb
theorem zju {w : World} {G0 : Heap} {Φ : List Addr} {g : PH} {s : Shared} {A : Around} {R : Result → Shared → Prop} {outer : List Env} {cells : Led} {tb : Addr} {v : Value}
    (G : Gd w G0) (K₀ : Stk A outer Φ) (I : Inv w G0 Φ g s.heap cells) (hroom : Room A 4) (hv : (∃ i t, v = .int i t) ∨ v = .none)
    (kx : ∀ e s', FlyS w G0 outer 45 e ⟨Φ, s, g, cells.map Prod.fst⟩ g s' cells → R (.error (.ref e)) s') :
    codeAny (model pg w) A (.call (.ref 157) ⟨[.ref tb, v], []⟩) R s := by
  refine zan (vals := [.ref tb, v]) I G.XX G.lim hroom.lt (by exact rfl) (by kernel_rfl) (BindsTo.of_eq rfl) (by decide +kernel) (by decide) (by rfl) ?_
  intro env L s X S Q E hQ hEnd hEr hPO
  generalize hK : (⟨Φ, _, g, cells.map Prod.fst⟩ : Kon) = K at S kx
  have K₁ : Stk A outer K.Φ := by rw [← hK]; exact K₀
  dsimp only [mkLoc, zah, zap, zar, zal, zaj, zak, za0] at S
  refine zbq ?_ (by rfl) (by rfl); refine Call_ ?_ (by rfl); refine zax X S ixm4 (zet G) ?_; refine callWith_K G.XX (by kernel_rfl) ?_ (by rfl) (by rfl); refine args_cons ?_ (by rfl); refine zbv X S ixm1 ixm1 ?_; intro vN hvN; refine zaf zab ?_; refine ⟨S.In G.XX, ?_⟩
  refine wpAny_call (zgp G (K₁.deeper X) S.enter0 hroom.deeper ?_ fun e s' F => hEr _ _ <| zbp K₁ X (F.up0 S) fun s'' F => kx e s'' F)
  rcases hv with ⟨i, t, rfl⟩ | rfl
  · obtain ⟨t', rfl⟩ := V.of_int hvN; exact .inl ⟨_, _, rfl⟩
  · exact .inr (V.of_none hvN)
noncomputable def exV (n : Nat) (qs : List Int) : List Int := ((List.range (n + 1)).map fun (i : Nat) => (i : Int)).filter fun i => qs.any (· == i)
noncomputable def excOk (vs ps : List V) : Prop := ∃ ns qs : List Int, vs = ns.map V.int ∧ ps = qs.map V.int ∧ wordV vs = true ∧ ns.length ≤ 63 ∧ ∀ q ∈ qs, 0 ≤ q ∧ q ≤ ns.length
noncomputable def exP (i : Nat) (qs : List Int) : List Int := ((List.range i).map fun (i : Nat) => (i : Int)).filter fun i => qs.any (· == i)
theorem zgb (i : Nat) (qs : List Int) : exP (i + 1) qs = if qs.any (· == (i : Int)) then exP i qs ++ [(i : Int)] else exP i qs := by
  unfold exP
  rw [List.range_succ, List.map_append, List.filter_append]
  cases h : qs.any (· == (i : Int)) <;> simp [h]
theorem zgr {vs : List V} (h : wordV vs = true) : vs ≠ [] ∧ ∃ ns : List Int, vs = ns.map V.int ∧ ∀ n ∈ ns, 1 ≤ n ∧ n ≤ 255 := by
  unfold wordV at h
  simp only [Bool.and_eq_true, Bool.not_eq_true', List.isEmpty_eq_false_iff, List.all_eq_true] at h
  exact ⟨h.1, zfa fun j v _ hj => h.2 v (List.mem_of_getElem? hj)⟩
theorem zc5 {w : World} {G0 : Heap} {Φ : List Addr} {g : PH} {s : Shared} {A : Around} {R : Result → Shared → Prop} {outer : List Env} {ρ : Led} {tb dx la na ea a1 a2 : Addr} {c1 c2 : Cell} {n : V} {lk nk ek : List (Int × V)} {vs ps : List V}
    (G : Gd w G0) (K₀ : Stk A outer Φ)
    (I : Inv w G0 Φ g s.heap ((tb, IC 185 dx) :: (dx, AC [("links", .ref la), ("numbers", .ref na), ("states", n), ("exceptions", .ref ea)]) :: (la, DC w lk) :: (na, DC w nk) :: (ea, DC w ek) :: ρ)) (hroom : Room A 4)
    (hr1 : Rd g ρ a1 c1) (hc1 : SeqC c1 vs) (hr2 : Rd g ρ a2 c2) (hc2 : SeqC c2 ps) (hn1 : ∀ v ∈ vs, NumV v) (hn2 : ∀ v ∈ ps, NumV v) (hs1 : vs.length ≤ sizeLine) (hs2 : ps.length ≤ sizeLine) (hek : ek.length ≤ sizeLine)
    (k : ∀ ns qs ta s', vs = ns.map V.int → ps = qs.map V.int → excOk vs ps → s.heap.get? ta = none →
      SS w G0 ⟨Φ, s, g, ((tb, IC 185 dx) :: (dx, AC [("links", .ref la), ("numbers", .ref na), ("states", n), ("exceptions", .ref ea)]) :: (la, DC w lk) :: (na, DC w nk) :: (ea, DC w ek) :: ρ).map Prod.fst⟩ (g.set ta (.tup ((exV ns.length qs).map V.int))) s'
        ((tb, IC 185 dx) :: (dx, AC [("links", .ref la), ("numbers", .ref na), ("states", n), ("exceptions", .ref ea)]) :: (la, DC w lk) :: (na, DC w nk) :: (ea, DC w (storedV ek (keyOf ns) (.ref ta))) :: ρ) → R (.ok (.ret .none)) s')
    (kx : ¬ excOk vs ps → ∀ e s', FlyS w G0 outer 57 e ⟨Φ, s, g, ((tb, IC 185 dx) :: (dx, AC [("links", .ref la), ("numbers", .ref na), ("states", n), ("exceptions", .ref ea)]) :: (la, DC w lk) :: (na, DC w nk) :: (ea, DC w ek) :: ρ).map Prod.fst⟩ g s'
        ((tb, IC 185 dx) :: (dx, AC [("links", .ref la), ("numbers", .ref na), ("states", n), ("exceptions", .ref ea)]) :: (la, DC w lk) :: (na, DC w nk) :: (ea, DC w ek) :: ρ) → R (.error (.ref e)) s') :
    codeAny (model pg w) A (.call (.ref 162) ⟨[.ref tb, .ref a1, .ref a2], []⟩) R s := by
  refine zb3 (vals := [.ref tb, .ref a1, .ref a2]) I G.XX G.lim hroom.lt (by exact rfl) (by kernel_rfl) (BindsTo.of_eq rfl) (by decide +kernel) (by rfl) ?_
  intro env L s X _ S Q E hQ hEnd hEr hPO
  dsimp only [mkLocC, mkCells, mkCl, isCellK, zah, zap, zar, zal, zaj, zak, za0, cond_true, cond_false, List.cons_append, List.nil_append] at S X
  generalize hK : (⟨Φ, _, g, _⟩ : Kon) = K at S k kx
  generalize hcp : L + 1 = cp at S X
  have K₁ : Stk A outer K.Φ := by rw [← hK]; exact K₀
  refine x_if ?_; refine isTrue_or ?_; refine isTrue_not ?_; refine PyProof.Rows.isTrue_plain ?_ (by rfl); refine Call_ ?_ (by rfl); refine zax X S ixm4 (zao G) ?_; refine PyProof.Rows.callWith_builtin1 ?_ (by rfl) (by rfl); refine args_cons ?_ (by rfl); refine r_ev (zae X S ixm1 ixm1) ?_; refine args_cons ?_ (by rfl); refine Tuple_ ?_; refine zaf (zaa rfl (zaw X S ixm5 (zb0 G)) (zaa rfl (zaw X S ixm6 (zc3 G)) zab)) ?_; refine za2 S sz2 ?_; walk_at "newo"; refine zaf zab ?_; refine zey S ((S.rd (Rd.cons (Rd.cons (Rd.cons (Rd.cons (Rd.cons (Rd.cons (Rd.cons (Rd.cons hr1))))))))).seq hc1) ixm1 ?_; walk_at "new"; refine wpAny_truthy_bool ?_; refine zdz ?_; refine isTrue_or ?_; refine isTrue_not ?_; refine PyProof.Rows.isTrue_plain ?_ (by rfl); refine Call_ ?_ (by rfl); refine zax X S ixm4 (zao G) ?_; refine PyProof.Rows.callWith_builtin1 ?_ (by rfl) (by rfl); refine args_cons ?_ (by rfl); refine r_ev (zad X S (Or.inl ixm2) ixm0 ixm2) ?_; refine args_cons ?_ (by rfl); refine Tuple_ ?_; refine zaf (zaa rfl (zaw X S ixm5 (zb0 G)) (zaa rfl (zaw X S ixm6 (zc3 G)) zab)) ?_; refine za2 S sz2 ?_; walk_at "newo"; refine zaf zab ?_; refine zey S ((S.rd (Rd.cons (Rd.cons (Rd.cons (Rd.cons (Rd.cons (Rd.cons (Rd.cons (Rd.cons (Rd.cons hr2)))))))))).seq hc2) ixm1 ?_; walk_at "new"; refine wpAny_truthy_bool ?_; refine zdz ?_; refine isTrue_or_nil ?_; refine br_f ?_; refine zas ?_; refine x_if ?_; refine isTrue_or ?_; refine isTrue_not ?_; refine PyProof.Rows.isTrue_plain ?_ (by rfl); refine zai X G.XX S ixm8 (ze4 G) (Callee.fn (by kernel_rfl)) (zaa rfl (zae X S ixm1 ixm1) zab) ?_
  have hnn := hn1
  refine wpAny_call (zfn G S.enter0 (hroom.deeper.mono (by decide)) hr1.cons.cons.cons.cons.cons.cons.cons.cons hc1 hn1 hs1 fun s' S' => ?_)
  replace S := S'.ret0 S
  clear S'
  show wpAny _ _ (truthy _) _ _ _
  refine wpAny_truthy_bool ?_
  cases hw : wordV vs with
  | false =>
    refine zfv ?_; refine br_t ?_
    refine zbo G.XX G.lim (zg9 w) X S zcp (zbe G) (hroom.deeper.mono (by decide)) fun e s' T => hEr _ _ <| zau K₁ X T S fun s'' F => kx (fun hp => ?_) e s'' (F.selN [4, 4, 4, 4, 4, 0, 0, 0] (by rfl))
    obtain ⟨ns, qs, e1, e2, e3, _⟩ := hp
    rw [hw] at e3; cases e3
  | true =>
  obtain ⟨hne, ns, rfl, hns⟩ := zgr hw
  refine zdz ?_; refine isTrue_or ?_; refine zbs (zbn (zaz X G.XX S ixm9 (zcc G) (Callee.bi _) (zaa rfl (zae X S ixm1 ixm1) zab) (zb7 S ((S.rd (Rd.cons (Rd.cons (Rd.cons (Rd.cons (Rd.cons (Rd.cons (Rd.cons (Rd.cons (Rd.cons hr1)))))))))).seq hc1) hs1)) (zaw X S zcf (zfc G)) zmc (by rfl)) ?_
  refine zdg (fun h3 => ?_) (fun h3 => ?_)
  · refine br_t ?_
    refine zbo G.XX G.lim (zg9 w) X S zcp (zbe G) (hroom.deeper.mono (by decide)) fun e s' T => hEr _ _ <| zau K₁ X T S fun s'' F => kx (fun hp => ?_) e s'' (F.selN [4, 4, 4, 4, 4, 0, 0, 0] (by rfl))
    obtain ⟨ns', qs, e1, e2, e3, e4, _⟩ := hp
    rw [← zaq e1] at e4
    simp at h3; omega
  have hlen : ns.length ≤ 63 := by simp at h3; omega
  clear h3
  refine isTrue_or_nil ?_; refine br_f ?_; refine zas ?_; refine zdn ?_ (by intro _; with_unfolding_all rfl); refine r_ev (zad X S (Or.inl ixm2) ixm0 ixm3) ?_
  have S : SS w G0 K g _ ((L, .ns [(("self" : Str), some (V.ref tb)), ("letters", some (.ref a1)), ("places", none), ("place", none), ("isinstance", none), ("tuple", none), ("list", none), ("BadArgument", none), ("is_word", none), ("len", none), ("LONGEST", none), ("BadPattern", none), ("is_whole", none), ("word_key", none), ("range", none)]) :: (cp, .cell (some (.ref a2))) ::
    ((tb, IC 185 dx) :: (dx, AC [("links", .ref la), ("numbers", .ref na), ("states", n), ("exceptions", .ref ea)]) :: (la, DC w lk) :: (na, DC w nk) :: (ea, DC w ek) :: ρ)) := S.selN [1, 3, 3, 3, 3, 3, 3, 0, 0] (by rfl)
  refine zc8 S (S.rd hr2.cons.cons.cons.cons.cons.cons.cons) hc2 fun src it s hv hok hnew S => ?_
  refine zbd (σ := Option V) (fun i _ => ∀ j v, j < i → ps[j]? = some v → wholeV v 0 ns.length = true) (fun _ => g) (fun _ o => [(("self" : Str), some (V.ref tb)), ("letters", some (.ref a1)), ("places", none), ("place", o), ("isinstance", none), ("tuple", none), ("list", none), ("BadArgument", none), ("is_word", none), ("len", none), ("LONGEST", none), ("BadPattern", none), ("is_whole", none), ("word_key", none), ("range", none)])
      (fun _ _ => (cp, .cell (some (.ref a2))) :: (tb, IC 185 dx) :: (dx, AC [("links", .ref la), ("numbers", .ref na), ("states", n), ("exceptions", .ref ea)]) :: (la, DC w lk) :: (na, DC w nk) :: (ea, DC w ek) :: ρ) _
    hPO hroom.handled hnew S (fun j v h => absurd h (Nat.not_lt_zero _)) ?_ ?_ ?_
  · intro i o s _ S
    exact hok _ (S.rd hr2.cons.cons.cons.cons.cons.cons.cons.cons)
  · intro Q hL hB hR i o v s hall hvi S
    rw [hv] at hvi
    have hnum := hn2 _ (List.mem_of_getElem? hvi)
    refine zcm X S ixm3 rfl ixu3 ?_; walk_at "new"
    refine x_if ?_; refine isTrue_not ?_; refine PyProof.Rows.isTrue_plain ?_ (by rfl); refine Call_ ?_ (by rfl); refine zax X S (ixmt ixm0) (zeg G) ?_; refine callWith_K G.XX (by kernel_rfl) ?_ (by rfl) (by rfl); refine args_cons ?_ (by rfl); refine zbv X S ixm3 ixm3 ?_; intro vN hvN; refine zaf (zaa rfl zac (zaa rfl (zaz X G.XX S ixm9 (zcc G) (Callee.bi _) (zaa rfl (zae X S ixm1 ixm1) zab) (zb7 S ((S.rd (Rd.cons (Rd.cons (Rd.cons (Rd.cons (Rd.cons (Rd.cons (Rd.cons (Rd.cons hr1))))))))).seq hc1) hs1)) zab)) ?_; refine ⟨S.In G.XX, ?_⟩
    rw [List.length_map]
    refine wpAny_call (zdx G S.enter0 (hroom.deeper.mono (by decide)) (hvN ▸ hnum) fun s' S' => ?_)
    replace S := S'.ret0 S
    clear S'
    show wpAny _ _ (truthy _) _ _ _
    rw [hvN]
    refine wpAny_truthy_bool ?_
    refine ⟨fun h2 => ?_, fun h2 => ?_⟩
    · refine zbo G.XX G.lim (zg9 w) X S zcp (zbe G) (hroom.deeper.mono (by decide)) fun e s' T => hEr _ _ <| zau K₁ X T S fun s'' F => kx (fun hp => ?_) e s'' (F.selN [3, 3, 3, 3, 3, 0, 0] (by rfl))
      obtain ⟨ns', qs, e1, e2, e3, e4, e5⟩ := hp
      rw [← zaq e1] at e5
      exact zgj hvi (by simpa using h2) e2 e5
    · refine zas ?_; refine zas ?_
      refine hL i .next _ _ (fun j u hj hu => ?_) S rfl
      rcases Nat.lt_or_ge j i with h | h
      · exact hall j u h hu
      · have : j = i := by omega
        subst this
        rw [hvi] at hu
        cases hu
        simpa using h2
  · intro o s hall S
    rw [hv] at hall
    obtain ⟨qs, rfl, hqs⟩ := zfa hall
    refine zbh ?_ (by rfl); refine Call_ ?_ (by rfl); refine zax X S ixm5 (zb0 G) ?_; refine PyProof.Rows.callWith_type1 ?_ (by rfl) (by rfl); refine args_cons ?_ (by rfl)
    refine zcn (G0 := G0) (K := K) (kinds' := [((".0" : Str), .local), ("place", .local), ("places", .cell)]) (cl' := [("places", cp)]) hroom.handled X ⟨rfl, by decide +kernel, by rfl, by exact ixm1, by rfl, by rfl, by rfl⟩ (fun CC hCC => ?_) (by intro _; with_unfolding_all rfl)
    refine zai X G.XX S (ixmt ixm2) (zb2 G) (Callee.ty _) (zaa rfl (zdr (zaz X G.XX S ixm9 (zcc G) (Callee.bi _) (zaa rfl (zae X S ixm1 ixm1) zab) (zb7 S ((S.rd (Rd.cons (Rd.cons (Rd.cons (Rd.cons (Rd.cons (Rd.cons (Rd.cons hr1)))))))).seq hc1) hs1)) zac) zab) ?_; refine zbr S ?_; walk_at "newo"
    rw [List.length_map] at S
    refine zck (n := ns.length + 1) S ixm1 (by rfl) (Nat.lt_of_le_of_lt hlen (by decide)) fun it s hnew S => ?_
    refine hCC Unit _ it (fun _ _ => True) (fun _ => g) _ (fun i _ => (exP i qs).map V.int) (fun _ _ => (aN, .opq (RangeObj 0 ((ns.length : Int) + 1))) :: (cp, .cell (some (.ref a2))) :: (tb, IC 185 dx) :: (dx, AC [("links", .ref la), ("numbers", .ref na), ("states", n), ("exceptions", .ref ea)]) :: (la, DC w lk) :: (na, DC w nk) :: (ea, DC w ek) :: ρ) () _ ?_ hnew S rfl trivial ?_ ?_ ?_
    · rw [zbf, sizeLine_eq]; exact Nat.lt_of_le_of_lt hlen (by decide)
    · intros; exact trivial
    · intro QY QN hY hNo i _ v s C D cenv _ hvi X
      apply zby hvi; intro hilt tv S
      dsimp only [mkLoc, zah, zap, zar, zal, zaj, zak, za0] at S
      refine zde ?_
      refine zh2 (zag X S ixm1 ixm0) (zad X S (Or.inl ixm2) ixm0 ixm5) (by rfl) ?_
      refine zej ((S.rd hr2.cons.cons.cons.cons.cons.cons.cons.cons.cons.cons.cons).seq hc2) ?_
      refine wpAny_truthy_bool ?_
      refine zdg (fun h => ?_) (fun h => ?_)
      · refine r_ev (zag X S ixm1 ixm0) ?_
        exact hY i () () C D _ _ _ trivial (by rw [zgb, if_pos h]; exact List.map_append) S
      · exact hNo i () () C D _ _ trivial (by rw [zgb, if_neg (by simp [h])]) S
    · intro _ D _ hD s S
      rw [zbf] at S
      refine zaf zab ?_
      refine zdc S ((S.at ixm1).isL) ?_ fun ta s hta S => ?_
      · have h1 : (exP (ns.length + 1) qs).length ≤ ns.length + 1 := by
          unfold exP
          exact Nat.le_trans (List.length_filter_le _ _) (by simp)
        rw [List.length_map, sizeLine_eq]; omega
      refine Attribute_name ?_; refine r_ev (zae X S ixm0 ixm0) ?_; refine zbx G.XX (zat w) S ixm5 ixm6 (by kernel_rfl) (by rfl) ?_; walk_at "new"; refine zai X G.XX S (ixmt ixm1) (zhf G) (Callee.fn (by kernel_rfl)) (zaa rfl (zae X S ixm1 ixm1) zab) ?_
      refine wpAny_call (zgg G S.enter0 (hroom.deeper.mono (by decide)) hr1.cons.cons.cons.cons.cons.cons.cons.cons.cons hc1 fun t s' S' => ?_)
      replace S := S'.ret0 S
      clear S'
      show wpAny _ _ (setItem _ _ _) _ _ _
      refine zg1 (pv := .ref ta) S ixv9 hek rfl ?_; walk_at "new"
      refine zas ?_; refine hEnd _ ?_
      have S : SS w G0 K g _ ((ta, .tup ((exP (ns.length + 1) qs).map V.int)) :: ((tb, IC 185 dx) :: (dx, AC [("links", .ref la), ("numbers", .ref na), ("states", n), ("exceptions", .ref ea)]) :: (la, DC w lk) :: (na, DC w nk) :: (ea, DC w (storedV ek (keyOf ns) (.ref ta))) :: ρ)) := S.selN [2, 5, 5, 5, 5, 5, 0, 0, 0, 0] (by rfl)
      try with_reducible first | refine hQ _ _ ?_ | refine hEnd _ ?_
      refine k ns qs ta s rfl rfl ⟨ns, qs, rfl, rfl, hw, hlen, hqs⟩ ?_ (S.freeze' hta)
      rw [← hK] at hta; exact hta
theorem zd2 {w : World} {G0 : Heap} {Φ : List Addr} {g : PH} {s : Shared} {A : Around} {R : Result → Shared → Prop} {outer : List Env} {cells : Led} {tb : Addr} {lv dv : Value} {la : Addr} {c1 : Cell} {vs : List V}
    (G : Gd w G0) (K₀ : Stk A outer Φ) (I : Inv w G0 Φ g s.heap cells) (hroom : Room A 3) (hb : NoSeq lv ∨ (lv = .ref la ∧ Rd g cells la c1 ∧ SeqC c1 vs ∧ NoSeq dv))
    (kx : ∀ e s', FlyS w G0 outer 45 e ⟨Φ, s, g, cells.map Prod.fst⟩ g s' cells → R (.error (.ref e)) s') :
    codeAny (model pg w) A (.call (.ref 162) ⟨[.ref tb, lv, dv], []⟩) R s := by
  refine zb3 (vals := [.ref tb, lv, dv]) I G.XX G.lim hroom.lt (by exact rfl) (by kernel_rfl) (BindsTo.of_eq rfl) (by decide +kernel) (by rfl) ?_
  intro env L s X _ S Q E hQ hEnd hEr hPO
  dsimp only [mkLocC, mkCells, mkCl, isCellK, zah, zap, zar, zal, zaj, zak, za0, cond_true, cond_false, List.cons_append, List.nil_append] at S X
  generalize hK : (⟨Φ, _, g, _⟩ : Kon) = K at S kx
  generalize hcp : L + 1 = cp at S X
  have K₁ : Stk A outer K.Φ := by rw [← hK]; exact K₀
  rcases hb with hb | ⟨rfl, hr, hc, hb⟩
  · refine x_if ?_; refine isTrue_or ?_; refine isTrue_not ?_; refine PyProof.Rows.isTrue_plain ?_ (by rfl); refine Call_ ?_ (by rfl); refine zax X S ixm4 (zao G) ?_; refine PyProof.Rows.callWith_builtin1 ?_ (by rfl) (by rfl); refine args_cons ?_ (by rfl); refine zbv X S ixm1 ixm1 ?_; intro vN hvN; refine args_cons ?_ (by rfl); refine Tuple_ ?_; refine zaf (zaa rfl (zaw X S ixm5 (zb0 G)) (zaa rfl (zaw X S ixm6 (zc3 G)) zab)) ?_; refine za2 S sz2 ?_; walk_at "newo"; refine zaf zab ?_
    refine zeb S (zdh hb hvN) ixm1 ?_; walk_at "new"
    refine wpAny_truthy_bool ?_; refine zfv ?_; refine br_t ?_
    exact zbo G.XX G.lim (zf3 w) X S ixm7 (za7 G) hroom.deeper fun e s' T => hEr _ _ <| zau K₁ X T S fun s'' F => kx e s'' (F.sel (by (refine Sel.drop ?_; refine Sel.drop ?_; exact Sel.refl)))
  · dsimp only [mkLoc, zah, zap, zar, zal, zaj, zak, za0] at S
    refine x_if ?_; refine isTrue_or ?_; refine isTrue_not ?_; refine PyProof.Rows.isTrue_plain ?_ (by rfl); refine Call_ ?_ (by rfl); refine zax X S ixm4 (zao G) ?_; refine PyProof.Rows.callWith_builtin1 ?_ (by rfl) (by rfl); refine args_cons ?_ (by rfl); refine r_ev (zae X S ixm1 ixm1) ?_; refine args_cons ?_ (by rfl); refine Tuple_ ?_; refine zaf (zaa rfl (zaw X S ixm5 (zb0 G)) (zaa rfl (zaw X S ixm6 (zc3 G)) zab)) ?_; refine za2 S sz2 ?_; walk_at "newo"; refine zaf zab ?_; refine zey S ((S.rd (Rd.cons (Rd.cons (Rd.cons hr)))).seq hc) ixm1 ?_; walk_at "new"; refine wpAny_truthy_bool ?_; refine zdz ?_; refine isTrue_or ?_; refine isTrue_not ?_; refine PyProof.Rows.isTrue_plain ?_ (by rfl); refine Call_ ?_ (by rfl); refine zax X S ixm4 (zao G) ?_; refine PyProof.Rows.callWith_builtin1 ?_ (by rfl) (by rfl); refine args_cons ?_ (by rfl); refine zn4 X (Or.inl ixm2) ixm0 S ixm2 ?_; intro vN hvN; refine args_cons ?_ (by rfl); refine Tuple_ ?_; refine zaf (zaa rfl (zaw X S ixm5 (zb0 G)) (zaa rfl (zaw X S ixm6 (zc3 G)) zab)) ?_; refine za2 S sz2 ?_; walk_at "newo"; refine zaf zab ?_
    refine zeb S (zdh hb hvN) ixm1 ?_; walk_at "new"
    refine wpAny_truthy_bool ?_; refine zfv ?_; refine br_t ?_
    exact zbo G.XX G.lim (zf3 w) X S ixm7 (za7 G) hroom.deeper fun e s' T => hEr _ _ <| zau K₁ X T S fun s'' F => kx e s'' (F.sel (by (refine Sel.drop ?_; refine Sel.drop ?_; refine Sel.drop ?_; exact Sel.refl)))
theorem zg5 {w : World} {G0 : Heap} {Φ : List Addr} {g : PH} {s : Shared} {A : Around} {R : Result → Shared → Prop} {outer : List Env} {ρ : Led} {tb dx la na ea : Addr} {n : V} {lk nk ek : List (Int × V)} {x : Str} {tx : Tok}
    (G : Gd w G0) (K₀ : Stk A outer Φ)
    (I : Inv w G0 Φ g s.heap ((tb, IC 185 dx) :: (dx, AC [("links", .ref la), ("numbers", .ref na), ("states", n), ("exceptions", .ref ea)]) :: (la, DC w lk) :: (na, DC w nk) :: (ea, DC w ek) :: ρ)) (hroom : Room A 5)
    (hsz : x.cps.toList.length + 2 ≤ sizeLine) (hek : ek.length ≤ sizeLine)
    (k : ∀ ta s', excOk ((excRead x.cps.toList).1.map V.int) ((excRead x.cps.toList).2.map V.int) → s.heap.get? ta = none →
      SS w G0 ⟨Φ, s, g, ((tb, IC 185 dx) :: (dx, AC [("links", .ref la), ("numbers", .ref na), ("states", n), ("exceptions", .ref ea)]) :: (la, DC w lk) :: (na, DC w nk) :: (ea, DC w ek) :: ρ).map Prod.fst⟩ (g.set ta (.tup ((exV (excRead x.cps.toList).1.length (excRead x.cps.toList).2).map V.int))) s'
        ((tb, IC 185 dx) :: (dx, AC [("links", .ref la), ("numbers", .ref na), ("states", n), ("exceptions", .ref ea)]) :: (la, DC w lk) :: (na, DC w nk) :: (ea, DC w (storedV ek (keyOf (excRead x.cps.toList).1) (.ref ta))) :: ρ) → R (.ok (.ret .none)) s')
    (kx : ¬ excOk ((excRead x.cps.toList).1.map V.int) ((excRead x.cps.toList).2.map V.int) → ∀ e s', FlyS w G0 outer 57 e ⟨Φ, s, g, ((tb, IC 185 dx) :: (dx, AC [("links", .ref la), ("numbers", .ref na), ("states", n), ("exceptions", .ref ea)]) :: (la, DC w lk) :: (na, DC w nk) :: (ea, DC w ek) :: ρ).map Prod.fst⟩ g s'
        ((tb, IC 185 dx) :: (dx, AC [("links", .ref la), ("numbers", .ref na), ("states", n), ("exceptions", .ref ea)]) :: (la, DC w lk) :: (na, DC w nk) :: (ea, DC w ek) :: ρ) → R (.error (.ref e)) s') :
    codeAny (model pg w) A (.call (.ref 169) ⟨[.ref tb, .str x tx], []⟩) R s := by
  refine zan (vals := [.ref tb, .str x tx]) I G.XX G.lim hroom.lt (by exact rfl) (by kernel_rfl) (BindsTo.of_eq rfl) (by decide +kernel) (by decide) (by rfl) ?_
  intro env L s X S Q E hQ hEnd hEr hPO
  dsimp only [mkLoc, zah, zap, zar, zal, zaj, zak, za0] at S
  generalize hK : (⟨Φ, _, g, _⟩ : Kon) = K at S k kx
  have K₁ : Stk A outer K.Φ := by rw [← hK]; exact K₀
  have hlen := ze0 x.cps.toList
  refine zbq ?_ (by rfl) (by rfl); refine zai X G.XX S ixm4 (zd0 G) (Callee.fn (by kernel_rfl)) (zaa rfl (zct X S ixm1 ixm1) zab) ?_
  refine wpAny_call (zfu G S.enter0 (hroom.deeper.mono (by decide)) (by omega) (fun r l1 l2 s' S' => ?_))
  replace S := S'.ret0 S
  clear S'
  generalize excRead x.cps.toList = p at hlen k kx S
  show wpAny _ _ (assign _ env _) _ _ _
  refine zbz hroom.deeper.handled S ((S.at ixm1).isT) fun u1 u2 s e1 e2 S => ?_
  obtain rfl := V.of_ref e1
  obtain rfl := V.of_ref e2
  clear e1 e2
  refine za5 X S ixm2 ixu2 ?_; walk_at "new"; refine za5 X S ixm3 ixu3 ?_; walk_at "new"; refine zcs X.kind ?_ (by rfl); refine methodCall_KW ?_ (by rfl); refine r_ev (zae X S ixm0 ixm0) ?_; refine zam (f := 162) (name := "add_exception") G.XX (zat w) S ixm4 ixm5 (by kernel_rfl) (by kernel_rfl) (by rfl) ?_; refine zbk (KF := KK w) (by kernel_rfl) ?_ (by rfl) (by rfl); refine zaf (zaa rfl (zae X S ixm2 ixm2) (zaa rfl (zae X S ixm3 ixm3) zab)) ?_; refine ⟨S.In G.XX, ?_⟩
  have S : SS w G0 K g _ ((L, .ns [(("self" : Str), some (V.ref tb)), ("text", some (.str x)), ("letters", some (.ref l1)), ("places", some (.ref l2)), ("read_exception", none)]) :: ((tb, IC 185 dx) :: (dx, AC [("links", .ref la), ("numbers", .ref na), ("states", n), ("exceptions", .ref ea)]) :: (la, DC w lk) :: (na, DC w nk) :: (ea, DC w ek) :: ((l1, .list (p.1.map V.int)) :: (l2, .list (p.2.map V.int)) :: ρ))) := S.sel (by (refine Sel.cons Pick.head ?_; refine Sel.cons (Pick.tail (Pick.tail (Pick.tail Pick.head))) ?_; refine Sel.cons (Pick.tail (Pick.tail (Pick.tail Pick.head))) ?_; refine Sel.cons (Pick.tail (Pick.tail (Pick.tail Pick.head))) ?_; refine Sel.cons (Pick.tail (Pick.tail (Pick.tail Pick.head))) ?_; refine Sel.cons (Pick.tail (Pick.tail (Pick.tail Pick.head))) ?_; refine Sel.cons (Pick.tail Pick.head) ?_; refine Sel.cons (Pick.tail Pick.head) ?_; refine Sel.drop ?_; exact Sel.refl))
  refine wpAny_call (zc5 G (K₁.deeper X) S.enter0 hroom.deeper (.inl (.head _)) (.inl rfl) (.inl (.tail _ (.head _))) (.inl rfl) za8 za8 (by rw [List.length_map]; omega) (by rw [List.length_map]; omega) hek (fun ns qs ta s' e1 e2 hok hta S' => ?_) (fun hb e s' F => ?_))
  · obtain rfl := zaq e1
    obtain rfl := zaq e2
    have hta' := S.unborn hta
    replace S := S'.ret0 S
    clear S'
    show wpAny _ _ (execs [] env) _ _ _
    refine zas ?_; refine hEnd _ ?_
    try with_reducible first | refine hQ _ _ ?_ | refine hEnd _ ?_
    refine k ta s' hok ?_ (S.sel (by (refine Sel.cons (Pick.tail Pick.head) ?_; refine Sel.cons (Pick.tail Pick.head) ?_; refine Sel.cons (Pick.tail Pick.head) ?_; refine Sel.cons (Pick.tail Pick.head) ?_; refine Sel.cons (Pick.tail Pick.head) ?_; refine Sel.drop ?_; refine Sel.drop ?_; refine Sel.drop ?_; exact Sel.refl)))
    rw [← hK] at hta'; exact hta'
  · exact hEr _ _ <| zbp K₁ X (F.up0 S) fun s'' F => kx hb e s'' (F.sel (by (refine Sel.cons Pick.head ?_; refine Sel.cons Pick.head ?_; refine Sel.cons Pick.head ?_; refine Sel.cons Pick.head ?_; refine Sel.cons Pick.head ?_; refine Sel.drop ?_; refine Sel.drop ?_; exact Sel.refl)))
theorem zjd {w : World} {G0 : Heap} {Φ : List Addr} {g : PH} {s : Shared} {A : Around} {R : Result → Shared → Prop} {outer : List Env} {cells : Led} {tb : Addr} {v : Value}
    (G : Gd w G0) (K₀ : Stk A outer Φ) (I : Inv w G0 Φ g s.heap cells) (hroom : Room A 4) (hv : (∃ i t, v = .int i t) ∨ v = .none)
    (kx : ∀ e s', FlyS w G0 outer 45 e ⟨Φ, s, g, cells.map Prod.fst⟩ g s' cells → R (.error (.ref e)) s') :
    codeAny (model pg w) A (.call (.ref 169) ⟨[.ref tb, v], []⟩) R s := by
  refine zan (vals := [.ref tb, v]) I G.XX G.lim hroom.lt (by exact rfl) (by kernel_rfl) (BindsTo.of_eq rfl) (by decide +kernel) (by decide) (by rfl) ?_
  intro env L s X S Q E hQ hEnd hEr hPO
  generalize hK : (⟨Φ, _, g, cells.map Prod.fst⟩ : Kon) = K at S kx
  have K₁ : Stk A outer K.Φ := by rw [← hK]; exact K₀
  dsimp only [mkLoc, zah, zap, zar, zal, zaj, zak, za0] at S
  refine zbq ?_ (by rfl) (by rfl); refine Call_ ?_ (by rfl); refine zax X S ixm4 (zd0 G) ?_; refine callWith_K G.XX (by kernel_rfl) ?_ (by rfl) (by rfl); refine args_cons ?_ (by rfl); refine zbv X S ixm1 ixm1 ?_; intro vN hvN; refine zaf zab ?_; refine ⟨S.In G.XX, ?_⟩
  refine wpAny_call (zfp G (K₁.deeper X) S.enter0 hroom.deeper ?_ fun e s' F => hEr _ _ <| zbp K₁ X (F.up0 S) fun s'' F => kx e s'' F)
  rcases hv with ⟨i, t, rfl⟩ | rfl
  · obtain ⟨t', rfl⟩ := V.of_int hvN; exact .inl ⟨_, _, rfl⟩
  · exact .inr (V.of_none hvN)
section
structure Trie (lk : List (Int × Int)) (n : Int) : Prop where
  npos : 1 ≤ n
  rng : ∀ k v, lookI lk k = some v → 1 ≤ v ∧ v < n
  inj : ∀ k k' v, lookI lk k = some v → lookI lk k' = some v → k = k'
  kr : ∀ k v, lookI lk k = some v → k < 256 * n
noncomputable def LetR (l : List Int) : Prop := ∀ n ∈ l, 0 ≤ n ∧ n ≤ 255
theorem zim {lk : List (Int × Int)} {n st v : Int} (T : Trie lk n) (hs : 0 ≤ st ∧ st < n) {l : List Int} (h : walkS lk st l = some v) : 0 ≤ v ∧ v < n := by
  induction l generalizing st with
  | nil => cases h; exact hs
  | cons m r ih =>
    simp only [walkS] at h
    cases q : lookI lk (256 * st + m) with
    | none => rw [q] at h; cases h
    | some u =>
      rw [q] at h
      have := T.rng _ _ q
      exact ih ⟨by omega, this.2⟩ h
theorem zfi {lk : List (Int × Int)} {st v m : Int} {l : List Int} (h : walkS lk st (l ++ [m]) = some v) : ∃ u, walkS lk st l = some u ∧ lookI lk (256 * u + m) = some v := by
  rw [zd7] at h
  cases q : walkS lk st l with
  | none => rw [q] at h; cases h
  | some u =>
    rw [q] at h
    have h : walkS lk u [m] = some v := h
    simp only [walkS] at h
    cases q2 : lookI lk (256 * u + m) with
    | none => rw [q2] at h; cases h
    | some z => rw [q2] at h; cases h; exact ⟨u, rfl, q2⟩
theorem zfs {lk : List (Int × Int)} {n : Int} (T : Trie lk n) {l : List Int} (e : walkS lk 0 l = some 0) : l = [] := by
  rcases List.eq_nil_or_concat l with rfl | ⟨b, y, rfl⟩
  · rfl
  · obtain ⟨u, _, q⟩ := zfi (by simpa using e)
    have := T.rng _ _ q
    omega
theorem zmd {lk : List (Int × Int)} {n : Int} (T : Trie lk n) (k : Nat) : ∀ {l1 l2 : List Int} {v : Int}, l1.length ≤ k → LetR l1 → LetR l2 → walkS lk 0 l1 = some v → walkS lk 0 l2 = some v → l1 = l2 := by
  induction k with
  | zero =>
    intro l1 l2 v hk h1 h2 e1 e2
    cases l1 with
    | nil => cases e1; exact (zfs T e2).symm
    | cons a r => simp at hk
  | succ k ih =>
    intro l1 l2 v hk h1 h2 e1 e2
    rcases List.eq_nil_or_concat l1 with rfl | ⟨a, x, rfl⟩
    · cases e1; exact (zfs T e2).symm
    rcases List.eq_nil_or_concat l2 with rfl | ⟨b, y, rfl⟩
    · cases e2; exact zfs T e1
    simp only [List.concat_eq_append] at *
    obtain ⟨u1, p1, q1⟩ := zfi e1
    obtain ⟨u2, p2, q2⟩ := zfi e2
    have hx := h1 x (by simp)
    have hy := h2 y (by simp)
    have := T.inj _ _ _ q1 q2
    have e3 : u1 = u2 := by omega
    subst e3
    have e4 : x = y := by omega
    have e5 := ih (l1 := a) (l2 := b) (by simp at hk; omega) (fun n hn => h1 n (by simp [hn])) (fun n hn => h2 n (by simp [hn])) p1 p2
    rw [e4, e5]
noncomputable def ExtI (lk lk' : List (Int × Int)) : Prop := ∀ k v, lookI lk k = some v → lookI lk' k = some v
theorem zig {lk lk' : List (Int × Int)} (e : ExtI lk lk') {st v : Int} {l : List Int} (h : walkS lk st l = some v) : walkS lk' st l = some v := by
  induction l generalizing st with
  | nil => exact h
  | cons m r ih =>
    simp only [walkS] at h ⊢
    cases q : lookI lk (256 * st + m) with
    | none => rw [q] at h; cases h
    | some u => rw [q] at h; rw [e _ _ q]; exact ih h
theorem zgm : ∀ {l : List Int} {lk : List (Int × Int)} {n st : Int}, LetR l → Trie lk n → 0 ≤ st ∧ st < n →
    Trie (insS lk n st l).1 (insS lk n st l).2.1 ∧ n ≤ (insS lk n st l).2.1 ∧ ExtI lk (insS lk n st l).1 ∧ walkS (insS lk n st l).1 st l = some (insS lk n st l).2.2 ∧
      (walkS lk st l = some (insS lk n st l).2.2 ∨ (walkS lk st l = none ∧ n ≤ (insS lk n st l).2.2))
  | [], lk, n, st, hl, T, hs => ⟨T, Int.le_refl _, fun _ _ h => h, rfl, .inl rfl⟩
  | m :: r, lk, n, st, hl, T, hs => by
    have hn := T.npos
    have hm := hl m (.head _)
    have hr : LetR r := fun x hx => hl x (.tail _ hx)
    cases q : lookI lk (256 * st + m) with
    | some v =>
      have hv := T.rng _ _ q
      obtain ⟨a, b, c, d, e⟩ := zgm (l := r) hr T (st := v) ⟨by omega, hv.2⟩
      have e0 : insS lk n st (m :: r) = insS lk n v r := by simp only [insS, q]
      have e1 : walkS lk st (m :: r) = walkS lk v r := by simp only [walkS, q]
      rw [e0, e1]
      refine ⟨a, b, c, ?_, e⟩
      simp only [walkS, c _ _ q]
      exact d
    | none =>
      have e0 : insS lk n st (m :: r) = insS (lk ++ [(256 * st + m, n)]) (n + 1) n r := by simp only [insS, q]
      have e1 : walkS lk st (m :: r) = none := by simp only [walkS, q]
      rw [e0, e1]
      have key := fun j => zf0 lk (256 * st + m) n j q
      have T' : Trie (lk ++ [(256 * st + m, n)]) (n + 1) := by
        refine ⟨by omega, fun k v h => ?_, fun k k' v h h' => ?_, fun k v h => ?_⟩
        · rw [key] at h
          by_cases e : k = 256 * st + m
          · rw [if_pos e] at h; cases h; omega
          · rw [if_neg e] at h; have := T.rng _ _ h; omega
        · rw [key] at h h'
          by_cases e : k = 256 * st + m
          · by_cases e' : k' = 256 * st + m
            · rw [e, e']
            · rw [if_pos e] at h; rw [if_neg e'] at h'; cases h
              have := T.rng _ _ h'; omega
          · by_cases e' : k' = 256 * st + m
            · rw [if_neg e] at h; rw [if_pos e'] at h'; cases h'
              have := T.rng _ _ h; omega
            · rw [if_neg e] at h; rw [if_neg e'] at h'; exact T.inj _ _ _ h h'
        · rw [key] at h
          by_cases e : k = 256 * st + m
          · omega
          · rw [if_neg e] at h; have := T.kr _ _ h; omega
      obtain ⟨a, b, c, d, e⟩ := zgm (l := r) hr T' (st := n) ⟨by omega, by omega⟩
      have ext0 : ExtI lk (lk ++ [(256 * st + m, n)]) := fun k v h => by
        rw [key]
        by_cases e : k = 256 * st + m
        · rw [e, q] at h; cases h
        · rw [if_neg e]; exact h
      refine ⟨a, by omega, fun k v h => c _ _ (ext0 _ _ h), ?_, .inr ⟨rfl, ?_⟩⟩
      · have : lookI (lk ++ [(256 * st + m, n)]) (256 * st + m) = some n := by rw [key, if_pos rfl]
        simp only [walkS, c _ _ this]
        exact d
      · rcases e with e | e
        · cases r with
          | nil => exact Int.le_refl _
          | cons y r' =>
            have hy := hr y (.head _)
            simp only [walkS] at e
            cases q2 : lookI (lk ++ [(256 * st + m, n)]) (256 * n + y) with
            | none => rw [q2] at e; cases e
            | some z =>
              rw [key] at q2
              by_cases e3 : 256 * n + y = 256 * st + m
              · omega
              · rw [if_neg e3] at q2
                have := T.kr _ _ q2
                omega
        · omega
theorem Trie.nil : Trie [] 1 := ⟨by decide, fun _ _ h => by simp [lookI] at h, fun _ _ _ h => by simp [lookI] at h, fun _ _ h => by simp [lookI] at h⟩
structure Tb where
  tb : Addr
  dx : Addr
  la : Addr
  na : Addr
  ea : Addr
  n : Int
  lk : List (Int × Int)
  nk : List (Int × V)
  ek : List (Int × V)
noncomputable def elook (xs : List (List Int × List Int)) (key : Int) : Option (List Int) := (xs.find? fun x => decide (keyOf x.1 = key)).map (·.2)
theorem zhv (xs : List (List Int × List Int)) (ns ds : List Int) (key : Int) : elook ((ns, ds) :: xs) key = if key = keyOf ns then some ds else elook xs key := by
  unfold elook
  by_cases h : key = keyOf ns
  · subst h; simp
  · rw [List.find?_cons, if_neg h, decide_eq_false (fun e => h e.symm)]
noncomputable def numOf (lk : List (Int × Int)) (fs : List (List Int × List Int)) (st : Int) : Option (List Int) := (fs.find? fun f => decide (walkS lk 0 f.1 = some st)).map fun f => zeroE f.1 f.2
structure Rep (g : PH) (T : Tb) (fs xs : List (List Int × List Int)) : Prop where
  sla : (T.la == sysModules) = false
  sna : (T.na == sysModules) = false
  sea : (T.ea == sysModules) = false
  trie : Trie T.lk T.n
  letr : ∀ f ∈ fs, LetR f.1
  flen : ∀ f ∈ fs, f.2.length = f.1.length + 1
  reach : ∀ f ∈ fs, ∃ st ta, walkS T.lk 0 f.1 = some st ∧ lookV T.nk st = some (.ref ta) ∧ g ta = some (.tup ((zeroE f.1 f.2).map V.int))
  only : ∀ st v, lookV T.nk st = some v → ∃ f ∈ fs, walkS T.lk 0 f.1 = some st
  exc : ∀ key v, lookV T.ek key = some v → ∃ ta ds, v = .ref ta ∧ g ta = some (.tup (ds.map V.int)) ∧ elook xs key = some ds ∧ ds.length ≤ 64
  enone : ∀ key, lookV T.ek key = none → elook xs key = none
  lkl : T.lk.length ≤ 63 * fs.length
  nkl : T.nk.length ≤ fs.length
  ekl : T.ek.length ≤ xs.length
section
variable {g g' : PH} {T : Tb} {fs xs : List (List Int × List Int)}
theorem Rep.mono (R : Rep g T fs xs) (l : ∀ a c, g a = some c → g' a = some c) : Rep g' T fs xs :=
  { R with
    reach := fun f hf => by obtain ⟨st, ta, h1, h2, h3⟩ := R.reach f hf; exact ⟨st, ta, h1, h2, l _ _ h3⟩
    exc := fun key v h => by obtain ⟨ta, ds, h1, h2, h3⟩ := R.exc key v h; exact ⟨ta, ds, h1, l _ _ h2, h3⟩ }
theorem Rep.pos (R : Rep g T fs xs) : ∀ k v, lookI T.lk k = some v → 0 ≤ v := fun k v h => by have := R.trie.rng k v h; omega
theorem Rep.num (R : Rep g T fs xs) : ∀ k v, lookV T.nk k = some v → ∃ ta ds, v = .ref ta ∧ g ta = some (.tup (ds.map V.int)) ∧ numOf T.lk fs k = some ds := fun k v h => by
  obtain ⟨f, hf, hw⟩ := R.only k v h
  have hsome : (fs.find? fun f => decide (walkS T.lk 0 f.1 = some k)).isSome := by rw [List.find?_isSome]; exact ⟨f, hf, by simpa using hw⟩
  obtain ⟨f', hf'⟩ := Option.isSome_iff_exists.mp hsome
  have hm := List.mem_of_find?_eq_some hf'
  have hp := List.find?_some hf'
  simp only [decide_eq_true_eq] at hp
  obtain ⟨st, ta, h1, h2, h3⟩ := R.reach f' hm
  rw [hp] at h1
  cases h1
  rw [h] at h2
  cases h2
  exact ⟨ta, _, rfl, h3, by unfold numOf; rw [hf']; rfl⟩
theorem Rep.nonum (R : Rep g T fs xs) : ∀ k, lookV T.nk k = none → numOf T.lk fs k = none := fun k h => by
  unfold numOf
  rw [Option.map_eq_none_iff, List.find?_eq_none]
  intro f hf
  simp only [decide_eq_true_eq]
  intro hw
  obtain ⟨st, ta, h1, h2, h3⟩ := R.reach f hf
  rw [hw] at h1
  cases h1
  rw [h] at h2; cases h2
theorem Rep.same (R : Rep g T fs xs) {l : List Int} {st : Int} {f : List Int × List Int} (hl : LetR l) (hf : f ∈ fs) (h1 : walkS T.lk 0 l = some st) (h2 : walkS T.lk 0 f.1 = some st) : l = f.1 := zmd R.trie _ (Nat.le_refl _) hl (R.letr f hf) h1 h2
theorem Rep.dep (R : Rep g T fs xs) : ∀ l st ds, (∀ n ∈ l, 0 ≤ n ∧ n ≤ 255) → walkS T.lk 0 l = some st → numOf T.lk fs st = some ds → ds.length = l.length + 1 := fun l st ds hl hw h => by
  unfold numOf at h
  obtain ⟨f, hf, rfl⟩ := Option.map_eq_some_iff.mp h
  have hm := List.mem_of_find?_eq_some hf
  have hp := List.find?_some hf
  simp only [decide_eq_true_eq] at hp
  rw [R.same hl hm hw hp, zgs, R.flen f hm]
theorem Rep.known (R : Rep g T fs xs) {l : List Int} (hl : LetR l) : knownS T.lk T.nk l = true ↔ ∃ f ∈ fs, f.1 = l := by
  unfold knownS
  constructor
  · intro h
    obtain ⟨v, hv⟩ := Option.isSome_iff_exists.mp h
    obtain ⟨f, hf, hw⟩ := R.only _ v hv
    cases q : walkS T.lk 0 l with
    | none =>
      rw [q] at hw
      have := zim R.trie (st := 0) ⟨by decide, by have := R.trie.npos; omega⟩ hw
      simp at this
    | some st =>
      rw [q] at hw
      exact ⟨f, hf, (R.same hl hf q hw).symm⟩
  · rintro ⟨f, hf, rfl⟩
    obtain ⟨st, ta, h1, h2, h3⟩ := R.reach f hf
    rw [h1]
    show (lookV T.nk st).isSome = true
    rw [h2]; rfl
noncomputable def Tb.added (T : Tb) (ns : List Int) (ta : Addr) : Tb := { T with n := (insS T.lk T.n 0 ns).2.1, lk := (insS T.lk T.n 0 ns).1, nk := storedV T.nk (insS T.lk T.n 0 ns).2.2 (.ref ta) }
theorem Rep.add (R : Rep g T fs xs) {ns ms : List Int} {ta : Addr} (hl : LetR ns) (hlen : ns.length ≤ 63) (hm : ms.length = ns.length + 1) (hk : knownS T.lk T.nk ns = false) (l : ∀ a c, g a = some c → g' a = some c) (hta : g' ta = some (.tup ((zeroE ns ms).map V.int))) : Rep g' (T.added ns ta) (fs ++ [(ns, ms)]) xs := by
  have hn := R.trie.npos
  obtain ⟨a, b, c, d, e⟩ := zgm (st := 0) hl R.trie ⟨by decide, by omega⟩
  have R' := R.mono l
  have hlk := zkc T.lk T.n 0 ns
  have hnk := zdm T.nk (insS T.lk T.n 0 ns).2.2 (.ref ta)
  refine ⟨R.sla, R.sna, R.sea, a, fun f hf => ?_, fun f hf => ?_, fun f hf => ?_, fun st v h => ?_, R'.exc, R'.enone, ?_, ?_, R.ekl⟩
  · rcases List.mem_append.mp hf with hf | hf
    · exact R.letr f hf
    · rw [List.mem_singleton.mp hf]; exact hl
  · rcases List.mem_append.mp hf with hf | hf
    · exact R.flen f hf
    · rw [List.mem_singleton.mp hf]; exact hm
  · rcases List.mem_append.mp hf with hf | hf
    · obtain ⟨st, ta', h1, h2, h3⟩ := R'.reach f hf
      refine ⟨st, ta', zig c h1, ?_, h3⟩
      show lookV (storedV T.nk _ _) st = _
      rw [zcz, if_neg]
      · exact h2
      · intro e1
        rcases e with e | ⟨_, e⟩
        · unfold knownS at hk
          rw [e] at hk
          have hk : (lookV T.nk (insS T.lk T.n 0 ns).2.2).isSome = false := hk
          rw [← e1, h2] at hk; cases hk
        · have := zim R.trie (st := 0) ⟨by decide, by omega⟩ h1
          omega
    · rw [List.mem_singleton.mp hf]
      refine ⟨_, ta, d, ?_, hta⟩
      show lookV (storedV T.nk _ _) _ = _
      rw [zcz, if_pos rfl]
  · have h : lookV (storedV T.nk (insS T.lk T.n 0 ns).2.2 (.ref ta)) st = some v := h
    rw [zcz] at h
    by_cases e1 : st = (insS T.lk T.n 0 ns).2.2
    · exact ⟨(ns, ms), by simp, by rw [e1]; exact d⟩
    · rw [if_neg e1] at h
      obtain ⟨f, hf, hw⟩ := R.only st v h
      exact ⟨f, by simp [hf], zig c hw⟩
  · show (insS T.lk T.n 0 ns).1.length ≤ _
    have := R.lkl
    simp only [List.length_append, List.length_cons, List.length_nil]
    omega
  · show (storedV T.nk _ _).length ≤ _
    have := R.nkl
    simp only [List.length_append, List.length_cons, List.length_nil]
    omega
noncomputable def Tb.barred (T : Tb) (ns : List Int) (ta : Addr) : Tb := { T with ek := storedV T.ek (keyOf ns) (.ref ta) }
theorem Rep.bar (R : Rep g T fs xs) {ns ds : List Int} {ta : Addr} (hd : ds.length ≤ 64) (l : ∀ a c, g a = some c → g' a = some c) (hta : g' ta = some (.tup (ds.map V.int))) : Rep g' (T.barred ns ta) fs ((ns, ds) :: xs) := by
  have R' := R.mono l
  have hek := zdm T.ek (keyOf ns) (.ref ta)
  refine ⟨R.sla, R.sna, R.sea, R.trie, R.letr, R.flen, R'.reach, R'.only, fun key v h => ?_, fun key h => ?_, R.lkl, R.nkl, ?_⟩
  · have h : lookV (storedV T.ek (keyOf ns) (.ref ta)) key = some v := h
    rw [zcz] at h
    rw [zhv]
    by_cases e : key = keyOf ns
    · rw [if_pos e] at h ⊢; cases h; exact ⟨ta, ds, rfl, hta, rfl, hd⟩
    · rw [if_neg e] at h ⊢; exact R'.exc key v h
  · have h : lookV (storedV T.ek (keyOf ns) (.ref ta)) key = none := h
    rw [zcz] at h
    rw [zhv]
    by_cases e : key = keyOf ns
    · rw [if_pos e] at h; cases h
    · rw [if_neg e] at h ⊢; exact R'.enone key h
  · show (storedV T.ek _ _).length ≤ _
    have := R.ekl
    simp only [List.length_cons]; omega
end
end
noncomputable def maxAt : List Int → Nat → List Int → List Int
  | found, _, [] => found
  | found, spot, d :: r => maxAt (found.set spot (max (found.getD spot 0) d)) (spot + 1) r
noncomputable def gapIn (lk : List (Int × Int)) (num : Int → Option (List Int)) (b : Nat) : List Int → Int → List Int → List Int
  | found, _, [] => found
  | found, st, l :: r => match lookI lk (256 * st + l) with
    | none => found
    | some v => gapIn lk num b (maxAt found b ((num v).getD [])) v r
noncomputable def gapOut (lk : List (Int × Int)) (num : Int → Option (List Int)) (marks : List Int) : Nat → List Int
  | 0 => List.replicate (marks.length + 1) 0
  | b + 1 => gapIn lk num b (gapOut lk num marks b) 0 (marks.drop b)
theorem zic (found : List Int) (spot : Nat) (ds : List Int) : (maxAt found spot ds).length = found.length := by
  induction ds generalizing found spot with
  | nil => rfl
  | cons d r ih => unfold maxAt; rw [ih]; simp
theorem zls (lk : List (Int × Int)) (num : Int → Option (List Int)) (b : Nat) (found : List Int) (st : Int) (l : List Int) : (gapIn lk num b found st l).length = found.length := by
  induction l generalizing found st with
  | nil => rfl
  | cons q r ih =>
    unfold gapIn
    cases lookI lk (256 * st + q) with
    | none => rfl
    | some v => rw [ih, zic]
theorem zei (lk : List (Int × Int)) (num : Int → Option (List Int)) (marks : List Int) (b : Nat) : (gapOut lk num marks b).length = marks.length + 1 := by
  induction b with
  | zero => simp [gapOut]
  | succ b ih => unfold gapOut; rw [zls, ih]
theorem zin {w : World} {G0 : Heap} {K : Kon} {g : PH} {s : Shared} {ℓ : Led} {d e : Addr} {A : Around} {E : Value → Shared → Prop} {Q : Value → Shared → Prop} {nk : List (Int × V)} {i : Int} {t : Tok} {num : Int → Option (List Int)}
    (S : SS w G0 K g s ℓ) (hm : (d, DC w nk) ∈ ℓ) (hd : (d == sysModules) = false) (he : (e, .tup []) ∈ ℓ) (hnum : ∀ k v, lookV nk k = some v → ∃ ta ds, v = .ref ta ∧ g ta = some (.tup (ds.map V.int)) ∧ num k = some ds) (hnone : ∀ k, lookV nk k = none → num k = none)
    (k : ∀ dv ct ds s', SS w G0 K g s' ℓ → (g dv = some ct ∨ (dv = e ∧ ct = .tup [])) → SeqC ct (ds.map V.int) → ds = (num i).getD [] → Q (.ref dv) s') : wpAny (model pg w) A (call (.builtin "dict.get") [.ref d, .int i t, .ref e]) Q E s := by
  refine zge S hm hd (fun v s' S' hl => ?_) (fun s' S' hl => ?_)
  · obtain ⟨ta, ds, e1, e2, e3⟩ := hnum _ _ hl
    rw [V.of_ref e1]
    try with_reducible first | refine hQ _ _ ?_ | refine hEnd _ ?_
    exact k ta _ ds s' S' (.inl e2) (.inr rfl) (by rw [e3]; rfl)
  · try with_reducible first | refine hQ _ _ ?_ | refine hEnd _ ?_
    exact k e _ [] s' S' (.inr ⟨rfl, rfl⟩) (.inr rfl) (by rw [hnone _ hl]; rfl)
theorem zhd {w : World} {G0 : Heap} {Φ : List Addr} {g : PH} {s : Shared} {A : Around} {R : Result → Shared → Prop} {ρ : Led} {tb dx la na ea a : Addr} {c : Cell} {n : V} {lk : List (Int × Int)} {nk ek : List (Int × V)} {ns : List Int} {num : Int → Option (List Int)}
    (G : Gd w G0) (hla : (la == sysModules) = false) (hna : (na == sysModules) = false)
    (I : Inv w G0 Φ g s.heap ((tb, IC 185 dx) :: (dx, AC [("links", .ref la), ("numbers", .ref na), ("states", n), ("exceptions", .ref ea)]) :: (la, DC w (lk.map vI)) :: (na, DC w nk) :: (ea, DC w ek) :: ρ)) (hroom : Room A 2) (hr : Rd g ρ a c) (hc : SeqC c (ns.map V.int)) (hsz : ns.length ≤ 63)
    (hpos : ∀ k v, lookI lk k = some v → 0 ≤ v) (hnum : ∀ k v, lookV nk k = some v → ∃ ta ds, v = .ref ta ∧ g ta = some (.tup (ds.map V.int)) ∧ num k = some ds) (hnone : ∀ k, lookV nk k = none → num k = none)
    (hns : ∀ n ∈ ns, 0 ≤ n ∧ n ≤ 255) (hdep : ∀ l st ds, (∀ n ∈ l, 0 ≤ n ∧ n ≤ 255) → walkS lk 0 l = some st → num st = some ds → ds.length = l.length + 1)
    (k : ∀ r s', s.heap.get? r = none → SS w G0 ⟨Φ, s, g, ((tb, IC 185 dx) :: (dx, AC [("links", .ref la), ("numbers", .ref na), ("states", n), ("exceptions", .ref ea)]) :: (la, DC w (lk.map vI)) :: (na, DC w nk) :: (ea, DC w ek) :: ρ).map Prod.fst⟩ g s' ((r, .list ((sliceV (gapOut lk num ([0] ++ ns ++ [0]) (ns.length + 2)) (some 1) (some (ns.length + 2))).map V.int)) :: (tb, IC 185 dx) :: (dx, AC [("links", .ref la), ("numbers", .ref na), ("states", n), ("exceptions", .ref ea)]) :: (la, DC w (lk.map vI)) :: (na, DC w nk) :: (ea, DC w ek) :: ρ) →
      R (.ok (.ret (.ref r))) s') :
    codeAny (model pg w) A (.call (.ref 176) ⟨[.ref tb, .ref a], []⟩) R s := by
  refine zan (vals := [.ref tb, .ref a]) I G.XX G.lim hroom.lt (by exact rfl) (by kernel_rfl) (BindsTo.of_eq rfl) (by decide +kernel) (by decide) (by rfl) ?_
  intro env L s X S Q E hQ hEnd hEr hPO
  dsimp only [mkLoc, zah, zap, zar, zal, zaj, zak, za0] at S
  generalize hK : (⟨Φ, _, g, _⟩ : Kon) = K at S k
  have hl1 : (ns.map V.int).length ≤ sizeLine := by rw [List.length_map, sizeLine_eq]; exact Nat.le_trans hsz (by decide)
  refine zav ?_ (by rfl)
  refine wpAny_BinOp ?_; refine wpAny_BinOp ?_; refine List_ ?_; refine zaf (zaa rfl (zaw X S ixm9 (zgh G)) zab) ?_; refine zbg S sz1 ?_; walk_at "newo"; refine zai X G.XX S zcf (zc3 G) (Callee.ty _) (zaa rfl (zae X S ixm1 ixm1) zab) ?_
  refine zfb S ((S.rd (Rd.cons (Rd.cons (Rd.cons (Rd.cons (Rd.cons (Rd.cons (Rd.cons hr)))))))).seq hc) hl1 fun r1 s h1 S => ?_
  have hl2 : ([V.int 0] : List V).length + (ns.map V.int).length ≤ sizeLine := by rw [List.length_map, sizeLine_eq]; simp; omega
  refine zff S ((S.at ixm2).isL) ((S.at ixm1).isL) hl2 ?_; walk_at "newo"; refine List_ ?_; refine zaf (zaa rfl (zaw X S ixm9 (zgh G)) zab) ?_; refine zbg S sz1 ?_; walk_at "newo"; refine zff S ((S.at ixm2).isL) ((S.at ixm1).isL) (by simp only [List.length_map, List.length_cons, List.length_nil, List.length_append, sizeLine_eq]; omega) ?_; walk_at "newo"; refine za5 X S ixm2 ixu2 ?_; walk_at "new"
  generalize aN = mk at S hN ⊢
  have emk : ([V.int 0] ++ ns.map V.int) ++ [V.int 0] = ([0] ++ ns ++ [0]).map V.int := by simp
  rw [emk] at S
  have hml : ([0] ++ ns ++ [0]).length = ns.length + 2 := by simp
  generalize hmarks : [0] ++ ns ++ [0] = marks at S k hml
  have hm255 : ∀ n ∈ marks, 0 ≤ n ∧ n ≤ 255 := fun n hn => by
    rw [← hmarks] at hn
    rcases List.mem_append.mp hn with hn | hn
    · rcases List.mem_append.mp hn with hn | hn
      · rw [List.mem_singleton.mp hn]; decide
      · exact hns n hn
    · rw [List.mem_singleton.mp hn]; decide
  have hmsz : marks.length ≤ sizeLine := by rw [sizeLine_eq]; omega
  have hmszm : (marks.map V.int).length ≤ sizeLine := by rw [List.length_map]; exact hmsz
  skip
  refine zav ?_ (by rfl)
  refine wpAny_BinOp ?_; refine List_ ?_; refine zaf (zaa rfl zac zab) ?_; refine zbg S sz1 ?_; walk_at "newo"; refine r_ev (zdr (zaz X G.XX S zcp (zcc G) (Callee.bi _) (zaa rfl (zae X S ixm2 ixm2) zab) (zb7 S ((S.at ixm2).seq SeqC.ofL) hmszm)) zac) ?_
  rw [List.length_map]
  refine zgi S ((S.at ixm1).isL) (by have : (2 : Int) ^ 63 = 9223372036854775808 := (by decide); omega) (by rw [show (2 : Int) ^ 63 = 9223372036854775808 by decide]; omega) (by simp; omega) fun fo s hfo S => ?_
  have efo : (List.replicate ((marks.length : Int) + 1).toNat [V.int 0]).flatten = (gapOut lk num marks 0).map V.int := by
    have e1 : ((marks.length : Int) + 1).toNat = marks.length + 1 := by omega
    rw [e1]
    show _ = (List.replicate (marks.length + 1) 0).map V.int
    generalize marks.length + 1 = q
    induction q with
    | zero => rfl
    | succ q ih => simp only [List.replicate_succ, List.flatten_cons, List.map_cons, ih]; rfl
  rw [efo] at S
  refine za5 X S ixm3 ixu3 ?_; walk_at "new"
  have S : SS w G0 K g _ ((L, .ns [(("self" : Str), some (V.ref tb)), ("letters", some (.ref a)), ("marks", some (.ref mk)), ("found", some (.ref fo)), ("begin", none), ("state", none), ("letter", none), ("spot", none), ("digit", none), ("EDGE", none), ("list", none), ("len", none), ("range", none), ("max", none)]) ::
    (fo, .list ((gapOut lk num marks 0).map V.int)) :: (mk, .list (marks.map V.int)) :: (tb, IC 185 dx) :: (dx, AC [("links", .ref la), ("numbers", .ref na), ("states", n), ("exceptions", .ref ea)]) :: (la, DC w (lk.map vI)) :: (na, DC w nk) :: (ea, DC w ek) :: ρ) := S.selN [1, 1, 2, 6, 6, 6, 6, 6, 0, 0, 0, 0, 0] (by rfl)
  (refine zdn ?_ (by intro _; with_unfolding_all rfl))
  refine zai X G.XX S (ixmt ixm0) (zb2 G) (Callee.ty _) (zaa rfl (zaz X G.XX S zcp (zcc G) (Callee.bi _) (zaa rfl (zae X S ixm2 ixm2) zab) (zb7 S ((S.at ixm2).seq SeqC.ofL) hmszm)) zab) ?_; refine zbr S ?_; walk_at "newo"
  rw [List.length_map] at S
  refine zck (n := marks.length) S ixm1 (by rfl) (by omega) fun it s hnew S => ?_
  have S := S.sel (.cons .head (.cons .head (.cons (.tail .head) .refl)))
  refine zbd (σ := Option V × Option V × Option V × Option V × Option V) (fun _ _ => True) (fun _ => g) (fun _ y => [(("self" : Str), some (V.ref tb)), ("letters", some (.ref a)), ("marks", some (.ref mk)), ("found", some (.ref fo)), ("begin", y.1), ("state", y.2.1), ("letter", y.2.2.1), ("spot", y.2.2.2.1), ("digit", y.2.2.2.2), ("EDGE", none), ("list", none), ("len", none), ("range", none), ("max", none)])
      (fun b _ => (fo, .list ((gapOut lk num marks b).map V.int)) :: (aN, .opq (RangeObj 0 (marks.length : Int))) :: (mk, .list (marks.map V.int)) :: (tb, IC 185 dx) :: (dx, AC [("links", .ref la), ("numbers", .ref na), ("states", n), ("exceptions", .ref ea)]) :: (la, DC w (lk.map vI)) :: (na, DC w nk) :: (ea, DC w ek) :: ρ) (_, _, _, _, _)
    hPO hroom.handled hnew S trivial ?_ ?_ ?_
  · intros; exact trivial
  · intro Q1 hL1 hB1 hR1 b y v s _ hvi S
    apply zby hvi; intro hblt tv
    refine za3 X S ixm4 ixu4 ?_; walk_at "new"; refine zdw X S ixm5 zac (OfV.int _ _) ixu5 (by rfl) ?_; walk_at "new"; refine zdn ?_ (by intro _; with_unfolding_all rfl); refine Subscript_ ?_; refine r_ev (zae X S ixm2 ixm2) ?_; refine wpAny_Slice ?_; refine wpAny_evalPart_some ?_; refine r_ev (zag X S ixm4 ixm4) ?_; refine wpAny_evalPart_none ?_; refine wpAny_evalPart_none ?_
    refine zcx S ((S.at ixm4).isL) hmszm (Part.int _ _ (Int.natCast_nonneg _)) Part.none fun sl s hsl S => ?_
    have esl : sliceV (marks.map V.int) (some ((b : Int)).toNat) none = (marks.drop b).map V.int := by
      unfold sliceV
      simp only [Option.getD_some, Option.getD_none, List.take_length, Int.toNat_natCast, List.map_drop]
    rw [esl] at S
    refine zc8 S (S.at ixm1) SeqC.ofL fun src2 it2 s hv2 hok2 hnew2 S => ?_
    have S := S.sel (.cons .head (.cons .head (.cons (.tail (.tail .head)) .refl)))
    refine zbd (σ := Int × List Int × Option V × Option V × Option V) (fun i z => walkS lk 0 ((marks.drop b).take i) = some z.1 ∧ z.2.1.length = marks.length + 1 ∧ gapIn lk num b z.2.1 z.1 ((marks.drop b).drop i) = gapOut lk num marks (b + 1)) (fun _ => g)
        (fun _ z => [(("self" : Str), some (V.ref tb)), ("letters", some (.ref a)), ("marks", some (.ref mk)), ("found", some (.ref fo)), ("begin", some (.int b)), ("state", some (.int z.1)), ("letter", z.2.2.1), ("spot", z.2.2.2.1), ("digit", z.2.2.2.2), ("EDGE", none), ("list", none), ("len", none), ("range", none), ("max", none)])
        (fun _ z => (fo, .list (z.2.1.map V.int)) :: (sl, .list ((marks.drop b).map V.int)) :: (it, .opq ((Src.rng 0 marks.length).iter (b + 1))) :: (aN, .opq (RangeObj 0 (marks.length : Int))) :: (mk, .list (marks.map V.int)) :: (tb, IC 185 dx) :: (dx, AC [("links", .ref la), ("numbers", .ref na), ("states", n), ("exceptions", .ref ea)]) :: (la, DC w (lk.map vI)) :: (na, DC w nk) :: (ea, DC w ek) :: ρ) (_, _, _, _, _)
      hPO hroom.handled hnew2 S ⟨rfl, zei _ _ _ _, rfl⟩ ?_ ?_ ?_
    · intro i z s _ S
      exact hok2 _ (S.at ixm3)
    · intro Q2 hL2 hB2 hR2 i z v s hP hvi S
      rw [hv2] at hvi
      apply zem hvi; intro m tn hm
      obtain ⟨st, cur, o3, o4, o5⟩ := z
      dsimp only at hP S
      have hst := hP.1
      have hcur := hP.2.1
      have hgap := hP.2.2
      clear hP
      have hnext : walkS lk 0 ((marks.drop b).take (i + 1)) = lookI lk (256 * st + m) := by rw [zbl hm]; exact zhq hst m
      have hdrop : (marks.drop b).drop i = m :: (marks.drop b).drop (i + 1) := by
        have hlt := (List.getElem?_eq_some_iff.mp hm).1
        rw [List.drop_eq_getElem_cons hlt, (List.getElem?_eq_some_iff.mp hm).2]
      rw [hdrop] at hgap
      unfold gapIn at hgap
      refine za3 X S ixm6 ixu6 ?_; walk_at "new"; refine zav ?_ (by rfl); refine methodCall_KW ?_ (by rfl); refine Attribute_name ?_; refine r_ev (zae X S ixm0 ixm0) ?_; refine zbx G.XX (zat w) S ixm7 ixm8 (by kernel_rfl) (by rfl) ?_; walk_at "new"; refine zeo S ixm9 ?_; refine zd6 ?_ (by rfl) (by rfl); refine zaf (zaa rfl (zdr (ze9 zac (zag X S ixm5 ixm5)) (zag X S ixm6 ixm6)) (zaa rfl (zeu zac) zab)) ?_
      refine zht S ixm9 hla (fun v' tv s' S' hv1 => ?_) (fun s' S' hv1 => ?_)
      · replace S := S'
        clear S'
        rw [hv1] at hnext hgap
        dsimp only at hgap
        have d1 := ltz_f (hpos _ _ hv1)
        refine za3 X S ixm5 ixu5 ?_; walk_at "new"; refine x_if ?_; refine zbs (zbn (zag X S ixm5 ixm5) zac zih (by rfl)) ?_; rw [d1]; refine br_f ?_; refine zas ?_; refine zdw X S ixm7 (zag X S ixm4 ixm4) (OfV.int _ _) ixu7 (by rfl) ?_; walk_at "new"; refine zdn ?_ (by intro _; with_unfolding_all rfl); refine methodCall_KW ?_ (by rfl); refine Attribute_name ?_; refine r_ev (zae X S ixm0 ixm0) ?_; refine zbx G.XX (zat w) S ixm7 ixm8 (by kernel_rfl) (by rfl) ?_; walk_at "new"; refine zeo S zcf ?_; refine zd6 ?_ (by rfl) (by rfl); refine args_cons ?_ (by rfl); refine r_ev (zag X S ixm5 ixm5) ?_; refine args_cons ?_ (by rfl); refine Tuple_ ?_; refine zaf zab ?_; refine za2 S sz0 ?_; walk_at "newo"; refine zaf zab ?_
        refine zin (num := num) S zcp hna ixm1 hnum hnone fun dv ct ds s' S' hrd hct hds => ?_
        replace S := S'
        clear S'
        have hread : ∀ s cur' ℓ₁ ℓ₂, SS w G0 K g s (ℓ₁ ++ ((aN, .tup []) :: (it2, .opq (src2.iter (i + 1))) :: (fo, .list cur') :: ℓ₂)) → At w s.heap dv ct := fun s cur' ℓ₁ ℓ₂ S => by
          rcases hrd with h | ⟨rfl, rfl⟩
          · exact S.fact h
          · exact S.at (List.mem_append_right _ (.head _))
        have hdl : ds.length ≤ ((marks.drop b).take (i + 1)).length + 1 := by
          cases q : num v' with
          | none => rw [hds, q]; simp
          | some d => rw [hds, q]; have := hdep _ _ _ (fun n hn => hm255 n (List.mem_of_mem_drop (List.mem_of_mem_take hn))) hnext q; simp only [Option.getD_some]; exact Nat.le_of_eq this
        have hdb : b + ds.length ≤ marks.length + 1 := by
          rw [List.length_take, List.length_drop] at hdl
          have hlt := (List.getElem?_eq_some_iff.mp hm).1
          rw [List.length_drop] at hlt
          omega
        refine zc8 S (hread _ _ [_] _ S) hct fun src3 it3 s hv3 hok3 hnew3 S => ?_
        refine zbd (σ := List Int × Option V) (fun j z => z.1.length = marks.length + 1 ∧ maxAt z.1 (b + j) (ds.drop j) = maxAt cur b ds) (fun _ => g)
            (fun j z => [(("self" : Str), some (V.ref tb)), ("letters", some (.ref a)), ("marks", some (.ref mk)), ("found", some (.ref fo)), ("begin", some (.int b)), ("state", some (.int v')), ("letter", some (.int m)), ("spot", some (.int ((b + j : Nat) : Int))), ("digit", z.2), ("EDGE", none), ("list", none), ("len", none), ("range", none), ("max", none)])
            (fun _ z => (aN, .tup []) :: (it2, .opq (src2.iter (i + 1))) :: (fo, .list (z.1.map V.int)) :: (sl, .list ((marks.drop b).map V.int)) :: (it, .opq ((Src.rng 0 marks.length).iter (b + 1))) :: (_, .opq (RangeObj 0 (marks.length : Int))) :: (mk, .list (marks.map V.int)) :: (tb, IC 185 dx) :: (dx, AC [("links", .ref la), ("numbers", .ref na), ("states", n), ("exceptions", .ref ea)]) :: (la, DC w (lk.map vI)) :: (na, DC w nk) :: (ea, DC w ek) :: ρ) (cur, _)
          hPO hroom.handled hnew3 S ⟨hcur, rfl⟩ ?_ ?_ ?_
        · intro j z s _ S
          exact hok3 _ (hread _ _ [_, _] _ S)
        · intro Q3 hL3 hB3 hR3 j z v s hP hvj S
          rw [hv3] at hvj
          apply zem hvj; intro q tq hq
          obtain ⟨cur', o5'⟩ := z
          dsimp only at hP S
          have hcur' := hP.1
          have hmx := hP.2
          clear hP
          have hjlt := (List.getElem?_eq_some_iff.mp hq).1
          have hdropj : ds.drop j = q :: ds.drop (j + 1) := by rw [List.drop_eq_getElem_cons hjlt, (List.getElem?_eq_some_iff.mp hq).2]
          rw [hdropj] at hmx
          have hcsz : (cur'.map V.int).length ≤ sizeLine := by rw [List.length_map, sizeLine_eq]; omega
          obtain ⟨f0, hf0⟩ : ∃ f0, cur'[b + j]? = some f0 := ⟨_, List.getElem?_eq_getElem (by omega)⟩
          have hmx' : maxAt (cur'.set (b + j) (max f0 q)) (b + (j + 1)) (ds.drop (j + 1)) = maxAt cur b ds := by
            rw [← hmx]
            show _ = maxAt (cur'.set (b + j) (max (cur'.getD (b + j) 0) q)) (b + j + 1) (ds.drop (j + 1))
            rw [List.getD_eq_getElem?_getD, hf0]; rfl
          refine za3 X S ixm8 ixu8 ?_; walk_at "new"; refine zbh ?_ (by rfl); refine Call_ ?_ (by rfl); refine zax X S (ixmt ixm1) (zkn G) ?_; refine PyProof.Rows.callWith_builtin1 ?_ (by rfl) (by rfl); refine args_cons ?_ (by rfl); refine zbb (zae X S ixm3 ixm3) (zag X S ixm7 ixm7) ?_
          refine zb6 (n := f0) ((S.at ixm4).seq SeqC.ofL) (by (rw [sizeLine_eq]; omega)) (Int.natCast_nonneg _) (by rw [← hf0]; rfl) zbm fun t => ?_
          refine zaf (zaa rfl (zag X S ixm8 ixm8) zab) ?_; refine ziv hroom.deeper.handled S ?_; walk_at "newt"; refine r_ev (zae X S ixm3 ixm3) ?_; refine r_ev (zag X S ixm7 ixm7) ?_
          refine zi1 (pv := .int (max f0 q)) (vs' := (cur'.set (b + j) (max f0 q)).map V.int) S ixv4 (Int.natCast_nonneg _) (by rw [show (2 : Int) ^ 63 = 9223372036854775808 by decide]; omega) (by rw [List.length_map]; omega) rfl (by rw [List.map_set]; rfl) ?_; walk_at "new"
          refine zny ?_; refine znt X S ixm7 ixm7 ?_; refine r_ev zac ?_; refine zl1 ?_; refine za3 X S ixm7 ixu7 ?_; walk_at "new"; refine zas ?_
          exact hL3 j .next (_, _) _ ⟨by rw [List.length_set]; exact hcur', hmx'⟩ S rfl
        · intro z s hP S
          have hcur' := hP.1
          have hmx := hP.2
          rw [hv3, List.length_map, List.drop_length] at hmx
          have hmx' : z.1 = maxAt cur b ((num v').getD []) := by rw [← hds]; exact hmx
          rw [hmx'] at S hcur'
          refine zas ?_
          exact hL2 i .next (_, _, _, _, _) _ ⟨hnext, hcur', hgap⟩ (S.selN [1, 2, 2, 2, 2, 2, 2, 2, 2, 2, 2, 2, 0] (by rfl)) rfl
      · replace S := S'
        clear S'
        rw [hv1] at hnext hgap
        dsimp only at hgap
        rw [hgap] at S
        refine za3 X S ixm5 ixu5 ?_; walk_at "new"; refine x_if ?_; refine zbs (zbn (zag X S ixm5 ixm5) zac zih (by rfl)) ?_; rw [ltz_t]; refine br_t ?_; refine zok ?_
        refine hB2 _ _ ?_
        refine zas ?_
        exact hL1 b .next (_, _, _, _, _) _ trivial (S.selN [1, 4, 2, 3, 3, 3, 3, 3, 3, 3, 0, 0] (by rfl)) rfl
    · intro z s hP S
      have hgap := hP.2.2
      rw [hv2, List.length_map, List.drop_length] at hgap
      have hcg : z.2.1 = gapOut lk num marks (b + 1) := hgap
      rw [hcg] at S
      refine zas ?_
      exact hL1 b .next (_, _, _, _, _) _ trivial (S.selN [1, 3, 1, 2, 2, 2, 2, 2, 2, 2, 0] (by rfl)) rfl
  · intro y s _ S
    rw [zbf] at S
    have hgl := zei lk num marks marks.length
    refine za9 ?_; refine Subscript_ ?_; refine r_ev (zae X S ixm3 ixm3) ?_; refine wpAny_Slice ?_; refine wpAny_evalPart_some ?_; refine r_ev zac ?_; refine wpAny_evalPart_some ?_; refine r_ev (zaz X G.XX S zcp (zcc G) (Callee.bi _) (zaa rfl (zae X S ixm2 ixm2) zab) (zb7 S ((S.at ixm3).seq SeqC.ofL) hmszm)) ?_; refine wpAny_evalPart_none ?_
    refine zcx S ((S.at ixm1).isL) (by (rw [List.length_map, sizeLine_eq]; omega)) (Part.int _ _ (Int.natCast_nonneg _)) (Part.int _ _ (Int.natCast_nonneg _)) fun r s hnr S => ?_
    have er : sliceV ((gapOut lk num marks marks.length).map V.int) (some (1 : Int).toNat) (some ((((marks.map V.int).length : Nat) : Int)).toNat) = (sliceV (gapOut lk num marks (ns.length + 2)) (some 1) (some (ns.length + 2))).map V.int := by
      rw [List.length_map, hml]
      unfold sliceV
      simp only [Option.getD_some, List.map_drop, List.map_take]
      rfl
    rw [er] at S
    try with_reducible first | refine hQ _ _ ?_ | refine hEnd _ ?_
    refine k r s ?_ (S.selN [2, 5, 5, 5, 5, 5, 0, 0, 0, 0] (by rfl))
    rw [← hK] at hnr; exact hnr
theorem zk5 {w : World} {G0 : Heap} {Φ : List Addr} {g : PH} {s : Shared} {A : Around} {R : Result → Shared → Prop} {cells : Led} {v : Value}
    (G : Gd w G0) (I : Inv w G0 Φ g s.heap cells) (hroom : Room A 2) (hb : NoSeq v)
    (k : ∀ s', SS w G0 ⟨Φ, s, g, cells.map Prod.fst⟩ g s' cells → R (.ok (.ret (.bool false))) s') :
    codeAny (model pg w) A (.call (.ref 80) ⟨[v], []⟩) R s := by
  refine zan (vals := [v]) I G.XX G.lim hroom.lt (by exact rfl) (by kernel_rfl) (BindsTo.of_eq rfl) (by decide +kernel) (by decide) (by rfl) ?_
  intro env L s X S Q E hQ hEnd hEr hPO
  dsimp only [mkLoc, zah, zap, zar, zal, zaj, zak, za0] at S
  refine x_if ?_; refine isTrue_or ?_; refine isTrue_not ?_; refine PyProof.Rows.isTrue_plain ?_ (by rfl); refine Call_ ?_ (by rfl); refine zax X S ixm2 (zao G) ?_; refine PyProof.Rows.callWith_builtin1 ?_ (by rfl) (by rfl); refine args_cons ?_ (by rfl); refine zbv X S ixm0 ixm0 ?_; intro vN hvN; refine args_cons ?_ (by rfl); refine Tuple_ ?_; refine zaf (zaa rfl (zaw X S ixm3 (zb0 G)) (zaa rfl (zaw X S ixm4 (zc3 G)) zab)) ?_; refine za2 S sz2 ?_; walk_at "newo"; refine zaf zab ?_
  refine zeb S (zdh hb hvN) ixm1 ?_; walk_at "new"
  refine wpAny_truthy_bool ?_; refine zfv ?_; refine br_t ?_; refine zdy zbu ?_; refine hQ _ _ ?_
  try with_reducible first | refine hQ _ _ ?_ | refine hEnd _ ?_
  exact k _ (S.sel (by (refine Sel.drop ?_; refine Sel.drop ?_; exact Sel.refl)))
theorem zdv {α : Type} (p : α → Bool) (l : List α) (x : α) : (l ++ [x]).filter p = if p x = true then l.filter p ++ [x] else l.filter p := by
  rw [List.filter_append]; cases h : p x <;> simp [h]
noncomputable def ptsF (first last : Int) (ps : List Int) : List Int := ps.filter fun p => decide (first ≤ p) && decide (p ≤ last)
noncomputable def oddsOf (gaps : List Int) (first : Int) (cnt : Nat) : List Int := ((List.range cnt).map fun (i : Nat) => first + (i : Int)).filter fun p => (gaps.getD p.toNat 0).fmod 2 == 1
theorem zl2 (first last : Int) (ps : List Int) (p : Int) : ptsF first last (ps ++ [p]) = if (decide (first ≤ p) && decide (p ≤ last)) = true then ptsF first last ps ++ [p] else ptsF first last ps := by
  exact zdv _ _ _
theorem zgy (gaps : List Int) (first : Int) (i : Nat) : oddsOf gaps first (i + 1) = if ((gaps.getD (first + (i : Int)).toNat 0).fmod 2 == 1) = true then oddsOf gaps first i ++ [first + (i : Int)] else oddsOf gaps first i := by
  unfold oddsOf
  rw [List.range_succ, List.map_append]
  exact zdv _ _ _
noncomputable def gapsOf (lk : List (Int × Int)) (num : Int → Option (List Int)) (ns : List Int) : List Int := sliceV (gapOut lk num ([0] ++ ns ++ [0]) (ns.length + 2)) (some 1) (some (ns.length + 2))
theorem zkq (lk : List (Int × Int)) (num : Int → Option (List Int)) (ns : List Int) : (gapsOf lk num ns).length = ns.length + 1 := by
  unfold gapsOf sliceV
  have := zei lk num ([0] ++ ns ++ [0]) (ns.length + 2)
  simp only [Option.getD_some, List.length_drop, List.length_take, this]
  simp
noncomputable def pointsL (lk : List (Int × Int)) (num exc : Int → Option (List Int)) (ns : List Int) (l r : Int) : List Int :=
  let word := ns.take 63
  let first := max 1 (min 63 l)
  let last := (word.length : Int) - max 1 (min 63 r)
  match exc (keyOf word) with
  | some ps => ptsF first last ps
  | none => oddsOf (gapsOf lk num word) first (last + 1 - first).toNat
noncomputable def PtsBinds (w : World) (s : Shared) (args : Args) (vals : List Value) : Prop := ∀ o fd, (KK w).lookup 182 = some o → o.data = .func fd → BindsTo s fd args (bindsOf fd.scope.names vals)
theorem zgq {w : World} {G0 : Heap} {Φ : List Addr} {g : PH} {s : Shared} {A : Around} {R : Result → Shared → Prop} {outer : List Env} {ρ : Led} {tb dx la na ea a : Addr} {c : Cell} {vs : List V} {lv left right : Value} {n : V} {lk : List (Int × Int)} {nk ek : List (Int × V)} {num exc : Int → Option (List Int)} {args : Args}
    (G : Gd w G0) (K₀ : Stk A outer Φ) (hla : (la == sysModules) = false) (hna : (na == sysModules) = false) (hea : (ea == sysModules) = false)
    (I : Inv w G0 Φ g s.heap ((tb, IC 185 dx) :: (dx, AC [("links", .ref la), ("numbers", .ref na), ("states", n), ("exceptions", .ref ea)]) :: (la, DC w (lk.map vI)) :: (na, DC w nk) :: (ea, DC w ek) :: ρ)) (hroom : Room A 5)
    (hargs : PtsBinds w s args [.ref tb, lv, left, right])
    (hlv : (NoSeq lv ∧ vs = []) ∨ (lv = .ref a ∧ Rd g ρ a c ∧ SeqC c vs ∧ (∀ v ∈ vs, NumV v) ∧ vs.length ≤ sizeLine)) (hl : NumV (V.of left) ∨ left = .none) (hrt : NumV (V.of right) ∨ right = .none)
    (hpos : ∀ k v, lookI lk k = some v → 0 ≤ v) (hnum : ∀ k v, lookV nk k = some v → ∃ ta ds, v = .ref ta ∧ g ta = some (.tup (ds.map V.int)) ∧ num k = some ds) (hnone : ∀ k, lookV nk k = none → num k = none)
    (hdep : ∀ l st ds, (∀ n ∈ l, 0 ≤ n ∧ n ≤ 255) → walkS lk 0 l = some st → num st = some ds → ds.length = l.length + 1)
    (hexc : ∀ k v, lookV ek k = some v → ∃ ta ds, v = .ref ta ∧ g ta = some (.tup (ds.map V.int)) ∧ exc k = some ds ∧ ds.length ≤ 64) (henone : ∀ k, lookV ek k = none → exc k = none)
    (k : ∀ ns l r rr s', vs = ns.map V.int → wordV vs = true → V.of left = .int l → V.of right = .int r → s.heap.get? rr = none →
      SS w G0 ⟨Φ, s, g, ((tb, IC 185 dx) :: (dx, AC [("links", .ref la), ("numbers", .ref na), ("states", n), ("exceptions", .ref ea)]) :: (la, DC w (lk.map vI)) :: (na, DC w nk) :: (ea, DC w ek) :: ρ).map Prod.fst⟩ g s' ((rr, .list ((pointsL lk num exc ns l r).map V.int)) :: (tb, IC 185 dx) :: (dx, AC [("links", .ref la), ("numbers", .ref na), ("states", n), ("exceptions", .ref ea)]) :: (la, DC w (lk.map vI)) :: (na, DC w nk) :: (ea, DC w ek) :: ρ) →
      R (.ok (.ret (.ref rr))) s')
    (kx : (wordV vs = false ∨ (∀ i, V.of left ≠ .int i) ∨ ∀ i, V.of right ≠ .int i) → ∀ e s', FlyS w G0 outer 45 e ⟨Φ, s, g, ((tb, IC 185 dx) :: (dx, AC [("links", .ref la), ("numbers", .ref na), ("states", n), ("exceptions", .ref ea)]) :: (la, DC w (lk.map vI)) :: (na, DC w nk) :: (ea, DC w ek) :: ρ).map Prod.fst⟩ g s'
      ((tb, IC 185 dx) :: (dx, AC [("links", .ref la), ("numbers", .ref na), ("states", n), ("exceptions", .ref ea)]) :: (la, DC w (lk.map vI)) :: (na, DC w nk) :: (ea, DC w ek) :: ρ) → R (.error (.ref e)) s') :
    codeAny (model pg w) A (.call (.ref 182) args) R s := by
  refine zb3 (vals := [.ref tb, lv, left, right]) I G.XX G.lim hroom.lt (by exact rfl) (by kernel_rfl) (hargs _ _ rfl rfl) (by decide +kernel) (by rfl) ?_
  intro env L s X _ S Q E hQ hEnd hEr hPO
  dsimp only [mkLocC, mkCells, mkCl, isCellK, zah, zap, zar, zal, zaj, zak, za0, cond_true, cond_false, List.cons_append, List.nil_append] at S X
  generalize hK : (⟨Φ, _, g, _⟩ : Kon) = K at S k kx
  generalize L + 1 = c1, L + 1 + 1 = c2, L + 1 + 1 + 1 = c3 at S X
  have K₁ : Stk A outer K.Φ := by rw [← hK]; exact K₀
  rcases hlv with ⟨hb, rfl⟩ | ⟨rfl, hr, hc, hn, hsz⟩
  · refine x_if ?_; refine isTrue_not ?_; refine PyProof.Rows.isTrue_plain ?_ (by rfl); refine Call_ ?_ (by rfl); refine zax X S ixm9 (ze4 G) ?_; refine callWith_K G.XX (by kernel_rfl) ?_ (by rfl) (by rfl); refine args_cons ?_ (by rfl); refine zbv X S ixm1 ixm1 ?_; intro vN hvN; refine zaf zab ?_; refine ⟨S.In G.XX, ?_⟩
    refine wpAny_call (zk5 G S.enter0 (hroom.deeper.mono (by decide)) (zdh hb hvN) fun s' S' => ?_)
    replace S := S'.ret0 S
    clear S'
    show wpAny _ _ (truthy _) _ _ _
    refine wpAny_truthy_bool ?_; refine zmk ?_
    exact zbo G.XX G.lim (zf3 w) X S zcf (za7 G) (hroom.deeper.mono (by decide)) fun e s' T => hEr _ _ <| zau K₁ X T S fun s'' F => kx (.inl rfl) e s'' (F.sel (by (refine Sel.cons (Pick.tail (Pick.tail (Pick.tail Pick.head))) ?_; refine Sel.cons (Pick.tail (Pick.tail (Pick.tail Pick.head))) ?_; refine Sel.cons (Pick.tail (Pick.tail (Pick.tail Pick.head))) ?_; refine Sel.cons (Pick.tail (Pick.tail (Pick.tail Pick.head))) ?_; refine Sel.cons (Pick.tail (Pick.tail (Pick.tail Pick.head))) ?_; refine Sel.drop ?_; refine Sel.drop ?_; refine Sel.drop ?_; exact Sel.refl)))
  simp only [zah] at S
  have hl' : NumV (V.of left) ∨ V.of left = .none := hl.imp id fun e => by rw [e]; rfl
  have hrt' : NumV (V.of right) ∨ V.of right = .none := hrt.imp id fun e => by rw [e]; rfl
  clear hl hrt hargs
  generalize V.of left = vl at S hl' k kx
  generalize V.of right = vr at S hrt' k kx
  refine x_if ?_; refine isTrue_not ?_; refine PyProof.Rows.isTrue_plain ?_ (by rfl); refine zai X G.XX S ixm9 (ze4 G) (Callee.fn (by kernel_rfl)) (zaa rfl (zae X S ixm1 ixm1) zab) ?_
  refine wpAny_call (zfn G S.enter0 (hroom.deeper.mono (by decide)) hr.cons.cons.cons.cons.cons.cons.cons.cons hc hn hsz fun s' S' => ?_)
  replace S := S'.ret0 S
  clear S'
  show wpAny _ _ (truthy _) _ _ _
  refine wpAny_truthy_bool ?_
  refine ⟨fun hw => ?_, fun hw => ?_⟩
  · exact zbo G.XX G.lim (zf3 w) X S zcf (za7 G) (hroom.deeper.mono (by decide)) fun e s' T => hEr _ _ <| zau K₁ X T S fun s'' F => kx (.inl (by simpa using hw)) e s'' (F.sel (by (refine Sel.cons (Pick.tail (Pick.tail (Pick.tail Pick.head))) ?_; refine Sel.cons (Pick.tail (Pick.tail (Pick.tail Pick.head))) ?_; refine Sel.cons (Pick.tail (Pick.tail (Pick.tail Pick.head))) ?_; refine Sel.cons (Pick.tail (Pick.tail (Pick.tail Pick.head))) ?_; refine Sel.cons (Pick.tail (Pick.tail (Pick.tail Pick.head))) ?_; refine Sel.drop ?_; refine Sel.drop ?_; refine Sel.drop ?_; exact Sel.refl)))
  have hword : wordV vs = true := by simpa using hw
  obtain ⟨hne, ns, rfl, hns⟩ := zgr hword
  clear hw
  have hszn : ns.length ≤ sizeLine := by simpa using hsz
  refine zas ?_; refine zav ?_ (by rfl); refine Call_ ?_ (by rfl); refine zax X S zcp (zc3 G) ?_; refine PyProof.Rows.callWith_type1 ?_ (by rfl) (by rfl); refine args_cons ?_ (by rfl); refine Subscript_ ?_; refine r_ev (zae X S ixm1 ixm1) ?_; refine wpAny_Slice ?_; refine wpAny_evalPart_none ?_; refine wpAny_evalPart_some ?_; refine r_ev (zaw X S (ixmt ixm0) (zfc G)) ?_; refine wpAny_evalPart_none ?_
  refine zl6 S ((S.rd (Rd.cons (Rd.cons (Rd.cons (Rd.cons (Rd.cons (Rd.cons (Rd.cons (Rd.cons (Rd.cons hr)))))))))).seq hc) hsz Part.none (Part.int _ _ (Int.natCast_nonneg _)) fun r1 s' S' hr1 => ?_
  clear S
  have S := S'
  clear S'
  have esl : sliceV (ns.map V.int) none (some (63 : Int).toNat) = (ns.take 63).map V.int := by
    unfold sliceV
    simp only [Option.getD_none, Option.getD_some, List.drop_zero, List.map_take]
    rfl
  rw [esl] at hr1
  have hw63 : (ns.take 63).length ≤ 63 := by rw [List.length_take]; exact Nat.le_trans (Nat.min_le_left _ _) (by decide)
  refine zaf zab ?_
  refine zfb S hr1 (zdl (m := 63) hw63 (by decide)) fun r2 s hr2 S => ?_
  refine za5 X S ixm4 ixu4 ?_; walk_at "new"
  refine zbq ?_ (by rfl) (zd5 X ixm5)
  refine Tuple_ ?_; refine args_cons ?_ (by rfl); refine Call_ ?_ (by rfl); refine zax X S (ixmt ixm1) (zfy G) ?_; refine callWith_K G.XX (by kernel_rfl) ?_ (by rfl) (by rfl); refine args_cons ?_ (by rfl); refine zbv X S ixm2 ixm2 ?_; intro vN hvN; refine zaf zab ?_; refine ⟨S.In G.XX, ?_⟩
  refine wpAny_call (ze3 G (K₁.deeper X) S.enter0 hroom.deeper (by rcases hl' with h | h; exact .inl (hvN ▸ h); exact .inr (V.of_none (hvN.trans h))) (fun l t s' hi S' => ?_) (fun hne e s' F => ?_))
  rotate_left
  · exact hEr _ _ <| zbp K₁ X (F.up0 S) fun s'' F => kx (.inr (.inl (hvN ▸ hne))) e s'' (F.sel (by (refine Sel.cons (Pick.tail (Pick.tail (Pick.tail (Pick.tail Pick.head)))) ?_; refine Sel.cons (Pick.tail (Pick.tail (Pick.tail (Pick.tail Pick.head)))) ?_; refine Sel.cons (Pick.tail (Pick.tail (Pick.tail (Pick.tail Pick.head)))) ?_; refine Sel.cons (Pick.tail (Pick.tail (Pick.tail (Pick.tail Pick.head)))) ?_; refine Sel.cons (Pick.tail (Pick.tail (Pick.tail (Pick.tail Pick.head)))) ?_; refine Sel.drop ?_; refine Sel.drop ?_; refine Sel.drop ?_; refine Sel.drop ?_; exact Sel.refl)))
  have hleft : vl = .int l := hvN ▸ hi
  replace S := S'.ret0 S
  clear S' hi hvN vN
  generalize hwd : ns.take 63 = wd at S hw63
  refine args_cons ?_ (by rfl); refine wpAny_BinOp ?_; refine r_ev (zaz X G.XX S (ixmt ixm2) (zcc G) (Callee.bi _) (zaa rfl (zae X S ixm4 ixm4) zab) (zb7 S ((S.at ixm1).seq SeqC.ofL) (by simp only [List.length_map, List.length_cons, List.length_nil, List.length_append, sizeLine_eq]; exact Nat.le_trans hw63 (by decide)))) ?_; refine Call_ ?_ (by rfl); refine zax X S (ixmt ixm1) (zfy G) ?_; refine callWith_K G.XX (by kernel_rfl) ?_ (by rfl) (by rfl); refine args_cons ?_ (by rfl); refine zbv X S ixm3 ixm3 ?_; intro vN hvN; refine zaf zab ?_; refine ⟨S.In G.XX, ?_⟩
  refine wpAny_call (ze3 G (K₁.deeper X) S.enter0 hroom.deeper (by rcases hrt' with h | h; exact .inl (hvN ▸ h); exact .inr (V.of_none (hvN.trans h))) (fun r t s' hi S' => ?_) (fun hne e s' F => ?_))
  rotate_left
  · exact hEr _ _ <| zbp K₁ X (F.up0 S) fun s'' F => kx (.inr (.inr (hvN ▸ hne))) e s'' (F.sel (by (refine Sel.cons (Pick.tail (Pick.tail (Pick.tail (Pick.tail Pick.head)))) ?_; refine Sel.cons (Pick.tail (Pick.tail (Pick.tail (Pick.tail Pick.head)))) ?_; refine Sel.cons (Pick.tail (Pick.tail (Pick.tail (Pick.tail Pick.head)))) ?_; refine Sel.cons (Pick.tail (Pick.tail (Pick.tail (Pick.tail Pick.head)))) ?_; refine Sel.cons (Pick.tail (Pick.tail (Pick.tail (Pick.tail Pick.head)))) ?_; refine Sel.drop ?_; refine Sel.drop ?_; refine Sel.drop ?_; refine Sel.drop ?_; exact Sel.refl)))
  have hright : vr = .int r := hvN ▸ hi
  replace S := S'.ret0 S
  clear S' hi hvN vN
  refine zmp ?_; refine zaf zab ?_; refine za2 S sz2 ?_; walk_at "newo"
  refine zbz hroom.deeper.handled S ((S.at ixm1).isT) fun u1 u2 s e1 e2 S => ?_
  refine zbt X S ixm5 ixm0 e1 ixv3 ?_; walk_at "new"
  refine zbt X S ixm6 ixm1 e2 ixv4 ?_; walk_at "new"
  clear e1 e2 u1 u2
  rw [List.length_map] at S
  have S : SS w G0 K g _ ((L, .ns [(("self" : Str), some (V.ref tb)), ("letters", some (.ref a)), ("left", some vl), ("right", some vr), ("word", some (.ref r2)), ("first", none), ("last", none), ("kept", none), ("numbers", none), ("is_word", none), ("BadArgument", none), ("list", none), ("LONGEST", none), ("least_part", none), ("len", none), ("word_key", none), ("range", none)]) ::
    (c1, .cell (some (.int (max 1 (min 63 l))))) :: (c2, .cell (some (.int ((wd.length : Int) - max 1 (min 63 r))))) :: (c3, .cell none) :: 
    (tb, IC 185 dx) :: (dx, AC [("links", .ref la), ("numbers", .ref na), ("states", n), ("exceptions", .ref ea)]) :: (la, DC w (lk.map vI)) :: (na, DC w nk) :: (ea, DC w ek) :: (r2, .list (wd.map V.int)) :: ρ) := S.sel (by (refine Sel.cons Pick.head ?_; refine Sel.cons (Pick.tail (Pick.tail Pick.head)) ?_; refine Sel.cons (Pick.tail (Pick.tail Pick.head)) ?_; refine Sel.cons (Pick.tail (Pick.tail Pick.head)) ?_; refine Sel.cons (Pick.tail (Pick.tail Pick.head)) ?_; refine Sel.cons (Pick.tail (Pick.tail Pick.head)) ?_; refine Sel.cons (Pick.tail (Pick.tail Pick.head)) ?_; refine Sel.cons (Pick.tail (Pick.tail Pick.head)) ?_; refine Sel.cons (Pick.tail (Pick.tail Pick.head)) ?_; refine Sel.cons (Pick.tail Pick.head) ?_; refine Sel.drop ?_; exact Sel.refl))
  have hf0 : 1 ≤ max 1 (min 63 l) := by rw [zk2]; exact (zcy l).1
  have hf1 : max 1 (min 63 l) ≤ 63 := by rw [zk2]; exact (zcy l).2
  have hg0 : 1 ≤ max 1 (min 63 r) := by rw [zk2]; exact (zcy r).1
  have hg1 : max 1 (min 63 r) ≤ 63 := by rw [zk2]; exact (zcy r).2
  have hwd' := hwd
  generalize hfi : max 1 (min 63 l) = fi at S hf0 hf1
  generalize hla' : (wd.length : Int) - max 1 (min 63 r) = las at S
  refine zav ?_ (by rfl); refine methodCall_KW ?_ (by rfl); refine Attribute_name ?_; refine r_ev (zae X S ixm0 ixm0) ?_; refine zbx G.XX (zat w) S ixm4 ixm5 (by kernel_rfl) (by rfl) ?_; walk_at "new"; refine zeo S ixm8 ?_; refine zd6 ?_ (by rfl) (by rfl); refine args_cons ?_ (by rfl); refine zai X G.XX S (ixmt ixm3) (zhf G) (Callee.fn (by kernel_rfl)) (zaa rfl (zae X S ixm4 ixm4) zab) ?_
  refine wpAny_call (zgg G S.enter0 (hroom.deeper.mono (by decide)) (.inl ixm8) SeqC.ofL fun t s' S' => ?_)
  replace S := S'.ret0 S
  clear S'
  show wpAny _ _ (spliced _) _ _ _
  refine zaf (zaa rfl zep zab) ?_
  refine zge S ixm8 hea (fun v s' S' hl => ?_) (fun s' S' hl => ?_)
  · replace S := S'
    clear S'
    obtain ⟨ta, ds, e1, e2, e3, e4⟩ := hexc _ _ hl
    obtain rfl := V.of_ref e1
    refine za5 X S ixm7 ixu7 ?_; walk_at "new"; refine x_if ?_; refine zh2 (zae X S ixm7 ixm7) zep (by rfl) ?_; refine isnot_ref_none ?_; refine wpAny_truthy_bool ?_; refine br_t ?_; refine za9 ?_
    refine zcn (G0 := G0) (K := K) (kinds' := [((".0" : Str), .local), ("place", .local), ("first", .cell), ("last", .cell)]) (cl' := [("last", c2), ("first", c1)]) hroom.handled X ⟨rfl, by decide +kernel, by rfl, by exact ixm1, by rfl, by rfl, by rfl⟩ (fun CC hCC => ?_) (by intro _; with_unfolding_all rfl)
    refine r_ev (zae X S ixm7 ixm7) ?_
    refine zj3 S ((S.fact e2).isT) fun it s hnew S => ?_
    refine hCC Unit _ it (fun _ _ => True) (fun _ => g) _ (fun i _ => (ptsF fi las (ds.take i)).map V.int) (fun _ _ => (c1, .cell (some (.int fi))) :: (c2, .cell (some (.int las))) :: (c3, .cell none) :: (tb, IC 185 dx) :: (dx, AC [("links", .ref la), ("numbers", .ref na), ("states", n), ("exceptions", .ref ea)]) :: (la, DC w (lk.map vI)) :: (na, DC w nk) :: (ea, DC w ek) :: (r2, .list (wd.map V.int)) :: ρ) () _ ?_ hnew S rfl trivial ?_ ?_ ?_
    · simp only [Src.vals, List.length_map]; rw [sizeLine_eq]; exact Nat.le_trans e4 (by decide)
    · intro i _ s C D o _ S
      exact (S.fact e2).isT
    · intro QY QN hY hNo i _ v s C D cenv _ hvi X S
      revert S; apply zem hvi; intro p tv hp S
      dsimp only [mkLoc, zah, zap, zar, zal, zaj, zak, za0] at S
      refine zde ?_
      refine isTrue_chain ?_ (by rfl); refine r_ev (zga X S (Or.inl ixm2) ixm1 ixm4) ?_; refine test_link ?_; refine r_ev (zag X S ixm1 ixm0) ?_; refine PyProof.Rows.le_int ?_; refine wpAny_truthy_bool ?_
      have hnx : ptsF fi las (ds.take (i + 1)) = if (decide (fi ≤ p) && decide (p ≤ las)) = true then ptsF fi las (ds.take i) ++ [p] else ptsF fi las (ds.take i) := by rw [zbl hp]; exact zl2 _ _ _ _
      refine zdg (fun h => ?_) (fun h => ?_)
      · refine zdq ?_; refine r_ev (zga X S (Or.inl ixm3) ixm0 ixm5) ?_; refine PyProof.Rows.le_int ?_; refine wpAny_truthy_bool ?_
        rw [h, Bool.true_and] at hnx
        refine zdg (fun h' => ?_) (fun h' => ?_)
        · refine r_ev (zag X S ixm1 ixm0) ?_
          exact hY i () () C D _ _ _ trivial (by rw [hnx, if_pos h']; exact List.map_append) (S)
        · exact hNo i () () C D _ _ trivial (by rw [hnx, if_neg (by simp [h'])]) (S)
      · exact hNo i () () C D _ _ trivial (by rw [hnx, if_neg (by simp [h])]) (S)
    · intro _ D _ hD s S
      have elen : (Src.seqT ta (ds.map V.int)).vals.length = ds.length := by simp [Src.vals]
      rw [elen, List.take_length] at S
      have hpt : pointsL lk num exc ns l r = ptsF fi las ds := by
        unfold pointsL
        simp only [hwd', e3, hfi, hla']
      rw [← hpt] at S
      try with_reducible first | refine hQ _ _ ?_ | refine hEnd _ ?_
      refine k ns l r D s rfl hword hleft hright ?_ (S.sel (by (refine Sel.cons (Pick.tail Pick.head) ?_; refine Sel.cons (Pick.tail (Pick.tail (Pick.tail (Pick.tail Pick.head)))) ?_; refine Sel.cons (Pick.tail (Pick.tail (Pick.tail (Pick.tail Pick.head)))) ?_; refine Sel.cons (Pick.tail (Pick.tail (Pick.tail (Pick.tail Pick.head)))) ?_; refine Sel.cons (Pick.tail (Pick.tail (Pick.tail (Pick.tail Pick.head)))) ?_; refine Sel.cons (Pick.tail (Pick.tail (Pick.tail (Pick.tail Pick.head)))) ?_; refine Sel.drop ?_; refine Sel.drop ?_; refine Sel.drop ?_; refine Sel.drop ?_; refine Sel.drop ?_; exact Sel.refl)))
      rw [← hK] at hD; exact hD
  · replace S := S'
    clear S'
    have e3 := henone _ hl
    refine zcm (v := Value.none) (pv := V.none) X S ixm7 rfl ixu7 ?_; walk_at "new"; refine x_if ?_; refine zh2 (zh1 X S ixm7 ixm7) zep (by rfl) ?_; refine isnot_none_none ?_; refine wpAny_truthy_bool ?_; refine br_f ?_; refine zas ?_; refine zav ?_ (by rfl); refine methodCall_KW ?_ (by rfl); refine r_ev (zae X S ixm0 ixm0) ?_; refine zam (f := 176) (name := "gap_numbers") G.XX (zat w) S ixm4 ixm5 (by kernel_rfl) (by kernel_rfl) (by rfl) ?_; refine zbk (KF := KK w) (by kernel_rfl) ?_ (by rfl) (by rfl); refine zaf (zaa rfl (zae X S ixm4 ixm4) zab) ?_; refine ⟨S.In G.XX, ?_⟩
    have S := S.sel (ℓ' := (L, .ns [(("self" : Str), some (V.ref tb)), ("letters", some (.ref a)), ("left", some vl), ("right", some vr), ("word", some (.ref r2)), ("first", none), ("last", none), ("kept", some .none), ("numbers", none), ("is_word", none), ("BadArgument", none), ("list", none), ("LONGEST", none), ("least_part", none), ("len", none), ("word_key", none), ("range", none)]) ::
      (tb, IC 185 dx) :: (dx, AC [("links", .ref la), ("numbers", .ref na), ("states", n), ("exceptions", .ref ea)]) :: (la, DC w (lk.map vI)) :: (na, DC w nk) :: (ea, DC w ek) :: (r2, .list (wd.map V.int)) :: (c1, .cell (some (.int fi))) :: (c2, .cell (some (.int las))) :: (c3, .cell none) :: ρ) (by (refine Sel.cons Pick.head ?_; refine Sel.cons (Pick.tail (Pick.tail (Pick.tail Pick.head))) ?_; refine Sel.cons (Pick.tail (Pick.tail (Pick.tail Pick.head))) ?_; refine Sel.cons (Pick.tail (Pick.tail (Pick.tail Pick.head))) ?_; refine Sel.cons (Pick.tail (Pick.tail (Pick.tail Pick.head))) ?_; refine Sel.cons (Pick.tail (Pick.tail (Pick.tail Pick.head))) ?_; refine Sel.cons (Pick.tail (Pick.tail (Pick.tail Pick.head))) ?_; exact Sel.refl))
    refine wpAny_call (zhd G hla hna S.enter0 (hroom.deeper.mono (by decide)) (.inl ixm0) SeqC.ofL hw63 hpos hnum hnone (fun n hn => by have := hns n (List.mem_of_mem_take (by rw [hwd]; exact hn)); omega) hdep fun gr s' hgr S' => ?_)
    replace S := S'.ret0 S
    clear S'
    have hgl := zkq lk num wd
    change SS w G0 K g s' ((L, _) :: (gr, .list ((gapsOf lk num wd).map V.int)) :: _) at S
    have hpt : pointsL lk num exc ns l r = oddsOf (gapsOf lk num wd) fi (las + 1 - fi).toNat := by
      unfold pointsL
      simp only [hwd', e3, hfi, hla']
    generalize gapsOf lk num wd = gaps at S hgl hpt
    refine zbt X S ixm8 ixm2 (zah _) znh ?_; walk_at "new"; refine za9 ?_
    refine zcn (G0 := G0) (K := K) (kinds' := [((".0" : Str), .local), ("place", .local), ("numbers", .cell)]) (cl' := [("numbers", c3)]) hroom.handled X ⟨rfl, by decide +kernel, by rfl, by exact ixm1, by rfl, by rfl, by rfl⟩ (fun CC hCC => ?_) (by intro _; with_unfolding_all rfl)
    refine zai X G.XX S (ixmt ixm4) (zb2 G) (Callee.ty _) (zaa rfl (zga X S (Or.inl ixm5) ixm0 ixm8) (zaa rfl (zdr (zga X S (Or.inl ixm6) ixm1 ixm9) zac) zab)) ?_; refine zj4 S ?_; walk_at "newo"
    refine zce S ixm1 (by rw [show (2 : Nat) ^ 60 = 1152921504606846976 by decide]; omega) (by rw [show (2 : Nat) ^ 60 = 1152921504606846976 by decide]; omega) fun it s hnew S => ?_
    refine hCC Unit _ it (fun _ _ => True) (fun _ => g) _ (fun i _ => (oddsOf gaps fi i).map V.int) (fun _ _ => (aN, .opq (RangeObj fi (las + 1))) :: (gr, .list (gaps.map V.int)) :: (tb, IC 185 dx) :: (dx, AC [("links", .ref la), ("numbers", .ref na), ("states", n), ("exceptions", .ref ea)]) :: (la, DC w (lk.map vI)) :: (na, DC w nk) :: (ea, DC w ek) :: (r2, .list (wd.map V.int)) :: (c1, .cell (some (.int fi))) :: (c2, .cell (some (.int las))) :: (c3, .cell (some (.ref gr))) :: ρ) () _ ?_ hnew S rfl trivial ?_ ?_ ?_
    · rw [zbf, sizeLine_eq]; omega
    · intros; exact trivial
    · intro QY QN hY hNo i _ v s C D cenv _ hvi X S
      revert S; apply zh3 hvi; intro hilt tv S
      dsimp only [mkLoc, zah, zap, zar, zal, zaj, zak, za0] at S
      refine zde ?_
      refine wpAny_isTrue_Compare1 ?_; refine wpAny_BinOp ?_; refine zbb (zad X S (Or.inl ixm2) ixm0 (ixmt ixm2)) (zag X S ixm1 ixm0) ?_
      obtain ⟨f0, hf0⟩ : ∃ f0, gaps[(fi + i).toNat]? = some f0 := ⟨_, List.getElem?_eq_getElem (by omega)⟩
      refine zb6 (n := f0) ((S.at ixm5).seq SeqC.ofL) (by (rw [sizeLine_eq]; omega)) (by omega) hf0 zbm fun t => ?_
      refine r_ev zac ?_; refine zje (by omega) ?_; refine r_ev zac ?_; refine PyProof.Rows.eq_int ?_; refine wpAny_truthy_bool ?_
      have hnx : oddsOf gaps fi (i + 1) = if (f0.fmod 2 == 1) = true then oddsOf gaps fi i ++ [fi + (i : Int)] else oddsOf gaps fi i := by
        rw [zgy, List.getD_eq_getElem?_getD, hf0]; rfl
      refine zdg (fun h => ?_) (fun h => ?_)
      · refine r_ev (zag X S ixm1 ixm0) ?_
        exact hY i () () C D _ _ _ trivial (by rw [hnx, if_pos h]; exact List.map_append) (S)
      · exact hNo i () () C D _ _ trivial (by rw [hnx, if_neg (by simp [h])]) (S)
    · intro _ D _ hD s S
      have elen : (Src.rng fi (las + 1 - fi).toNat).vals.length = (las + 1 - fi).toNat := by simp [Src.vals]
      rw [elen, ← hpt] at S
      try with_reducible first | refine hQ _ _ ?_ | refine hEnd _ ?_
      refine k ns l r D s rfl hword hleft hright ?_ (S.sel (by (refine Sel.cons (Pick.tail Pick.head) ?_; refine Sel.cons (Pick.tail (Pick.tail (Pick.tail Pick.head))) ?_; refine Sel.cons (Pick.tail (Pick.tail (Pick.tail Pick.head))) ?_; refine Sel.cons (Pick.tail (Pick.tail (Pick.tail Pick.head))) ?_; refine Sel.cons (Pick.tail (Pick.tail (Pick.tail Pick.head))) ?_; refine Sel.cons (Pick.tail (Pick.tail (Pick.tail Pick.head))) ?_; refine Sel.drop ?_; refine Sel.drop ?_; refine Sel.drop ?_; refine Sel.drop ?_; refine Sel.drop ?_; refine Sel.drop ?_; refine Sel.drop ?_; exact Sel.refl)))
      rw [← hK] at hD; exact hD
theorem zc7 {w : World} {s : Shared} {a b c d : Value} (hT : (KK w).In s.heap) : PtsBinds w s ⟨[a, b, c, d], []⟩ [a, b, c, d] := by
  intro o fd h1 h2
  refine (fun (x : Obj) (h3 : some x = some o) (k : ∀ fd, x.data = .func fd → BindsTo s fd ⟨[a, b, c, d], []⟩ (bindsOf fd.scope.names [a, b, c, d])) => k fd (by rw [Option.some.inj h3]; exact h2)) _ h1 ?_
  intro fd h2
  have h2 := Data.func.inj h2
  subst h2
  exact BindsTo.of_defaults (T := 177) rfl (hT 177 _ rfl) rfl rfl rfl
theorem zca {w : World} {s : Shared} {a b : Value} (hT : (KK w).In s.heap) : PtsBinds w s ⟨[a, b], []⟩ [a, b, .int 2 421, .int 3 422] := by
  intro o fd h1 h2
  refine (fun (x : Obj) (h3 : some x = some o) (k : ∀ fd, x.data = .func fd → BindsTo s fd ⟨[a, b], []⟩ (bindsOf fd.scope.names [a, b, .int 2 421, .int 3 422])) => k fd (by rw [Option.some.inj h3]; exact h2)) _ h1 ?_
  intro fd h2
  have h2 := Data.func.inj h2
  subst h2
  exact BindsTo.of_defaults (T := 177) rfl (hT 177 _ rfl) rfl rfl rfl
noncomputable abbrev bxC (b : Int × Int) : Cell := .list [.int b.1, .int b.2]
noncomputable def BoxOk (b : Int × Int) : Prop := 0 ≤ b.1 ∧ 0 ≤ b.2
theorem box_ok {w : World} {G0 : Heap} {Φ : List Addr} {g : PH} {s : Shared} {A : Around} {R : Result → Shared → Prop} {cells : Led} {c m : Int} {t1 t2 : Tok}
    (G : Gd w G0) (I : Inv w G0 Φ g s.heap cells) (hroom : Room A 1)
    (k : ∀ r b s', s.heap.get? r = none → BoxOk b → SS w G0 ⟨Φ, s, g, cells.map Prod.fst⟩ g s' ((r, bxC b) :: cells) → R (.ok (.ret (.ref r))) s') :
    codeAny (model pg w) A (.call (.ref 196) ⟨[.int c t1, .int m t2], []⟩) R s := by
  refine zan (vals := [.int c t1, .int m t2]) I G.XX G.lim hroom.lt (by exact rfl) (by kernel_rfl) (BindsTo.of_eq rfl) (by decide +kernel) (by decide) (by rfl) ?_
  intro env L s X S Q E hQ hEnd hEr hPO
  dsimp only [mkLoc, zah, zap, zar, zal, zaj, zak, za0] at S
  generalize hK : (⟨Φ, _, g, cells.map Prod.fst⟩ : Kon) = K at S k
  refine za9 ?_; refine List_ ?_; refine args_cons ?_ (by rfl); refine Call_ ?_ (by rfl); refine zax X S ixm2 (zkn G) ?_; refine PyProof.Rows.callWith_builtin1 ?_ (by rfl) (by rfl); refine args_cons ?_ (by rfl); refine r_ev zac ?_; refine args_cons ?_ (by rfl); refine wpAny_BinOp ?_; refine r_ev (zag X S ixm0 ixm0) ?_; refine zki zac zac ?_; refine znu (by decide) (by decide +kernel) ?_; refine zmp ?_; refine zaf zab ?_; refine ziv hroom.deeper.handled S ?_; walk_at "newt"; refine args_cons ?_ (by rfl); refine wpAny_BinOp ?_; refine wpAny_BinOp ?_; refine wpAny_BinOp ?_; refine wpAny_BinOp ?_; refine wpAny_BinOp ?_; refine r_ev zac ?_; refine zai X G.XX S ixm3 (g_abs G) (Callee.bi _) (zaa rfl (zag X S ixm0 ixm0) zab) ?_; refine r_abs S ?_; walk_at "newt"; refine znq (.of_left (PySem.intBits_le_64 (by omega) (by omega))) ?_; refine r_ev (zaz X G.XX S ixm4 (zhw G) (Callee.ty _) (zaa rfl (zlf (zag X S ixm0 ixm0) zac zih (by rfl)) zab) zmj) ?_; refine zeq ?_; refine zai X G.XX S ixm3 (g_abs G) (Callee.bi _) (zaa rfl (zag X S ixm1 ixm1) zab) ?_; refine r_abs S ?_; walk_at "newt"; refine zeq ?_; refine r_ev zac ?_; refine zje (by omega) ?_; refine r_ev zac ?_; refine zeq ?_; refine zaf zab ?_; refine zbg S sz2 ?_; walk_at "newo"; refine hQ _ _ ?_
  try with_reducible first | refine hQ _ _ ?_ | refine hEnd _ ?_
  refine k _ (_, _) s ?_ ?_ S.drop1
  · rw [← hK] at hN; exact hN
  · constructor
    · show 0 ≤ max 0 _
      omega
    · show 0 ≤ Int.fmod _ _ + 7
      have := Int.fmod_nonneg_of_pos (2 * ((c.natAbs : Nat) : Int) + (if decide (c < 0) = true then 1 else 0) + ((m.natAbs : Nat) : Int)) (show (0 : Int) < 2147483629 by decide)
      omega
theorem zb9 {w : World} {G0 : Heap} {Φ : List Addr} {g : PH} {s : Shared} {A : Around} {R : Result → Shared → Prop} {ρ : Led} {bx : Addr} {b : Int × Int} {many : Int} {t0 : Tok}
    (G : Gd w G0) (I : Inv w G0 Φ g s.heap ((bx, bxC b) :: ρ)) (hroom : Room A 1) (hb : BoxOk b) (hm : 0 < many) (hm2 : many < 1000)
    (k : ∀ d b' t s', 0 ≤ d → d < many → BoxOk b' → SS w G0 ⟨Φ, s, g, ((bx, bxC b) :: ρ).map Prod.fst⟩ g s' ((bx, bxC b') :: ρ) → R (.ok (.ret (.int d t))) s') :
    codeAny (model pg w) A (.call (.ref 203) ⟨[.ref bx, .int many t0], []⟩) R s := by
  refine zan (vals := [.ref bx, .int many t0]) I G.XX G.lim hroom.lt (by exact rfl) (by kernel_rfl) (BindsTo.of_eq rfl) (by decide +kernel) (by decide) (by rfl) ?_
  intro env L s X S Q E hQ hEnd hEr hPO
  dsimp only [mkLoc, zah, zap, zar, zal, zaj, zak, za0] at S
  generalize hK : (⟨Φ, _, g, _⟩ : Kon) = K at S k
  obtain ⟨b0, b1⟩ := b
  obtain ⟨h0, h1⟩ := hb
  simp only at h0 h1 S
  refine x_if ?_; refine wpAny_isTrue_Compare1 ?_; refine zbb (zae X S ixm0 ixm0) zac ?_
  (refine zfr (S.at ixm1).isL (by decide) (by decide) (by rfl) zbi ?_; intro v hv; obtain ⟨t, rfl⟩ := V.of_int hv; clear hv)
  refine r_ev zac ?_; refine PyProof.Rows.gt_int ?_; refine wpAny_truthy_bool ?_
  refine ⟨fun hc => ?_, fun hc => ?_⟩
  · have hc := of_decide_eq_true hc
    refine zav ?_ (by rfl); refine wpAny_BinOp ?_; refine zbb (zae X S ixm0 ixm0) zac ?_
    (refine zfr (S.at ixm1).isL (by decide) (by decide) (by rfl) zbi ?_; intro v hv; obtain ⟨t, rfl⟩ := V.of_int hv; clear hv)
    refine r_ev (zag X S ixm1 ixm1) ?_; refine zje (by omega) ?_; refine za3 X S ixm2 ixu2 ?_; walk_at "new"; refine zbh ?_ (by rfl); refine wpAny_BinOp ?_; refine zbb (zae X S ixm0 ixm0) zac ?_
    (refine zfr (S.at ixm1).isL (by decide) (by decide) (by rfl) zbi ?_; intro v hv; obtain ⟨t, rfl⟩ := V.of_int hv; clear hv)
    refine r_ev (zag X S ixm1 ixm1) ?_; refine zm8 (by omega) (by omega) ?_; refine r_ev (zae X S ixm0 ixm0) ?_; refine r_ev zac ?_
    (refine zi1 S ixv1 (by decide) (by decide) (of_decide_eq_true rfl) rfl rfl ?_; walk_at "new")
    refine zdy (zag X S ixm2 ixm2) ?_; refine hQ _ _ ?_
    try with_reducible first | refine hQ _ _ ?_ | refine hEnd _ ?_
    exact k _ (_, _) _ _ (Int.fmod_nonneg_of_pos _ hm) (Int.fmod_lt_of_pos _ hm) ⟨Int.fdiv_nonneg h0 (Int.le_of_lt hm), h1⟩ S.drop1
  · refine zas ?_; refine zbh ?_ (by rfl); refine wpAny_BinOp ?_; refine wpAny_BinOp ?_; refine wpAny_BinOp ?_; refine zbb (zae X S ixm0 ixm0) zac ?_
    (refine zfr (S.at ixm1).isL (by decide) (by decide) (by rfl) zbi ?_; intro v hv; obtain ⟨t, rfl⟩ := V.of_int hv; clear hv)
    refine r_ev zac ?_
    refine znq (.of_right (PySem.intBits_le_64 (by omega) (by omega))) ?_
    refine r_ev zac ?_; refine zeq ?_; refine r_ev zac ?_; refine zje (by omega) ?_; refine r_ev (zae X S ixm0 ixm0) ?_; refine r_ev zac ?_
    (refine zi1 S ixv1 (by decide) (by decide) (of_decide_eq_true rfl) rfl rfl ?_; walk_at "new")
    refine za9 ?_; refine wpAny_BinOp ?_; refine wpAny_BinOp ?_; refine zbb (zae X S ixm0 ixm0) zac ?_
    (refine zfr (S.at ixm1).isL (by decide) (by decide) (by rfl) zbi ?_; intro v hv; obtain ⟨t, rfl⟩ := V.of_int hv; clear hv)
    refine r_ev zac ?_; refine zm8 (by omega) (by omega) ?_; refine r_ev (zag X S ixm1 ixm1) ?_; refine zje (by omega) ?_; refine hQ _ _ ?_
    try with_reducible first | refine hQ _ _ ?_ | refine hEnd _ ?_
    exact k _ (_, _) _ _ (Int.fmod_nonneg_of_pos _ hm) (Int.fmod_lt_of_pos _ hm) ⟨h0, Int.fmod_nonneg_of_pos _ (by decide)⟩ S.drop1
noncomputable def isLet (n : Int) : Prop := n = 255 ∨ n = 1 ∨ (97 ≤ n ∧ n ≤ 99)
theorem zi5 {w : World} {G0 : Heap} {Φ : List Addr} {g : PH} {s : Shared} {A : Around} {R : Result → Shared → Prop} {ρ : Led} {bx : Addr} {b : Int × Int}
    (G : Gd w G0) (I : Inv w G0 Φ g s.heap ((bx, bxC b) :: ρ)) (hroom : Room A 2) (hb : BoxOk b)
    (k : ∀ d b' t s', isLet d → BoxOk b' → SS w G0 ⟨Φ, s, g, ((bx, bxC b) :: ρ).map Prod.fst⟩ g s' ((bx, bxC b') :: ρ) → R (.ok (.ret (.int d t))) s') :
    codeAny (model pg w) A (.call (.ref 210) ⟨[.ref bx], []⟩) R s := by
  refine zan (vals := [.ref bx]) I G.XX G.lim hroom.lt (by exact rfl) (by kernel_rfl) (BindsTo.of_eq rfl) (by decide +kernel) (by decide) (by rfl) ?_
  intro env L s X S Q E hQ hEnd hEr hPO
  dsimp only [mkLoc, zah, zap, zar, zal, zaj, zak, za0] at S
  generalize hK : (⟨Φ, _, g, _⟩ : Kon) = K at S k
  refine zav ?_ (by rfl); refine zai X G.XX S ixm2 (za6 G) (Callee.fn (by kernel_rfl)) (zaa rfl (zae X S ixm0 ixm0) (zaa rfl zac zab)) ?_
  refine wpAny_call (zb9 G S.enter0 hroom.deeper hb (by decide) (by decide) fun d b' t s' hd0 hd1 hb' S' => ?_)
  replace S := S'.ret0 S
  clear S'
  refine za3 X S ixm1 ixu1 ?_; walk_at "new"; refine za9 ?_; refine IfExp_ ?_; refine zbs (zbn (zag X S ixm1 ixm1) zac zih (by rfl)) ?_
  refine zdg (fun hc => ?_) (fun hc => ?_)
  · have hc := of_decide_eq_true hc
    refine Subscript_ ?_; refine List_ ?_; refine zaf (zaa rfl zac (zaa rfl zac zab)) ?_; refine zbg S sz2 ?_; walk_at "newo"; refine r_ev (zag X S ixm1 ixm1) ?_
    refine zb6 (ns := [255, 1]) (n := if d = 0 then 255 else 1) ((S.at (a := aN) (c := .list [.int 255, .int 1]) (by exact ixm1)).seq SeqC.ofL) (by decide) hd0 (by rcases (show d = 0 ∨ d = 1 by omega) with rfl | rfl <;> rfl) (by exact zbm) fun t => ?_
    refine hQ _ _ ?_
    try with_reducible first | refine hQ _ _ ?_ | refine hEnd _ ?_
    refine k _ _ _ _ ?_ hb' (S.selN [3, 0, 0] (by rfl))
    unfold isLet
    split <;> simp
  · have hc := of_decide_eq_false hc
    refine wpAny_BinOp ?_; refine r_ev zac ?_; refine zki (zag X S ixm1 ixm1) zac ?_; refine zje (by omega) ?_; refine zeq ?_; refine hQ _ _ ?_
    try with_reducible first | refine hQ _ _ ?_ | refine hEnd _ ?_
    refine k _ _ _ _ ?_ hb' (S.selN [2, 0] (by rfl))
    unfold isLet
    have h1 := Int.fmod_nonneg_of_pos d (show (0 : Int) < 3 by decide)
    have h2 := Int.fmod_lt_of_pos d (show (0 : Int) < 3 by decide)
    omega
theorem zlm {w : World} {G0 : Heap} {Φ : List Addr} {g : PH} {s : Shared} {A : Around} {R : Result → Shared → Prop} {ρ : Led} {bx : Addr} {b : Int × Int}
    (G : Gd w G0) (I : Inv w G0 Φ g s.heap ((bx, bxC b) :: ρ)) (hroom : Room A 2) (hb : BoxOk b)
    (k : ∀ d b' t s', BoxOk b' → SS w G0 ⟨Φ, s, g, ((bx, bxC b) :: ρ).map Prod.fst⟩ g s' ((bx, bxC b') :: ρ) → R (.ok (.ret (.int d t))) s') :
    codeAny (model pg w) A (.call (.ref 266) ⟨[.ref bx], []⟩) R s := by
  refine zan (vals := [.ref bx]) I G.XX G.lim hroom.lt (by exact rfl) (by kernel_rfl) (BindsTo.of_eq rfl) (by decide +kernel) (by decide) (by rfl) ?_
  intro env L s X S Q E hQ hEnd hEr hPO
  dsimp only [mkLoc, zah, zap, zar, zal, zaj, zak, za0] at S
  generalize hK : (⟨Φ, _, g, _⟩ : Kon) = K at S k
  refine za9 ?_; refine Subscript_ ?_; refine List_ ?_; refine args_cons ?_ (by rfl); refine r_ev zac ?_; refine args_cons ?_ (by rfl); refine r_ev zac ?_; refine args_cons ?_ (by rfl); refine r_ev zac ?_; refine args_cons ?_ (by rfl); refine r_ev zac ?_; refine args_cons ?_ (by rfl); refine r_ev zac ?_; refine args_cons ?_ (by rfl); refine r_ev zac ?_; refine args_cons ?_ (by rfl); refine r_ev zac ?_; refine args_cons ?_ (by rfl); refine r_ev zac ?_; refine args_cons ?_ (by rfl); refine r_ev (zeu zac) ?_; refine args_cons ?_ (by rfl); refine r_ev zac ?_; refine args_cons ?_ (by rfl); refine r_ev zac ?_; refine args_cons ?_ (by rfl); refine zki zac zac ?_; refine znu (by decide) (by decide +kernel) ?_; refine zaf zab ?_; refine zbg S (by simp only [List.length_cons, List.length_nil]; exact (by decide)) ?_; walk_at "newo"; refine zai X G.XX S ixm1 (za6 G) (Callee.fn (by kernel_rfl)) (zaa rfl (zae X S ixm0 ixm0) (zaa rfl zac zab)) ?_
  have S := S.selN (ℓ' := (L, _) :: (bx, bxC b) :: (aN, _) :: ρ) [1, 2] (by rfl)
  refine wpAny_call (zb9 G S.enter0 hroom.deeper hb (by decide) (by decide) fun d b' t s' hd0 hd1 hb' S' => ?_)
  replace S := S'.ret0 S
  clear S'
  have hS := S.at (a := aN) (by exact ixm2)
  generalize hns : ([1, 2, 3, 1, 2, 1, 1, 0, -4, 62, 64, 10 ^ (20 : Int).toNat] : List Int) = ns
  have hl : ns.length = 12 := by rw [← hns]; rfl
  obtain ⟨f0, hf0⟩ : ∃ f0, ns[d.toNat]? = some f0 := ⟨_, List.getElem?_eq_getElem (by omega)⟩
  refine zb6 (ns := ns) (n := f0) (by rw [← hns]; exact hS.seq (vs := List.map V.int [1, 2, 3, 1, 2, 1, 1, 0, -4, 62, 64, 10 ^ (20 : Int).toNat]) SeqC.ofL) (by rw [hl]; decide) hd0 hf0 (by exact zh4) fun t => ?_
  refine hQ _ _ ?_
  try with_reducible first | refine hQ _ _ ?_ | refine hEnd _ ?_
  exact k _ _ _ _ hb' (S.selN [2, 0, 0] (by rfl))
noncomputable abbrev Form := List Int × List Int
noncomputable def FormOk (f : Form) : Prop := ∃ (core : List Int) (e1 e2 : Bool), f.1 = (if e1 then [0] else []) ++ core ++ (if e2 then [0] else []) ∧ core ≠ [] ∧ core.length ≤ 4 ∧ (∀ n ∈ core, isLet n) ∧ f.2.length = f.1.length + 1 ∧ ∀ m ∈ f.2, 0 ≤ m ∧ m ≤ 9
theorem zke (e : Bool) : (List.replicate (if e = true then (1 : Int) else 0).toNat [V.int 0]).flatten = (if e then [0] else [] : List Int).map V.int := by cases e <;> rfl
theorem map_of_snoc {ns : List Int} {d : Int} {t : Tok} : ns.map V.int ++ [V.of (.int d t)] = (ns ++ [d]).map V.int := by rw [List.map_append]; rfl
theorem zno {w : World} {G0 : Heap} {Φ : List Addr} {g : PH} {s : Shared} {A : Around} {R : Result → Shared → Prop} {ρ : Led} {bx : Addr} {b : Int × Int}
    (G : Gd w G0) (I : Inv w G0 Φ g s.heap ((bx, bxC b) :: ρ)) (hroom : Room A 3) (hb : BoxOk b)
    (k : ∀ r l1 l2 f b' s', FormOk f → BoxOk b' → s.heap.get? r = none → s.heap.get? l1 = none → s.heap.get? l2 = none → SS w G0 ⟨Φ, s, g, ((bx, bxC b) :: ρ).map Prod.fst⟩ g s' ((r, .tup [.ref l1, .ref l2]) :: (l1, .list (f.1.map V.int)) :: (l2, .list (f.2.map V.int)) :: (bx, bxC b') :: ρ) → R (.ok (.ret (.ref r))) s') :
    codeAny (model pg w) A (.call (.ref 215) ⟨[.ref bx], []⟩) R s := by
  refine zb3 (vals := [.ref bx]) I G.XX G.lim hroom.lt (by exact rfl) (by kernel_rfl) (BindsTo.of_eq rfl) (by decide +kernel) (by rfl) ?_
  intro env L s X _ S Q E hQ hEnd hEr hPO
  dsimp only [mkLocC, mkCells, mkCl, isCellK, zah, zap, zar, zal, zaj, zak, za0, cond_true, cond_false, List.cons_append, List.nil_append] at S X
  generalize hK : (⟨Φ, _, g, _⟩ : Kon) = K at S k
  generalize L + 1 = cb at S X
  refine zcb (G0 := G0) (K := K) (kinds' := [((".0" : Str), .local), ("k", .local), ("_law_letter", .globalImplicit), ("box", .cell)]) (cl' := [("box", cb)]) hroom.handled X ⟨rfl, by decide +kernel, by rfl, by exact ixm1, by rfl, by rfl, by rfl⟩ (zd8 X ixm1 rfl (by decide +kernel)) ixm1 (fun CC hCC => ?_) (by intro _; with_unfolding_all rfl)
  refine Call_ ?_ (by rfl); refine zax X S ixm3 (zb2 G) ?_; refine PyProof.Rows.callWith_type1 ?_ (by rfl) (by rfl); refine args_cons ?_ (by rfl); refine wpAny_BinOp ?_; refine r_ev zac ?_; refine zai X G.XX S ixm4 (za6 G) (Callee.fn (by kernel_rfl)) (zaa rfl (zad X S (Or.inl ixm0) ixm0 ixm1) (zaa rfl zac zab)) ?_
  have S := S.selN (ℓ' := (L, _) :: (bx, bxC b) :: (cb, _) :: ρ) [1, 2] (by rfl)
  refine wpAny_call (zb9 G S.enter0 (hroom.deeper.mono (by decide)) hb (by decide) (by decide) fun d b1 t s' hd0 hd1 hb1 S' => ?_)
  replace S := S'.ret0 S
  clear S'
  refine zeq ?_; refine zaf zab ?_; refine zbr S ?_; walk_at "newo"
  refine zce S ixm1 (by decide) (by rw [show (2 : Nat) ^ 60 = 1152921504606846976 by decide]; omega) fun it s hnew S => ?_
  refine hCC (List Int × Int × Int) _ it (fun i y => y.1.length = i ∧ (∀ n ∈ y.1, isLet n) ∧ BoxOk y.2) (fun _ => g) _ (fun _ y => y.1.map V.int) (fun _ y => (aN, .opq (RangeObj 0 (1 + d))) :: (bx, bxC y.2) :: (cb, .cell (some (.ref bx))) :: ρ) ([], b1) _ ?_ hnew S rfl ⟨rfl, by simp, hb1⟩ ?_ ?_ ?_
  · rw [zbf, sizeLine_eq]; omega
  · intros; exact trivial
  · intro QY QN hY hNo i y v s C D cenv hP hvi X S
    have hb' := hP.2.2
    refine zb4 ?_
    refine zb8 ?_; refine zai X G.XX S ixm2 (zfd G) (Callee.fn (by kernel_rfl)) (zaa rfl (zad X S (Or.inl ixm3) ixm0 ixm6) zab) ?_
    have S := S.selN (ℓ' := (C, _) :: (bx, bxC y.2) :: (L, _) :: (it, _) :: (D, _) :: (aN, _) :: (cb, _) :: ρ) [1, 5] (by rfl)
    refine wpAny_call (zi5 G S.enter0 (hroom.deeper.mono (by decide)) hb' fun d' b2 t s' hd' hb2 S' => ?_)
    replace S := S'.ret0 S
    clear S'
    refine hY i y (y.1 ++ [d'], b2) C D _ _ _ ⟨by rw [List.length_append, hP.1]; rfl, ?_, hb2⟩ map_of_snoc.symm (S.selN [1, 2, 2, 2, 2] (by rfl))
    intro n hn
    rcases List.mem_append.mp hn with h | h
    · exact hP.2.1 n h
    · rw [List.mem_singleton.mp h]; exact hd'
  intro y D hP hD
  refine ⟨_, by exact ixu1, fun s S => ?_⟩
  have hcs := hP.1
  have hlet := hP.2.1
  have hb2 := hP.2.2
  clear hP
  rw [zbf] at hcs
  generalize y.1 = cs at hcs hlet S
  generalize y.2 = b2 at hb2 S
  have hcl1 : 1 ≤ cs.length := by omega
  have hcl4 : cs.length ≤ 4 := by omega
  clear hcs
  refine zav ?_ (by rfl); refine zai X G.XX S ixm4 (za6 G) (Callee.fn (by kernel_rfl)) (zaa rfl (zad X S (Or.inl ixm0) ixm0 ixm4) (zaa rfl zac zab)) ?_
  have S := S.selN (ℓ' := (L, _) :: (bx, _) :: (D, _) :: (cb, _) :: ρ) [1, 3, 1, 2, 0] (by rfl)
  refine wpAny_call (zb9 G S.enter0 (hroom.deeper.mono (by decide)) hb2 (by decide) (by decide) fun d2 b3 t s' hd20 hd21 hb3 S' => ?_)
  replace S := S'.ret0 S
  clear S'
  refine za3 X S ixm2 ixu2 ?_; walk_at "new"; refine zav ?_ (by rfl); refine wpAny_BinOp ?_; refine wpAny_BinOp ?_; refine wpAny_BinOp ?_; refine List_ ?_; refine zaf (zaa rfl zac zab) ?_; refine zbg S sz1 ?_; walk_at "newo"; refine Call_ ?_ (by rfl); refine zax X S ixm5 (zhw G) ?_; refine PyProof.Rows.callWith_type1 ?_ (by rfl) (by rfl); refine args_cons ?_ (by rfl); refine wpAny_Compare1 ?_; refine r_ev (zag X S ixm2 ixm2) ?_; refine Tuple_ ?_; refine zaf (zaa rfl zac (zaa rfl zac zab)) ?_; refine za2 S sz2 ?_; walk_at "newo"
  refine zej (ns := [1, 3]) ((S.at (a := aN) (c := .tup [.int 1, .int 3]) ixm1).seq SeqC.ofT) ?_
  generalize ([1, 3] : List Int).any (· == d2) = e1
  refine zaf zab ?_; refine znc S ?_; walk_at "newt"
  refine zgi S ((S.at ixm2).isL) (by split <;> decide) (by split <;> decide) (by cases e1 <;> decide) fun z1 s hz1 S => ?_
  rw [zke] at S
  have S := S.selN (ℓ' := (L, _) :: (z1, _) :: (bx, _) :: (D, _) :: (cb, _) :: ρ) [1, 1, 3, 3, 3, 0, 0] (by rfl)
  have hz1l : (if e1 = true then [0] else [] : List Int).length ≤ 1 := by cases e1 <;> decide
  generalize hq1 : (if e1 = true then [0] else [] : List Int) = q1 at S hz1l
  refine r_ev (zae X S ixm1 ixm1) ?_; refine zff S ((S.at ixm1).isL) ((S.at ixm3).isL) (by simp only [List.length_map, List.length_cons, List.length_nil, List.length_append, sizeLine_eq]; exact Nat.le_trans (Nat.add_le_add hz1l hcl4) (by decide)) ?_; walk_at "newo"; refine wpAny_BinOp ?_; refine List_ ?_; refine zaf (zaa rfl zac zab) ?_; refine zbg S sz1 ?_; walk_at "newo"; refine Call_ ?_ (by rfl); refine zax X S ixm5 (zhw G) ?_; refine PyProof.Rows.callWith_type1 ?_ (by rfl) (by rfl); refine args_cons ?_ (by rfl); refine wpAny_Compare1 ?_; refine r_ev (zag X S ixm2 ixm2) ?_; refine Tuple_ ?_; refine zaf (zaa rfl zac (zaa rfl zac zab)) ?_; refine za2 S sz2 ?_; walk_at "newo"
  refine zej (ns := [2, 3]) ((S.at (a := aN) (c := .tup [.int 2, .int 3]) ixm1).seq SeqC.ofT) ?_
  generalize ([2, 3] : List Int).any (· == d2) = e2
  refine zaf zab ?_; refine znc S ?_; walk_at "newt"
  refine zgi S ((S.at ixm2).isL) (by split <;> decide) (by split <;> decide) (by cases e2 <;> decide) fun z2 s hz2 S => ?_
  rw [zke] at S
  have hz2l : (if e2 = true then [0] else [] : List Int).length ≤ 1 := by cases e2 <;> decide
  generalize hq2 : (if e2 = true then [0] else [] : List Int) = q2 at S hz2l
  refine zff S ((S.at ixm4).isL) ((S.at ixm1).isL) (by simp only [List.length_map, List.length_cons, List.length_nil, List.length_append, sizeLine_eq]; omega) ?_; walk_at "newo"; refine za5 X S ixm1 ixu1 ?_; walk_at "new"; refine za9 ?_; refine Tuple_ ?_; refine args_cons ?_ (by rfl); refine r_ev (zae X S ixm1 ixm1) ?_; refine args_cons ?_ (by rfl)
  rw [← List.map_append, ← List.map_append] at S
  generalize aN = l1 at S hN ⊢
  have hl1 := hN
  clear hN
  have S := S.selN (ℓ' := (L, _) :: (l1, _) :: (bx, _) :: (cb, _) :: ρ) [1, 1, 6, 7, 0, 0, 0, 0, 0, 0] (by rfl)
  generalize hls : q1 ++ cs ++ q2 = ls at S
  have hlsl : ls.length ≤ 6 := by rw [← hls]; simp only [List.length_append]; omega
  refine zcn (G0 := G0) (K := K) (kinds' := [((".0" : Str), .local), ("k", .local), ("_law_take", .globalImplicit), ("box", .cell)]) (cl' := [("box", cb)]) hroom.handled X ⟨rfl, by decide +kernel, by rfl, by exact ixm1, by rfl, by rfl, by rfl⟩ (fun CC hCC => ?_) (by intro _; with_unfolding_all rfl)
  refine zai X G.XX S ixm3 (zb2 G) (Callee.ty _) (zaa rfl (zdr (zaz X G.XX S ixm6 (zcc G) (Callee.bi _) (zaa rfl (zae X S ixm1 ixm1) zab) (zb7 S ((S.at ixm1).seq SeqC.ofL) (by simp only [List.length_map, List.length_cons, List.length_nil, List.length_append, sizeLine_eq]; exact Nat.le_trans hlsl (by decide)))) zac) zab) ?_; refine zbr S ?_; walk_at "newo"
  rw [List.length_map] at S
  refine zck (n := ls.length + 1) S ixm1 (by rfl) (by omega) fun it s hnew S => ?_
  refine hCC (List Int × Int × Int) _ it (fun i y => y.1.length = i ∧ (∀ m ∈ y.1, 0 ≤ m ∧ m ≤ 9) ∧ BoxOk y.2) (fun _ => g) _ (fun _ y => y.1.map V.int) (fun _ y => (aN, .opq (RangeObj 0 ((ls.length : Int) + 1))) :: (l1, .list (ls.map V.int)) :: (bx, bxC y.2) :: (cb, .cell (some (.ref bx))) :: ρ) ([], b3) _ ?_ hnew S rfl ⟨rfl, by simp, hb3⟩ ?_ ?_ ?_
  · rw [zbf, sizeLine_eq]; omega
  · intros; exact trivial
  · intro QY QN hY hNo i y v s C D cenv hP hvi X S
    have hb' := hP.2.2
    refine zb4 ?_
    refine zb8 ?_; refine Subscript_ ?_; refine List_ ?_; refine zaf (zaa rfl zac (zaa rfl zac (zaa rfl zac (zaa rfl zac (zaa rfl zac (zaa rfl zac (zaa rfl zac (zaa rfl zac (zaa rfl zac (zaa rfl zac zab)))))))))) ?_; refine zbg S (by simp only [List.length_cons, List.length_nil]; exact (by decide)) ?_; walk_at "newo"; refine zai X G.XX S ixm2 (za6 G) (Callee.fn (by kernel_rfl)) (zaa rfl (zad X S (Or.inl ixm3) ixm0 ixm8) (zaa rfl zac zab)) ?_
    generalize aN = z at S hN ⊢
    have S := S.selN (ℓ' := (C, _) :: (bx, bxC y.2) :: (z, _) :: (L, _) :: (it, _) :: (D, _) :: (_, .opq _) :: (l1, _) :: (cb, _) :: ρ) [1, 7] (by rfl)
    refine wpAny_call (zb9 G S.enter0 (hroom.deeper.mono (by decide)) hb' (by decide) (by decide) fun d4 b4 t s' hd40 hd41 hb4 S' => ?_)
    replace S := S'.ret0 S
    clear S'
    have hS := S.at (a := z) ixm2
    generalize hns : ([0, 1, 2, 3, 0, 1, 4, 5, 0, 9] : List Int) = ns
    have hl : ns.length = 10 := by rw [← hns]; rfl
    have h9 : ∀ n ∈ ns, 0 ≤ n ∧ n ≤ 9 := by rw [← hns]; decide
    obtain ⟨f0, hf0⟩ : ∃ f0, ns[d4.toNat]? = some f0 := ⟨_, List.getElem?_eq_getElem (by omega)⟩
    refine zb6 (ns := ns) (n := f0) (by rw [← hns]; exact hS.seq (vs := List.map V.int [0, 1, 2, 3, 0, 1, 4, 5, 0, 9]) SeqC.ofL) (by rw [hl]; decide) hd40 hf0 zh4 fun t => ?_
    refine hY i y (y.1 ++ [f0], b4) C D _ _ _ ⟨by rw [List.length_append, hP.1]; rfl, ?_, hb4⟩ map_of_snoc.symm (S.selN [1, 3, 3, 3, 3, 3, 1, 2, 0] (by rfl))
    intro n hn
    rcases List.mem_append.mp hn with h | h
    · exact hP.2.1 n h
    · rw [List.mem_singleton.mp h]; exact h9 _ (List.mem_of_getElem? hf0)
  intro y D' hP hD' s S
  have hms := hP.1
  have h09 := hP.2.1
  have hb4 := hP.2.2
  clear hP
  rw [zbf] at hms
  generalize y.1 = ms at hms h09 S
  generalize y.2 = b4 at hb4 S
  refine zaf zab ?_; refine za2 S sz2 ?_; walk_at "newo"; refine hQ _ _ ?_
  generalize aN = r at S hN ⊢
  have hcs0 : cs ≠ [] := fun h => by rw [h] at hcl1; exact absurd hcl1 (by decide)
  try with_reducible first | refine hQ _ _ ?_ | refine hEnd _ ?_
  refine k r l1 D' (ls, ms) b4 s ⟨cs, e1, e2, ?_, hcs0, hcl4, hlet, hms, h09⟩ hb4 ?_ ?_ ?_ (S.selN [2, 4, 2, 3, 0, 0, 0] (by rfl))
  · show ls = _
    rw [hq1, hq2, hls]
  · rw [← hK] at hN; exact hN
  · rw [← hK] at hl1; exact hl1
  · rw [← hK] at hD'; exact hD'
theorem zdi {x : Str} {p : List Int × List Int × Bool} (h : patRead x.cps.toList = some p) (c : Nat) : patRead (x ++ ⟨#[c]⟩ : Str).cps.toList = patStep p c := by
  have e : (x ++ ⟨#[c]⟩ : Str).cps.toList = x.cps.toList ++ [c] := by show (x.cps ++ #[c]).toList = _; simp
  rw [e]
  exact zd4 h c
theorem zdk {x : Str} {c : Nat} : (x ++ ⟨#[c]⟩ : Str).cps.toList.length = x.cps.toList.length + 1 := by
  show (x.cps ++ #[c]).toList.length = _; simp
theorem ze6 {ls ms : List Int} {m : Int} (h0 : 0 ≤ m) (h9 : m ≤ 9) : patStep (ls, ms ++ [0], false) (48 + m.toNat) = some (ls, ms ++ [m], true) := by
  unfold patStep
  rw [if_pos (by omega), if_pos rfl]
  have e : ((48 + m.toNat : Nat) : Int) - 48 = m := by omega
  simp only [List.length_append, List.length_cons, List.length_nil, Nat.add_sub_cancel, Option.some.injEq, Prod.mk.injEq, true_and, and_true]
  rw [e]; simp
theorem zes {ls ms : List Int} {n : Int} {q : Bool} {c : Nat} (hc : c = if n = 0 then 46 else n.toNat) (hn : n = 0 ∨ isLet n) : patStep (ls, ms, q) c = some (ls ++ [n], ms ++ [0], false) := by
  unfold patStep isLet at *
  by_cases h : n = 0
  · subst h; rw [if_pos rfl] at hc; subst hc; rfl
  · rw [if_neg h] at hc
    rw [if_neg (by omega), if_neg (by omega), if_neg (by omega)]
    have : (c : Int) = n := by omega
    rw [this]
theorem FormOk.let {f : Form} (h : FormOk f) : ∀ n ∈ f.1, n = 0 ∨ isLet n := by
  obtain ⟨core, e1, e2, h1, h2, h3, h4, h5, h6⟩ := h
  intro n hn
  rw [h1] at hn
  rcases List.mem_append.mp hn with hn | hn
  · rcases List.mem_append.mp hn with hn | hn
    · cases e1 <;> simp at hn; exact .inl hn
    · exact .inr (h4 n hn)
  · cases e2 <;> simp at hn; exact .inl hn
theorem FormOk.len {f : Form} (h : FormOk f) : f.1.length ≤ 6 ∧ 1 ≤ f.1.length := by
  obtain ⟨core, e1, e2, h1, h2, h3, h4, h5, h6⟩ := h
  have := List.length_pos_iff.mpr h2
  rw [h1]
  cases e1 <;> cases e2 <;> simp <;> omega
theorem zkm {w : World} {G0 : Heap} {Φ : List Addr} {g : PH} {s : Shared} {A : Around} {R : Result → Shared → Prop} {ρ : Led} {bx l1 l2 : Addr} {b : Int × Int} {f : Form} {c1 c2 : Cell}
    (G : Gd w G0) (I : Inv w G0 Φ g s.heap ((bx, bxC b) :: ρ)) (hroom : Room A 2) (hb : BoxOk b) (hf : FormOk f) (hr1 : Rd g ρ l1 c1) (hc1 : SeqC c1 (f.1.map V.int)) (hr2 : Rd g ρ l2 c2) (hc2 : SeqC c2 (f.2.map V.int))
    (k : ∀ x b' q t s', patRead x.cps.toList = some (f.1, f.2, q) → x.cps.toList.length ≤ 100 → BoxOk b' → SS w G0 ⟨Φ, s, g, ((bx, bxC b) :: ρ).map Prod.fst⟩ g s' ((bx, bxC b') :: ρ) → R (.ok (.ret (.str x t))) s') :
    codeAny (model pg w) A (.call (.ref 222) ⟨[.ref bx, .ref l1, .ref l2], []⟩) R s := by
  have hlet := hf.let
  obtain ⟨hl6, hl1⟩ := hf.len
  obtain ⟨core, e1, e2, -, -, -, -, hml, h09⟩ := hf
  obtain ⟨ls, ms⟩ := f
  simp only at hlet hl6 hl1 hml h09 hc1 hc2
  have hszl : ls.length ≤ sizeLine := by rw [sizeLine_eq]; exact Nat.le_trans hl6 (by decide)
  have hszm : ms.length ≤ sizeLine := by rw [sizeLine_eq]; omega
  have hszl' : (ls.map V.int).length ≤ sizeLine := by rw [List.length_map]; exact hszl
  have hszm' : (ms.map V.int).length ≤ sizeLine := by rw [List.length_map]; exact hszm
  refine zan (vals := [.ref bx, .ref l1, .ref l2]) I G.XX G.lim hroom.lt (by exact rfl) (by kernel_rfl) (BindsTo.of_eq rfl) (by decide +kernel) (by decide) (by rfl) ?_
  intro env L s X S Q E hQ hEnd hEr hPO
  dsimp only [mkLoc, zah, zap, zar, zal, zaj, zak, za0] at S
  generalize hK : (⟨Φ, _, g, _⟩ : Kon) = K at S k
  refine zdw X S ixm3 zb5 (OfV.str _ _) ixu3 (by rfl) ?_; walk_at "new"; refine zdn ?_ (by intro _; with_unfolding_all rfl); refine zai X G.XX S ixm5 (zb2 G) (Callee.ty _) (zaa rfl (zaz X G.XX S ixm6 (zcc G) (Callee.bi _) (zaa rfl (zae X S ixm2 ixm2) zab) (zb7 S ((S.rd (Rd.cons (Rd.cons hr2))).seq hc2) hszm')) zab) ?_; refine zbr S ?_; walk_at "newo"
  rw [List.length_map] at S
  refine zck (n := ms.length) S ixm1 (by rfl) (by omega) fun it s hnew S => ?_
  have S := S.selN (ℓ' := (it, _) :: (L, _) :: (bx, _) :: (aN, _) :: ρ) [1, 1, 2] (by rfl)
  refine zbd (σ := Str × (Int × Int) × Option V × Bool) (fun i y => y.1.cps.toList.length ≤ 2 * i ∧ BoxOk y.2.1 ∧ ((i ≤ ls.length ∧ y.2.2.2 = false ∧ patRead y.1.cps.toList = some (ls.take i, ms.take i ++ [0], y.2.2.2)) ∨ (i = ls.length + 1 ∧ patRead y.1.cps.toList = some (ls, ms, y.2.2.2)))) (fun _ => g)
      (fun _ y => [(("box" : Str), some (V.ref bx)), ("letters", some (V.ref l1)), ("numbers", some (V.ref l2)), ("found", some (.str y.1)), ("k", y.2.2.1), ("range", none), ("len", none), ("_law_take", none), ("str", none), ("chr", none)])
      (fun _ y => (bx, bxC y.2.1) :: (aN, .opq (RangeObj 0 (ms.length : Int))) :: ρ) (_, b, _, _)
    hPO hroom.handled hnew S ⟨Nat.le_refl _, hb, .inl ⟨Nat.zero_le _, rfl, rfl⟩⟩ ?_ ?_ ?_
  · intros; exact trivial
  · intro Q' hL hB hR i; refine pr4 ?_; intro x b' o q v s hP hvi S
    apply zby hvi; intro hilt tv
    dsimp only at hP S
    have hxl := hP.1
    have hb' := hP.2.1
    have hJ := hP.2.2.resolve_right (fun h => by have := h.1; omega)
    have hi := hJ.1
    have hx := hJ.2.2
    rw [hJ.2.1] at hx
    obtain ⟨m, hm⟩ : ∃ m, ms[i]? = some m := ⟨_, List.getElem?_eq_getElem hilt⟩
    have hm9 := h09 m (List.mem_of_getElem? hm)
    have htk := zbl hm
    clear hJ hvi hP
    refine za3 X S ixm4 ixu4 ?_; walk_at "new"
    refine zc4 (fun s => ∀ Z : Prop, (∀ x' b'' q', SS w G0 K g s ((L, .ns [(("box" : Str), some (V.ref bx)), ("letters", some (V.ref l1)), ("numbers", some (V.ref l2)), ("found", some (.str x')), ("k", some (.int i)), ("range", none), ("len", none), ("_law_take", none), ("str", none), ("chr", none)]) ::
        (it, .opq ((Src.rng 0 ms.length).iter (i + 1))) :: (bx, bxC b'') :: (aN, .opq (RangeObj 0 (ms.length : Int))) :: ρ) → BoxOk b'' → x'.cps.toList.length ≤ 2 * i + 1 → patRead x'.cps.toList = some (ls.take i, ms.take (i + 1), q') → Z) → Z) (fun J hJ => ?_) ?_
    · refine isTrue_or ?_; refine wpAny_isTrue_Compare1 ?_; refine zbb (zae X S ixm2 ixm2) (zag X S ixm4 ixm4) ?_
      refine zb6 (n := m) ((S.rd hr2.cons.cons.cons.cons).seq hc2) hszm (Int.natCast_nonneg _) hm zbm fun t => ?_
      refine r_ev zac ?_; refine PyProof.Rows.gt_int ?_; refine wpAny_truthy_bool ?_
      refine zdg (fun h1 => ?_) (fun h1 => ?_)
      · refine ⟨fun _ => ?_, fun h => by cases h⟩
        refine zav ?_ (by rfl); refine wpAny_BinOp ?_; refine r_ev (zct X S ixm3 ixm3) ?_; refine Call_ ?_ (by rfl); refine zax X S ixm8 (zit G) ?_; refine PyProof.Rows.callWith_type1 ?_ (by rfl) (by rfl); refine args_cons ?_ (by rfl); refine zbb (zae X S ixm2 ixm2) (zag X S ixm4 ixm4) ?_
        refine zb6 (n := m) ((S.rd hr2.cons.cons.cons.cons).seq hc2) hszm (Int.natCast_nonneg _) hm zbm fun t => ?_
        refine zaf zab ?_; refine zng S (by omega) (by omega) ?_; walk_at "newt"
        refine zec S (by show _ + 1 ≤ _; rw [sizeLine_eq]; omega) ?_; walk_at "newt"
        refine zcj X S ixm3 ixu3 ?_; walk_at "new"; refine zas ?_
        exact hJ _ fun Z kZ => kZ _ b' true S hb' (by rw [zdk]; exact Nat.succ_le_succ hxl) (by rw [zdi hx, ze6 hm9.1 hm9.2, htk])
      · have hm0 : m = 0 := by have := of_decide_eq_false h1; omega
        refine isTrue_or ?_; refine wpAny_isTrue_Compare1 ?_; refine zai X G.XX S ixm7 (za6 G) (Callee.fn (by kernel_rfl)) (zaa rfl (zae X S ixm0 ixm0) (zaa rfl zac zab)) ?_
        have S := S.selN (ℓ' := (L, _) :: (bx, _) :: (it, _) :: (aN, _) :: ρ) [1, 2] (by rfl)
        refine wpAny_call (zb9 G S.enter0 hroom.deeper hb' (by decide) (by decide) fun d b1 t s' hd0 hd1 hb1 S' => ?_)
        replace S := S'.ret0 S
        clear S'
        have S := S.selN (ℓ' := (L, _) :: (it, _) :: (bx, _) :: (aN, _) :: ρ) [1, 2] (by rfl)
        refine r_ev zac ?_; refine PyProof.Rows.eq_int ?_; refine wpAny_truthy_bool ?_
        refine zdg (fun _ => ?_) (fun _ => ?_)
        · refine ⟨fun _ => ?_, fun h => by cases h⟩
          refine zav ?_ (by rfl); refine wpAny_BinOp ?_; refine r_ev (zct X S ixm3 ixm3) ?_; refine Call_ ?_ (by rfl); refine zax X S ixm8 (zit G) ?_; refine PyProof.Rows.callWith_type1 ?_ (by rfl) (by rfl); refine args_cons ?_ (by rfl); refine zbb (zae X S ixm2 ixm2) (zag X S ixm4 ixm4) ?_
          refine zb6 (n := m) ((S.rd hr2.cons.cons.cons.cons).seq hc2) hszm (Int.natCast_nonneg _) hm zbm fun t => ?_
          refine zaf zab ?_; refine zng S (by omega) (by omega) ?_; walk_at "newt"
          refine zec S (by show _ + 1 ≤ _; rw [sizeLine_eq]; omega) ?_; walk_at "newt"
          refine zcj X S ixm3 ixu3 ?_; walk_at "new"; refine zas ?_
          exact hJ _ fun Z kZ => kZ _ b1 true S hb1 (by rw [zdk]; exact Nat.succ_le_succ hxl) (by rw [zdi hx, ze6 hm9.1 hm9.2, htk])
        · refine isTrue_or_nil ?_; refine br_f ?_; refine zas ?_
          exact hJ _ fun Z kZ => kZ _ b1 false S hb1 (Nat.le_succ_of_le hxl) (by rw [hx, htk, hm0])
    clear S
    intro s hs
    refine hs _ fun x' b'' q' S hb'' hxl' hx' => ?_
    rcases Nat.lt_or_ge i ls.length with hil | hil
    · obtain ⟨n, hn⟩ : ∃ n, ls[i]? = some n := ⟨_, List.getElem?_eq_getElem hil⟩
      have hnl := hlet n (List.mem_of_getElem? hn)
      have htkl := zbl hn
      have hnb : 0 ≤ n ∧ n ≤ 255 := by unfold isLet at hnl; omega
      refine x_if ?_; refine zbs (zbn (zag X S ixm4 ixm4) (zaz X G.XX S ixm6 (zcc G) (Callee.bi _) (zaa rfl (zae X S ixm1 ixm1) zab) (zb7 S ((S.rd (Rd.cons (Rd.cons (Rd.cons (Rd.cons hr1))))).seq hc1) hszl')) zih (by rfl)) ?_
      refine ⟨fun _ => ?_, fun h => absurd (of_decide_eq_false h) (by rw [List.length_map]; omega)⟩
      refine zav ?_ (by rfl); refine wpAny_BinOp ?_; refine r_ev (zct X S ixm3 ixm3) ?_; refine IfExp_ ?_; refine wpAny_isTrue_Compare1 ?_; refine zbb (zae X S ixm1 ixm1) (zag X S ixm4 ixm4) ?_
      refine zb6 (n := n) ((S.rd hr1.cons.cons.cons.cons).seq hc1) hszl (Int.natCast_nonneg _) hn zbm fun t => ?_
      refine r_ev zac ?_; refine PyProof.Rows.eq_int ?_; refine wpAny_truthy_bool ?_
      refine zdg (fun h1 => ?_) (fun h1 => ?_)
      · have hn0 : n = 0 := by simpa using h1
        refine r_ev zb5 ?_
        rw [show Str.ofString "." = ⟨#[46]⟩ by decide +kernel]
        refine zec S (by show _ + 1 ≤ _; rw [sizeLine_eq]; omega) ?_; walk_at "newt"
        refine zcj X S ixm3 ixu3 ?_; walk_at "new"; refine zas ?_; refine zas ?_
        exact hL i .next (_, b'', _, false) _ ⟨by rw [zdk]; omega, hb'', .inl ⟨hil, rfl, by rw [zdi hx', zes (n := n) (by rw [hn0]; rfl) hnl, htkl]⟩⟩ S rfl
      · have hn0 : n ≠ 0 := by simpa using h1
        refine Call_ ?_ (by rfl); refine zax X S ixm9 (zkk G) ?_; refine PyProof.Rows.callWith_builtin1 ?_ (by rfl) (by rfl); refine args_cons ?_ (by rfl); refine zbb (zae X S ixm1 ixm1) (zag X S ixm4 ixm4) ?_
        refine zb6 (n := n) ((S.rd hr1.cons.cons.cons.cons).seq hc1) hszl (Int.natCast_nonneg _) hn zbm fun t => ?_
        refine zaf zab ?_; refine zkx S (by omega) (by omega) ?_; walk_at "newt"
        refine zec S (by show _ + 1 ≤ _; rw [sizeLine_eq]; omega) ?_; walk_at "newt"
        refine zcj X S ixm3 ixu3 ?_; walk_at "new"; refine zas ?_; refine zas ?_
        exact hL i .next (_, b'', _, false) _ ⟨by rw [zdk]; omega, hb'', .inl ⟨hil, rfl, by rw [zdi hx', zes (n := n) (by rw [if_neg hn0]) hnl, htkl]⟩⟩ S rfl
    · refine x_if ?_; refine zbs (zbn (zag X S ixm4 ixm4) (zaz X G.XX S ixm6 (zcc G) (Callee.bi _) (zaa rfl (zae X S ixm1 ixm1) zab) (zb7 S ((S.rd (Rd.cons (Rd.cons (Rd.cons (Rd.cons hr1))))).seq hc1) hszl')) zih (by rfl)) ?_
      refine ⟨fun h => absurd (of_decide_eq_true h) (by rw [List.length_map]; omega), fun _ => ?_⟩
      refine zas ?_; refine zas ?_
      have ei : i = ls.length := by exact Nat.le_antisymm hi hil
      have e1 : ls.take i = ls := List.take_of_length_le hil
      have e2 : ms.take (i + 1) = ms := List.take_of_length_le (by omega)
      rw [e1, e2] at hx'
      exact hL i .next (_, b'', _, q') _ ⟨by dsimp only; omega, hb'', .inr ⟨by omega, hx'⟩⟩ S rfl
  · intro y s hP S
    rw [zbf] at hP
    have hx := (hP.2.2.resolve_left (fun h => by have := h.1; omega)).2
    have hxl := hP.1
    have hb' := hP.2.1
    refine zdy (zct X S ixm3 ixm3) ?_; refine hQ _ _ ?_
    try with_reducible first | refine hQ _ _ ?_ | refine hEnd _ ?_
    exact k y.1 y.2.1 y.2.2.2 _ s hx (by omega) hb' (S.selN [2, 0, 0] (by rfl))
noncomputable def FormAt (g : PH) (v : V) (f : Form) : Prop := ∃ t l1 l2, v = .ref t ∧ g t = some (.tup [.ref l1, .ref l2]) ∧ g l1 = some (.list (f.1.map V.int)) ∧ g l2 = some (.list (f.2.map V.int))
noncomputable def FormsAre (g : PH) (vs : List V) (fs : List Form) : Prop := vs.length = fs.length ∧ ∀ (i : Nat) v f, vs[i]? = some v → fs[i]? = some f → FormAt g v f
theorem FormAt.mono {g g' : PH} {v : V} {f : Form} (h : FormAt g v f) (l : g.le g') : FormAt g' v f := by
  obtain ⟨t, l1, l2, e, h1, h2, h3⟩ := h; exact ⟨t, l1, l2, e, l _ _ h1, l _ _ h2, l _ _ h3⟩
theorem FormsAre.mono {g g' : PH} {vs : List V} {fs : List Form} (h : FormsAre g vs fs) (l : g.le g') : FormsAre g' vs fs := ⟨h.1, fun i v f h1 h2 => (h.2 i v f h1 h2).mono l⟩
theorem FormsAre.get {g : PH} {vs : List V} {fs : List Form} (h : FormsAre g vs fs) {i : Nat} {f : Form} (hf : fs[i]? = some f) : ∃ v, vs[i]? = some v ∧ FormAt g v f := by
  have hi := (List.getElem?_eq_some_iff.mp hf).1
  have hi' : i < vs.length := by rw [h.1]; exact hi
  exact ⟨_, List.getElem?_eq_getElem hi', h.2 i _ f (List.getElem?_eq_getElem hi') hf⟩
theorem FormsAre.getV {g : PH} {vs : List V} {fs : List Form} (h : FormsAre g vs fs) {i : Nat} {v : V} (hv : vs[i]? = some v) : ∃ f, fs[i]? = some f ∧ FormAt g v f := by
  have hi := (List.getElem?_eq_some_iff.mp hv).1
  have hi' : i < fs.length := by rw [← h.1]; exact hi
  exact ⟨_, List.getElem?_eq_getElem hi', h.2 i _ _ hv (List.getElem?_eq_getElem hi')⟩
theorem FormsAre.snoc {g : PH} {vs : List V} {fs : List Form} {v : V} {f : Form} (h : FormsAre g vs fs) (hv : FormAt g v f) : FormsAre g (vs ++ [v]) (fs ++ [f]) := by
  refine ⟨by simp [h.1], fun i u q h1 h2 => ?_⟩
  rw [List.getElem?_append] at h1 h2
  rw [h.1] at h1
  by_cases hi : i < fs.length
  · rw [if_pos hi] at h1 h2; exact h.2 i u q h1 h2
  · rw [if_neg hi] at h1 h2
    cases hk : i - fs.length with
    | zero => rw [hk] at h1 h2; cases h1; cases h2; exact hv
    | succ n => rw [hk] at h1; cases h1
noncomputable def posF (ns : List Int) : List Int := ns.filter fun n => decide (0 < n)
theorem zmh (ns : List Int) (n : Int) : posF (ns ++ [n]) = if decide (0 < n) = true then posF ns ++ [n] else posF ns := zdv _ _ _
theorem isLet.pos {n : Int} (h : isLet n) : 1 ≤ n ∧ n ≤ 255 := by unfold isLet at h; omega
theorem FormOk.pos {f : Form} (h : FormOk f) : posF f.1 ≠ [] ∧ (posF f.1).length ≤ 4 ∧ ∀ n ∈ posF f.1, isLet n := by
  obtain ⟨core, e1, e2, h1, h2, h3, h4, h5, h6⟩ := h
  have hc : posF core = core := by
    unfold posF
    rw [List.filter_eq_self]
    intro n hn
    have := (h4 n hn).pos
    exact decide_eq_true (by omega)
  have : posF f.1 = core := by
    rw [h1]
    unfold posF at *
    rw [List.filter_append, List.filter_append, hc]
    cases e1 <;> cases e2 <;> simp
  rw [this]
  exact ⟨h2, h3, h4⟩
noncomputable def WordOk (ws : List Int) : Prop := ws ≠ [] ∧ ws.length ≤ 15 ∧ ∀ n ∈ ws, isLet n
theorem map_of_snoc' {ns : List Int} {d : Int} : ns.map V.int ++ [V.int d] = (ns ++ [d]).map V.int := by rw [List.map_append]; rfl
theorem zjt {w : World} {G0 : Heap} {Φ : List Addr} {g : PH} {s : Shared} {A : Around} {R : Result → Shared → Prop} {ρ : Led} {bx fa : Addr} {b : Int × Int} {c : Cell} {vs : List V} {fs : List Form}
    (G : Gd w G0) (I : Inv w G0 Φ g s.heap ((bx, bxC b) :: ρ)) (hroom : Room A 3) (hb : BoxOk b) (hr : Rd g ρ fa c) (hc : SeqC c vs) (hfs : FormsAre g vs fs) (hok : ∀ f ∈ fs, FormOk f) (hne : 1 ≤ fs.length) (hsz : fs.length < 1000)
    (k : ∀ r ws b' s', WordOk ws → BoxOk b' → s.heap.get? r = none → SS w G0 ⟨Φ, s, g, ((bx, bxC b) :: ρ).map Prod.fst⟩ g s' ((r, .list (ws.map V.int)) :: (bx, bxC b') :: ρ) → R (.ok (.ret (.ref r))) s') :
    codeAny (model pg w) A (.call (.ref 239) ⟨[.ref bx, .ref fa], []⟩) R s := by
  have hvl : vs.length = fs.length := hfs.1
  have hszv : vs.length ≤ sizeLine := by rw [sizeLine_eq]; omega
  refine zan (vals := [.ref bx, .ref fa]) I G.XX G.lim hroom.lt (by exact rfl) (by kernel_rfl) (BindsTo.of_eq rfl) (by decide +kernel) (by decide) (by rfl) ?_
  intro env L s X S Q E hQ hEnd hEr hPO
  dsimp only [mkLoc, zah, zap, zar, zal, zaj, zak, za0] at S
  generalize hK : (⟨Φ, _, g, _⟩ : Kon) = K at S k
  refine zav ?_ (by rfl); refine List_ ?_; refine zaf zab ?_; refine zbg S sz0 ?_; walk_at "newo"; refine za5 X S ixm2 ixu2 ?_; walk_at "new"; refine zdn ?_ (by intro _; with_unfolding_all rfl); refine Call_ ?_ (by rfl); refine zax X S ixm5 (zb2 G) ?_; refine PyProof.Rows.callWith_type1 ?_ (by rfl) (by rfl); refine args_cons ?_ (by rfl); refine wpAny_BinOp ?_; refine r_ev zac ?_; refine zai X G.XX S ixm6 (za6 G) (Callee.fn (by kernel_rfl)) (zaa rfl (zae X S ixm0 ixm0) (zaa rfl zac zab)) ?_
  generalize aN = fo at S hN ⊢
  have hfo := hN
  have S := S.selN (ℓ' := (L, _) :: (bx, _) :: (fo, _) :: ρ) [1, 2] (by rfl)
  refine wpAny_call (zb9 G S.enter0 (hroom.deeper.mono (by decide)) hb (by decide) (by decide) fun d b1 t s' hd0 hd1 hb1 S' => ?_)
  replace S := S'.ret0 S
  clear S'
  refine zeq ?_; refine zaf zab ?_; refine zbr S ?_; walk_at "newo"
  refine zce S ixm1 (by decide) (by rw [show (2 : Nat) ^ 60 = 1152921504606846976 by decide]; omega) fun it s hnew S => ?_
  have S := S.selN (ℓ' := (it, _) :: (L, _) :: (fo, _) :: (bx, _) :: (aN, _) :: ρ) [1, 1, 3, 2] (by rfl)
  refine zbd (σ := Addr × List Int × (Int × Int) × Option V × Option V) (fun i y => y.2.1.length ≤ 5 * i ∧ (1 ≤ i → y.2.1 ≠ []) ∧ (∀ n ∈ y.2.1, isLet n) ∧ BoxOk y.2.2.1 ∧ K.s₀.heap.get? y.1 = none) (fun _ => g)
      (fun _ y => [(("box" : Str), some (V.ref bx)), ("forms", some (V.ref fa)), ("found", some (.ref y.1)), ("lap", y.2.2.2.1), ("letters", y.2.2.2.2), ("range", none), ("_law_take", none), ("len", none), ("_law_letter", none)])
      (fun _ y => (y.1, .list (y.2.1.map V.int)) :: (bx, bxC y.2.2.1) :: (aN, .opq (RangeObj 0 (1 + d))) :: ρ) (fo, [], b1, _, _)
    hPO hroom.handled hnew S ⟨Nat.zero_le _, by simp, by simp, hb1, hfo⟩ ?_ ?_ ?_
  · intros; exact trivial
  · intro Q' hL hB hR i; refine pr5 ?_; intro fo ws b' o1 o2 v s hP hvi S
    apply zby hvi; intro hilt tv
    dsimp only at hP S
    have hwl := hP.1
    have hws := hP.2.2.1
    have hb' := hP.2.2.2.1
    clear hP hvi
    refine za3 X S ixm3 ixu3 ?_; walk_at "new"; refine zav ?_ (by rfl); refine Subscript_ ?_; refine Subscript_ ?_; refine r_ev (zae X S ixm1 ixm1) ?_; refine zai X G.XX S ixm6 (za6 G) (Callee.fn (by kernel_rfl)) (zaa rfl (zae X S ixm0 ixm0) (zaa rfl (zaz X G.XX S ixm7 (zcc G) (Callee.bi _) (zaa rfl (zae X S ixm1 ixm1) zab) (zb7 S ((S.rd (Rd.cons (Rd.cons (Rd.cons (Rd.cons (Rd.cons hr)))))).seq hc) hszv)) zab)) ?_
    have S := S.selN (ℓ' := (L, _) :: (bx, _) :: (fo, _) :: (it, _) :: (aN, _) :: ρ) [1, 3, 2] (by rfl)
    refine wpAny_call (zb9 G S.enter0 (hroom.deeper.mono (by decide)) hb' (by omega) (by omega) fun d2 b2 t s' hd20 hd21 hb2 S' => ?_)
    replace S := S'.ret0 S
    clear S'
    obtain ⟨f, hf⟩ : ∃ f, fs[d2.toNat]? = some f := ⟨_, List.getElem?_eq_getElem (by omega)⟩
    have hfok := hok f (List.mem_of_getElem? hf)
    obtain ⟨hpne, hpl, hplet⟩ := hfok.pos
    obtain ⟨hl6, hl1⟩ := hfok.len
    obtain ⟨u, hu, ft, l1, l2, rfl, hg1, hg2, hg3⟩ := hfs.get hf
    refine zbc ((S.rd hr.cons.cons.cons.cons.cons).seq hc) hszv hd20 hu zh4 ?_
    refine r_ev zac ?_
    refine zbc ((S.fact hg1).seq SeqC.ofT) (by show 2 ≤ sizeLine; decide) (by decide) (b := l1) rfl zbi ?_
    refine za5 X S ixm4 ixu4 ?_; walk_at "new"; refine zav ?_ (by rfl); refine wpAny_BinOp ?_; refine r_ev (zae X S ixm2 ixm2) ?_
    have X0 := X
    refine zcn (G0 := G0) (K := K) (kinds' := [((".0" : Str), .local), ("code", .local)]) (cl' := []) hroom.handled X ⟨rfl, by decide +kernel, by rfl, by exact ixm1, by rfl, by rfl, by rfl⟩ (fun CC hCC => ?_) (by intro _; with_unfolding_all rfl)
    refine r_ev (zae X S ixm4 ixm4) ?_
    refine zc0 S ((S.fact hg2).isL) fun it2 s hnew2 S => ?_
    refine hCC Unit _ it2 (fun _ _ => True) (fun _ => g) _ (fun j _ => (posF (f.1.take j)).map V.int) (fun _ _ => (bx, bxC b2) :: (fo, .list (ws.map V.int)) :: (it, .opq ((Src.rng 0 (1 + d - 0).toNat).iter (i + 1))) :: (aN, .opq (RangeObj 0 (1 + d))) :: ρ) () _ ?_ hnew2 S rfl trivial ?_ ?_ ?_
    · simp only [Src.vals, List.length_map]; rw [sizeLine_eq]; exact Nat.le_trans hl6 (by decide)
    · intro j _ s C D o _ S
      exact (S.fact hg2).isL
    · intro QY QN hY hNo j _ v s C D cenv _ hvi X S
      obtain ⟨p, hvp, hp⟩ := zjq hvi
      obtain ⟨tv, rfl⟩ := V.of_int hvp
      simp only [zap] at S
      refine zde ?_
      refine zbs (zbn (zag X S ixm1 ixm0) zac zmc (by rfl)) ?_
      have hnx : posF (f.1.take (j + 1)) = if decide (0 < p) = true then posF (f.1.take j) ++ [p] else posF (f.1.take j) := by rw [zbl hp]; exact zmh _ _
      refine zdg (fun h => ?_) (fun h => ?_)
      · refine r_ev (zag X S ixm1 ixm0) ?_
        exact hY j () () C D _ _ _ trivial (by rw [hnx, if_pos h]; exact List.map_append) (S)
      · exact hNo j () () C D _ _ trivial (by rw [hnx, if_neg (by simp [h])]) (S)
    intro _ D _ hD s S
    have elen : (Src.seqL l1 (f.1.map V.int)).vals.length = f.1.length := by simp [Src.vals]
    rw [elen, List.take_length] at S
    generalize posF f.1 = ps at S hpne hpl hplet
    refine zff S ((S.at ixm3).isL) ((S.at ixm1).isL) (by simp only [List.length_map, List.length_cons, List.length_nil, List.length_append, sizeLine_eq]; omega) ?_; walk_at "newo"; refine za5 X S ixm2 ixu2 ?_; walk_at "new"; refine x_if ?_; refine wpAny_isTrue_Compare1 ?_; refine zai X G.XX S ixm6 (za6 G) (Callee.fn (by kernel_rfl)) (zaa rfl (zae X S ixm0 ixm0) (zaa rfl zac zab)) ?_
    rw [← List.map_append] at S
    generalize aN = fo2 at S hN ⊢
    have hfo2 := hN
    clear hN
    have S := S.selN (ℓ' := (L, _) :: (bx, _) :: (fo2, _) :: (it, _) :: (_, .opq (RangeObj _ _)) :: ρ) [1, 3, 1, 3, 3, 0, 0] (by rfl)
    have hpl1 := List.length_pos_iff.mpr hpne
    have hws2 : ∀ n ∈ ws ++ ps, isLet n := fun n hn => (List.mem_append.mp hn).elim (hws n) (hplet n)
    refine wpAny_call (zb9 G S.enter0 (hroom.deeper.mono (by decide)) hb2 (by decide) (by decide) fun d3 b3 t s' hd30 hd31 hb3 S' => ?_)
    replace S := S'.ret0 S
    clear S'
    refine r_ev zac ?_; refine PyProof.Rows.eq_int ?_; refine wpAny_truthy_bool ?_
    refine ⟨fun _ => ?_, fun _ => ?_⟩
    · refine zcs X.kind ?_ (by rfl); refine methodCall_KW ?_ (by rfl); refine r_ev (zae X S ixm2 ixm2) ?_; refine zbj S ixm2 ?_; refine zd6 ?_ (by rfl) (by rfl); refine args_cons ?_ (by rfl); refine zai X G.XX S ixm8 (zfd G) (Callee.fn (by kernel_rfl)) (zaa rfl (zae X S ixm0 ixm0) zab) ?_
      refine wpAny_call (zi5 G S.enter0 (hroom.deeper.mono (by decide)) hb3 fun d4 b4 t s' hd4 hb4 S' => ?_)
      replace S := S'.ret0 S
      clear S'
      refine zaf zab ?_
      refine zcr S ixv2 (by simp only [List.length_append, sizeLine_eq]; omega) ?_; walk_at "new"
      refine zas ?_; refine zas ?_
      have hws3 : ∀ n ∈ ws ++ ps ++ [d4], isLet n := fun n hn => (List.mem_append.mp hn).elim (hws2 n) (fun h => by rw [List.mem_singleton.mp h]; exact hd4)
      have hl3 : (ws ++ ps ++ [d4]).length ≤ 5 * (i + 1) := by simp only [List.length_append, List.length_cons, List.length_nil]; omega
      exact hL i .next (fo2, ws ++ ps ++ [d4], b4, _, _) _ ⟨hl3, fun _ => by simp, hws3, hb4, hfo2⟩ (S.selN [1, 3, 2] (by rfl)) rfl
    · refine zas ?_; refine zas ?_
      have hl3 : (ws ++ ps).length ≤ 5 * (i + 1) := by simp only [List.length_append]; omega
      exact hL i .next (fo2, ws ++ ps, b3, _, _) _ ⟨hl3, fun _ => by simp [hpne], hws2, hb3, hfo2⟩ (S.selN [1, 3, 2] (by rfl)) rfl
  · intro y s hP S
    rw [zbf, Int.sub_zero] at hP
    have hwl := hP.1
    have hfo := hP.2.2.2.2
    refine zdy (zae X S ixm2 ixm2) ?_; refine hQ _ _ ?_
    try with_reducible first | refine hQ _ _ ?_ | refine hEnd _ ?_
    refine k y.1 y.2.1 y.2.2.1 s ⟨hP.2.1 (by omega), by omega, hP.2.2.1⟩ hP.2.2.2.1 ?_ (S.selN [2, 2, 0, 0] (by rfl))
    rw [← hK] at hfo; exact hfo
noncomputable def rowsC (rs : List (Addr × List Int)) : Led := rs.map fun r => (r.1, Cell.list (r.2.map V.int))
theorem ziy {rs : List (Addr × List Int)} {ρ : Led} {p : Nat} {a : Addr} {ns : List Int} (h : rs[p]? = some (a, ns)) : (a, Cell.list (ns.map V.int)) ∈ rowsC rs ++ ρ :=
  List.mem_append_left _ (List.mem_map.mpr ⟨(a, ns), List.mem_of_getElem? h, rfl⟩)
theorem ziq {ρ : Led} {a : Addr} {ns ns' : List Int} : ∀ {rs : List (Addr × List Int)} {p : Nat}, rs[p]? = some (a, ns) → Upd a (.list (ns.map V.int)) (.list (ns'.map V.int)) (rowsC rs ++ ρ) (rowsC (rs.set p (a, ns')) ++ ρ)
  | [], p, h => by simp at h
  | r :: rs, 0, h => by
    simp only [List.getElem?_cons_zero, Option.some.injEq] at h
    subst h
    exact Upd.head
  | r :: rs, p + 1, h => by
    rw [List.getElem?_cons_succ] at h
    exact Upd.tail (ziq (rs := rs) h)
theorem zk1 {rs : List (Addr × List Int)} {ρ : Led} {a : Addr} {ns : List Int} : ((a, Cell.list (ns.map V.int)) :: (rowsC rs ++ ρ)).Perm (rowsC (rs ++ [(a, ns)]) ++ ρ) := by
  unfold rowsC
  rw [List.map_append, List.append_assoc]
  exact (List.perm_middle (a := (a, Cell.list (ns.map V.int))) (l₁ := rs.map fun r => (r.1, Cell.list (r.2.map V.int))) (l₂ := ρ)).symm
theorem zni {a : Addr} {c c' : Cell} {ℓ ℓ' : Led} (p : Led) (h : Upd a c c' ℓ ℓ') : Upd a c c' (p ++ ℓ) (p ++ ℓ') := by
  induction p with
  | nil => exact h
  | cons q r ih => exact .tail ih
theorem Rd.app {g : PH} {ℓ : Led} {a : Addr} {c : Cell} (p : Led) (r : Rd g ℓ a c) : Rd g (p ++ ℓ) a c := r.imp (List.mem_append_right _) id
noncomputable def addNums (rows : List (List Int)) (p : Nat) : List Int → List (List Int)
  | [] => rows
  | m :: r => addNums (rows.set p (rows.getD p [] ++ [m])) (p + 1) r
noncomputable def topsB (marks : List Int) (f : Form) (rows : List (List Int)) : Nat → List (List Int)
  | 0 => rows
  | b + 1 => if sliceV marks (some b) (some (b + f.1.length)) = f.1 then addNums (topsB marks f rows b) b f.2 else topsB marks f rows b
noncomputable def topsF (marks : List Int) (rows : List (List Int)) (fs : List Form) : List (List Int) := fs.foldl (fun rows f => topsB marks f rows (marks.length + 1 - f.1.length)) rows
noncomputable def topsRows (fs : List Form) (ns : List Int) : List (List Int) := topsF ([0] ++ ns ++ [0]) (List.replicate (ns.length + 3) [0]) fs
theorem zjc (rows : List (List Int)) (p : Nat) (ms : List Int) : (addNums rows p ms).length = rows.length := by
  induction ms generalizing rows p with
  | nil => rfl
  | cons m r ih => unfold addNums; rw [ih]; simp
theorem ze2 (marks : List Int) (f : Form) (rows : List (List Int)) (b : Nat) : (topsB marks f rows b).length = rows.length := by
  induction b with
  | zero => rfl
  | succ b ih => unfold topsB; split <;> simp [zjc, ih]
theorem zld (marks : List Int) (rows : List (List Int)) (fs : List Form) (f : Form) : topsF marks rows (fs ++ [f]) = topsB marks f (topsF marks rows fs) (marks.length + 1 - f.1.length) := by
  unfold topsF; rw [List.foldl_append]; rfl
theorem zgc (marks : List Int) (rows : List (List Int)) (fs : List Form) : (topsF marks rows fs).length = rows.length := by
  unfold topsF
  induction fs generalizing rows with
  | nil => rfl
  | cons f r ih => rw [List.foldl_cons, ih, ze2]
noncomputable def IsTop (row : List Int) (M : Int) : Prop := M ∈ row ∧ ∀ x ∈ row, x ≤ M
noncomputable def TopsAre (rows : List (List Int)) (ms : List Int) : Prop := ms.length = rows.length ∧ ∀ (i : Nat) r M, rows[i]? = some r → ms[i]? = some M → IsTop r M
theorem TopsAre.snoc {rows : List (List Int)} {ms : List Int} {r : List Int} {M : Int} (h : TopsAre rows ms) (hM : IsTop r M) : TopsAre (rows ++ [r]) (ms ++ [M]) := by
  obtain ⟨hl, h⟩ := h
  refine ⟨by simp [hl], fun i u q h1 h2 => ?_⟩
  rw [List.getElem?_append] at h1 h2
  rw [hl] at h2
  by_cases hi : i < rows.length
  · rw [if_pos hi] at h1 h2; exact h i u q h1 h2
  · rw [if_neg hi] at h1 h2
    cases hk : i - rows.length with
    | zero => rw [hk] at h1 h2; cases h1; cases h2; exact hM
    | succ n => rw [hk] at h1; cases h1
theorem zkw {rows : List (List Int)} (h : ∀ r ∈ rows, r ≠ []) (p : Nat) (ms : List Int) : ∀ r ∈ addNums rows p ms, r ≠ [] := by
  induction ms generalizing rows p with
  | nil => exact h
  | cons m q ih =>
    unfold addNums
    refine ih (fun r hr => ?_) _
    rcases List.mem_or_eq_of_mem_set hr with hr | rfl
    · exact h r hr
    · simp
theorem zmt {marks : List Int} {f : Form} {rows : List (List Int)} (h : ∀ r ∈ rows, r ≠ []) (b : Nat) : ∀ r ∈ topsB marks f rows b, r ≠ [] := by
  induction b with
  | zero => exact h
  | succ b ih =>
    unfold topsB
    split
    · exact zkw ih _ _
    · exact ih
theorem zjr (fs : List Form) (ns : List Int) : ∀ r ∈ topsRows fs ns, r ≠ [] := by
  unfold topsRows topsF
  have h0 : ∀ r ∈ List.replicate (ns.length + 3) ([0] : List Int), r ≠ [] := fun r hr => by rw [(List.mem_replicate.mp hr).2]; simp
  generalize List.replicate (ns.length + 3) ([0] : List Int) = rows at h0
  induction fs generalizing rows with
  | nil => exact h0
  | cons f r ih => rw [List.foldl_cons]; exact ih _ (zmt h0 _)
theorem zee {α : Type} (l : List α) (lo hi i : Nat) : (sliceV l (some lo) (some hi))[i]? = if lo + i < hi then l[lo + i]? else none := by
  unfold sliceV
  simp only [Option.getD_some]
  rw [List.getElem?_drop, List.getElem?_take]
theorem set_self {α : Type} {l : List α} {i : Nat} {a : α} (h : l[i]? = some a) : l.set i a = l := by
  refine List.ext_getElem? fun j => ?_
  rw [List.getElem?_set]
  by_cases e : i = j
  · subst e
    rw [if_pos rfl, h, if_pos (List.getElem?_eq_some_iff.mp h).1]
  · rw [if_neg e]
theorem ziw {rows : List (List Int)} {N : Nat} (h : ∀ r ∈ rows, r.length ≤ N) (p : Nat) (ms : List Int) : ∀ r ∈ addNums rows p ms, r.length ≤ N + ms.length := by
  induction ms generalizing rows p N with
  | nil => exact h
  | cons m q ih =>
    unfold addNums
    have h2 : ∀ r ∈ rows.set p (rows.getD p [] ++ [m]), r.length ≤ N + 1 := fun r hr => by
      rcases List.mem_or_eq_of_mem_set hr with hr | rfl
      · exact Nat.le_succ_of_le (h r hr)
      · rw [List.length_append, List.getD_eq_getElem?_getD]
        cases q : rows[p]? with
        | none => simp
        | some x => have := h x (List.mem_of_getElem? q); simp; exact this
    intro r hr
    have := ih h2 (p + 1) r hr
    simp; omega
theorem zhk {marks : List Int} {f : Form} {rows : List (List Int)} {N : Nat} (h : ∀ r ∈ rows, r.length ≤ N) (b : Nat) : ∀ r ∈ topsB marks f rows b, r.length ≤ N + b * f.2.length := by
  induction b with
  | zero => intro r hr; have := h r hr; omega
  | succ b ih =>
    unfold topsB
    rw [Nat.add_mul, Nat.one_mul, ← Nat.add_assoc]
    split
    · exact ziw ih _ _
    · intro r hr; have := ih r hr; omega
theorem zks {marks : List Int} {rows : List (List Int)} {fs : List Form} {N : Nat} (hm : marks.length ≤ 65) (hf : ∀ f ∈ fs, f.2.length ≤ 7) (h : ∀ r ∈ rows, r.length ≤ N) : ∀ r ∈ topsF marks rows fs, r.length ≤ N + fs.length * 500 := by
  unfold topsF
  induction fs generalizing rows N with
  | nil => intro r hr; have := h r hr; simpa using this
  | cons f q ih =>
    rw [List.foldl_cons]
    have h2 : ∀ r ∈ topsB marks f rows (marks.length + 1 - f.1.length), r.length ≤ N + 500 := fun r hr => by
      have h3 := zhk h _ r hr
      have h4 := hf f (.head _)
      have h5 : (marks.length + 1 - f.1.length) * f.2.length ≤ 66 * 7 := Nat.mul_le_mul (by omega) h4
      omega
    intro r hr
    have := ih (fun f hf' => hf f (.tail _ hf')) h2 r hr
    simp only [List.length_cons]; omega
theorem FormOk.nlen {f : Form} (h : FormOk f) : f.2.length = f.1.length + 1 ∧ ∀ m ∈ f.2, 0 ≤ m ∧ m ≤ 9 := by
  obtain ⟨_, _, _, _, _, _, _, h, h'⟩ := h; exact ⟨h, h'⟩
theorem zln (m n : Nat) : ((m : Int) - n + 1 - 0).toNat = m + 1 - n := by
  rw [show (m : Int) - n + 1 - 0 = ((m + 1 : Nat) : Int) - n by omega]; exact Int.toNat_sub _ _
theorem znx {w : World} {G0 : Heap} {Φ : List Addr} {g : PH} {s : Shared} {A : Around} {R : Result → Shared → Prop} {cells : Led} {fa wa : Addr} {vs : List V} {fs : List Form} {ns : List Int}
    (G : Gd w G0) (I : Inv w G0 Φ g s.heap cells) (hroom : Room A 1) (hun : A.units + 20 < cLine) (hr : Rd g cells fa (.list vs)) (hw : Rd g cells wa (.list (ns.map V.int))) (hfs : FormsAre g vs fs) (hok : ∀ f ∈ fs, FormOk f) (hsz : ns.length ≤ 63) (hfl : fs.length < 1000)
    (k : ∀ r ms s', TopsAre (sliceV (topsRows fs ns) (some 1) (some (ns.length + 2))) ms → s.heap.get? r = none → SS w G0 ⟨Φ, s, g, cells.map Prod.fst⟩ g s' ((r, .list (ms.map V.int)) :: cells) → R (.ok (.ret (.ref r))) s') :
    codeAny (model pg w) A (.call (.ref 249) ⟨[.ref fa, .ref wa], []⟩) R s := by
  have hvl : vs.length = fs.length := hfs.1
  refine zan (vals := [.ref fa, .ref wa]) I G.XX G.lim hroom.lt (by exact rfl) (by kernel_rfl) (BindsTo.of_eq rfl) (by decide +kernel) (by decide) (by rfl) ?_
  intro env L s X S Q E hQ hEnd hEr hPO
  dsimp only [mkLoc, zah, zap, zar, zal, zaj, zak, za0] at S
  generalize hK : (⟨Φ, _, g, _⟩ : Kon) = K at S k
  refine zav ?_ (by rfl)
  refine wpAny_BinOp ?_; refine wpAny_BinOp ?_; refine List_ ?_; refine zaf (zaa rfl zac zab) ?_; refine zbg S sz1 ?_; walk_at "newo"; refine r_ev (zae X S ixm1 ixm1) ?_
  refine zff S ((S.at ixm1).isL) ((S.rd hw.cons.cons).isL) (by simp; rw [sizeLine_eq]; omega) fun m1 s hm1 S => ?_
  refine List_ ?_; refine zaf (zaa rfl zac zab) ?_; refine zbg S sz1 ?_; walk_at "newo"; refine zff S ((S.at ixm2).isL) ((S.at ixm1).isL) (by simp only [List.length_map, List.length_cons, List.length_nil, List.length_append, sizeLine_eq]; omega) ?_; walk_at "newo"; refine za5 X S ixm2 ixu2 ?_; walk_at "new"
  have emk : ([V.int 0] ++ ns.map V.int) ++ [V.int 0] = ([0] ++ ns ++ [0]).map V.int := by simp
  rw [emk] at S
  generalize aN = mk at S hN ⊢
  clear hN
  have hml : ([0] ++ ns ++ [0]).length = ns.length + 2 := by simp
  have hrows : topsRows fs ns = topsF ([0] ++ ns ++ [0]) (List.replicate (ns.length + 3) [0]) fs := rfl
  generalize [0] ++ ns ++ [0] = marks at S hml hrows
  have S := S.selN (ℓ' := (L, _) :: (mk, _) :: cells) [1, 1, 0, 0, 0] (by rfl)
  have hcw : SeqC (.list (ns.map V.int)) (ns.map V.int) := SeqC.ofL
  have hszn : (ns.map V.int).length ≤ sizeLine := by rw [List.length_map, sizeLine_eq]; exact Nat.le_trans hsz (by decide)
  have hcv : SeqC (.list vs) vs := SeqC.ofL
  refine zcb (G0 := G0) (K := K) (kinds' := [((".0" : Str), .local), ("k", .local)]) (cl' := []) hroom.handled X ⟨rfl, by decide +kernel, by rfl, by exact ixm1, by rfl, by rfl, by rfl⟩ (zd8 X ixm4 rfl (by decide +kernel)) ixm4 (fun CC hCC => ?_) (by intro _; with_unfolding_all rfl)
  refine zai X G.XX S ixm8 (zb2 G) (Callee.ty _) (zaa rfl (zdr (zaz X G.XX S ixm9 (zcc G) (Callee.bi _) (zaa rfl (zae X S ixm1 ixm1) zab) (zb7 S ((S.rd (Rd.cons (Rd.cons hw))).seq hcw) hszn)) zac) zab) ?_; refine zbr S ?_; walk_at "newo"
  rw [List.length_map] at S
  refine zck (n := ns.length + 3) S ixm1 (by rfl) (by omega) fun it s hnew S => ?_
  have S := S.selN (ℓ' := (it, _) :: (L, _) :: (mk, _) :: (rowsC [] ++ cells)) [1, 1, 2, 0] (by rfl)
  refine hCC (List (Addr × List Int)) _ it (fun i rs => rs.map Prod.snd = List.replicate i [0]) (fun _ => g) _ (fun _ rs => rs.map (fun r => V.ref r.1)) (fun _ rs => (mk, .list (marks.map V.int)) :: (rowsC rs ++ cells)) [] _ ?_ hnew S rfl rfl ?_ ?_ ?_
  · rw [zbf, sizeLine_eq]; omega
  · intros; exact trivial
  · intro QY QN hY hNo i rs v s C D cenv hrs hvi X S
    refine zb4 ?_
    refine zb8 ?_; refine List_ ?_; refine zaf (zaa rfl zac zab) ?_; refine zbg S sz1 ?_; walk_at "newo"
    generalize aN = rw at S hN ⊢
    have S := S.selN (ℓ' := (C, _) :: (L, _) :: (it, _) :: (D, _) :: (mk, _) :: (rw, _) :: (rowsC rs ++ cells)) [1, 2, 2, 2, 2] (by rfl)
    refine hY i rs (rs ++ [(rw, [0])]) C D _ _ _ (by rw [List.map_append, hrs, List.replicate_succ']; rfl) (by rw [List.map_append]; rfl) (S.perm (.cons _ (.cons _ (.cons _ (.cons _ (.cons _ (zk1 (ns := [0]))))))))
  intro rs D hrs hD
  refine ⟨_, by exact ixu4, fun s S => ?_⟩
  rw [zbf] at hrs
  (refine zdn ?_ (by intro _; with_unfolding_all rfl))
  refine r_ev (zae X S ixm0 ixm0) ?_
  refine zc0 S ((S.rd (hr.app _).cons.cons.cons).isL) fun it s hnew S => ?_
  have hmm : rs.map (fun r => V.ref r.1) = (rs.map Prod.fst).map V.ref := by rw [List.map_map]; rfl
  rw [hmm] at S
  have hasl : (rs.map Prod.fst).length = ns.length + 3 := by have := congrArg List.length hrs; simpa using this
  generalize has : rs.map Prod.fst = as at S hasl
  refine zhg (σ := Option V × Option V × Option V × Option V × List (Addr × List Int)) (fun i y => y.2.2.2.2.map Prod.fst = as ∧ y.2.2.2.2.map Prod.snd = topsF marks (List.replicate (ns.length + 3) [0]) (fs.take i)) (fun _ => g)
      (fun _ y => [(("forms" : Str), some (V.ref fa)), ("word", some (.ref wa)), ("marks", some (.ref mk)), ("k", y.1), ("found", some (.ref D)), ("letters", y.2.1), ("numbers", y.2.2.1), ("begin", y.2.2.2.1), ("range", none), ("len", none)])
      (fun _ y => (D, .list (as.map V.ref)) :: (mk, .list (marks.map V.int)) :: (rowsC y.2.2.2.2 ++ cells)) (_, _, _, _, rs)
    hPO hroom.handled hnew S ⟨has, hrs⟩ ?_ ?_ ?_
  · intro i y s _ S
    exact (S.rd (hr.app _).cons.cons.cons.cons).isL
  · intro Q1 hL1 hB1 hR1 i; refine pr5 ?_; intro o1 o2 o3 o4 rs v s hP hvi S
    clear has hrs
    dsimp only at hP S
    have has := hP.1
    have hrs := hP.2
    clear hP
    obtain ⟨f, hf, ft, l1, l2, hv, hg1, hg2, hg3⟩ := hfs.getV hvi
    obtain rfl := V.of_ref hv
    have hfok := hok f (List.mem_of_getElem? hf)
    obtain ⟨hl6, hl1⟩ := hfok.len
    have hml2 : f.2.length = f.1.length + 1 := by obtain ⟨_, _, _, _, _, _, _, h, _⟩ := hfok; exact h
    clear hv hvi
    refine zk7 S ixm1 ?_
    refine zbz hroom.deeper.handled S ((S.fact hg1).isT) fun u1 u2 s e1 e2 S => ?_
    obtain rfl := V.of_ref e1
    obtain rfl := V.of_ref e2
    clear e1 e2
    have hcl1 : SeqC (.list (f.1.map V.int)) (f.1.map V.int) := SeqC.ofL
    have hcl2 : SeqC (.list (f.2.map V.int)) (f.2.map V.int) := SeqC.ofL
    have hrl1 : Rd g (rowsC rs ++ cells) l1 (.list (f.1.map V.int)) := .inr hg2
    have hrl2 : Rd g (rowsC rs ++ cells) l2 (.list (f.2.map V.int)) := .inr hg3
    have hl7 : f.2.length ≤ 7 := by rw [hml2]; exact Nat.succ_le_succ hl6
    have hs1 : (f.1.map V.int).length ≤ sizeLine := zdl hl6 (by decide)
    have hs2 : (f.2.map V.int).length ≤ sizeLine := zdl hl7 (by decide)
    have hsm : (marks.map V.int).length ≤ sizeLine := by rw [List.length_map, sizeLine_eq]; omega
    refine za5 X S ixm5 ixu5 ?_; walk_at "new"; refine za5 X S ixm6 ixu6 ?_; walk_at "new"
    (refine zdn ?_ (by intro _; with_unfolding_all rfl))
    refine zai X G.XX S ixm8 (zb2 G) (Callee.ty _) (zaa rfl (zdr (zlt (zaz X G.XX S ixm9 (zcc G) (Callee.bi _) (zaa rfl (zae X S ixm2 ixm2) zab) (zb7 S ((S.at ixm3).seq SeqC.ofL) hsm)) (zaz X G.XX S ixm9 (zcc G) (Callee.bi _) (zaa rfl (zae X S ixm5 ixm5) zab) (zb7 S ((S.rd (Rd.cons (Rd.cons (Rd.cons (Rd.cons hrl1))))).seq hcl1) hs1))) zac) zab) ?_; refine zbr S ?_; walk_at "newo"
    rw [List.length_map, List.length_map] at S
    refine zce S ixm1 (by decide) (by rw [show (2 : Nat) ^ 60 = 1152921504606846976 by decide]; omega) fun it2 s hnew2 S => ?_
    rw [zln marks.length f.1.length] at S
    have S := S.selN (ℓ' := (it2, _) :: (L, _) :: (it, _) :: (D, _) :: (mk, _) :: (rowsC rs ++ cells)) [1, 1, 2, 2, 2, 0] (by rfl)
    generalize hrows0 : topsF marks (List.replicate (ns.length + 3) [0]) (fs.take i) = rows0 at hrs
    have hrl0 : rows0.length = ns.length + 3 := by rw [← hrows0, zgc]; simp
    refine zbd (σ := Option V × Option V × List (Addr × List Int)) (fun b y => y.2.2.map Prod.fst = as ∧ y.2.2.map Prod.snd = topsB marks f rows0 b) (fun _ => g)
        (fun _ y => [(("forms" : Str), some (V.ref fa)), ("word", some (.ref wa)), ("marks", some (.ref mk)), ("k", y.1), ("found", some (.ref D)), ("letters", some (.ref l1)), ("numbers", some (.ref l2)), ("begin", y.2.1), ("range", none), ("len", none)])
        (fun _ y => (it, .opq ((Src.seqL fa vs).iter (i + 1))) :: (D, .list (as.map V.ref)) :: (mk, .list (marks.map V.int)) :: (rowsC y.2.2 ++ cells)) (_, _, rs)
      hPO hroom.handled hnew2 S ⟨has, hrs⟩ ?_ ?_ ?_
    · intros; exact trivial
    · intro Q2 hL2 hB2 hR2 b; refine pr3 ?_; intro o1 o4 rs v s hP hvi S
      apply zby hvi; intro hblt tv
      clear has hrs hrl1 hrl2
      dsimp only at hP S
      have has := hP.1
      have hrs := hP.2
      clear hP hvi
      have hrl1 : Rd g (rowsC rs ++ cells) l1 (.list (f.1.map V.int)) := .inr hg2
      have hrl2 : Rd g (rowsC rs ++ cells) l2 (.list (f.2.map V.int)) := .inr hg3
      generalize hrows1 : topsB marks f rows0 b = rows1 at hrs
      have hrl1' : rows1.length = ns.length + 3 := by rw [← hrows1, ze2, hrl0]
      refine za3 X S ixm7 ixu7 ?_; walk_at "new"; refine x_if ?_; refine wpAny_isTrue_Compare1 ?_; refine Subscript_ ?_; refine r_ev (zae X S ixm2 ixm2) ?_; refine wpAny_Slice ?_; refine wpAny_evalPart_some ?_; refine r_ev (zag X S ixm7 ixm7) ?_; refine wpAny_evalPart_some ?_; refine r_ev (zdr (zag X S ixm7 ixm7) (zaz X G.XX S ixm9 (zcc G) (Callee.bi _) (zaa rfl (zae X S ixm5 ixm5) zab) (zb7 S ((S.rd (Rd.cons (Rd.cons (Rd.cons (Rd.cons (Rd.cons hrl1)))))).seq hcl1) hs1))) ?_; refine wpAny_evalPart_none ?_
      refine zcx S ((S.at ixm4).isL) hsm (Part.int _ _ (Int.natCast_nonneg _)) (Part.int _ _ (by omega)) fun sl s hsl S => ?_
      have esl : sliceV (marks.map V.int) (some ((b : Int)).toNat) (some ((b : Int) + ((f.1.map V.int).length : Int)).toNat) = (sliceV marks (some b) (some (b + f.1.length))).map V.int := by
        unfold sliceV
        rw [List.length_map, show ((b : Int) + (f.1.length : Int)).toNat = b + f.1.length from rfl]
        simp only [Option.getD_some, List.map_drop, List.map_take, Int.toNat_natCast]
      rw [esl] at S
      refine r_ev (zae X S ixm5 ixm5) ?_
      refine zmi ((S.at ixm1).isL) ((S.rd hrl1.cons.cons.cons.cons.cons.cons).isL) (zd3 3 hun (by decide)) ?_
      refine wpAny_truthy_bool ?_
      have S := S.selN (ℓ' := (L, _) :: (it2, _) :: (it, _) :: (D, _) :: (mk, _) :: (rowsC rs ++ cells)) [1, 2, 2, 2, 2, 0] (by rfl)
      refine ⟨fun hm => ?_, fun hm => ?_⟩
      · have hm := of_decide_eq_true hm
        have hnxt : topsB marks f rows0 (b + 1) = addNums rows1 b f.2 := by unfold topsB; rw [if_pos hm, hrows1]
        refine zdn ?_ (by intro _; with_unfolding_all rfl); refine zai X G.XX S ixm8 (zb2 G) (Callee.ty _) (zaa rfl (zaz X G.XX S ixm9 (zcc G) (Callee.bi _) (zaa rfl (zae X S ixm6 ixm6) zab) (zb7 S ((S.rd (Rd.cons (Rd.cons (Rd.cons (Rd.cons (Rd.cons hrl2)))))).seq hcl2) hs2)) zab) ?_; refine zbr S ?_; walk_at "newo"
        rw [List.length_map] at S
        refine zck (n := f.2.length) S ixm1 (by rfl) (Nat.le_trans hl7 (by decide)) fun it3 s hnew3 S => ?_
        have S := S.selN (ℓ' := (it3, _) :: (L, _) :: (it2, _) :: (it, _) :: (D, _) :: (mk, _) :: (rowsC rs ++ cells)) [1, 1, 2, 2, 2, 2, 0] (by rfl)
        refine zbd (σ := Option V × List (Addr × List Int)) (fun j y => y.2.map Prod.fst = as ∧ addNums (y.2.map Prod.snd) (b + j) (f.2.drop j) = addNums rows1 b f.2 ∧ ∀ j', j ≤ j' → (y.2.map Prod.snd)[b + j']? = rows1[b + j']?) (fun _ => g)
            (fun _ y => [(("forms" : Str), some (V.ref fa)), ("word", some (.ref wa)), ("marks", some (.ref mk)), ("k", y.1), ("found", some (.ref D)), ("letters", some (.ref l1)), ("numbers", some (.ref l2)), ("begin", some (.int b)), ("range", none), ("len", none)])
            (fun _ y => (it2, .opq ((Src.rng 0 (marks.length + 1 - f.1.length)).iter (b + 1))) :: (it, .opq ((Src.seqL fa vs).iter (i + 1))) :: (D, .list (as.map V.ref)) :: (mk, .list (marks.map V.int)) :: (rowsC y.2 ++ cells)) (_, rs)
          hPO hroom.handled hnew3 S ⟨has, by rw [hrs]; rfl, fun _ _ => by rw [hrs]⟩ ?_ ?_ ?_
        · intros; exact trivial
        · intro Q3 hL3 hB3 hR3 j; refine pr2 ?_; intro o1 rs v s hP hvi S
          apply zby hvi; intro hjlt tv
          clear has hrs hrl1 hrl2
          dsimp only at hP S
          have has := hP.1
          have hrs := hP.2.1
          have hrest := hP.2.2
          clear hP hvi
          have hrl2 : Rd g (rowsC rs ++ cells) l2 (.list (f.2.map V.int)) := .inr hg3
          obtain ⟨m, hm2⟩ : ∃ m, f.2[j]? = some m := ⟨_, List.getElem?_eq_getElem hjlt⟩
          have hbj : b + j < as.length := by omega
          obtain ⟨a, haj⟩ : ∃ a, as[b + j]? = some a := ⟨_, List.getElem?_eq_getElem hbj⟩
          obtain ⟨row, hrow⟩ : ∃ row, rs[b + j]? = some (a, row) := by
            rw [← has, List.getElem?_map] at haj
            cases q : rs[b + j]? with
            | none => rw [q] at haj; cases haj
            | some r => rw [q] at haj; obtain ⟨a', row⟩ := r; cases haj; exact ⟨row, rfl⟩
          have hrow1 : rows1[b + j]? = some row := by rw [← hrest j (Nat.le_refl _), List.getElem?_map, hrow]; rfl
          have hdrop : f.2.drop j = m :: f.2.drop (j + 1) := by rw [List.drop_eq_getElem_cons hjlt, (List.getElem?_eq_some_iff.mp hm2).2]
          have hnx : addNums ((rs.set (b + j) (a, row ++ [m])).map Prod.snd) (b + (j + 1)) (f.2.drop (j + 1)) = addNums rows1 b f.2 := by
            rw [← hrs, hdrop]
            show _ = addNums ((rs.map Prod.snd).set (b + j) ((rs.map Prod.snd).getD (b + j) [] ++ [m])) (b + j + 1) (f.2.drop (j + 1))
            rw [List.map_set, List.getD_eq_getElem?_getD, List.getElem?_map, hrow]; rfl
          have has2 : (rs.set (b + j) (a, row ++ [m])).map Prod.fst = as := by
            rw [List.map_set, has]
            exact set_self haj
          have hrowl : row.length ≤ 1 + i * 500 + b * 7 := by
            have h0 : ∀ r ∈ List.replicate (ns.length + 3) ([0] : List Int), r.length ≤ 1 := fun r hr => by rw [(List.mem_replicate.mp hr).2]; simp
            have h1 : ∀ r ∈ rows0, r.length ≤ 1 + i * 500 := fun r hr => by
              rw [← hrows0] at hr
              have := zks (by omega) (fun f hf => by have := hok f (List.mem_of_mem_take hf); have h2 := this.nlen.1; have h3 := this.len.1; omega) h0 r hr
              have hle : (fs.take i).length ≤ i := by rw [List.length_take]; exact Nat.min_le_left _ _
              exact Nat.le_trans this (Nat.add_le_add_left (Nat.mul_le_mul_right _ hle) 1)
            have h2 := zhk h1 b row (by rw [hrows1]; exact List.mem_of_getElem? hrow1)
            exact Nat.le_trans h2 (Nat.add_le_add_left (Nat.mul_le_mul_left _ hl7) _)
          have hil : i < fs.length := (List.getElem?_eq_some_iff.mp hf).1
          refine za3 X S ixm3 ixu3 ?_; walk_at "new"; refine zcs X.kind ?_ (by rfl); refine methodCall_KW ?_ (by rfl); refine zbb (zae X S ixm4 ixm4) (zdr (zag X S ixm7 ixm7) (zag X S ixm3 ixm3)) ?_
          refine zbc (b := a) ((S.at ixm4).seq SeqC.ofL) (by (rw [List.length_map, sizeLine_eq]; omega)) (Int.natCast_nonneg (b + j)) (by rw [List.getElem?_map, show ((b : Int) + (j : Int)).toNat = b + j from rfl, haj]; rfl) zl4 ?_
          refine zbj S (List.mem_append_right [_, _, _, _, _, _] (ziy hrow)) ?_
          refine zd6 ?_ (by rfl) (by rfl); refine args_cons ?_ (by rfl); refine zbb (zae X S ixm6 ixm6) (zag X S ixm3 ixm3) ?_
          refine zb6 (n := m) ((S.rd hrl2.cons.cons.cons.cons.cons.cons).seq hcl2) (by (rw [sizeLine_eq]; exact Nat.le_trans hl7 (by decide))) (Int.natCast_nonneg _) hm2 zbm fun t => ?_
          refine zaf zab ?_
          refine zd9 (pv := .int m) S (zni [_, _, _, _, _, _] (by have := ziq (ns' := row ++ [m]) (ρ := cells) hrow; rw [List.map_append] at this; exact this)) (by (rw [List.length_map, sizeLine_eq]; omega)) rfl ?_; walk_at "new"
          refine zas ?_
          refine hL3 j .next (_, rs.set (b + j) (a, row ++ [m])) _ ⟨has2, hnx, fun j' hj' => ?_⟩ S rfl
          dsimp only
          rw [List.map_set, List.getElem?_set, if_neg (fun e => absurd hj' (by rw [Nat.add_left_cancel e]; exact Nat.not_succ_le_self _))]
          exact hrest j' (Nat.le_of_succ_le hj')
        · intro y s hP S
          have hrs' := hP.2.1
          rw [zbf, List.drop_length] at hrs'
          refine zas ?_; refine zas ?_
          exact hL2 b .next (y.1, some (.int b), y.2) _ ⟨hP.1, by rw [hnxt]; exact hrs'⟩ S rfl
      · have hm := of_decide_eq_false hm
        have hnxt : topsB marks f rows0 (b + 1) = rows1 := by unfold topsB; rw [if_neg hm, hrows1]
        refine zas ?_; refine zas ?_
        exact hL2 b .next (_, _, rs) _ ⟨has, by rw [hnxt]; exact hrs⟩ S rfl
    · intro y s hP S
      have hrs := hP.2
      rw [zbf, ← hrows0, ← zld, ← zbl hf] at hrs
      refine zas ?_
      exact hL1 i .next (y.1, some (.ref l1), some (.ref l2), y.2.1, y.2.2) _ ⟨hP.1, hrs⟩ S rfl
  · refine pr5 ?_; intro o1 o2 o3 o4 rs s hP S
    clear has hrs
    dsimp only at hP S
    have has := hP.1
    have hrs := hP.2
    clear hP
    have elen : (Src.seqL fa vs).vals.length = fs.length := hvl
    rw [elen, List.take_length, ← hrows] at hrs
    refine za9 ?_
    have X0 := X
    have hasl2 : (as.map V.ref).length ≤ sizeLine := by rw [List.length_map, sizeLine_eq]; omega
    refine zcn (G0 := G0) (K := K) (kinds' := [((".0" : Str), .local), ("row", .local), ("max", .globalImplicit)]) (cl' := []) hroom.handled X ⟨rfl, by decide +kernel, by rfl, by exact ixm1, by rfl, by rfl, by rfl⟩ (fun CC hCC => ?_) (by intro _; with_unfolding_all rfl)
    refine Subscript_ ?_; refine r_ev (zae X S ixm4 ixm4) ?_; refine wpAny_Slice ?_; refine wpAny_evalPart_some ?_; refine r_ev zac ?_; refine wpAny_evalPart_some ?_; refine wpAny_BinOp ?_; refine zai X G.XX S ixm9 (zcc G) (Callee.bi _) (zaa rfl (zae X S ixm1 ixm1) zab) ?_
    have hw' : Rd g (rowsC rs ++ cells) wa (.list (ns.map V.int)) := hw.app _
    refine zi4 S ((S.rd (Rd.cons (Rd.cons (Rd.cons hw')))).seq hcw) hszn ?_; walk_at "newt"; refine r_ev zac ?_; refine zeq ?_; refine wpAny_evalPart_none ?_
    rw [List.length_map]
    refine zcx S ((S.at ixm1).isL) hasl2 (Part.int _ _ (by omega)) (Part.int _ _ (by omega)) fun sl s hsl S => ?_
    rw [show (1 : Int).toNat = 1 from rfl, show ((ns.length : Int) + 2).toNat = ns.length + 2 from rfl] at S
    refine zc0 S ((S.at ixm1).isL) fun it s hnew S => ?_
    have hslen : (sliceV (as.map V.ref) (some 1) (some (ns.length + 2))).length = ns.length + 1 := zek (by rw [List.length_map]; exact hasl)
    have hrl : (topsRows fs ns).length = ns.length + 3 := by rw [← hrs, List.length_map, ← hasl, ← has, List.length_map]
    have hslen2 : (sliceV (topsRows fs ns) (some 1) (some (ns.length + 2))).length = ns.length + 1 := zek hrl
    refine hCC (List Int) _ it (fun j ms => TopsAre ((sliceV (topsRows fs ns) (some 1) (some (ns.length + 2))).take j) ms) (fun _ => g) _ (fun _ ms => ms.map V.int) (fun _ _ => (sl, .list (sliceV (as.map V.ref) (some 1) (some (ns.length + 2)))) :: (D, .list (as.map V.ref)) :: (mk, .list (marks.map V.int)) :: (rowsC rs ++ cells)) [] _ ?_ hnew S rfl ⟨rfl, by simp⟩ ?_ ?_ ?_
    · show (sliceV (as.map V.ref) (some 1) (some (ns.length + 2))).length ≤ sizeLine
      rw [hslen, sizeLine_eq]; omega
    · intro j ms s C D' o _ S
      exact (S.at ixm4).isL
    · intro QY QN hY hNo j ms v s C D' cenv hms hvi X S
      have hvi : (sliceV (as.map V.ref) (some 1) (some (ns.length + 2)))[j]? = some (V.of v) := hvi
      have hjlt : j < ns.length + 1 := by rw [← hslen]; exact (List.getElem?_eq_some_iff.mp hvi).1
      rw [zee, if_pos (by omega), List.getElem?_map] at hvi
      obtain ⟨a, haj⟩ : ∃ a, as[1 + j]? = some a := ⟨_, List.getElem?_eq_getElem (by omega)⟩
      rw [haj] at hvi
      obtain rfl := V.of_ref (Option.some.inj hvi).symm
      clear hvi
      obtain ⟨row, hrow⟩ : ∃ row, rs[1 + j]? = some (a, row) := by
        rw [← has, List.getElem?_map] at haj
        cases q : rs[1 + j]? with
        | none => rw [q] at haj; cases haj
        | some r => rw [q] at haj; obtain ⟨a', row⟩ := r; cases haj; exact ⟨row, rfl⟩
      have hrow1 : (sliceV (topsRows fs ns) (some 1) (some (ns.length + 2)))[j]? = some row := by
        rw [zee, if_pos (by omega), ← hrs, List.getElem?_map, hrow]; rfl
      have hrne : row ≠ [] := zjr fs ns row (by rw [← hrs]; exact List.mem_map.mpr ⟨_, List.mem_of_getElem? hrow, rfl⟩)
      rw [zah] at S
      refine zb4 ?_
      refine zb8 ?_; refine zai X G.XX S ixm2 (zkn G) (Callee.bi _) (zaa rfl (zae X S ixm1 ixm0) zab) ?_
      refine r_maxL hroom.handled S ((S.at (List.mem_append_right [_, _, _, _, _, _, _] (ziy hrow))).isL) hrne fun M t s' hM1 hM2 S' => ?_
      refine hY j ms (ms ++ [M]) C D' _ _ _ ?_ map_of_snoc.symm S'
      rw [zbl hrow1]
      exact hms.snoc ⟨hM1, hM2⟩
    intro ms D' hms hD' s S
    have elen : (Src.seqL sl (sliceV (as.map V.ref) (some 1) (some (ns.length + 2)))).vals.length = ns.length + 1 := hslen
    rw [elen, List.take_of_length_le (Nat.le_of_eq hslen2)] at hms
    try with_reducible first | refine hQ _ _ ?_ | refine hEnd _ ?_
    refine k D' ms s hms ?_ ?_
    · rw [← hK] at hD'; exact hD'
    · have S := S.selN (ℓ' := (D', _) :: (rowsC rs ++ cells)) [2, 0, 0, 0, 0] (by rfl)
      exact S.sublist (.cons_cons _ (List.sublist_append_right _ _))
noncomputable def insOf (st : List Int) (first : Int) (cnt : Nat) : List Int := ((List.range cnt).map fun (i : Nat) => first + (i : Int)).filter fun p => st.any (· == p)
theorem zk6 (st : List Int) (first : Int) (i : Nat) : insOf st first (i + 1) = if (st.any (· == first + (i : Int))) = true then insOf st first i ++ [first + (i : Int)] else insOf st first i := by
  unfold insOf
  rw [List.range_succ, List.map_append]
  exact zdv _ _ _
noncomputable def dueLo (l : Int) : Int := min (max l 1) 63
noncomputable def dueCnt (n : Nat) (l r : Int) : Nat := ((n : Int) - min (max r 1) 63 + 1 - dueLo l).toNat
noncomputable def DueIs (fs : List Form) (kp : List (List Int × List Int)) (ns : List Int) (l r : Int) (out : List Int) : Prop :=
  (∃ st, xlook kp (ns.take 63) = some st ∧ out = insOf st (dueLo l) (dueCnt (ns.take 63).length l r)) ∨
  (xlook kp (ns.take 63) = none ∧ ∃ ms, TopsAre (sliceV (topsRows fs (ns.take 63)) (some 1) (some ((ns.take 63).length + 2))) ms ∧ out = oddsOf ms (dueLo l) (dueCnt (ns.take 63).length l r))
theorem znf {w : World} {G0 : Heap} {Φ : List Addr} {g : PH} {s : Shared} {A : Around} {R : Result → Shared → Prop} {ρ : Led} {fa ka wa : Addr} {vs : List V} {fs : List Form} {ns : List Int} {xs : List (List Int × Addr × Value)} {kp : List (List Int × List Int)} {l rt : Int} {t1 t2 : Tok}
    (G : Gd w G0) (I : Inv w G0 Φ g s.heap ((ka, TC w xs) :: ρ)) (hroom : Room A 2) (hun : A.units + 30 < cLine) (hka : (ka == sysModules) = false) (hr : Rd g ρ fa (.list vs)) (hw : Rd g ρ wa (.list (ns.map V.int))) (hfs : FormsAre g vs fs) (hok : ∀ f ∈ fs, FormOk f) (hfl : fs.length < 1000) (hkp : KeptAre g xs kp) (hsz : ns.length ≤ 1000)
    (k : ∀ r out s', DueIs fs kp ns l rt out → s.heap.get? r = none → SS w G0 ⟨Φ, s, g, ((ka, TC w xs) :: ρ).map Prod.fst⟩ g s' ((r, .list (out.map V.int)) :: (ka, TC w xs) :: ρ) → R (.ok (.ret (.ref r))) s') :
    codeAny (model pg w) A (.call (.ref 254) ⟨[.ref fa, .ref ka, .ref wa, .int l t1, .int rt t2], []⟩) R s := by
  refine zb3 (vals := [.ref fa, .ref ka, .ref wa, .int l t1, .int rt t2]) I G.XX G.lim hroom.lt (by exact rfl) (by kernel_rfl) (BindsTo.of_eq rfl) (by decide +kernel) (by rfl) ?_
  intro env L s X _ S Q E hQ hEnd hEr hPO
  dsimp only [mkLocC, mkCells, mkCl, isCellK, zah, zap, zar, zal, zaj, zak, za0, cond_true, cond_false, List.cons_append, List.nil_append] at S X
  generalize hK : (⟨Φ, _, g, _⟩ : Kon) = K at S k
  generalize L + 1 = c1, L + 1 + 1 = c2, L + 1 + 1 + 1 = c3 at S X
  have hszn : (ns.map V.int).length ≤ sizeLine := by rw [List.length_map, sizeLine_eq]; exact Nat.le_trans hsz (by decide)
  refine zav ?_ (by rfl); refine Subscript_ ?_; refine r_ev (zae X S ixm2 ixm2) ?_; refine wpAny_Slice ?_; refine wpAny_evalPart_none ?_; refine wpAny_evalPart_some ?_; refine r_ev zac ?_; refine wpAny_evalPart_none ?_
  refine zcx S ((S.rd hw.cons.cons.cons.cons.cons).isL) hszn Part.none (Part.int _ _ (by omega)) fun sh s hsh S => ?_
  have esl : sliceV (ns.map V.int) none (some (63 : Int).toNat) = (ns.take 63).map V.int := by
    unfold sliceV
    simp only [Option.getD_none, Option.getD_some, List.drop_zero, List.map_take]
    rfl
  rw [esl] at S
  have hw63 : (ns.take 63).length ≤ 63 := by rw [List.length_take]; exact Nat.le_trans (Nat.min_le_left _ _) (by decide)
  unfold DueIs at k
  generalize ns.take 63 = wd at S hw63 k
  have hwz : (wd.map V.int).length ≤ sizeLine := by rw [List.length_map, sizeLine_eq]; exact Nat.le_trans hw63 (by decide)
  refine zbt X S ixm5 ixm1 (zah _) ixv3 ?_; walk_at "new"; refine zav ?_ (by rfl); refine Call_ ?_ (by rfl); refine zax X S ixm8 (zb2 G) ?_; refine PyProof.Rows.callWith_type1 ?_ (by rfl) (by rfl); refine args_cons ?_ (by rfl); refine Call_ ?_ (by rfl); refine zax X S ixm9 (zn1 G) ?_; refine PyProof.Rows.callWith_builtin1 ?_ (by rfl) (by rfl); refine args_cons ?_ (by rfl); refine zai X G.XX S zcf (zkn G) (Callee.bi _) (zaa rfl (zag X S ixm3 ixm3) (zaa rfl zac zab)) ?_; refine ziv hroom.deeper.handled S ?_; walk_at "newt"; refine zaf (zaa rfl zac zab) ?_; refine zlg hroom.deeper.handled S ?_; walk_at "newt"; refine args_cons ?_ (by rfl); refine wpAny_BinOp ?_; refine wpAny_BinOp ?_; refine r_ev (zaz X G.XX S zcp (zcc G) (Callee.bi _) (zaa rfl (zad X S (Or.inl ixm5) ixm1 ixm3) zab) (zb7 S ((S.at ixm1).seq SeqC.ofL) hwz)) ?_; refine Call_ ?_ (by rfl); refine zax X S ixm9 (zn1 G) ?_; refine PyProof.Rows.callWith_builtin1 ?_ (by rfl) (by rfl); refine args_cons ?_ (by rfl); refine zai X G.XX S zcf (zkn G) (Callee.bi _) (zaa rfl (zag X S ixm4 ixm4) (zaa rfl zac zab)) ?_; refine ziv hroom.deeper.handled S ?_; walk_at "newt"; refine zaf (zaa rfl zac zab) ?_; refine zlg hroom.deeper.handled S ?_; walk_at "newt"; refine zmp ?_; refine r_ev zac ?_; refine zeq ?_; refine zaf zab ?_; refine zj4 S ?_; walk_at "newo"; refine za5 X S ixm6 ixu6 ?_; walk_at "new"; refine x_if ?_; refine wpAny_isTrue_Compare1 ?_; refine zai X G.XX S (ixmt ixm0) (zb0 G) (Callee.ty _) (zaa rfl (zad X S (Or.inl ixm5) ixm1 ixm4) zab) ?_
  generalize aN = ra at S hN ⊢
  clear hN
  rw [List.length_map] at S
  refine zdc S ((S.at ixm2).isL) hwz ?_; walk_at "newo"; refine r_ev (zad X S (Or.inl ixm1) ixm0 ixm4) ?_
  refine r_tdIn (k := wd) S ixm7 hkp.keys hka (zd3 4 hun (by decide)) ((S.at ixm1).isT) ?_; walk_at "new"
  refine wpAny_truthy_bool ?_
  have S : SS w G0 K g _ ((L, .ns [(("forms" : Str), some (V.ref fa)), ("kept", none), ("word", some (.ref wa)), ("left", some (.int l)), ("right", some (.int rt)), ("short", none), ("gaps", some (.ref ra)), ("tops", none), ("range", none), ("min", none), ("max", none), ("len", none), ("tuple", none), ("_law_tops", none)]) ::
    (ra, .opq (RangeObj (dueLo l) ((wd.length : Int) - min (max rt 1) 63 + 1))) :: (sh, .list (wd.map V.int)) :: (c1, .cell (some (.ref ka))) :: (c2, .cell (some (.ref sh))) :: (c3, .cell none) :: (ka, TC w xs) :: ρ) := S.selN [1, 0] (by rfl)
  have hcnt : dueCnt wd.length l rt = ((wd.length : Int) - min (max rt 1) 63 + 1 - dueLo l).toNat := rfl
  have hlo1 : 1 ≤ dueLo l ∧ dueLo l ≤ 63 := zcy l
  have hhi : (wd.length : Int) - min (max rt 1) 63 + 1 ≤ wd.length ∧ (wd.length : Int) - min (max rt 1) 63 + 1 ≥ -63 := by have h := zcy rt; generalize min (max rt 1) 63 = z at h ⊢; omega
  generalize dueCnt wd.length l rt = cnt at hcnt k
  generalize dueLo l = lo at S hlo1 hcnt k
  generalize (wd.length : Int) - min (max rt 1) 63 + 1 = hi at S hhi hcnt
  refine ⟨fun hin => ?_, fun hin => ?_⟩
  · obtain ⟨⟨qa, qv⟩, hq⟩ := Option.isSome_iff_exists.mp hin
    obtain ⟨sa, st, rfl, hsa, hxl⟩ := hkp.hit _ _ _ hq
    refine za9 ?_
    refine zcn (G0 := G0) (K := K) (kinds' := [((".0" : Str), .local), ("k", .local), ("tuple", .globalImplicit), ("kept", .cell), ("short", .cell)]) (cl' := [("short", c2), ("kept", c1)]) hroom.handled X ⟨rfl, by decide +kernel, by rfl, by exact ixm1, by rfl, by rfl, by rfl⟩ (fun CC hCC => ?_) (by intro _; with_unfolding_all rfl)
    refine r_ev (zae X S ixm6 ixm6) ?_
    refine zce S ixm1 (by rw [show (2 : Nat) ^ 60 = 1152921504606846976 by decide]; omega) (by rw [show (2 : Nat) ^ 60 = 1152921504606846976 by decide]; omega) fun it s hnew S => ?_
    rw [← hcnt] at S
    refine hCC Unit _ it (fun _ _ => True) (fun _ => g) _ (fun i _ => (insOf st lo i).map V.int) (fun _ _ => (ra, .opq (RangeObj lo hi)) :: (sh, .list (wd.map V.int)) :: (c1, .cell (some (.ref ka))) :: (c2, .cell (some (.ref sh))) :: (c3, .cell none) :: (ka, TC w xs) :: ρ) () _ ?_ hnew S rfl trivial ?_ ?_ ?_
    · rw [zbf, sizeLine_eq]; omega
    · intros; exact trivial
    · intro QY QN hY hNo i _ v s C D cenv _ hvi X S
      revert S; apply zh3 hvi; intro hilt tv S
      dsimp only [mkLoc, zah, zap, zar, zal, zaj, zak, za0] at S
      refine zde ?_
      refine wpAny_isTrue_Compare1 ?_; refine r_ev (zag X S ixm1 ixm0) ?_; refine Subscript_ ?_; refine r_ev (zad X S (Or.inl ixm3) ixm1 ixm6) ?_; refine zai X G.XX S ixm2 (zb0 G) (Callee.ty _) (zaa rfl (zad X S (Or.inl ixm4) ixm0 ixm7) zab) ?_; refine zdc S ((S.at ixm5).isL) hwz ?_; walk_at "newo"
      refine zn8 (k := wd) S zcf hkp.keys (zd3 4 hun (by decide)) ((S.at ixm1).isT) hq znp ?_; walk_at "new"
      skip
      refine zej ((S.fact hsa).seq SeqC.ofL) ?_
      refine wpAny_truthy_bool ?_
      have hnx := zk6 st lo i
      refine zdg (fun h => ?_) (fun h => ?_)
      · refine r_ev (zag X S ixm1 ixm0) ?_
        exact hY i () () C D _ _ _ trivial (by rw [hnx, if_pos h]; exact List.map_append) (S.selN [1, 2, 2, 2, 2, 2, 2, 2, 2, 2, 0] (by rfl))
      · exact hNo i () () C D _ _ trivial (by rw [hnx, if_neg (by simp [h])]) (S.selN [1, 2, 2, 2, 2, 2, 2, 2, 2, 2, 0] (by rfl))
    intro _ D _ hD s S
    have elen : (Src.rng lo cnt).vals.length = cnt := by simp only [Src.vals, List.length_map, List.length_range]
    rw [elen] at S
    try with_reducible first | refine hQ _ _ ?_ | refine hEnd _ ?_
    refine k D _ s (.inl ⟨st, hxl, rfl⟩) ?_ (S.selN [2, 7, 0, 0, 0, 0, 0, 0] (by rfl))
    rw [← hK] at hD; exact hD
  · have hxl := hkp.miss wd (by simpa using hin)
    refine zas ?_; refine zav ?_ (by rfl); refine zai X G.XX S (ixmt ixm1) (zjg G) (Callee.fn (by kernel_rfl)) (zaa rfl (zae X S ixm0 ixm0) (zaa rfl (zad X S (Or.inl ixm5) ixm1 ixm4) zab)) ?_
    refine wpAny_call (znx G S.enter0 (hroom.deeper.mono (by decide)) (zd3 23 hun (by decide)) hr.cons.cons.cons.cons.cons.cons (.inl ixm1) hfs hok hw63 hfl fun r ms s' hms hrn S' => ?_)
    replace S := S'.ret0 S
    clear S'
    have hml : ms.length = wd.length + 1 := by
      rw [hms.1]
      exact zek (by unfold topsRows; rw [zgc]; simp)
    refine zbt X S ixm7 ixm2 (zah _) ixv6 ?_; walk_at "new"; refine za9 ?_
    refine zcn (G0 := G0) (K := K) (kinds' := [((".0" : Str), .local), ("k", .local), ("tops", .cell)]) (cl' := [("tops", c3)]) hroom.handled X ⟨rfl, by decide +kernel, by rfl, by exact ixm1, by rfl, by rfl, by rfl⟩ (fun CC hCC => ?_) (by intro _; with_unfolding_all rfl)
    refine r_ev (zae X S ixm6 ixm6) ?_
    refine zce S ixm2 (by rw [show (2 : Nat) ^ 60 = 1152921504606846976 by decide]; omega) (by rw [show (2 : Nat) ^ 60 = 1152921504606846976 by decide]; omega) fun it s hnew S => ?_
    rw [← hcnt] at S
    refine hCC Unit _ it (fun _ _ => True) (fun _ => g) _ (fun i _ => (oddsOf ms lo i).map V.int) (fun _ _ => (r, .list (ms.map V.int)) :: (ra, .opq (RangeObj lo hi)) :: (sh, .list (wd.map V.int)) :: (c1, .cell (some (.ref ka))) :: (c2, .cell (some (.ref sh))) :: (c3, .cell (some (.ref r))) :: (ka, TC w xs) :: ρ) () _ ?_ hnew S rfl trivial ?_ ?_ ?_
    · rw [zbf, sizeLine_eq]; omega
    · intros; exact trivial
    · intro QY QN hY hNo i _ v s C D cenv _ hvi X S
      revert S; apply zh3 hvi; intro hilt tv S
      dsimp only [mkLoc, zah, zap, zar, zal, zaj, zak, za0] at S
      refine zde ?_
      refine wpAny_isTrue_Compare1 ?_; refine wpAny_BinOp ?_; refine zbb (zad X S (Or.inl ixm2) ixm0 ixm9) (zag X S ixm1 ixm0) ?_
      obtain ⟨f0, hf0⟩ : ∃ f0, ms[(lo + i).toNat]? = some f0 := ⟨_, List.getElem?_eq_getElem (by omega)⟩
      refine zb6 (n := f0) ((S.at ixm4).seq SeqC.ofL) (by (rw [sizeLine_eq]; omega)) (by omega) hf0 zbm fun t => ?_
      refine r_ev zac ?_; refine zje (by omega) ?_; refine r_ev zac ?_; refine PyProof.Rows.eq_int ?_; refine wpAny_truthy_bool ?_
      have hnx : oddsOf ms lo (i + 1) = if (f0.fmod 2 == 1) = true then oddsOf ms lo i ++ [lo + (i : Int)] else oddsOf ms lo i := by
        rw [zgy, List.getD_eq_getElem?_getD, hf0]; rfl
      refine zdg (fun h => ?_) (fun h => ?_)
      · refine r_ev (zag X S ixm1 ixm0) ?_
        exact hY i () () C D _ _ _ trivial (by rw [hnx, if_pos h]; exact List.map_append) (S)
      · exact hNo i () () C D _ _ trivial (by rw [hnx, if_neg (by simp [h])]) (S)
    intro _ D _ hD s S
    have elen : (Src.rng lo cnt).vals.length = cnt := by simp only [Src.vals, List.length_map, List.length_range]
    rw [elen] at S
    try with_reducible first | refine hQ _ _ ?_ | refine hEnd _ ?_
    refine k D _ s (.inr ⟨hxl, ms, hms, rfl⟩) ?_ (S.selN [2, 8, 0, 0, 0, 0, 0, 0, 0] (by rfl))
    rw [← hK] at hD; exact hD
section
theorem zf9 {p q : Nat} (h : p + 1 ≤ q) : q - p = q - (p + 1) + 1 := (Nat.succ_pred_eq_of_pos (Nat.sub_pos_of_lt h)).symm
theorem zgk : ∀ {ms : List Int} {rows : List (List Int)} {p q : Nat} {x : Int}, p + ms.length ≤ rows.length → (x ∈ (addNums rows p ms).getD q [] ↔ x ∈ rows.getD q [] ∨ (p ≤ q ∧ ms[q - p]? = some x))
  | [], rows, p, q, x, h => by simp [addNums]
  | m :: r, rows, p, q, x, h => by
    simp only [List.length_cons] at h
    unfold addNums
    rw [zgk (by simp; omega)]
    rw [List.getD_eq_getElem?_getD, List.getElem?_set]
    by_cases e : p = q
    · subst e
      rw [if_pos rfl, if_pos (by omega), Option.getD_some, List.mem_append, List.mem_singleton, Nat.sub_self, List.getElem?_cons_zero]
      constructor
      · rintro ((h1 | rfl) | ⟨h1, _⟩)
        · exact .inl h1
        · exact .inr ⟨Nat.le_refl _, rfl⟩
        · omega
      · rintro (h1 | ⟨_, h1⟩)
        · exact .inl (.inl h1)
        · exact .inl (.inr (Option.some.inj h1).symm)
    · rw [if_neg e, ← List.getD_eq_getElem?_getD]
      constructor
      · rintro (h1 | ⟨h1, h2⟩)
        · exact .inl h1
        · refine .inr ⟨Nat.le_of_succ_le h1, ?_⟩
          rw [zf9 h1, List.getElem?_cons_succ]; exact h2
      · rintro (h1 | ⟨h1, h2⟩)
        · exact .inl h1
        · have h3 := Nat.lt_of_le_of_ne h1 e
          refine .inr ⟨h3, ?_⟩
          rw [zf9 h3, List.getElem?_cons_succ] at h2; exact h2
noncomputable def HitAt (marks : List Int) (f : Form) (b q : Nat) (x : Int) : Prop := sliceV marks (some b) (some (b + f.1.length)) = f.1 ∧ b ≤ q ∧ f.2[q - b]? = some x
theorem zh6 {marks : List Int} {f : Form} {rows : List (List Int)} (hf : f.2.length = f.1.length + 1) (hr : marks.length + 1 ≤ rows.length) : ∀ {B q : Nat} {x : Int}, B ≤ marks.length + 1 - f.1.length → (x ∈ (topsB marks f rows B).getD q [] ↔ x ∈ rows.getD q [] ∨ ∃ b, b < B ∧ HitAt marks f b q x)
  | 0, q, x, h => by simp [topsB]
  | B + 1, q, x, h => by
    unfold topsB
    have ih := zh6 hf hr (B := B) (q := q) (x := x) (by omega)
    split
    · rename_i hm
      rw [zgk (by rw [ze2]; omega), ih]
      constructor
      · rintro ((h1 | ⟨b, h1, h2⟩) | ⟨h1, h2⟩)
        · exact .inl h1
        · exact .inr ⟨b, by omega, h2⟩
        · exact .inr ⟨B, by omega, hm, h1, h2⟩
      · rintro (h1 | ⟨b, h1, h2⟩)
        · exact .inl (.inl h1)
        · by_cases e : b = B
          · subst e; exact .inr h2.2
          · exact .inl (.inr ⟨b, by omega, h2⟩)
    · rename_i hm
      rw [ih]
      constructor
      · rintro (h1 | ⟨b, h1, h2⟩)
        · exact .inl h1
        · exact .inr ⟨b, by omega, h2⟩
      · rintro (h1 | ⟨b, h1, h2⟩)
        · exact .inl h1
        · by_cases e : b = B
          · subst e; exact absurd h2.1 hm
          · exact .inr ⟨b, by omega, h2⟩
theorem zio {marks : List Int} : ∀ {fs : List Form} {rows : List (List Int)} {q : Nat} {x : Int}, (∀ f ∈ fs, f.2.length = f.1.length + 1) → marks.length + 1 ≤ rows.length → (x ∈ (topsF marks rows fs).getD q [] ↔ x ∈ rows.getD q [] ∨ ∃ f ∈ fs, ∃ b, b < marks.length + 1 - f.1.length ∧ HitAt marks f b q x)
  | [], rows, q, x, hf, hr => by simp [topsF]
  | f :: r, rows, q, x, hf, hr => by
    have e : topsF marks rows (f :: r) = topsF marks (topsB marks f rows (marks.length + 1 - f.1.length)) r := rfl
    rw [e, zio (fun f hf' => hf f (.tail _ hf')) (by rw [ze2]; exact hr), zh6 (hf f (.head _)) hr (Nat.le_refl _)]
    constructor
    · rintro ((h1 | ⟨b, h1, h2⟩) | ⟨f', hf', b, h1, h2⟩)
      · exact .inl h1
      · exact .inr ⟨f, .head _, b, h1, h2⟩
      · exact .inr ⟨f', .tail _ hf', b, h1, h2⟩
    · rintro (h1 | ⟨f', hf', b, h1, h2⟩)
      · exact .inl (.inl h1)
      · rcases List.mem_cons.mp hf' with rfl | hf'
        · exact .inl (.inr ⟨b, h1, h2⟩)
        · exact .inr ⟨f', hf', b, h1, h2⟩
theorem ziz {fs : List Form} {ns : List Int} {q : Nat} {x : Int} (hf : ∀ f ∈ fs, f.2.length = f.1.length + 1) (hq : q < ns.length + 3) : x ∈ (topsRows fs ns).getD q [] ↔ x = 0 ∨ ∃ f ∈ fs, ∃ b, b < ns.length + 3 - f.1.length ∧ HitAt ([0] ++ ns ++ [0]) f b q x := by
  unfold topsRows
  rw [zio hf (by simp)]
  have e : (List.replicate (ns.length + 3) ([0] : List Int)).getD q [] = [0] := by
    rw [List.getD_eq_getElem?_getD, List.getElem?_replicate, if_pos hq]; rfl
  rw [e, List.mem_singleton]
  have : ([0] ++ ns ++ [0] : List Int).length + 1 = ns.length + 3 := by simp
  rw [this]
theorem zkf (l : List Int) (i j : Nat) (v : Int) (hj : j < l.length) : (l.set i v).getD j 0 = if i = j then v else l.getD j 0 := by
  rw [List.getD_eq_getElem?_getD, List.getElem?_set]
  by_cases e : i = j
  · subst e; rw [if_pos rfl, if_pos rfl, if_pos hj]; rfl
  · rw [if_neg e, if_neg e, List.getD_eq_getElem?_getD]
theorem zj8 : ∀ {ds : List Int} {found : List Int} {spot q : Nat}, q < found.length → found.getD q 0 ≤ (maxAt found spot ds).getD q 0 ∧ ∀ x, spot ≤ q → ds[q - spot]? = some x → x ≤ (maxAt found spot ds).getD q 0
  | [], found, spot, q, hq => ⟨Int.le_refl _, fun x _ h => by simp at h⟩
  | d :: r, found, spot, q, hq => by
    unfold maxAt
    obtain ⟨h1, h2⟩ := zj8 (ds := r) (found := found.set spot (max (found.getD spot 0) d)) (spot := spot + 1) (q := q) (by simpa using hq)
    rw [zkf _ _ _ _ hq] at h1
    refine ⟨?_, fun x hs hx => ?_⟩
    · by_cases e : spot = q
      · subst e; rw [if_pos rfl] at h1; omega
      · rw [if_neg e] at h1; exact h1
    · by_cases e : spot = q
      · subst e
        rw [if_pos rfl] at h1
        rw [Nat.sub_self, List.getElem?_cons_zero] at hx
        cases hx; omega
      · have h3 := Nat.lt_of_le_of_ne hs e
        exact h2 x h3 (by rw [zf9 h3, List.getElem?_cons_succ] at hx; exact hx)
theorem zkb : ∀ {ds : List Int} {found : List Int} {spot q : Nat}, q < found.length → (maxAt found spot ds).getD q 0 = found.getD q 0 ∨ (spot ≤ q ∧ ds[q - spot]? = some ((maxAt found spot ds).getD q 0))
  | [], found, spot, q, hq => .inl rfl
  | d :: r, found, spot, q, hq => by
    unfold maxAt
    rcases zkb (ds := r) (found := found.set spot (max (found.getD spot 0) d)) (spot := spot + 1) (q := q) (by simpa using hq) with h | ⟨h1, h2⟩
    · rw [zkf _ _ _ _ hq] at h
      by_cases e : spot = q
      · subst e
        rw [if_pos rfl] at h
        rw [h, Nat.sub_self, List.getElem?_cons_zero]
        rcases Int.le_total (found.getD spot 0) d with h3 | h3
        · rw [Int.max_eq_right h3]; exact .inr ⟨Nat.le_refl _, rfl⟩
        · rw [Int.max_eq_left h3]; exact .inl rfl
      · rw [if_neg e] at h; exact .inl h
    · refine .inr ⟨Nat.le_of_succ_le h1, ?_⟩
      rw [zf9 h1, List.getElem?_cons_succ]; exact h2
noncomputable def TrieHit (lk : List (Int × Int)) (num : Int → Option (List Int)) (st : Int) (l : List Int) (b q : Nat) (x : Int) : Prop :=
  ∃ i v ds, i < l.length ∧ walkS lk st (l.take (i + 1)) = some v ∧ num v = some ds ∧ b ≤ q ∧ ds[q - b]? = some x
theorem TrieHit.cons {lk : List (Int × Int)} {num : Int → Option (List Int)} {st m v : Int} {r : List Int} {b q : Nat} {x : Int} (hv : lookI lk (256 * st + m) = some v) :
    TrieHit lk num st (m :: r) b q x ↔ (∃ ds, num v = some ds ∧ b ≤ q ∧ ds[q - b]? = some x) ∨ TrieHit lk num v r b q x := by
  constructor
  · rintro ⟨i, u, ds, hi, hw, hn, hb, hx⟩
    cases i with
    | zero =>
      simp only [Nat.zero_add, List.take_succ_cons, List.take_zero, walkS, hv] at hw
      cases hw
      exact .inl ⟨ds, hn, hb, hx⟩
    | succ i =>
      rw [List.take_succ_cons] at hw
      simp only [walkS, hv] at hw
      exact .inr ⟨i, u, ds, by simpa using hi, hw, hn, hb, hx⟩
  · rintro (⟨ds, hn, hb, hx⟩ | ⟨i, u, ds, hi, hw, hn, hb, hx⟩)
    · exact ⟨0, v, ds, by simp, by simp [walkS, hv], hn, hb, hx⟩
    · exact ⟨i + 1, u, ds, by simpa using hi, by rw [List.take_succ_cons]; simp only [walkS, hv]; exact hw, hn, hb, hx⟩
theorem TrieHit.stop {lk : List (Int × Int)} {num : Int → Option (List Int)} {st m : Int} {r : List Int} {b q : Nat} {x : Int} (hv : lookI lk (256 * st + m) = none) : ¬ TrieHit lk num st (m :: r) b q x := by
  rintro ⟨i, u, ds, hi, hw, hn, hb, hx⟩
  rw [List.take_succ_cons] at hw
  simp only [walkS, hv] at hw
  cases hw
theorem zhr {lk : List (Int × Int)} {num : Int → Option (List Int)} {b : Nat} : ∀ {l : List Int} {found : List Int} {st : Int} {q : Nat}, q < found.length →
    (found.getD q 0 ≤ (gapIn lk num b found st l).getD q 0 ∧ (∀ x, TrieHit lk num st l b q x → x ≤ (gapIn lk num b found st l).getD q 0)) ∧
    ((gapIn lk num b found st l).getD q 0 = found.getD q 0 ∨ TrieHit lk num st l b q ((gapIn lk num b found st l).getD q 0))
  | [], found, st, q, hq => ⟨⟨Int.le_refl _, fun x ⟨i, _, _, hi, _⟩ => by simp at hi⟩, .inl rfl⟩
  | m :: r, found, st, q, hq => by
    unfold gapIn
    cases hv : lookI lk (256 * st + m) with
    | none => exact ⟨⟨Int.le_refl _, fun x h => absurd h (TrieHit.stop hv)⟩, .inl rfl⟩
    | some v =>
      simp only
      have hq' : q < (maxAt found b ((num v).getD [])).length := by rw [zic]; exact hq
      obtain ⟨⟨a1, a2⟩, a3⟩ := zhr (l := r) (st := v) hq'
      obtain ⟨b1, b2⟩ := zj8 (ds := (num v).getD []) (spot := b) hq
      have b3 := zkb (ds := (num v).getD []) (spot := b) hq
      refine ⟨⟨Int.le_trans b1 a1, fun x h => ?_⟩, ?_⟩
      · rcases (TrieHit.cons hv).mp h with ⟨ds, h1, h2, h3⟩ | h
        · exact Int.le_trans (b2 x h2 (by rw [h1]; exact h3)) a1
        · exact a2 x h
      · rcases a3 with a3 | a3
        · rw [a3]
          rcases b3 with b3 | ⟨b3, b4⟩
          · exact .inl b3
          · refine .inr ((TrieHit.cons hv).mpr (.inl ?_))
            cases hn : num v with
            | none => rw [hn] at b4; simp at b4
            | some ds => rw [hn] at b4; exact ⟨ds, rfl, b3, b4⟩
        · exact .inr ((TrieHit.cons hv).mpr (.inr a3))
theorem zg2 {lk : List (Int × Int)} {num : Int → Option (List Int)} {marks : List Int} {q : Nat} (hq : q < marks.length + 1) : ∀ B : Nat,
    (0 ≤ (gapOut lk num marks B).getD q 0 ∧ ∀ b x, b < B → TrieHit lk num 0 (marks.drop b) b q x → x ≤ (gapOut lk num marks B).getD q 0) ∧
    ((gapOut lk num marks B).getD q 0 = 0 ∨ ∃ b, b < B ∧ TrieHit lk num 0 (marks.drop b) b q ((gapOut lk num marks B).getD q 0))
  | 0 => by
    have e : (gapOut lk num marks 0).getD q 0 = 0 := by
      show (List.replicate (marks.length + 1) (0 : Int)).getD q 0 = 0
      rw [List.getD_eq_getElem?_getD, List.getElem?_replicate, if_pos hq]; rfl
    rw [e]
    exact ⟨⟨Int.le_refl _, fun b x h => absurd h (Nat.not_lt_zero _)⟩, .inl rfl⟩
  | B + 1 => by
    obtain ⟨⟨a1, a2⟩, a3⟩ := zg2 hq B
    obtain ⟨⟨b1, b2⟩, b3⟩ := zhr (lk := lk) (num := num) (b := B) (l := marks.drop B) (found := gapOut lk num marks B) (st := 0) (q := q) (by rw [zei]; exact hq)
    show (0 ≤ (gapIn lk num B (gapOut lk num marks B) 0 (marks.drop B)).getD q 0 ∧ _) ∧ _
    refine ⟨⟨Int.le_trans a1 b1, fun b x hb h => ?_⟩, ?_⟩
    · by_cases e : b = B
      · subst e; exact b2 x h
      · exact Int.le_trans (a2 b x (by omega) h) b1
    · show (gapIn lk num B (gapOut lk num marks B) 0 (marks.drop B)).getD q 0 = 0 ∨ _
      rcases b3 with b3 | b3
      · rcases a3 with a3 | ⟨b, hb, a3⟩
        · exact .inl (b3.trans a3)
        · refine .inr ⟨b, by omega, ?_⟩
          show TrieHit _ _ _ _ _ _ ((gapIn lk num B (gapOut lk num marks B) 0 (marks.drop B)).getD q 0)
          rw [b3]; exact a3
      · exact .inr ⟨B, by omega, b3⟩
theorem zhh (marks : List Int) (b n : Nat) : sliceV marks (some b) (some (b + n)) = (marks.drop b).take n := by
  unfold sliceV
  simp only [Option.getD_some]
  rw [List.drop_take]
  congr 1; omega
theorem zlr {ns ms : List Int} {j : Nat} (h0 : j = 0 → ns.head? ≠ some 0) (h1 : j + 1 = ms.length → ns.getLast? ≠ some 0) : (zeroE ns ms)[j]? = ms[j]? := by
  have hA : (zeroA ns ms)[j]? = ms[j]? := by
    unfold zeroA
    split
    · rename_i h
      rw [List.getElem?_set, if_neg (fun e => h0 e.symm h)]
    · rfl
  unfold zeroE
  split
  · rename_i h
    rw [List.getElem?_set, zg0]
    by_cases e : ms.length - 1 = j
    · rcases Nat.eq_zero_or_pos ms.length with hz | hz
      · have : ms = [] := List.length_eq_zero_iff.mp hz
        subst this
        rw [if_pos e, if_neg (by simp)]; simp
      · exact absurd h (h1 (by omega))
    · rw [if_neg e]; exact hA
  · exact hA
theorem zg7 {ns : List Int} (hp : ∀ n ∈ ns, 1 ≤ n ∧ n ≤ 255) {i : Nat} (h1 : 1 ≤ i) (h2 : i ≤ ns.length) : ([0] ++ ns ++ [0] : List Int)[i]? ≠ some 0 := by
  rw [List.append_assoc, List.getElem?_append_right (by simpa using h1)]
  simp only [List.length_cons, List.length_nil]
  rw [List.getElem?_append_left (by omega)]
  intro h
  have := hp 0 (List.mem_of_getElem? h)
  omega
theorem zj2 {f : Form} {ns : List Int} {b q : Nat} (hf : FormOk f) (hp : ∀ n ∈ ns, 1 ≤ n ∧ n ≤ 255) (hm : (([0] ++ ns ++ [0] : List Int).drop b).take f.1.length = f.1) (h2 : 2 ≤ q) (hq : q ≤ ns.length) (hb : b ≤ q) (hl : q - b ≤ f.1.length) :
    (zeroE f.1 f.2)[q - b]? = f.2[q - b]? := by
  obtain ⟨hl6, hl1⟩ := hf.len
  have hn := hf.nlen.1
  refine zlr (fun e h => ?_) fun e h => ?_
  · have e1 : b = q := by omega
    subst e1
    rw [← hm, List.head?_eq_getElem?, List.getElem?_take, if_pos (by omega), List.getElem?_drop] at h
    exact zg7 hp (by omega) hq h
  · have e1 : b + f.1.length = q := by omega
    rw [List.getLast?_eq_getElem?] at h
    have h3 : ((([0] ++ ns ++ [0] : List Int).drop b).take f.1.length)[f.1.length - 1]? = some 0 := by rw [hm]; exact h
    rw [List.getElem?_take, if_pos (by omega), List.getElem?_drop] at h3
    exact zg7 hp (i := b + (f.1.length - 1)) (by omega) (by omega) h3
theorem zjj {ns : List Int} (hp : ∀ n ∈ ns, 1 ≤ n ∧ n ≤ 255) : LetR ([0] ++ ns ++ [0]) := fun n hn => by
  rcases List.mem_append.mp hn with hn | hn
  · rcases List.mem_append.mp hn with hn | hn
    · rw [List.mem_singleton.mp hn]; decide
    · have := hp n hn; omega
  · rw [List.mem_singleton.mp hn]; decide
theorem zlz {g : PH} {T : Tb} {fs xs : List Form} (R : Rep g T fs xs) (hok : ∀ f ∈ fs, FormOk f) {ns : List Int} (hp : ∀ n ∈ ns, 1 ≤ n ∧ n ≤ 255) {q : Nat} (h2 : 2 ≤ q) (hq : q ≤ ns.length) (x : Int) :
    (∃ b, b < ns.length + 2 ∧ TrieHit T.lk (numOf T.lk fs) 0 (([0] ++ ns ++ [0] : List Int).drop b) b q x) ↔ ∃ f ∈ fs, ∃ b, b < ns.length + 3 - f.1.length ∧ HitAt ([0] ++ ns ++ [0]) f b q x := by
  have hml : ([0] ++ ns ++ [0] : List Int).length = ns.length + 2 := by simp
  constructor
  · rintro ⟨b, hb, i, v, ds, hi, hw, hn, hbq, hx⟩
    rw [List.length_drop, hml] at hi
    obtain ⟨f, hf, rfl⟩ := Option.map_eq_some_iff.mp (show (fs.find? fun f => decide (walkS T.lk 0 f.1 = some v)).map _ = some ds from hn)
    have hm := List.mem_of_find?_eq_some hf
    have hp' := List.find?_some hf
    simp only [decide_eq_true_eq] at hp'
    have hr : LetR ((([0] ++ ns ++ [0] : List Int).drop b).take (i + 1)) := fun n hn => zjj hp n (List.mem_of_mem_drop (List.mem_of_mem_take hn))
    have e := R.same hr hm hw hp'
    have hlen : f.1.length = i + 1 := by rw [← e, List.length_take, List.length_drop, hml]; omega
    have hm2 : (([0] ++ ns ++ [0] : List Int).drop b).take f.1.length = f.1 := by rw [hlen]; exact e
    have hlt : q - b < f.2.length := by
      have := (List.getElem?_eq_some_iff.mp hx).1
      rw [zgs] at this; exact this
    have hn1 := (hok f hm).nlen.1
    refine ⟨f, hm, b, by omega, by rw [zhh]; exact hm2, hbq, ?_⟩
    rw [← zj2 (hok f hm) hp hm2 h2 hq hbq (by omega)]; exact hx
  · rintro ⟨f, hf, b, hb, hs, hbq, hx⟩
    rw [zhh] at hs
    obtain ⟨hl6, hl1⟩ := (hok f hf).len
    have hlt := (List.getElem?_eq_some_iff.mp hx).1
    have hn1 := (hok f hf).nlen.1
    obtain ⟨st, ta, w1, w2, w3⟩ := R.reach f hf
    obtain ⟨ta', ds, n1, n2, n3⟩ := R.num st _ w2
    injection n1 with n1
    subst n1
    rw [w3] at n2
    have e : (zeroE f.1 f.2).map V.int = ds.map V.int := by injection n2 with n2; injection n2
    have e := (List.map_inj_right (fun x y h => by injection h)).mp e
    subst e
    refine ⟨b, by omega, f.1.length - 1, st, _, by rw [List.length_drop, hml]; omega, ?_, n3, hbq, ?_⟩
    · rw [show f.1.length - 1 + 1 = f.1.length by omega, hs]; exact w1
    · rw [zj2 (hok f hf) hp hs h2 hq hbq (by omega)]; exact hx
theorem znz {g : PH} {T : Tb} {fs xs : List Form} (R : Rep g T fs xs) (hok : ∀ f ∈ fs, FormOk f) {ns : List Int} (hp : ∀ n ∈ ns, 1 ≤ n ∧ n ≤ 255) {ms : List Int} (hms : TopsAre (sliceV (topsRows fs ns) (some 1) (some (ns.length + 2))) ms) {p : Nat} (h1 : 1 ≤ p) (h2 : p + 1 ≤ ns.length) :
    (gapsOf T.lk (numOf T.lk fs) ns).getD p 0 = ms.getD p 0 := by
  have hml : ([0] ++ ns ++ [0] : List Int).length = ns.length + 2 := by simp
  have e1 : (gapsOf T.lk (numOf T.lk fs) ns).getD p 0 = (gapOut T.lk (numOf T.lk fs) ([0] ++ ns ++ [0]) (ns.length + 2)).getD (p + 1) 0 := by
    unfold gapsOf
    rw [List.getD_eq_getElem?_getD, zee, if_pos (by omega), List.getD_eq_getElem?_getD, Nat.add_comm 1 p]
  rw [e1]
  have hrl : (topsRows fs ns).length = ns.length + 3 := by unfold topsRows; rw [zgc]; simp
  have hlm : ms.length = ns.length + 1 := by
    rw [hms.1]; exact zek hrl
  obtain ⟨M, hM⟩ : ∃ M, ms[p]? = some M := ⟨_, List.getElem?_eq_getElem (by omega)⟩
  obtain ⟨row, hrow⟩ : ∃ row, (topsRows fs ns)[p + 1]? = some row := ⟨_, List.getElem?_eq_getElem (by omega)⟩
  have hs : (sliceV (topsRows fs ns) (some 1) (some (ns.length + 2)))[p]? = some row := by rw [zee, if_pos (by omega), Nat.add_comm 1 p]; exact hrow
  obtain ⟨t1, t2⟩ := hms.2 p row M hs hM
  have hmem : ∀ x, x ∈ row ↔ x = 0 ∨ ∃ f ∈ fs, ∃ b, b < ns.length + 3 - f.1.length ∧ HitAt ([0] ++ ns ++ [0]) f b (p + 1) x := fun x => by
    have := ziz (fs := fs) (ns := ns) (q := p + 1) (x := x) (fun f hf => (hok f hf).nlen.1) (by omega)
    rw [List.getD_eq_getElem?_getD, hrow] at this
    exact this
  obtain ⟨⟨a1, a2⟩, a3⟩ := zg2 (lk := T.lk) (num := numOf T.lk fs) (marks := [0] ++ ns ++ [0]) (q := p + 1) (by omega) (ns.length + 2)
  have hsame := zlz R hok hp (q := p + 1) (by omega) h2
  have e2 : ms.getD p 0 = M := by rw [List.getD_eq_getElem?_getD, hM]; rfl
  rw [e2]
  refine Int.le_antisymm (t2 _ ((hmem _).mpr ?_)) ?_
  · rcases a3 with a3 | a3
    · exact .inl a3
    · exact .inr ((hsame _).mp a3)
  · rcases (hmem _).mp t1 with h | h
    · rw [h]; exact a1
    · obtain ⟨b, hb, ht⟩ := (hsame _).mpr h
      exact a2 b _ hb ht
theorem zii : ∀ (k : Nat) {l1 l2 : List Int}, l1.length ≤ k → (∀ n ∈ l1, 1 ≤ n ∧ n ≤ 255) → (∀ n ∈ l2, 1 ≤ n ∧ n ≤ 255) → keyOf l1 = keyOf l2 → l1 = l2
  | k, l1, l2, hk, h1, h2, e => by
    have key0 : ∀ {l : List Int}, (∀ n ∈ l, 1 ≤ n ∧ n ≤ 255) → 0 ≤ keyOf l := by
      intro l
      induction hl : l.length generalizing l with
      | zero => intro _; rw [List.length_eq_zero_iff.mp hl]; decide
      | succ n ih =>
        intro hp
        rcases List.eq_nil_or_concat l with rfl | ⟨a, x, rfl⟩
        · decide
        · simp only [List.concat_eq_append] at *
          rw [zda]
          have := ih (l := a) (by simpa using hl) (fun n hn => hp n (by simp [hn]))
          have := hp x (by simp)
          omega
    rcases List.eq_nil_or_concat l1 with rfl | ⟨a, x, rfl⟩
    · rcases List.eq_nil_or_concat l2 with rfl | ⟨b, y, rfl⟩
      · rfl
      · simp only [List.concat_eq_append] at *
        rw [zda] at e
        have := key0 (l := b) (fun n hn => h2 n (by simp [hn]))
        have := h2 y (by simp)
        have e : (0 : Int) = 256 * keyOf b + y := e
        omega
    · rcases List.eq_nil_or_concat l2 with rfl | ⟨b, y, rfl⟩
      · simp only [List.concat_eq_append] at *
        rw [zda] at e
        have := key0 (l := a) (fun n hn => h1 n (by simp [hn]))
        have := h1 x (by simp)
        have e : 256 * keyOf a + x = (0 : Int) := e
        omega
      · simp only [List.concat_eq_append] at *
        rw [zda, zda] at e
        have hx := h1 x (by simp)
        have hy := h2 y (by simp)
        have e1 : keyOf a = keyOf b := by omega
        have e2 : x = y := by omega
        cases k with
        | zero => simp at hk
        | succ k =>
          have := zii k (l1 := a) (l2 := b) (by simp at hk; omega) (fun n hn => h1 n (by simp [hn])) (fun n hn => h2 n (by simp [hn])) e1
          rw [this, e2]
noncomputable def WordsOk (xs : List (List Int × List Int)) : Prop := ∀ x ∈ xs, (∀ n ∈ x.1, 1 ≤ n ∧ n ≤ 255) ∧ ∃ p : Int → Bool, x.2 = ((List.range (x.1.length + 1)).map fun (i : Nat) => (i : Int)).filter p
theorem zjm {xs : List (List Int × List Int)} (hw : WordsOk xs) {ns : List Int} (hp : ∀ n ∈ ns, 1 ≤ n ∧ n ≤ 255) : elook xs (keyOf ns) = xlook xs ns := by
  unfold elook xlook
  congr 1
  induction xs with
  | nil => rfl
  | cons x r ih =>
    rw [List.find?_cons, List.find?_cons]
    have h1 := (hw x (.head _)).1
    have e : decide (keyOf x.1 = keyOf ns) = decide (x.1 = ns) := by
      by_cases h : x.1 = ns
      · rw [h]; simp
      · rw [decide_eq_false h, decide_eq_false (fun e => h (zii _ (Nat.le_refl _) h1 hp e))]
    rw [e, ih (fun y hy => hw y (.tail _ hy))]
theorem zmv {xs : List (List Int × List Int)} (hw : WordsOk xs) {ns st : List Int} (h : xlook xs ns = some st) : ∃ p : Int → Bool, st = ((List.range (ns.length + 1)).map fun (i : Nat) => (i : Int)).filter p := by
  unfold xlook at h
  obtain ⟨x, hx, rfl⟩ := Option.map_eq_some_iff.mp h
  have hm := List.mem_of_find?_eq_some hx
  have hp := List.find?_some hx
  simp only [decide_eq_true_eq] at hp
  have := (hw x hm).2
  rw [hp] at this
  exact this
theorem zf8 : ∀ (n : Nat) {fi las : Int}, 0 ≤ fi → las ≤ n → ((List.range (n + 1)).map fun (i : Nat) => (i : Int)).filter (fun p => decide (fi ≤ p) && decide (p ≤ las)) = (List.range (las + 1 - fi).toNat).map fun (i : Nat) => fi + (i : Int)
  | 0, fi, las, h0, h1 => by
    by_cases h : fi = 0 ∧ las = 0
    · obtain ⟨rfl, rfl⟩ := h; rfl
    · have e : (las + 1 - fi).toNat = 0 := by omega
      rw [e]
      have : (decide (fi ≤ 0) && decide (0 ≤ las)) = false := by
        rw [Bool.and_eq_false_iff]
        by_cases h2 : fi ≤ 0
        · exact .inr (decide_eq_false (by omega))
        · exact .inl (decide_eq_false h2)
      show [((0 : Nat) : Int)].filter _ = _
      rw [List.filter_cons_of_neg (by simp only [Int.natCast_zero] at *; rw [this]; decide)]
      rfl
  | n + 1, fi, las, h0, h1 => by
    rw [List.range_succ, List.map_append, List.filter_append]
    by_cases hl : las = n + 1
    · by_cases hf : fi ≤ n + 1
      · have ih := zf8 n (fi := fi) (las := n) h0 (Int.le_refl _)
        have e1 : ((List.range (n + 1)).map fun (i : Nat) => (i : Int)).filter (fun p => decide (fi ≤ p) && decide (p ≤ las)) = ((List.range (n + 1)).map fun (i : Nat) => (i : Int)).filter (fun p => decide (fi ≤ p) && decide (p ≤ (n : Int))) := by
          refine List.filter_congr fun p hp => ?_
          obtain ⟨i, hi, rfl⟩ := List.mem_map.mp hp
          have := List.mem_range.mp hi
          congr 1
          rw [decide_eq_true (show (i : Int) ≤ las by omega), decide_eq_true (show (i : Int) ≤ n by omega)]
        rw [e1, ih]
        have e2 : (las + 1 - fi).toNat = ((n : Int) + 1 - fi).toNat + 1 := by omega
        rw [e2, List.range_succ, List.map_append]
        congr 1
        show [((n + 1 : Nat) : Int)].filter _ = [fi + ((((n : Int) + 1 - fi).toNat : Nat) : Int)]
        rw [List.filter_cons_of_pos (by simp; omega)]
        simp only [List.filter_nil, List.cons.injEq, and_true]
        omega
      · have ih := zf8 n (fi := fi) (las := n) h0 (Int.le_refl _)
        have e1 : ((List.range (n + 1)).map fun (i : Nat) => (i : Int)).filter (fun p => decide (fi ≤ p) && decide (p ≤ las)) = [] := by
          rw [List.filter_eq_nil_iff]
          intro p hp
          obtain ⟨i, hi, rfl⟩ := List.mem_map.mp hp
          have := List.mem_range.mp hi
          simp; omega
        rw [e1]
        have e2 : (las + 1 - fi).toNat = 0 := by omega
        rw [e2]
        show [] ++ [((n + 1 : Nat) : Int)].filter _ = _
        rw [List.filter_cons_of_neg (by simp; omega)]; rfl
    · have ih := zf8 n (fi := fi) (las := las) h0 (by omega)
      rw [ih]
      show _ ++ [((n + 1 : Nat) : Int)].filter _ = _
      rw [List.filter_cons_of_neg (by simp; omega)]
      simp
theorem zft {g : PH} {T : Tb} {fs xs : List Form} (R : Rep g T fs xs) (hok : ∀ f ∈ fs, FormOk f) (hw : WordsOk xs) {ns out : List Int} (hp : ∀ n ∈ ns, 1 ≤ n ∧ n ≤ 255) {l r : Int} (hd : DueIs fs xs ns l r out) :
    pointsL T.lk (numOf T.lk fs) (elook xs) ns l r = out := by
  have hp' : ∀ n ∈ ns.take 63, 1 ≤ n ∧ n ≤ 255 := fun n hn => hp n (List.mem_of_mem_take hn)
  unfold DueIs at hd
  unfold pointsL
  simp only
  generalize ns.take 63 = wd at hd hp'
  rw [zjm hw hp']
  have elo : max 1 (min 63 l) = dueLo l := zk2 l
  have hlo : 1 ≤ dueLo l ∧ dueLo l ≤ 63 := zcy l
  have hr : 1 ≤ min (max r 1) 63 := (zcy r).1
  have ecnt : ((wd.length : Int) - min (max r 1) 63 + 1 - dueLo l).toNat = dueCnt wd.length l r := rfl
  rw [elo, zk2 r]
  generalize min (max r 1) 63 = mr at ecnt hr ⊢
  have hbd : ∀ {i : Nat}, i < dueCnt wd.length l r → dueLo l + (i : Int) ≤ wd.length ∧ ∃ p : Nat, dueLo l + (i : Int) = p ∧ 1 ≤ p ∧ p + 1 ≤ wd.length := fun {i} hi => by
    rw [← ecnt] at hi
    have h1 : dueLo l + (i : Int) ≤ wd.length := by omega
    exact ⟨h1, (dueLo l + (i : Int)).toNat, by omega, by omega, by omega⟩
  rcases hd with ⟨st, hx, rfl⟩ | ⟨hx, ms, hms, rfl⟩
  · rw [hx]
    simp only
    obtain ⟨p, rfl⟩ := zmv hw hx
    unfold ptsF insOf
    rw [List.filter_filter]
    have e1 : (fun a => (decide (dueLo l ≤ a) && decide (a ≤ (wd.length : Int) - mr)) && p a) = fun a => p a && (decide (dueLo l ≤ a) && decide (a ≤ (wd.length : Int) - mr)) := by
      funext a; exact Bool.and_comm _ _
    rw [e1, ← List.filter_filter, zf8 wd.length (Int.le_trans (by decide) hlo.1) (Int.sub_le_self _ (Int.le_trans (by decide) hr)), ecnt]
    refine List.filter_congr fun x hx => ?_
    obtain ⟨i, hi, rfl⟩ := List.mem_map.mp hx
    obtain ⟨-, q, hq, h1, h2⟩ := hbd (List.mem_range.mp hi)
    rw [hq, Bool.eq_iff_iff, List.any_eq_true]
    constructor
    · intro h
      exact ⟨_, List.mem_filter.mpr ⟨List.mem_map.mpr ⟨q, List.mem_range.mpr (Nat.lt_succ_of_lt h2), rfl⟩, h⟩, by simp⟩
    · rintro ⟨y, hy, e⟩
      have := (List.mem_filter.mp hy).2
      rw [beq_iff_eq] at e
      rw [← e]; exact this
  · rw [hx]
    simp only
    rw [ecnt]
    unfold oddsOf
    refine List.filter_congr fun x hx => ?_
    obtain ⟨i, hi, rfl⟩ := List.mem_map.mp hx
    obtain ⟨-, q, hq, h1, h2⟩ := hbd (List.mem_range.mp hi)
    rw [hq, Int.toNat_natCast, znz R hok hp' hms h1 h2]
end
noncomputable abbrev Tb.led (T : Tb) (w : World) (ρ : Led) : Led := (T.tb, IC 185 T.dx) :: (T.dx, AC [("links", .ref T.la), ("numbers", .ref T.na), ("states", .int T.n), ("exceptions", .ref T.ea)]) :: (T.la, DC w (T.lk.map vI)) :: (T.na, DC w T.nk) :: (T.ea, DC w T.ek) :: ρ
theorem zdu {l : List (Str × V)} {name : Str} {v : V} (h : l.lookup name = none) (y : Str) : (l ++ [(name, v)]).lookup y = if y = name then some v else l.lookup y := by
  induction l with
  | nil =>
    simp only [List.nil_append, List.lookup_cons, List.lookup_nil]
    by_cases e : y = name
    · subst e; simp
    · rw [if_neg e, beq_false_of_ne e]
  | cons p r ih =>
    obtain ⟨x, u⟩ := p
    rw [List.lookup_cons] at h
    simp only [List.cons_append, List.lookup_cons]
    cases q : (name == x) with
    | true => rw [q] at h; cases h
    | false =>
      rw [q] at h
      have := ih h
      by_cases e : y = name
      · subst e; rw [q, if_pos rfl]; simp only; rw [this, if_pos rfl]
      · rw [if_neg e] at this ⊢
        cases (y == x) with
        | true => rfl
        | false => exact this
theorem zk9 {w : World} {G0 : Heap} {Φ : List Addr} {g : PH} {s : Shared} {A : Around} {R : Result → Shared → Prop} {ρ : Led} {x dx : Addr}
    (G : Gd w G0) (I : Inv w G0 Φ g s.heap ((x, IC 185 dx) :: (dx, AC []) :: ρ)) (hroom : Room A 1)
    (k : ∀ la na ea s', (la == sysModules) = false → (na == sysModules) = false → (ea == sysModules) = false → SS w G0 ⟨Φ, s, g, ((x, IC 185 dx) :: (dx, AC []) :: ρ).map Prod.fst⟩ g s' ((x, IC 185 dx) :: (dx, AC [("links", .ref la), ("numbers", .ref na), ("states", .int 1), ("exceptions", .ref ea)]) :: (la, DC w []) :: (na, DC w []) :: (ea, DC w []) :: ρ) → R (.ok (.ret .none)) s') :
    codeAny (model pg w) A (.call (.ref 136) ⟨[.ref x], []⟩) R s := by
  refine zan (vals := [.ref x]) I G.XX G.lim hroom.lt (by exact rfl) (by kernel_rfl) (BindsTo.of_eq rfl) (by decide +kernel) (by decide) (by rfl) ?_
  intro env L s X S Q E hQ hEnd hEr hPO
  dsimp only [mkLoc, zah, zap, zar, zal, zaj, zak, za0] at S
  generalize hK : (⟨Φ, _, g, _⟩ : Kon) = K at S k
  refine zco ?_ (by rfl)
  refine zgo S G fun la s h1 hla S => ?_
  refine r_ev (zae X S ixm0 ixm0) ?_
  refine zea (l' := [("links", .ref la)]) G.XX (zat w) S ixm2 ixv3 (by kernel_rfl) (zah la) (fun y => zdu (l := []) rfl y) (by show 1 ≤ 1000; decide) ?_; walk_at "new"
  refine zco ?_ (by rfl)
  refine zgo S G fun na s h2 hna S => ?_
  refine r_ev (zae X S ixm0 ixm0) ?_
  refine zea (l' := [("links", .ref la), ("numbers", .ref na)]) G.XX (zat w) S ixm3 ixv4 (by kernel_rfl) (zah na) (fun y => zdu (l := [("links", .ref la)]) rfl y) (by show 2 ≤ 1000; decide) ?_; walk_at "new"
  refine zco ?_ (by rfl)
  refine r_ev zac ?_; refine r_ev (zae X S ixm0 ixm0) ?_
  refine zea (l' := [("links", .ref la), ("numbers", .ref na), ("states", .int 1)]) G.XX (zat w) S ixm3 ixv4 (by kernel_rfl) (zap 1 _) (fun y => zdu (l := [("links", .ref la), ("numbers", .ref na)]) rfl y) (by show 3 ≤ 1000; decide) ?_; walk_at "new"
  refine zco ?_ (by rfl)
  refine zgo S G fun ea s h3 hea S => ?_
  refine r_ev (zae X S ixm0 ixm0) ?_
  refine zea (l' := [("links", .ref la), ("numbers", .ref na), ("states", .int 1), ("exceptions", .ref ea)]) G.XX (zat w) S ixm4 ixv5 (by kernel_rfl) (zah ea) (fun y => zdu (l := [("links", .ref la), ("numbers", .ref na), ("states", .int 1)]) rfl y) (by show 4 ≤ 1000; decide) ?_; walk_at "new"
  refine zas ?_
  try with_reducible first | refine hQ _ _ ?_ | refine hEnd _ ?_
  exact k la na ea s hla hna hea (S.selN [5, 5, 4, 3, 2, 0] (by rfl))
theorem St.trans {w : World} {G0 : Heap} {Φ : List Addr} {h₀ h h' : Heap} {g₀ g g' : PH} {C : List Addr} {ℓ ℓ' : Led} (S : St w G0 Φ h₀ g₀ C g h ℓ) (R : St w G0 Φ h g (ℓ.map Prod.fst) g' h' ℓ') : St w G0 Φ h₀ g₀ C g' h' ℓ' := by
  obtain ⟨I, T⟩ := S
  obtain ⟨J, U⟩ := R
  refine ⟨J, ⟨fun a o e hC hΦ => U.kept a o (T.kept a o e hC hΦ) (fun hm => ?_) hΦ, fun b hb o e => ?_, fun b e => T.alive b (U.alive b e), fun b d e => U.gm b d (T.gm b d e), fun b d e => ?_, fun p hp => ?_⟩⟩
  · obtain ⟨c, hc⟩ := zdd hm
    rcases T.ln _ hc with x | x
    · exact hC x
    · rw [e] at x; cases x
  · obtain ⟨sl, x⟩ := T.slots b hb o e
    obtain ⟨sl', y⟩ := U.slots b hb _ x
    exact ⟨sl', y⟩
  · rcases U.gn b d e with x | x
    · exact T.gn b d x
    · exact .inr (T.alive b x)
  · rcases U.ln p hp with x | x
    · obtain ⟨c, hc⟩ := zdd x
      exact T.ln (p.1, c) hc
    · exact .inr (T.alive _ x)
theorem zja {w : World} {G0 : Heap} {Φ : List Addr} {g : PH} {s : Shared} {A : Around} {R : Result → Shared → Prop} {cells : Led}
    (G : Gd w G0) (I : Inv w G0 Φ g s.heap cells) (hroom : Room A 2)
    (k : ∀ T s', Rep g T [] [] → SS w G0 ⟨Φ, s, g, cells.map Prod.fst⟩ g s' (T.led w cells) → R (.ok (.ret (.ref T.tb))) s') :
    codeAny (model pg w) A (.call (.ref 185) ⟨[], []⟩) R s := by
  obtain ⟨hp, gg, dr, tk, os⟩ := s
  have hX : (KK w).In hp := fun a o q => I.stat a o (G.XX a o q)
  refine make_core (makes_of hX (by kernel_rfl)) (looks_findIn hX (show findIn (KK w) (.ref 185) "__init__" = some (some (.ref 136)) by kernel_rfl)) (fun self => bind_fn hX self (by kernel_rfl)) (.inl rfl) ?_
  have S₀ : SS w G0 ⟨Φ, ⟨hp, gg, dr, tk, os⟩, g, cells.map Prod.fst⟩ g ⟨hp, gg, dr, tk, os⟩ cells := ⟨I.start, Same.refl _⟩
  have S₁ := (S₀.push (t := tk) (c := AC []) (o := emptyDict) ⟨#[], 0, rfl, fun e he => (by simp at he), (by exact List.Pairwise.nil), fun x => rfl⟩ rfl)
  have S₂ := (S₁.push (t := tk) (c := IC 185 hp.objs.size) (o := instObj 185 hp.objs.size) rfl rfl)
  rw [Heap.size_push] at S₂
  have hr : Room (A.under (.builtin "type.__call__" ⟨[.ref 185], []⟩)) 1 := by
    refine ⟨hroom.handled, ?_⟩
    have := hroom.depth
    have hw : (Code.builtin "type.__call__" ⟨[.ref 185], []⟩).weight = 1 := by rfl
    show A.depth + (Code.builtin "type.__call__" ⟨[.ref 185], []⟩).weight + 1 < _
    rw [hw]; exact this
  refine zk9 G S₂.st.inv hr fun la na ea s' q1 q2 q3 S' => ⟨rfl, ?_⟩
  try with_reducible first | refine hQ _ _ ?_ | refine hEnd _ ?_
  refine k ⟨hp.objs.size + 1, hp.objs.size, la, na, ea, 1, [], [], []⟩ s' ?_ ?_
  · exact ⟨q1, q2, q3, Trie.nil, fun _ h => by simp at h, fun _ h => by simp at h, fun _ h => by simp at h, fun _ _ h => by simp [lookV] at h, fun _ _ h => by simp [lookV] at h, fun _ _ => rfl, Nat.le_refl _, Nat.le_refl _, Nat.le_refl _⟩
  · exact ⟨S₂.st.trans S'.st, S₂.same.trans S'.same⟩
theorem zjv {f : Form} (h : FormOk f) : wordV ((innerL f.1).map V.int) = true := by
  obtain ⟨core, e1, e2, h1, h2, h3, h4, h5, h6⟩ := h
  have hc0 : ∀ n ∈ core, n ≠ 0 := fun n hn e => by have := (h4 n hn).pos; omega
  obtain ⟨x, core', rfl⟩ := List.exists_cons_of_ne_nil h2
  have hx := hc0 x (.head _)
  have hlast : (x :: core').getLast? ≠ some 0 := fun e => hc0 0 (List.mem_of_getLast? e) rfl
  have key : innerL f.1 = x :: core' := by
    rw [h1]
    unfold innerL sliceV beginOf endOf beginOf
    cases e1 <;> cases e2
    · simp only [Bool.false_eq_true, if_false, List.nil_append, List.append_nil, List.head?_cons, Option.some.injEq, hx, hlast, and_false, Option.getD_some, List.take_length, List.drop_zero]
    · have e : ((x :: core') ++ [(0 : Int)]).getLast? = some 0 := List.getLast?_concat
      simp only [Bool.false_eq_true, if_false, if_true, List.nil_append]
      rw [e]
      simp [hx]
    · have e : ([(0 : Int)] ++ (x :: core')).getLast? ≠ some 0 := by
        rw [List.getLast?_append]; cases q : (x :: core').getLast? with
        | none => simp at q
        | some z => rw [q] at hlast; simpa using hlast
      simp only [Bool.false_eq_true, if_false, if_true, List.append_nil]
      simp [e]
      rw [if_neg hlast]
      simp
    · have e : ([(0 : Int)] ++ (x :: core') ++ [0]).getLast? = some 0 := List.getLast?_concat
      simp only [if_true]
      rw [e]
      simp
  rw [key]
  unfold wordV
  simp only [List.map_cons, List.isEmpty_cons, Bool.not_false, Bool.true_and, List.all_eq_true]
  intro v hv
  rw [← List.map_cons] at hv
  obtain ⟨n, hn, rfl⟩ := List.mem_map.mp hv
  have := (h4 n hn).pos
  simp [wholeV]; exact this
theorem FormOk.range {f : Form} (h : FormOk f) : LetR f.1 := fun n hn => by
  rcases h.let n hn with h | h
  · omega
  · have := h.pos; omega
theorem FormOk.pat {f : Form} (h : FormOk f) : patOk (f.1.map V.int) (f.2.map V.int) :=
  ⟨f.1, f.2, rfl, rfl, h.range, zjv h, by have := h.len; omega, h.nlen.1, h.nlen.2⟩
section
variable {w : World} {G0 : Heap} {Φ : List Addr} {g : PH} {s : Shared} {A : Around} {R : Result → Shared → Prop} {outer : List Env} {ρ : Led} {T : Tb} {fs : List Form} {xs : List (List Int × List Int)} {a1 a2 : Addr} {c1 c2 : Cell} {f : Form}
theorem zoe (G : Gd w G0) (K₀ : Stk A outer Φ) (P : Rep g T fs xs) (I : Inv w G0 Φ g s.heap (T.led w ρ)) (hroom : Room A 4) (hf : FormOk f) (hfl : fs.length ≤ 1000)
    (hr1 : Rd g ρ a1 c1) (hc1 : SeqC c1 (f.1.map V.int)) (hr2 : Rd g ρ a2 c2) (hc2 : SeqC c2 (f.2.map V.int))
    (k : (∀ h ∈ fs, h.1 ≠ f.1) → ∀ T' g' s', T'.tb = T.tb → g.le g' → Rep g' T' (fs ++ [f]) xs → SS w G0 ⟨Φ, s, g, (T.led w ρ).map Prod.fst⟩ g' s' (T'.led w ρ) → R (.ok (.ret .none)) s')
    (kx : (∃ h ∈ fs, h.1 = f.1) → ∀ e s', FlyS w G0 outer 57 e ⟨Φ, s, g, (T.led w ρ).map Prod.fst⟩ g s' (T.led w ρ) → R (.error (.ref e)) s') :
    codeAny (model pg w) A (.call (.ref 150) ⟨[.ref T.tb, .ref a1, .ref a2], []⟩) R s := by
  have hlen := hf.len
  have hn := hf.nlen
  have hlk := P.lkl
  have hnk := P.nkl
  refine zle G K₀ P.sla P.sna I hroom hr1 hc1 hr2 hc2 za8 za8 (by (rw [List.length_map, sizeLine_eq]; omega)) (by (rw [List.length_map, sizeLine_eq]; omega)) P.pos (by (rw [sizeLine_eq]; omega)) (by (rw [sizeLine_eq]; exact Nat.le_trans hnk (Nat.le_trans hfl (by decide))))
    (fun ns ms ta s' e1 e2 hp hk hta S => ?_) (fun hb e s' F => ?_)
  · obtain rfl := zaq e1
    obtain rfl := zaq e2
    have hg : g ta = none := by
      cases q : g ta with
      | none => rfl
      | some c => exact absurd hta (I.facts ta c q).live
    try with_reducible first | refine hQ _ _ ?_ | refine hEnd _ ?_
    refine k (fun h hh e => ?_) (T.added f.1 ta) _ s' rfl (PH.le_set hg) (P.add hf.range (by omega) hn.1 hk (PH.le_set hg) PH.set_self) S
    have := (P.known hf.range).mpr ⟨h, hh, e⟩
    rw [hk] at this; cases this
  · refine kx ?_ e s' F
    rcases hb with hb | ⟨ns, e1, hk⟩
    · exact absurd hf.pat hb
    · obtain rfl := zaq e1
      exact (P.known hf.range).mp hk
theorem zir {x : Str} {tx : Tok} {q : Bool} (G : Gd w G0) (K₀ : Stk A outer Φ) (P : Rep g T fs xs) (I : Inv w G0 Φ g s.heap (T.led w ρ)) (hroom : Room A 5) (hf : FormOk f) (hfl : fs.length ≤ 1000)
    (hx : patRead x.cps.toList = some (f.1, f.2, q)) (hxl : x.cps.toList.length ≤ 1000)
    (k : (∀ h ∈ fs, h.1 ≠ f.1) → ∀ T' g' s', T'.tb = T.tb → g.le g' → Rep g' T' (fs ++ [f]) xs → SS w G0 ⟨Φ, s, g, (T.led w ρ).map Prod.fst⟩ g' s' (T'.led w ρ) → R (.ok (.ret .none)) s')
    (kx : (∃ h ∈ fs, h.1 = f.1) → ∀ e s', FlyS w G0 outer 57 e ⟨Φ, s, g, (T.led w ρ).map Prod.fst⟩ g s' (T.led w ρ) → R (.error (.ref e)) s') :
    codeAny (model pg w) A (.call (.ref 157) ⟨[.ref T.tb, .str x tx], []⟩) R s := by
  have hlen := hf.len
  have hn := hf.nlen
  have hlk := P.lkl
  have hnk := P.nkl
  refine zg3 G K₀ P.sla P.sna I hroom (by (rw [sizeLine_eq]; omega)) P.pos (by (rw [sizeLine_eq]; omega)) (by (rw [sizeLine_eq]; exact Nat.le_trans hnk (Nat.le_trans hfl (by decide))))
    (fun p ta s' e hp hk hta S => ?_) (fun hb e s' F => ?_)
  · rw [hx] at e
    cases e
    have hg : g ta = none := by
      cases q : g ta with
      | none => rfl
      | some c => exact absurd hta (I.facts ta c q).live
    try with_reducible first | refine hQ _ _ ?_ | refine hEnd _ ?_
    refine k (fun h hh e => ?_) (T.added f.1 ta) _ s' rfl (PH.le_set hg) (P.add hf.range (by omega) hn.1 hk (PH.le_set hg) PH.set_self) S
    have := (P.known hf.range).mpr ⟨h, hh, e⟩
    have hk : knownS T.lk T.nk f.1 = false := hk
    rw [hk] at this; cases this
  · refine kx ?_ e s' F
    rcases hb with hb | ⟨p, e1, hb⟩
    · rw [hx] at hb; cases hb
    · rw [hx] at e1
      cases e1
      rcases hb with hb | hk
      · exact absurd hf.pat hb
      · exact (P.known hf.range).mp hk
end
noncomputable def WordR (ns : List Int) : Prop := ns ≠ [] ∧ ns.length ≤ 63 ∧ ∀ n ∈ ns, 1 ≤ n ∧ n ≤ 255
noncomputable def StandsOk (n : Nat) (st : List Int) : Prop := ∃ p : Int → Bool, st = ((List.range (n + 1)).map fun (i : Nat) => (i : Int)).filter p
theorem WordR.wordV {ns : List Int} (h : WordR ns) : wordV (ns.map V.int) = true := by
  obtain ⟨h1, h2, h3⟩ := h
  unfold Mine.wordV
  obtain ⟨x, r, rfl⟩ := List.exists_cons_of_ne_nil h1
  simp only [List.map_cons, List.isEmpty_cons, Bool.not_false, Bool.true_and, List.all_eq_true]
  intro v hv
  rw [← List.map_cons] at hv
  obtain ⟨n, hn, rfl⟩ := List.mem_map.mp hv
  have := h3 n hn
  simp [wholeV]; exact this
theorem StandsOk.rng {n : Nat} {st : List Int} (h : StandsOk n st) : ∀ q ∈ st, 0 ≤ q ∧ q ≤ n := by
  obtain ⟨p, rfl⟩ := h
  intro q hq
  obtain ⟨i, hi, rfl⟩ := List.mem_map.mp (List.mem_filter.mp hq).1
  have := List.mem_range.mp hi
  omega
theorem StandsOk.exV {n : Nat} {st qs : List Int} (h : StandsOk n st) (hq : ∀ x, x ∈ qs ↔ x ∈ st) : exV n qs = st := by
  obtain ⟨p, rfl⟩ := h
  unfold Mine.exV
  refine List.filter_congr fun x hx => ?_
  rw [Bool.eq_iff_iff, List.any_eq_true]
  constructor
  · rintro ⟨y, hy, e⟩
    have := (List.mem_filter.mp ((hq y).mp hy)).2
    rw [beq_iff_eq] at e; rw [← e]; exact this
  · intro hp
    exact ⟨x, (hq x).mpr (List.mem_filter.mpr ⟨hx, hp⟩), by simp⟩
theorem StandsOk.len {n : Nat} {st : List Int} (h : StandsOk n st) : st.length ≤ n + 1 := by
  obtain ⟨p, rfl⟩ := h
  exact Nat.le_trans (List.length_filter_le _ _) (by simp)
section
variable {w : World} {G0 : Heap} {Φ : List Addr} {g : PH} {s : Shared} {A : Around} {R : Result → Shared → Prop} {outer : List Env} {ρ : Led} {T : Tb} {fs : List Form} {xs : List (List Int × List Int)} {a1 a2 : Addr} {c1 c2 : Cell} {ns st qs : List Int}
theorem znv (G : Gd w G0) (K₀ : Stk A outer Φ) (P : Rep g T fs xs) (I : Inv w G0 Φ g s.heap (T.led w ρ)) (hroom : Room A 4) (hw : WordR ns) (hst : StandsOk ns.length st) (hq : ∀ x, x ∈ qs ↔ x ∈ st) (hql : qs.length ≤ 1000) (hxl : xs.length ≤ 1000)
    (hr1 : Rd g ρ a1 c1) (hc1 : SeqC c1 (ns.map V.int)) (hr2 : Rd g ρ a2 c2) (hc2 : SeqC c2 (qs.map V.int))
    (k : ∀ T' g' s', T'.tb = T.tb → g.le g' → Rep g' T' fs ((ns, st) :: xs) → SS w G0 ⟨Φ, s, g, (T.led w ρ).map Prod.fst⟩ g' s' (T'.led w ρ) → R (.ok (.ret .none)) s') :
    codeAny (model pg w) A (.call (.ref 162) ⟨[.ref T.tb, .ref a1, .ref a2], []⟩) R s := by
  have hek := P.ekl
  have hok : excOk (ns.map V.int) (qs.map V.int) := ⟨ns, qs, rfl, rfl, hw.wordV, hw.2.1, fun q h => hst.rng q ((hq q).mp h)⟩
  refine zc5 G K₀ I hroom hr1 hc1 hr2 hc2 za8 za8 (by have := hw.2.1; rw [List.length_map, sizeLine_eq]; exact Nat.le_trans this (by decide)) (zdl (m := 1000) hql (by decide)) (by (rw [sizeLine_eq]; exact Nat.le_trans hek (Nat.le_trans hxl (by decide))))
    (fun ns' qs' ta s' e1 e2 hp hta S => ?_) (fun hb e s' F => absurd hok hb)
  obtain rfl := zaq e1
  obtain rfl := zaq e2
  have hg : g ta = none := by
    cases q : g ta with
    | none => rfl
    | some c => exact absurd hta (I.facts ta c q).live
  rw [hst.exV hq] at S
  try with_reducible first | refine hQ _ _ ?_ | refine hEnd _ ?_
  exact k (T.barred ns ta) _ s' rfl (PH.le_set hg) (P.bar (by have := hst.len; have := hw.2.1; omega) (PH.le_set hg) PH.set_self) S
theorem zkg {x : Str} {tx : Tok} (G : Gd w G0) (K₀ : Stk A outer Φ) (P : Rep g T fs xs) (I : Inv w G0 Φ g s.heap (T.led w ρ)) (hroom : Room A 5) (hw : WordR ns) (hst : StandsOk ns.length st) (hxl : xs.length ≤ 1000)
    (hx : excRead x.cps.toList = (ns, st)) (hxs : x.cps.toList.length ≤ 1000)
    (k : ∀ T' g' s', T'.tb = T.tb → g.le g' → Rep g' T' fs ((ns, st) :: xs) → SS w G0 ⟨Φ, s, g, (T.led w ρ).map Prod.fst⟩ g' s' (T'.led w ρ) → R (.ok (.ret .none)) s') :
    codeAny (model pg w) A (.call (.ref 169) ⟨[.ref T.tb, .str x tx], []⟩) R s := by
  have hek := P.ekl
  have hok : excOk ((excRead x.cps.toList).1.map V.int) ((excRead x.cps.toList).2.map V.int) := by
    rw [hx]; exact ⟨ns, st, rfl, rfl, hw.wordV, hw.2.1, fun q h => hst.rng q h⟩
  refine zg5 G K₀ I hroom (by (rw [sizeLine_eq]; omega)) (by (rw [sizeLine_eq]; exact Nat.le_trans hek (Nat.le_trans hxl (by decide))))
    (fun ta s' hp hta S => ?_) (fun hb e s' F => absurd hok hb)
  have hg : g ta = none := by
    cases q : g ta with
    | none => rfl
    | some c => exact absurd hta (I.facts ta c q).live
  rw [hx] at S
  simp only at S
  rw [hst.exV (fun x => Iff.rfl)] at S
  try with_reducible first | refine hQ _ _ ?_ | refine hEnd _ ?_
  exact k (T.barred ns ta) _ s' rfl (PH.le_set hg) (P.bar (by have := hst.len; have := hw.2.1; omega) (PH.le_set hg) PH.set_self) S
theorem zfj {args : Args} {left right : Value} {l r : Int} (G : Gd w G0) (K₀ : Stk A outer Φ) (P : Rep g T fs xs) (I : Inv w G0 Φ g s.heap (T.led w ρ)) (hroom : Room A 5) (hargs : PtsBinds w s args [.ref T.tb, .ref a1, left, right])
    (hne : ns ≠ []) (hp : ∀ n ∈ ns, 1 ≤ n ∧ n ≤ 255) (hnl : ns.length ≤ 1000) (hr1 : Rd g ρ a1 c1) (hc1 : SeqC c1 (ns.map V.int)) (hl : V.of left = .int l) (hrt : V.of right = .int r)
    (k : ∀ rr s', s.heap.get? rr = none → SS w G0 ⟨Φ, s, g, (T.led w ρ).map Prod.fst⟩ g s' ((rr, .list ((pointsL T.lk (numOf T.lk fs) (elook xs) ns l r).map V.int)) :: T.led w ρ) → R (.ok (.ret (.ref rr))) s') :
    codeAny (model pg w) A (.call (.ref 182) args) R s := by
  have hw : Mine.wordV (ns.map V.int) = true := by
    unfold Mine.wordV
    obtain ⟨x, q, rfl⟩ := List.exists_cons_of_ne_nil hne
    simp only [List.map_cons, List.isEmpty_cons, Bool.not_false, Bool.true_and, List.all_eq_true]
    intro v hv
    rw [← List.map_cons] at hv
    obtain ⟨n, hn, rfl⟩ := List.mem_map.mp hv
    have := hp n hn
    simp [wholeV]; exact this
  refine zgq G K₀ P.sla P.sna P.sea I hroom hargs (.inr ⟨rfl, hr1, hc1, za8, by rw [List.length_map, sizeLine_eq]; exact Nat.le_trans hnl (by decide)⟩) (.inl (.inl ⟨l, hl⟩)) (.inl (.inl ⟨r, hrt⟩)) P.pos P.num P.nonum P.dep P.exc P.enone
    (fun ns' l' r' rr s' e1 _ e2 e3 hrr S => ?_) (fun hb e s' F => ?_)
  · obtain rfl := zaq e1
    rw [hl] at e2; cases e2
    rw [hrt] at e3; cases e3
    try with_reducible first | refine hQ _ _ ?_ | refine hEnd _ ?_
    exact k rr s' hrr S
  · rcases hb with hb | hb | hb
    · rw [hw] at hb; cases hb
    · exact absurd hl (hb l)
    · exact absurd hrt (hb r)
end
theorem zdo {cl : List (Str × Addr)} {names : List (Str × NameKind)} (h : names.all (fun p => !(p.2 == .free) || (cl.lookup p.1).isSome) = true) : closAll cl names := fun p hp hf => by
  have := List.all_eq_true.mp h p hp
  rw [hf] at this
  simpa using this
theorem ze1 {w : World} {G0 : Heap} {Φ : List Addr} {g : PH} {s : Shared} {A : Around} {R : Result → Shared → Prop} {cells : Led} {f c' : Addr} {name qual : Str} {params : Arguments} {body : Expr} {scope : Scope} {clos : List (Str × Addr)} {pm ctv : Value}
    (G : Gd w G0) (I : Inv w G0 Φ g s.heap cells) (hroom : Room A 1) (hf : g f = some (.raw (kla_obj name qual params body scope clos pm c' ctv))) (hc : g c' = some (.opq (IsCodeRec qual)))
    (hbind : bindArgs (kla_fn name qual params body scope clos pm (.ref c') ctv) ⟨[], []⟩ = pure []) (hnm : NamesOk scope.names) (hcell : scope.names.all (fun p => !(p.2 == .cell)) = true) (hk : scope.kind = .function) (hco : scope.isCoroutine = false) (hgen : scope.isGenerator = false) (hcl : (clos.map Prod.fst).Nodup)
    (k : ∀ env L s₁, EnvOk env L (some L) scope.names clos → SS w G0 ⟨Φ, s, g, cells.map Prod.fst⟩ g s₁ ((L, .ns []) :: cells) →
      ∀ (Q : Value → Shared → Prop) (E : Value → Shared → Prop), (∀ v s', R (.ok (.ret v)) s' → Q v s') →
        (∀ e s', wpAny (model pg w) (A.deeper env) (leaving env e) (fun _ s'' => R (.error e) s'') (fun e' s'' => R (.error e') s'') s' → E e s') → PassesOwn (model pg w) (A.deeper env) env E →
        wpAny (model pg w) (A.deeper env) (eval body env) Q E s₁) :
    codeAny (model pg w) A (.call (.ref f) ⟨[], []⟩) R s := by
  obtain ⟨o, ho, rfl⟩ := I.facts _ _ hf
  obtain ⟨oc, hoc, vs, t, hd, hv⟩ := I.facts _ _ hc
  refine kla_callFunE hroom.lt ho rfl hco hgen rfl ⟨c', oc, vs, t, rfl, hoc, hd, hv⟩ ?_
  rw [hbind]
  refine wpAny_pure (wpAny_newFunctionEnv (fun x hx e => ?_) (fun x hx => by simp at hx) (fun h₁ hns hsb => ⟨(G.lim.keeps I.stat).fresh _ hsb, kla_codeExpr ?_⟩) hk)
  · have := List.all_eq_true.mp hcell x hx
    rw [e] at this; cases this
  · try with_reducible first | refine hQ _ _ ?_ | refine hEnd _ ?_
    refine k _ s.heap.objs.size _ ?h0 ?h1 _ _ (fun _ _ h => h) (fun _ _ h => h) (by passes_own)
    case h0 => exact ⟨rfl, hk, rfl, rfl, fun x kk hm => za1 hnm.1 hm, fun x kk hm => hnm.2 _ (List.mem_map_of_mem (f := Prod.fst) hm), fun x c hm => ze5 hcl hm, rfl⟩
    refine ⟨?_, Same.upd _ _ _⟩
    exact St.add I.start (zay _) (fun b o e => hsb.extBut b o (Nat.ne_of_lt (Heap.lt_size e)) (Heap.get?_push_of_some _ e)) (At.of_ns hns (by simp) fun x pv hm => by simp at hm)
noncomputable def All2 {α β : Type} (P : α → β → Prop) (as : List α) (bs : List β) : Prop := as.length = bs.length ∧ ∀ (i : Nat) a b, as[i]? = some a → bs[i]? = some b → P a b
theorem All2.nil {α β : Type} {P : α → β → Prop} : All2 P [] [] := ⟨rfl, fun i a b h => by simp at h⟩
theorem All2.snoc {α β : Type} {P : α → β → Prop} {as : List α} {bs : List β} {a : α} {b : β} (h : All2 P as bs) (hp : P a b) : All2 P (as ++ [a]) (bs ++ [b]) := by
  obtain ⟨hl, h⟩ := h
  refine ⟨by simp [hl], fun i u q h1 h2 => ?_⟩
  rw [List.getElem?_append] at h1 h2
  rw [hl] at h1
  by_cases hi : i < bs.length
  · rw [if_pos hi] at h1 h2; exact h i u q h1 h2
  · rw [if_neg hi] at h1 h2
    cases hk : i - bs.length with
    | zero => rw [hk] at h1 h2; cases h1; cases h2; exact hp
    | succ n => rw [hk] at h1; cases h1
noncomputable def LetAt (g : PH) (v : V) (x : List Int) : Prop := ∃ a, v = .ref a ∧ g a = some (.list (x.map V.int))
theorem zlq {w : World} {G0 : Heap} (G : Gd w G0) : CodeHd G0 233 231 := ⟨_, _, _, _, _, _, _, _, _, G.XX 233 _ rfl, rfl, rfl, rfl, rfl, rfl, rfl, rfl, rfl, by decide⟩
theorem zlj {w : World} {G0 : Heap} (G : Gd w G0) : CodeHd G0 243 241 := ⟨_, _, _, _, _, _, _, _, _, G.XX 243 _ rfl, rfl, rfl, rfl, rfl, rfl, rfl, rfl, rfl, by decide⟩
theorem zmm {w : World} {G0 : Heap} (G : Gd w G0) : CodeHd G0 258 256 := ⟨_, _, _, _, _, _, _, _, _, G.XX 258 _ rfl, rfl, rfl, rfl, rfl, rfl, rfl, rfl, rfl, by decide⟩
structure FilSt where
  g : PH
  o1 : Option V
  o2 : Option V
  o3 : Option V
  ps : Array Value
  T : Tb
  fs : List Form
  vs : List V
  b : Int × Int
  q2 : Option V
  q3 : Option V
  q4 : Option V
theorem FilSt.el {C : FilSt → Prop} (h : ∀ g o1 o2 o3 ps T fs vs b q2 q3 q4, C ⟨g, o1, o2, o3, ps, T, fs, vs, b, q2, q3, q4⟩) (y : FilSt) : C y := h y.g y.o1 y.o2 y.o3 y.ps y.T y.fs y.vs y.b y.q2 y.q3 y.q4
noncomputable def qF : Str := (Str.ofString "_law_filled" ++ Str.ofString ".<locals>.") ++ Str.ofString "<lambda>"
theorem zl5 {w : World} {G0 : Heap} {Φ : List Addr} {g : PH} {s : Shared} {A : Around} {R : Result → Shared → Prop} {outer : List Env} {ρ : Led} {bx : Addr} {b : Int × Int} {ps : Array Value} {T : Tb} {many : Int} {t0 : Tok}
    (GL : Gl w G0) (K₀ : Stk A outer Φ) (I : Inv w G0 Φ g s.heap ((bx, bxC b) :: (231, TabC ps) :: T.led w ρ)) (hroom : Room A 10) (hun : A.units + 60 < cLine) (hb : BoxOk b) (hm1 : 1 ≤ many) (hm2 : many ≤ 7) (TO : TabOk qF g ps) (P : Rep g T [] [])
    (k : ∀ r fa T' fs b' ps' vs g' s', T'.tb = T.tb → g.le g' → TabOk qF g' ps' → Rep g' T' fs [] → FormsAre g' vs fs → (∀ f ∈ fs, FormOk f) → 1 ≤ fs.length → fs.length ≤ 7 → BoxOk b' → s.heap.get? r = none → s.heap.get? fa = none →
      SS w G0 ⟨Φ, s, g, ((bx, bxC b) :: (231, TabC ps) :: T.led w ρ).map Prod.fst⟩ g' s' ((r, .tup [.ref fa, .bool true]) :: (fa, .list vs) :: (bx, bxC b') :: (231, TabC ps') :: T'.led w ρ) → R (.ok (.ret (.ref r))) s') :
    codeAny (model pg w) A (.call (.ref 234) ⟨[.ref bx, .ref T.tb, .int many t0], []⟩) R s := by
  have G := GL.toGd
  have hP231 : G0.get? 231 = none := I.gst (231, TabC ps) (.tail _ (.head _))
  refine zb3 (vals := [.ref bx, .ref T.tb, .int many t0]) I G.XX G.lim hroom.lt (by exact rfl) (by kernel_rfl) (BindsTo.of_eq rfl) (by decide +kernel) (by rfl) ?_
  intro env L s X hE S Q E hQ hEnd hEr hPO
  obtain ⟨hfu, hco, hqu⟩ := hE
  dsimp only [mkLocC, mkCells, mkCl, isCellK, zah, zap, zar, zal, zaj, zak, za0, cond_true, cond_false, List.cons_append, List.nil_append] at S X
  generalize hK : (⟨Φ, _, g, _⟩ : Kon) = K at S k
  generalize L + 1 = c1, L + 1 + 1 = c2, L + 1 + 1 + 1 = c3, L + 1 + 1 + 1 + 1 = c4 at S X
  have K₁ : Stk A outer K.Φ := by rw [← hK]; exact K₀
  have hC := zlq G
  refine zci (G0 := G0) hroom.handled X ixm3 ixm4 ?_ rfl (by decide +kernel) rfl rfl rfl rfl
  refine Tuple_ ?_; refine args_cons ?_ (by rfl); refine List_ ?_; refine zaf zab ?_; refine zbg S sz0 ?_; walk_at "newo"; refine zaf (zaa rfl zbu zab) ?_; refine za2 S sz2 ?_; walk_at "newo"
  rename_i fo hfo
  refine fun Z kZ => kZ _ _ _ _ _ _ rfl S (S.at ixm1).isT fun u1 u2 s e1 e2 S => ?_
  obtain rfl := V.of_ref e1
  obtain rfl := V.of_bool e2
  clear e1 e2
  refine zef X S ixm4 ixu4 ?_; walk_at "new"; refine za5 X S ixm3 ixu3 ?_; walk_at "new"; refine zdn ?_ (by intro _; with_unfolding_all rfl); refine zai X G.XX S zcp (zb2 G) (Callee.ty _) (zaa rfl (zag X S ixm2 ixm2) zab) ?_; refine zbr S ?_; walk_at "newo"
  have S := S.selN (ℓ' := (L, _) :: (231, TabC ps) :: T.led w ((bx, bxC b) :: (fo, .list []) :: (c1, .cell _) :: (c2, .cell _) :: (c3, .cell _) :: (c4, .cell _) :: (aN, .opq (RangeObj 0 many)) :: ρ)) [1, 9, 9, 9, 9, 9, 9, 8, 3, 3, 3, 3, 3, 1, 0] (by rfl)
  refine zce S (ixmt ixm1) (by decide) (by rw [show (2 : Nat) ^ 60 = 1152921504606846976 by decide]; omega) fun it s hnew S => ?_
  rw [Int.sub_zero] at S
  refine zbd (fun i (y : FilSt) => g.le y.g ∧ TabOk qF y.g y.ps ∧ y.T.tb = T.tb ∧ Rep y.g y.T y.fs [] ∧ FormsAre y.g y.vs y.fs ∧ (∀ f ∈ y.fs, FormOk f) ∧ y.fs.length ≤ i ∧ (1 ≤ i → 1 ≤ y.fs.length) ∧ BoxOk y.b) FilSt.g
      (fun _ y => [(("box" : Str), some (V.ref bx)), ("table", none), ("many", some (.int many)), ("forms", some (.ref fo)), ("fair", some (.bool true)), ("turn", y.o1), ("known", y.o2), ("said", y.o3), ("letters", none), ("numbers", none), ("text", none), ("range", none), ("_law_form", none), ("_law_take", none), ("_law_written", none), ("_law_said", none), ("int", none)])
      (fun _ y => (231, TabC y.ps) :: y.T.led w ((bx, bxC y.b) :: (fo, .list y.vs) :: (c1, .cell (some (.ref T.tb))) :: (c2, .cell y.q2) :: (c3, .cell y.q3) :: (c4, .cell y.q4) :: (aN, .opq (RangeObj 0 many)) :: ρ))
      ⟨g, none, none, none, ps, T, [], [], b, none, none, none⟩ hPO hroom.handled hnew S ⟨PH.le.refl g, TO, rfl, P, ⟨rfl, by simp⟩, by simp, Nat.le_refl _, by simp, hb⟩ ?_ ?_ ?_
  · intros; exact trivial
  · intro Q' hL hB hR i; refine FilSt.el ?_; intro g' o1 o2 o3 ps T' fs vs b' q2 q3 q4 v s hP hvi S
    apply zby hvi; intro hilt tv
    dsimp only at hP S
    refine and9 hP fun hgg TO' hTb P' hfs hok hfi hf1 hb' => ?_
    clear hvi
    have hvl : vs.length = fs.length := hfs.1
    refine za3 X S ixm5 ixu5 ?_; walk_at "new"; refine zbq ?_ (by rfl) (by rfl); refine zai X G.XX S (ixmt ixm0) (zjo G) (Callee.fn (by kernel_rfl)) (zaa rfl (zae X S ixm0 ixm0) zab) ?_
    have S := S.selN (ℓ' := (L, _) :: (bx, _) :: (231, TabC ps) :: T'.led w ((it, .opq _) :: (fo, .list _) :: (c1, .cell _) :: (c2, .cell _) :: (c3, .cell _) :: (c4, .cell _) :: (aN, .opq (RangeObj 0 many)) :: ρ)) [1, 8, 2, 2, 2, 2, 2, 2] (by rfl)
    refine wpAny_call (zno G S.enter0 (hroom.deeper.mono (by decide)) hb' fun rt l1 l2 f b1 s' hf hb1 hrt hl1 hl2 S' => ?_)
    have hl1 := S.unborn hl1
    have hl2 := S.unborn hl2
    replace S := S'.ret0 S
    clear S'
    show wpAny _ _ (assign _ env _) _ _ _
    refine zbz hroom.deeper.handled S ((S.at ixm1).isT) fun u1 u2 s e1 e2 S => ?_
    obtain rfl := V.of_ref e1
    obtain rfl := V.of_ref e2
    clear e1 e2
    refine zbt X S ixm8 ixm1 (zah _) (ixvt ixv2) ?_; walk_at "new"; refine zbt X S ixm9 ixm2 (zah _) (ixvt ixv3) ?_; walk_at "new"
    obtain ⟨g2, S, hle2, hgl1, hgl2⟩ := (S.selN (ℓ' := (l1, .list (f.1.map V.int)) :: (l2, .list (f.2.map V.int)) :: (L, _) :: T'.led w ((231, TabC ps) :: (bx, bxC b1) :: (it, _) :: (fo, .list vs) :: (c1, .cell _) :: (c2, .cell _) :: (c3, .cell _) :: (c4, .cell _) :: (aN, .opq (RangeObj 0 many)) :: ρ)) [3, 3, 1, 4, 4, 4, 4, 4, 3, 2, 2, 2, 2, 2, 2, 2, 2, 0] (by rfl)).freeze2 hl1 hl2
    have P2 := P'.mono hle2
    have hfs2 := hfs.mono hle2
    have TO2 := TO'.mono hle2
    have hgg2 := hgg.trans hle2
    rw [← hTb] at S
    clear P' hfs TO' hgg hle2 hvl hl1 hl2 hrt
    have hvl : vs.length = fs.length := hfs2.1
    refine zav ?_ (by rfl)
    refine wpAny_Compare1 ?_; refine r_ev (zad X S (Or.inl ixm8) ixm1 zcp) ?_
    have X0 := X
    refine zcn (G0 := G0) (K := K) (kinds' := [((".0" : Str), .local), ("form", .local)]) (cl' := []) hroom.handled X ⟨rfl, by decide +kernel, by rfl, by exact ixm1, by rfl, by rfl, by rfl⟩ (fun CC hCC => ?_) (by intro _; with_unfolding_all rfl)
    refine r_ev (zae X S ixm3 ixm3) ?_
    refine zc0 S ((S.at ixm9).isL) fun it2 s hnew2 S => ?_
    refine hCC (List V) _ it2 (fun j acc => All2 (fun v (f : Form) => LetAt g2 v f.1) acc (fs.take j)) (fun _ => g2) _ (fun _ acc => acc) (fun _ _ => T'.led w ((231, TabC ps) :: (bx, bxC b1) :: (it, .opq ((Src.rng 0 many.toNat).iter (i + 1))) :: (fo, .list vs) :: (c1, .cell (some (.ref T'.tb))) :: (c2, .cell (some (.ref l1))) :: (c3, .cell (some (.ref l2))) :: (c4, .cell q4) :: (aN, .opq (RangeObj 0 many)) :: ρ)) [] _ ?_ hnew2 S rfl All2.nil ?_ ?_ ?_
    · show vs.length ≤ sizeLine
      rw [sizeLine_eq]; omega
    · intro j acc s C D o _ S
      exact (S.at (ixmt ixm0)).isL
    · intro QY QN hY hNo j acc v s C D cenv hacc hvi X S
      obtain ⟨f0, hf0, t0, la0, lb0, hv, hq1, hq2, hq3⟩ := hfs2.getV hvi
      obtain rfl := V.of_ref hv
      rw [zah] at S
      clear hvi hv
      refine zb4 ?_
      refine zb8 ?_; refine zbb (zae X S ixm1 ixm0) zac ?_
      refine zbc ((S.fact hq1).seq SeqC.ofT) (by show 2 ≤ sizeLine; decide) (by decide) (b := la0) rfl zbi ?_
      exact hY j acc _ C D _ _ _ (by rw [zbl hf0]; exact hacc.snoc ⟨la0, rfl, hq2⟩) rfl S
    intro acc D hacc hD s S
    have elen : (Src.seqL fo vs).vals.length = fs.length := hvl
    rw [elen, List.take_length] at hacc
    refine r_inLL (xs := fs.map Prod.fst) ((S.at ixm1).isL) ⟨by rw [List.length_map]; exact hacc.1, fun j v x h1 h2 => ?_⟩ ((S.fact hgl1).isL) (zd3 4 hun (by decide)) ?_
    · rw [List.getElem?_map] at h2
      obtain ⟨f0, hf0, rfl⟩ := Option.map_eq_some_iff.mp h2
      obtain ⟨a, e, hg⟩ := hacc.2 j v f0 h1 hf0
      exact ⟨a, e, (S.fact hg).isL⟩
    have hkn : ((fs.map Prod.fst).any (· == f.1)) = true ↔ ∃ h ∈ fs, h.1 = f.1 := by
      rw [List.any_eq_true]
      constructor
      · rintro ⟨x, hx, e⟩
        obtain ⟨h, hh, rfl⟩ := List.mem_map.mp hx
        exact ⟨h, hh, by simpa using e⟩
      · rintro ⟨h, hh, e⟩
        exact ⟨h.1, List.mem_map.mpr ⟨h, hh, rfl⟩, by simpa using e⟩
    generalize (fs.map Prod.fst).any (· == f.1) = kn at hkn
    refine zef X S ixm6 ixu6 ?_; walk_at "new"
    have S := S.selN (ℓ' := (L, _) :: T'.led w ((231, TabC ps) :: (bx, bxC b1) :: (it, _) :: (fo, .list vs) :: (c1, .cell _) :: (c2, .cell _) :: (c3, .cell _) :: (c4, .cell _) :: (aN, .opq (RangeObj 0 many)) :: ρ)) [1, 2, 2, 2, 2, 2, 2, 2, 2, 2, 2, 2, 2, 2, 2, 0] (by rfl)
    refine zc4 (fun s => ∀ Z : Prop, (∀ g3 ps3 T3 b3 q4', g2.le g3 → TabOk qF g3 ps3 → T3.tb = T'.tb → Rep g3 T3 (if kn then fs else fs ++ [f]) [] → BoxOk b3 → SS w G0 K g3 s ((L, .ns [(("box" : Str), some (V.ref bx)), ("table", none), ("many", some (.int many)), ("forms", some (.ref fo)), ("fair", some (.bool true)), ("turn", some (.int i)), ("known", some (.bool kn)), ("said", some (.int (if kn then 1 else 0))), ("letters", none), ("numbers", none), ("text", none), ("range", none), ("_law_form", none), ("_law_take", none), ("_law_written", none), ("_law_said", none), ("int", none)]) ::
        T3.led w ((231, TabC ps3) :: (bx, bxC b3) :: (it, .opq ((Src.rng 0 many.toNat).iter (i + 1))) :: (fo, .list vs) :: (c1, .cell (some (.ref T'.tb))) :: (c2, .cell (some (.ref l1))) :: (c3, .cell (some (.ref l2))) :: (c4, .cell q4') :: (aN, .opq (RangeObj 0 many)) :: ρ)) → Z) → Z) (fun J hJ => ?_) ?_
    · refine wpAny_isTrue_Compare1 ?_; refine zai X G.XX S (ixmt ixm1) (za6 G) (Callee.fn (by kernel_rfl)) (zaa rfl (zae X S ixm0 ixm0) (zaa rfl zac zab)) ?_
      have S := S.selN (ℓ' := (L, _) :: (bx, bxC b1) :: T'.led w ((231, TabC ps) :: (it, _) :: (fo, .list vs) :: (c1, .cell _) :: (c2, .cell _) :: (c3, .cell _) :: (c4, .cell _) :: (aN, .opq (RangeObj 0 many)) :: ρ)) [1, 7] (by rfl)
      refine wpAny_call (zb9 G S.enter0 (hroom.deeper.mono (by decide)) hb1 (by decide) (by decide) fun d b2 t s' hd0 hd1 hb2 S' => ?_)
      replace S := S'.ret0 S
      clear S'
      refine r_ev zac ?_; refine PyProof.Rows.eq_int ?_; refine wpAny_truthy_bool ?_
      refine ⟨fun _ => ?_, fun _ => ?_⟩
      · refine zav ?_ (by rfl); refine zai X G.XX S (ixmt ixm2) (zhb G) (Callee.fn (by kernel_rfl)) (zaa rfl (zae X S ixm0 ixm0) (zaa rfl (zad X S (Or.inl ixm8) ixm1 zcp) (zaa rfl (zad X S (Or.inl ixm9) ixm2 (ixmt ixm0)) zab))) ?_
        refine wpAny_call (zkm G S.enter0 (hroom.deeper.mono (by decide)) hb2 hf (.inr hgl1) SeqC.ofL (.inr hgl2) SeqC.ofL fun x b3 q t s' hx hxl hb3 S' => ?_)
        replace S := S'.ret0 S
        clear S'
        refine zbt X S zcf ixm3 (zar _ _) (ixvt ixv1) ?_; walk_at "new"; refine zav ?_ (by rfl); refine Call_ ?_ (by rfl); refine zax X S (ixmt ixm3) (zcv G) ?_; refine callWith_K G.XX (by kernel_rfl) ?_ (by rfl) (by rfl); refine args_cons ?_ (by rfl)
        have S := S.selN (ℓ' := (L, _) :: (231, TabC ps) :: T'.led w ((bx, bxC b3) :: (it, _) :: (fo, .list vs) :: (c1, .cell _) :: (c2, .cell _) :: (c3, .cell _) :: (c4, .cell _) :: (aN, .opq (RangeObj 0 many)) :: ρ)) [1, 7, 2, 2, 2, 2, 2] (by rfl)
        refine zfe GL X hco (qual := qF) (by rw [hqu]; rfl) hC hP231 S TO2 (zdo (by rfl)) (by rfl) fun fl g3 ps3 s pm cc ctv hle3 TO3 hfl hcc S => ?_
        have P3 := P2.mono hle3
        refine zaf zab ?_; refine ⟨S.In G.XX, ?_⟩
        have S := S.selN (ℓ' := (L, _) :: T'.led w ((231, TabC ps3) :: (bx, bxC b3) :: (it, _) :: (fo, .list vs) :: (c1, .cell _) :: (c2, .cell _) :: (c3, .cell _) :: (c4, .cell _) :: (aN, .opq (RangeObj 0 many)) :: ρ)) [1, 2, 2, 2, 2, 2] (by rfl)
        refine wpAny_call (zfl (n := 8) (okP := fun g4 cells' => ∀ Z : Led → Prop, ((∀ h ∈ fs, h.1 ≠ f.1) → ∀ T4, T4.tb = T'.tb → g3.le g4 → Rep g4 T4 (fs ++ [f]) [] → Z (T4.led w ((231, TabC ps3) :: (bx, bxC b3) :: (it, .opq ((Src.rng 0 many.toNat).iter (i + 1))) :: (fo, .list vs) :: (c1, .cell (some (.ref T'.tb))) :: (c2, .cell (some (.ref l1))) :: (c3, .cell (some (.ref l2))) :: (c4, .cell (some (.str x))) :: (aN, .opq (RangeObj 0 many)) :: ρ))) → Z cells') (badP := fun C => C = 57 ∧ ∃ h ∈ fs, h.1 = f.1)
          G (K₁.deeper X) S.enter0 (hroom.deeper.mono (by decide)) hfl ?_ (fun C h => .inl h.1) (fun t g4 cells' s' hok4 S' => ?_) (fun t s' hb4 S' => ?_) (fun t s' hb4 S' => ?_))
        · intro A' outer' Φ' s₁ R' K' hr' I' kok kbad
          refine ze1 G I' (hr'.mono (by decide)) hfl hcc rfl (by decide +kernel) rfl rfl rfl rfl (zc1 _ _ (by decide +kernel) (by simp) (fun _ _ h => by cases h)) ?_
          intro env L s X S Q E hQ hEr hPO
          have X : EnvOk env L (some L) [(("table" : Str), .free), ("text", .free)] [("text", c4), ("table", c1)] := X
          refine methodCall_KW ?_ (by rfl); refine r_ev (zad X S (Or.inr ixm0) ixm1 zcf) ?_; refine zam (f := 157) (name := "add_text") G.XX (zat w) S ixm1 ixm2 (by kernel_rfl) (by kernel_rfl) (by rfl) ?_; refine zbk (KF := KK w) (by kernel_rfl) ?_ (by rfl) (by rfl); refine zaf (zaa rfl (zj7 X S (Or.inr ixm1) ixm0 (ixmt ixm1)) zab) ?_; refine ⟨S.In G.XX, ?_⟩
          refine wpAny_call (zir G (K'.deeper X) P3 S.enter0 (hr'.deeper.mono (by decide)) hf (by omega) hx (Nat.le_trans hxl (by decide)) (fun hne T4 g4 s' hT4 hl4 P4 S' => ?_) (fun hex e s' F => ?_))
          · exact hQ _ _ <| kok _ _ _ _ (fun Z kZ => kZ hne T4 hT4 hl4 P4) ((S'.ret0 S).drop1)
          · exact hEr _ _ <| zbp K' X (F.up0 S) fun s'' F => kbad 57 e s'' ⟨rfl, hex⟩ F
        · revert S'
          apply hok4; intro hne T4 hT4 hl4 P4 S'
          replace S := S'.ret0 S
          clear S'
          have hk0 : kn = false := by
            cases kn with
            | false => rfl
            | true => obtain ⟨h, hh, e⟩ := hkn.mp rfl; exact absurd e (hne h hh)
          subst hk0
          refine za3 X S ixm7 ixu7 ?_; walk_at "new"; refine zas ?_
          exact hJ _ fun Z kZ => kZ g4 ps3 T4 b3 _ (hle3.trans hl4) (TO3.mono hl4) hT4 P4 hb3 S
        · have hk1 : kn = true := hkn.mpr hb4.2
          subst hk1
          replace S := S'.ret0 S
          clear S'
          refine za3 X S ixm7 ixu7 ?_; walk_at "new"; refine zas ?_
          exact hJ _ fun Z kZ => kZ g3 ps3 T' b3 _ hle3 TO3 rfl P3 hb3 S
        · exact absurd hb4.1 (by decide)
      · refine zav ?_ (by rfl); refine Call_ ?_ (by rfl); refine zax X S (ixmt ixm3) (zcv G) ?_; refine callWith_K G.XX (by kernel_rfl) ?_ (by rfl) (by rfl); refine args_cons ?_ (by rfl)
        have S := S.selN (ℓ' := (L, _) :: (231, TabC ps) :: T'.led w ((bx, bxC b2) :: (it, _) :: (fo, .list vs) :: (c1, .cell _) :: (c2, .cell _) :: (c3, .cell _) :: (c4, .cell _) :: (aN, .opq (RangeObj 0 many)) :: ρ)) [1, 7, 2, 2, 2, 2, 2] (by rfl)
        refine zfe GL X hco (qual := qF) (by rw [hqu]; rfl) hC hP231 S TO2 (zdo (by rfl)) (by rfl) fun fl g3 ps3 s pm cc ctv hle3 TO3 hfl hcc S => ?_
        have P3 := P2.mono hle3
        have hgl1' := hle3 _ _ hgl1
        have hgl2' := hle3 _ _ hgl2
        refine zaf zab ?_; refine ⟨S.In G.XX, ?_⟩
        have S := S.selN (ℓ' := (L, _) :: T'.led w ((231, TabC ps3) :: (bx, bxC b2) :: (it, _) :: (fo, .list vs) :: (c1, .cell _) :: (c2, .cell _) :: (c3, .cell _) :: (c4, .cell _) :: (aN, .opq (RangeObj 0 many)) :: ρ)) [1, 2, 2, 2, 2, 2] (by rfl)
        refine wpAny_call (zfl (n := 8) (okP := fun g4 cells' => ∀ Z : Led → Prop, ((∀ h ∈ fs, h.1 ≠ f.1) → ∀ T4, T4.tb = T'.tb → g3.le g4 → Rep g4 T4 (fs ++ [f]) [] → Z (T4.led w ((231, TabC ps3) :: (bx, bxC b2) :: (it, .opq ((Src.rng 0 many.toNat).iter (i + 1))) :: (fo, .list vs) :: (c1, .cell (some (.ref T'.tb))) :: (c2, .cell (some (.ref l1))) :: (c3, .cell (some (.ref l2))) :: (c4, .cell q4) :: (aN, .opq (RangeObj 0 many)) :: ρ))) → Z cells') (badP := fun C => C = 57 ∧ ∃ h ∈ fs, h.1 = f.1)
          G (K₁.deeper X) S.enter0 (hroom.deeper.mono (by decide)) hfl ?_ (fun C h => .inl h.1) (fun t g4 cells' s' hok4 S' => ?_) (fun t s' hb4 S' => ?_) (fun t s' hb4 S' => ?_))
        · intro A' outer' Φ' s₁ R' K' hr' I' kok kbad
          refine ze1 G I' (hr'.mono (by decide)) hfl hcc rfl (by decide +kernel) rfl rfl rfl rfl (zc1 _ _ (by decide +kernel) (by simp) (fun _ _ h => by cases h)) ?_
          intro env L s X S Q E hQ hEr hPO
          have X : EnvOk env L (some L) [(("letters" : Str), .free), ("numbers", .free), ("table", .free), ("tuple", .globalImplicit)] [("table", c1), ("numbers", c3), ("letters", c2)] := X
          refine methodCall_KW ?_ (by rfl); refine r_ev (zad X S (Or.inr ixm2) ixm0 zcf) ?_; refine zam (f := 150) (name := "add") G.XX (zat w) S ixm1 ixm2 (by kernel_rfl) (by kernel_rfl) (by rfl) ?_; refine zbk (KF := KK w) (by kernel_rfl) ?_ (by rfl) (by rfl); refine args_cons ?_ (by rfl); refine zai X G.XX S ixm3 (zb0 G) (Callee.ty _) (zaa rfl (zad X S (Or.inr ixm0) ixm2 zcp) zab) ?_
          refine zdc S ((S.fact hgl1').isL) (by have := hf.len; rw [List.length_map, sizeLine_eq]; omega) fun tu s htu S => ?_
          refine zaf (zaa rfl (zad X S (Or.inr ixm1) ixm1 (ixmt ixm1)) zab) ?_; refine ⟨S.In G.XX, ?_⟩
          have S := S.selN (ℓ' := (L, _) :: T'.led w ((tu, _) :: (231, TabC ps3) :: (bx, bxC b2) :: (it, _) :: (fo, .list vs) :: (c1, .cell _) :: (c2, .cell _) :: (c3, .cell _) :: (c4, .cell _) :: (aN, .opq (RangeObj 0 many)) :: ρ)) [1, 2, 2, 2, 2, 2] (by rfl)
          refine wpAny_call (zoe G (K'.deeper X) P3 S.enter0 (hr'.deeper.mono (by decide)) hf (by omega) (.inl (.head _)) SeqC.ofT (.inr hgl2') SeqC.ofL (fun hne T4 g4 s' hT4 hl4 P4 S' => ?_) (fun hex e s' F => ?_))
          · exact hQ _ _ <| kok _ _ _ _ (fun Z kZ => kZ hne T4 hT4 hl4 P4) ((S'.ret0 S).selN [2, 2, 2, 2, 2, 3, 3, 3, 3, 3, 3, 3, 3, 3, 0, 0] (by rfl))
          · exact hEr _ _ <| zbp K' X (F.up0 S) fun s'' F => kbad 57 e s'' ⟨rfl, hex⟩ (F.selN [1, 1, 1, 1, 1, 2, 2, 2, 2, 2, 2, 2, 2, 2, 0] (by rfl))
        · revert S'
          apply hok4; intro hne T4 hT4 hl4 P4 S'
          replace S := S'.ret0 S
          clear S'
          have hk0 : kn = false := by
            cases kn with
            | false => rfl
            | true => obtain ⟨h, hh, e⟩ := hkn.mp rfl; exact absurd e (hne h hh)
          subst hk0
          refine za3 X S ixm7 ixu7 ?_; walk_at "new"; refine zas ?_
          exact hJ _ fun Z kZ => kZ g4 ps3 T4 b2 _ (hle3.trans hl4) (TO3.mono hl4) hT4 P4 hb2 S
        · have hk1 : kn = true := hkn.mpr hb4.2
          subst hk1
          replace S := S'.ret0 S
          clear S'
          refine za3 X S ixm7 ixu7 ?_; walk_at "new"; refine zas ?_
          exact hJ _ fun Z kZ => kZ g3 ps3 T' b2 _ hle3 TO3 rfl P3 hb2 S
        · exact absurd hb4.1 (by decide)
    clear S
    intro s hs
    refine hs _ fun g3 ps3 T3 b3 q4' hle3 TO3 hT3 P3 hb3 S => ?_
    refine zav ?_ (by rfl); refine BoolOp_and ?_; refine r_ev (zbw X S ixm4 ixm4) ?_; refine wpAny_truthy_bool ?_; refine zb8 ?_; refine BoolOp_one ?_; refine r_ev (zlf (zag X S ixm7 ixm7) (zaz X G.XX S (ixmt ixm4) (zhw G) (Callee.ty _) (zaa rfl (zbw X S ixm6 ixm6) zab) zmj) zhc (by rfl)) ?_; refine zef X S ixm4 ixu4 ?_; walk_at "new"; refine x_if ?_; refine zbs (zc6 (zba (zbw X S ixm6 ixm6) (by rfl))) ?_
    rw [beq_self_eq_true, hTb] at S
    have hgg3 := hgg2.trans hle3
    have hfs3 := hfs2.mono hle3
    have hgl1' := hle3 _ _ hgl1
    have hgl2' := hle3 _ _ hgl2
    refine ⟨fun hk => ?_, fun hk => ?_⟩
    · have hk0 : kn = false := by simpa using hk
      subst hk0
      generalize hra : aN = ra at S k
      refine zcs X.kind ?_ (by rfl); refine methodCall_KW ?_ (by rfl); refine r_ev (zae X S ixm3 ixm3) ?_; refine zbj S ixm9 ?_; refine zd6 ?_ (by rfl) (by rfl); refine args_cons ?_ (by rfl); refine Tuple_ ?_; refine zaf (zaa rfl (zad X S (Or.inl ixm8) ixm1 zcp) (zaa rfl (zad X S (Or.inl ixm9) ixm2 (ixmt ixm0)) zab)) ?_; refine za2 S sz2 ?_; walk_at "newo"; refine zaf zab ?_
      generalize aN = tu at S hN ⊢
      have htu := hN
      refine zd9 (pv := .ref tu) S znh (by (rw [sizeLine_eq]; omega)) rfl ?_; walk_at "new"
      refine zas ?_; refine zas ?_
      have S := S.selN (ℓ' := (tu, .tup [.ref l1, .ref l2]) :: (L, _) :: (it, _) :: (231, TabC ps3) :: T3.led w ((bx, bxC b3) :: (fo, .list (vs ++ [.ref tu])) :: (c1, .cell _) :: (c2, .cell _) :: (c3, .cell _) :: (c4, .cell _) :: (ra, .opq (RangeObj 0 many)) :: ρ)) [2, 1, 8, 6] (by rfl)
      have e1 := S.st.inv.gl _ (.head _)
      have S := S.freeze' htu
      have hle4 := PH.le_set (c := .tup [.ref l1, .ref l2]) e1
      subst hra
      refine hL i .next ⟨g3.set tu (.tup [.ref l1, .ref l2]), _, _, _, ps3, T3, fs ++ [f], vs ++ [.ref tu], b3, _, _, _⟩ _ ⟨hgg3.trans hle4, TO3.mono hle4, hT3.trans hTb, P3.mono hle4, (hfs3.mono hle4).snoc ⟨tu, l1, l2, rfl, PH.set_self, hle4 _ _ hgl1', hle4 _ _ hgl2'⟩, fun h hh => ?_, by simp; exact hfi, fun _ => by simp, hb3⟩ S rfl
      rcases List.mem_append.mp hh with hh | hh
      · exact hok h hh
      · rw [List.mem_singleton.mp hh]; exact hf
    · have hk1 : kn = true := by simpa using hk
      subst hk1
      obtain ⟨h0, hh0, _⟩ := hkn.mp rfl
      refine zas ?_; refine zas ?_
      exact hL i .next ⟨g3, _, _, _, ps3, T3, fs, vs, b3, _, _, _⟩ _ ⟨hgg3, TO3, hT3.trans hTb, P3, hfs3, hok, Nat.le_succ_of_le hfi, fun _ => List.length_pos_iff.mpr (List.ne_nil_of_mem hh0), hb3⟩ (S.selN [1, 8, 6] (by rfl)) rfl
  · refine FilSt.el ?_; intro g' o1 o2 o3 ps T' fs vs b' q2 q3 q4 s hP S
    dsimp only at hP S
    refine and9 hP fun hgg TO' hTb P' hfs hok hfi hf1 hb' => ?_
    rw [zbf] at hfi hf1
    refine za9 ?_; refine Tuple_ ?_; refine zaf (zaa rfl (zae X S ixm3 ixm3) (zaa rfl (zbw X S ixm4 ixm4) zab)) ?_; refine za2 S sz2 ?_; walk_at "newo"; refine hQ _ _ ?_
    generalize aN = r at S hN ⊢
    try with_reducible first | refine hQ _ _ ?_ | refine hEnd _ ?_
    refine k r fo T' fs b' ps vs g' s hTb hgg TO' P' hfs hok (hf1 (by omega)) (by omega) hb' ?_ ?_ (S.selN [2, 9, 8, 2, 2, 2, 2, 2, 2, 0, 0, 0, 0, 0, 0] (by rfl))
    · rw [← hK] at hN; exact hN
    · rw [← hK] at hfo; exact hfo
noncomputable def qP : Str := (Str.ofString "_law_put" ++ Str.ofString ".<locals>.") ++ Str.ofString "<lambda>"
theorem zl9 {l : List Nat} {i : Nat} {ns st : List Int} {n : Int} {A : Str} (hx : excRead l = (ns.take i, exP i st)) (hn : ns[i]? = some n) (hl : isLet n) (hA : A.cps.toList = if st.any (· == (i : Int)) then [45] else []) : excRead (l ++ (A ++ ⟨#[n.toNat]⟩ : Str).cps.toList) = (ns.take (i + 1), exP (i + 1) st) := by
  have e : (A ++ ⟨#[n.toNat]⟩ : Str).cps.toList = A.cps.toList ++ [n.toNat] := by show (A.cps ++ #[n.toNat]).toList = _; simp
  have hi := (List.getElem?_eq_some_iff.mp hn).1
  have htl : (ns.take i).length = i := by rw [List.length_take]; omega
  have hc : n.toNat ≠ 45 := by have := hl; unfold isLet at this; omega
  have hcn : ((n.toNat : Nat) : Int) = n := by have := hl.pos; omega
  rw [e, hA, ← List.append_assoc, zgb, zbl hn]
  cases h : st.any (· == (i : Int)) with
  | true =>
    simp only [if_true]
    rw [zc2, zc2, hx]
    unfold excStep
    rw [if_pos rfl, if_neg hc, htl, hcn]
  | false =>
    simp only [Bool.false_eq_true, if_false, List.append_nil]
    rw [zc2, hx]
    unfold excStep
    rw [if_neg hc, hcn]
noncomputable def WordL (ns : List Int) : Prop := ns ≠ [] ∧ ns.length ≤ 63 ∧ ∀ n ∈ ns, isLet n
theorem WordL.r {ns : List Int} (h : WordL ns) : WordR ns := ⟨h.1, h.2.1, fun n hn => (h.2.2 n hn).pos⟩
theorem put_ok {w : World} {G0 : Heap} {Φ : List Addr} {g : PH} {s : Shared} {A : Around} {R : Result → Shared → Prop} {outer : List Env} {ρ : Led} {bx wa sa : Addr} {b : Int × Int} {ps : Array Value} {T : Tb} {fs : List Form} {xs : List (List Int × List Int)} {ns st : List Int}
    (GL : Gl w G0) (K₀ : Stk A outer Φ) (I : Inv w G0 Φ g s.heap ((bx, bxC b) :: (241, TabC ps) :: T.led w ρ)) (hroom : Room A 10) (hb : BoxOk b) (TO : TabOk qP g ps) (P : Rep g T fs xs) (hw : WordL ns) (hst : StandsOk ns.length st) (hxl : xs.length ≤ 1000)
    (hgw : g wa = some (.list (ns.map V.int))) (hgs : g sa = some (.list (st.map V.int)))
    (k : ∀ T' b' ps' g' t s', T'.tb = T.tb → g.le g' → TabOk qP g' ps' → Rep g' T' fs ((ns, st) :: xs) → BoxOk b' → SS w G0 ⟨Φ, s, g, ((bx, bxC b) :: (241, TabC ps) :: T.led w ρ).map Prod.fst⟩ g' s' ((bx, bxC b') :: (241, TabC ps') :: T'.led w ρ) → R (.ok (.ret (.int 0 t))) s') :
    codeAny (model pg w) A (.call (.ref 244) ⟨[.ref bx, .ref T.tb, .ref wa, .ref sa], []⟩) R s := by
  have G := GL.toGd
  have hP241 : G0.get? 241 = none := I.gst (241, TabC ps) (.tail _ (.head _))
  have hnl : ns.length ≤ 63 := hw.2.1
  have hsl : st.length ≤ 64 := by have := hst.len; omega
  refine zb3 (vals := [.ref bx, .ref T.tb, .ref wa, .ref sa]) I G.XX G.lim hroom.lt (by exact rfl) (by kernel_rfl) (BindsTo.of_eq rfl) (by decide +kernel) (by rfl) ?_
  intro env L s X hE S Q E hQ hEnd hEr hPO
  obtain ⟨hfu, hco, hqu⟩ := hE
  dsimp only [mkLocC, mkCells, mkCl, isCellK, zah, zap, zar, zal, zaj, zak, za0, cond_true, cond_false, List.cons_append, List.nil_append] at S X
  generalize hK : (⟨Φ, _, g, _⟩ : Kon) = K at S k
  generalize L + 1 = c1, L + 1 + 1 = c2, L + 1 + 1 + 1 = c3, L + 1 + 1 + 1 + 1 = c4 at S X
  have K₁ : Stk A outer K.Φ := by rw [← hK]; exact K₀
  have hC := zlj G
  skip
  refine x_if ?_
  refine wpAny_isTrue_Compare1 ?_; refine zai X G.XX S ixm5 (za6 G) (Callee.fn (by kernel_rfl)) (zaa rfl (zae X S ixm0 ixm0) (zaa rfl zac zab)) ?_
  have S := S.selN (ℓ' := (L, _) :: (bx, bxC b) :: (241, TabC ps) :: T.led w ((c1, .cell _) :: (c2, .cell _) :: (c3, .cell _) :: (c4, .cell _) :: ρ)) [1, 5, 5, 5, 5, 5, 5, 5] (by rfl)
  refine wpAny_call (zb9 G S.enter0 (hroom.deeper.mono (by decide)) hb (by decide) (by decide) fun d b1 t s' hd0 hd1 hb1 S' => ?_)
  replace S := S'.ret0 S
  clear S'
  refine r_ev zac ?_; refine PyProof.Rows.eq_int ?_; refine wpAny_truthy_bool ?_
  refine ⟨fun _ => ?_, fun _ => ?_⟩
  · refine zav ?_ (by rfl)
    refine methodCall_KW ?_ (by rfl); refine r_ev zb5 ?_
    refine GM.join ?_
    refine zd6 ?_ (by rfl) (by rfl); refine args_cons ?_ (by rfl)
    have X0 := X
    refine zcn (G0 := G0) (K := K) (kinds' := [((".0" : Str), .local), ("k", .local), ("chr", .globalImplicit), ("stands", .cell), ("word", .cell)]) (cl' := [("word", c2), ("stands", c3)]) hroom.handled X ⟨rfl, by decide +kernel, by rfl, by exact ixm1, by rfl, by rfl, by rfl⟩ (fun CC hCC => ?_) (by intro _; with_unfolding_all rfl)
    refine Call_ ?_ (by rfl); refine zax X S ixm6 (zb2 G) ?_; refine PyProof.Rows.callWith_type1 ?_ (by rfl) (by rfl); refine args_cons ?_ (by rfl); refine zai X G.XX S ixm7 (zcc G) (Callee.bi _) (zaa rfl (zad X S (Or.inl ixm2) ixm1 ixm9) zab) ?_
    refine zi4 S ((S.fact hgw).seq SeqC.ofL) (zdl (m := 63) hnl (by decide)) ?_; walk_at "newt"
    rw [List.length_map]
    refine zaf zab ?_; refine zbr S ?_; walk_at "newo"
    refine zck (n := ns.length) S ixm1 (by rfl) (Nat.le_trans hnl (by decide)) fun it s hnew S => ?_
    have S := S.selN (ℓ' := (it, _) :: (L, _) :: (aN, _) :: (bx, bxC b1) :: (241, TabC ps) :: T.led w ((c1, .cell _) :: (c2, .cell _) :: (c3, .cell _) :: (c4, .cell _) :: ρ)) [] (by rfl)
    refine hCC (List Str) _ it (fun i ys => ys.length = i ∧ excRead (ys.map fun x => x.cps.toList).flatten = (ns.take i, exP i st) ∧ (ys.map (·.length)).sum ≤ 2 * i) (fun _ => g) _ (fun _ ys => ys.map V.str) (fun _ _ => (aN, .opq (RangeObj 0 (ns.length : Int))) :: (bx, bxC b1) :: (241, TabC ps) :: T.led w ((c1, .cell (some (.ref T.tb))) :: (c2, .cell (some (.ref wa))) :: (c3, .cell (some (.ref sa))) :: (c4, .cell none) :: ρ)) [] _ ?_ hnew S rfl ⟨rfl, rfl, Nat.le_refl _⟩ ?_ ?_ ?_
    · rw [zbf, sizeLine_eq]; exact Nat.le_trans hnl (by decide)
    · intros; exact trivial
    · intro QY QN hY hNo i ys v s C D cenv hP hvi X S
      have hyl := hP.1
      have hyx := hP.2.1
      have hys := hP.2.2
      clear hP
      revert S; apply zby hvi; intro hilt tv S
      dsimp only [mkLoc, zah, zap, zar, zal, zaj, zak, za0] at S
      clear hvi
      obtain ⟨n, hn⟩ : ∃ n, ns[i]? = some n := ⟨_, List.getElem?_eq_getElem hilt⟩
      have hnl2 := hw.2.2 n (List.mem_of_getElem? hn)
      have hnb := hnl2.pos
      have step : ∀ (s : Shared) (t : Tok) (A : Str), A.cps.toList = (if st.any (· == (i : Int)) then [45] else []) → SS w G0 K g s ((C, .ns [(("k" : Str), some (.int i))]) :: (L, .ns [(("box" : Str), some (V.ref bx)), ("table", none), ("word", none), ("stands", none), ("text", none), ("_law_take", none), ("range", none), ("len", none), ("_law_said", none)]) :: (it, .opq ((Src.rng 0 ns.length).iter (i + 1))) :: (D, .list (ys.map V.str)) ::
          ((aN, .opq (RangeObj 0 (ns.length : Int))) :: (bx, bxC b1) :: (241, TabC ps) :: T.led w ((c1, .cell (some (.ref T.tb))) :: (c2, .cell (some (.ref wa))) :: (c3, .cell (some (.ref sa))) :: (c4, .cell none) :: ρ))) →
          ∃ zs : List Str, ys.map V.str ++ [V.of (.str (A ++ ⟨#[n.toNat]⟩) t)] = zs.map V.str ∧ zs.length = i + 1 ∧ excRead (zs.map fun x => x.cps.toList).flatten = (ns.take (i + 1), exP (i + 1) st) ∧ (zs.map (·.length)).sum ≤ 2 * (i + 1) := fun s t A hA S => by
        refine ⟨ys ++ [A ++ ⟨#[n.toNat]⟩], by rw [List.map_append]; rfl, by simp [hyl], ?_, ?_⟩
        · rw [List.map_append, List.flatten_append]
          show excRead (_ ++ [(A ++ ⟨#[n.toNat]⟩ : Str).cps.toList].flatten) = _
          rw [List.flatten_singleton]
          exact zl9 hyx hn hnl2 hA
        · rw [List.map_append, List.sum_append]
          have : (A ++ ⟨#[n.toNat]⟩ : Str).length ≤ 2 := by
            show (A.cps ++ #[n.toNat]).size ≤ 2
            rw [Array.size_append, ← Array.length_toList, hA]
            split <;> simp
          simp only [List.map_cons, List.map_nil, List.sum_cons, List.sum_nil]; omega
      refine zb4 ?_
      refine zb8 ?_; refine wpAny_BinOp ?_; refine IfExp_ ?_; refine zh2 (zag X S ixm1 ixm0) (zad X S (Or.inl ixm3) ixm1 (ixmt ixm2)) (by rfl) ?_
      refine zej ((S.fact hgs).seq SeqC.ofL) ?_
      refine wpAny_truthy_bool ?_
      refine zdg (fun h => ?_) (fun h => ?_)
      · refine r_ev zb5 ?_; refine Call_ ?_ (by rfl); refine zax X S ixm2 (zkk G) ?_; refine PyProof.Rows.callWith_builtin1 ?_ (by rfl) (by rfl); refine args_cons ?_ (by rfl); refine zbb (zad X S (Or.inl ixm4) ixm0 (ixmt ixm1)) (zag X S ixm1 ixm0) ?_
        refine zb6 (n := n) ((S.fact hgw).seq SeqC.ofL) (zjb (m := 63) hnl (by decide)) (Int.natCast_nonneg _) hn zbm fun t => ?_
        refine zaf zab ?_; refine zkx S (by omega) (by omega) ?_; walk_at "newt"
        refine zec S (by show (Str.ofString "-").cps.toList.length + 1 ≤ sizeLine; decide +kernel) ?_; walk_at "newt"
        obtain ⟨zs, e1, e2, e3, e4⟩ := step s t (Str.ofString "-") (by rw [h]; decide +kernel) S
        exact hY i ys zs C D _ _ _ ⟨e2, e3, e4⟩ e1.symm S
      · refine r_ev zb5 ?_; refine Call_ ?_ (by rfl); refine zax X S ixm2 (zkk G) ?_; refine PyProof.Rows.callWith_builtin1 ?_ (by rfl) (by rfl); refine args_cons ?_ (by rfl); refine zbb (zad X S (Or.inl ixm4) ixm0 (ixmt ixm1)) (zag X S ixm1 ixm0) ?_
        refine zb6 (n := n) ((S.fact hgw).seq SeqC.ofL) (zjb (m := 63) hnl (by decide)) (Int.natCast_nonneg _) hn zbm fun t => ?_
        refine zaf zab ?_; refine zkx S (by omega) (by omega) ?_; walk_at "newt"
        refine zec S (by show (Str.ofString "").cps.toList.length + 1 ≤ sizeLine; decide +kernel) ?_; walk_at "newt"
        obtain ⟨zs, e1, e2, e3, e4⟩ := step s t (Str.ofString "") (by rw [h]; decide +kernel) S
        exact hY i ys zs C D _ _ _ ⟨e2, e3, e4⟩ e1.symm S
    intro ys D hP hD s S
    have hyl := hP.1
    have hyx := hP.2.1
    have hys := hP.2.2
    clear hP
    rw [zbf] at hyl hyx hys
    rw [List.take_length] at hyx
    refine zaf zab ?_
    refine r_join S ((S.at ixm1).isL) (by rw [(by decide +kernel : (Str.ofString "").length = 0), sizeLine_eq]; omega) ?_; walk_at "newt"
    have hx : excRead (Txt.join (Str.ofString "") ys).cps.toList = (ns, exP ns.length st) := by rw [zkz]; exact hyx
    have hxl2 : (Txt.join (Str.ofString "") ys).cps.toList.length ≤ 200 := by
      have := ze0 (Txt.join (Str.ofString "") ys).cps.toList
      rw [hx] at this
      have h2 : (exP ns.length st).length ≤ ns.length := by unfold exP; exact Nat.le_trans (List.length_filter_le _ _) (by simp)
      simp only at this; omega
    generalize Txt.join (Str.ofString "") ys = tx at hx hxl2
    refine zbt X S ixm4 ixm3 (zar _ _) (ixvt ixv1) ?_; walk_at "new"; refine za9 ?_; refine Call_ ?_ (by rfl); refine zax X S ixm8 (zcv G) ?_; refine callWith_K G.XX (by kernel_rfl) ?_ (by rfl) (by rfl); refine args_cons ?_ (by rfl)
    have S := S.selN (ℓ' := (L, _) :: (241, TabC ps) :: T.led w ((bx, bxC b1) :: (c1, .cell _) :: (c2, .cell _) :: (c3, .cell _) :: (c4, .cell _) :: ρ)) [1, 4, 4, 4, 4, 4, 4, 3, 3, 3, 3, 3, 0, 0] (by rfl)
    refine zfe GL X hco (qual := qP) (by rw [hqu]; rfl) hC hP241 S TO (zdo (by rfl)) (by rfl) fun fl g3 ps3 s pm cc ctv hle3 TO3 hfl hcc S => ?_
    have P3 := P.mono hle3
    have hgw' := hle3 _ _ hgw
    have hgs' := hle3 _ _ hgs
    refine zaf zab ?_; refine ⟨S.In G.XX, ?_⟩
    have S := S.selN (ℓ' := (L, _) :: T.led w ((241, TabC ps3) :: (bx, bxC b1) :: (c1, .cell _) :: (c2, .cell _) :: (c3, .cell _) :: (c4, .cell _) :: ρ)) [1, 2, 2, 2, 2, 2] (by rfl)
    refine wpAny_call (zfl (n := 8) (okP := fun g4 cells' => ∀ Z : Led → Prop, (∀ T4, T4.tb = T.tb → g3.le g4 → Rep g4 T4 fs ((ns, st) :: xs) → Z (T4.led w ((241, TabC ps3) :: (bx, bxC b1) :: (c1, .cell (some (.ref T.tb))) :: (c2, .cell (some (.ref wa))) :: (c3, .cell (some (.ref sa))) :: (c4, .cell (some (.str tx))) :: ρ))) → Z cells') (badP := fun C => False)
      G (K₁.deeper X) S.enter0 (hroom.deeper.mono (by decide)) hfl ?_ (fun C h => h.elim) (fun t g4 cells' s' hok4 S' => ?_) (fun t s' hb4 S' => hb4.elim) (fun t s' hb4 S' => hb4.elim))
    · intro A' outer' Φ' s₁ R' K' hr' I' kok kbad
      refine ze1 G I' (hr'.mono (by decide)) hfl hcc rfl (by decide +kernel) rfl rfl rfl rfl (zc1 _ _ (by decide +kernel) (by simp) (fun _ _ h => by cases h)) ?_
      intro env L s X S Q E hQ hEr hPO
      have X : EnvOk env L (some L) [(("stands" : Str), .free), ("table", .free), ("text", .free), ("word", .free), ("len", .globalImplicit)] [("word", c2), ("text", c4), ("table", c1), ("stands", c3)] := X
      have fin : ∀ (s : Shared) (B : Str) (t : Tok), B.cps.toList = (if st.any (· == (ns.length : Int)) then [45] else []) → excRead (tx ++ B).cps.toList = (ns, st) ∧ (tx ++ B).cps.toList.length ≤ 1000 := fun s B t hB => by
        have e : (tx ++ B).cps.toList = tx.cps.toList ++ B.cps.toList := by show (tx.cps ++ B.cps).toList = _; simp
        have hst2 : exP (ns.length + 1) st = st := hst.exV (fun x => Iff.rfl)
        rw [e, hB]
        constructor
        · rw [zgb] at hst2
          cases h : st.any (· == (ns.length : Int)) with
          | true =>
            rw [h, if_pos rfl] at hst2
            rw [if_pos rfl, zc2, hx]
            unfold excStep
            rw [if_pos rfl]
            simp only [hst2]
          | false =>
            rw [h, if_neg (by decide)] at hst2
            rw [if_neg (by decide), List.append_nil, hx, hst2]
        · rw [List.length_append]
          split
          · show _ + 1 ≤ _; omega
          · show _ + 0 ≤ _; omega
      refine methodCall_KW ?_ (by rfl); refine r_ev (zad X S (Or.inr ixm1) ixm2 ixm8) ?_; refine zam (f := 169) (name := "add_word") G.XX (zat w) S ixm1 ixm2 (by kernel_rfl) (by kernel_rfl) (by rfl) ?_; refine zbk (KF := KK w) (by kernel_rfl) ?_ (by rfl) (by rfl); refine args_cons ?_ (by rfl); refine wpAny_BinOp ?_; refine r_ev (zj7 X S (Or.inr ixm2) ixm1 zcp) ?_; refine IfExp_ ?_; refine wpAny_isTrue_Compare1 ?_; refine zai X G.XX S ixm4 (zcc G) (Callee.bi _) (zaa rfl (zad X S (Or.inr ixm3) ixm0 ixm9) zab) ?_
      refine zi4 S ((S.fact hgw').seq SeqC.ofL) (zdl (m := 63) hnl (by decide)) ?_; walk_at "newt"
      rw [List.length_map]
      refine r_ev (zad X S (Or.inr ixm0) ixm3 zcf) ?_
      refine zej ((S.fact hgs').seq SeqC.ofL) ?_
      refine wpAny_truthy_bool ?_
      refine zdg (fun h => ?_) (fun h => ?_)
      · refine r_ev zb5 ?_
        refine zec S (by rw [(by decide +kernel : (Str.ofString "-").cps.toList.length = 1), sizeLine_eq]; omega) ?_; walk_at "newt"
        obtain ⟨f1, f2⟩ := fin s (Str.ofString "-") t (by rw [h]; decide +kernel)
        refine zaf zab ?_; refine ⟨S.In G.XX, ?_⟩
        refine wpAny_call (zkg G (K'.deeper X) P3 S.enter0 (hr'.deeper.mono (by decide)) hw.r hst hxl f1 f2 (fun T4 g4 s' hT4 hl4 P4 S' => ?_))
        exact hQ _ _ <| kok _ _ _ _ (fun Z kZ => kZ T4 hT4 hl4 P4) ((S'.ret0 S).drop1)
      · refine r_ev zb5 ?_
        refine zec S (by rw [(by decide +kernel : (Str.ofString "").cps.toList.length = 0), sizeLine_eq]; omega) ?_; walk_at "newt"
        obtain ⟨f1, f2⟩ := fin s (Str.ofString "") t (by rw [h]; decide +kernel)
        refine zaf zab ?_; refine ⟨S.In G.XX, ?_⟩
        refine wpAny_call (zkg G (K'.deeper X) P3 S.enter0 (hr'.deeper.mono (by decide)) hw.r hst hxl f1 f2 (fun T4 g4 s' hT4 hl4 P4 S' => ?_))
        exact hQ _ _ <| kok _ _ _ _ (fun Z kZ => kZ T4 hT4 hl4 P4) ((S'.ret0 S).drop1)
    · revert S'
      apply hok4; intro T4 hT4 hl4 P4 S'
      replace S := S'.ret0 S
      clear S'
      try with_reducible first | refine hQ _ _ ?_ | refine hEnd _ ?_
      exact k T4 b1 ps3 g4 t s' hT4 (hle3.trans hl4) (TO3.mono hl4) P4 hb1 (S.selN [8, 7, 2, 2, 2, 2, 2, 0, 0, 0, 0, 0] (by rfl))
  · refine zas ?_; refine za9 ?_; refine Call_ ?_ (by rfl); refine zax X S ixm8 (zcv G) ?_; refine callWith_K G.XX (by kernel_rfl) ?_ (by rfl) (by rfl); refine args_cons ?_ (by rfl)
    have S := S.selN (ℓ' := (L, _) :: (241, TabC ps) :: T.led w ((bx, bxC b1) :: (c1, .cell _) :: (c2, .cell _) :: (c3, .cell _) :: (c4, .cell _) :: ρ)) [1, 2, 2, 2, 2, 2, 2] (by rfl)
    refine zfe GL X hco (qual := qP) (by rw [hqu]; rfl) hC hP241 S TO (zdo (by rfl)) (by rfl) fun fl g3 ps3 s pm cc ctv hle3 TO3 hfl hcc S => ?_
    have P3 := P.mono hle3
    have hgw' := hle3 _ _ hgw
    have hgs' := hle3 _ _ hgs
    refine zaf zab ?_; refine ⟨S.In G.XX, ?_⟩
    have S := S.selN (ℓ' := (L, _) :: T.led w ((241, TabC ps3) :: (bx, bxC b1) :: (c1, .cell _) :: (c2, .cell _) :: (c3, .cell _) :: (c4, .cell _) :: ρ)) [1, 2, 2, 2, 2, 2] (by rfl)
    refine wpAny_call (zfl (n := 8) (okP := fun g4 cells' => ∀ Z : Led → Prop, (∀ T4, T4.tb = T.tb → g3.le g4 → Rep g4 T4 fs ((ns, st) :: xs) → Z (T4.led w ((241, TabC ps3) :: (bx, bxC b1) :: (c1, .cell (some (.ref T.tb))) :: (c2, .cell (some (.ref wa))) :: (c3, .cell (some (.ref sa))) :: (c4, .cell none) :: ρ))) → Z cells') (badP := fun C => False)
      G (K₁.deeper X) S.enter0 (hroom.deeper.mono (by decide)) hfl ?_ (fun C h => h.elim) (fun t g4 cells' s' hok4 S' => ?_) (fun t s' hb4 S' => hb4.elim) (fun t s' hb4 S' => hb4.elim))
    · intro A' outer' Φ' s₁ R' K' hr' I' kok kbad
      refine ze1 G I' (hr'.mono (by decide)) hfl hcc rfl (by decide +kernel) rfl rfl rfl rfl (zc1 _ _ (by decide +kernel) (by simp) (fun _ _ h => by cases h)) ?_
      intro env L s X S Q E hQ hEr hPO
      have X : EnvOk env L (some L) [(("stands" : Str), .free), ("table", .free), ("word", .free)] [("word", c2), ("table", c1), ("stands", c3)] := X
      refine methodCall_KW ?_ (by rfl); refine r_ev (zad X S (Or.inr ixm1) ixm1 ixm8) ?_; refine zam (f := 162) (name := "add_exception") G.XX (zat w) S ixm1 ixm2 (by kernel_rfl) (by kernel_rfl) (by rfl) ?_; refine zbk (KF := KK w) (by kernel_rfl) ?_ (by rfl) (by rfl); refine args_cons ?_ (by rfl); refine r_ev (zad X S (Or.inr ixm2) ixm0 ixm9) ?_; refine args_cons ?_ (by rfl); refine Subscript_ ?_; refine r_ev (zad X S (Or.inr ixm0) ixm2 zcf) ?_; refine wpAny_Slice ?_; refine wpAny_evalPart_none ?_; refine wpAny_evalPart_none ?_; refine wpAny_evalPart_some ?_; refine r_ev (zeu zac) ?_
      refine r_revL S ((S.fact hgs').isL) (by (rw [List.length_map, sizeLine_eq]; exact Nat.le_trans hsl (by decide))) (.int _ _) (by rfl) fun rv s hrv S => ?_
      rw [← List.map_reverse] at S
      refine zaf zab ?_; refine ⟨S.In G.XX, ?_⟩
      have S := S.selN (ℓ' := (L, _) :: T.led w ((rv, _) :: (241, TabC ps3) :: (bx, bxC b1) :: (c1, .cell _) :: (c2, .cell _) :: (c3, .cell _) :: (c4, .cell _) :: ρ)) [1, 2, 2, 2, 2, 2] (by rfl)
      refine wpAny_call (znv G (K'.deeper X) P3 S.enter0 (hr'.deeper.mono (by decide)) hw.r hst (fun x => List.mem_reverse) (by rw [List.length_reverse]; exact Nat.le_trans hsl (by decide)) hxl (.inr hgw') SeqC.ofL (.inl (.head _)) SeqC.ofL (fun T4 g4 s' hT4 hl4 P4 S' => ?_))
      exact hQ _ _ <| kok _ _ _ _ (fun Z kZ => kZ T4 hT4 hl4 P4) ((S'.ret0 S).selN [2, 2, 2, 2, 2, 3, 3, 3, 3, 3, 3, 0, 0] (by rfl))
    · revert S'
      apply hok4; intro T4 hT4 hl4 P4 S'
      replace S := S'.ret0 S
      clear S'
      try with_reducible first | refine hQ _ _ ?_ | refine hEnd _ ?_
      exact k T4 b1 ps3 g4 t s' hT4 (hle3.trans hl4) (TO3.mono hl4) P4 hb1 (S.selN [8, 7, 2, 2, 2, 2, 2, 0, 0, 0, 0, 0] (by rfl))
section
variable {w : World} {G0 : Heap} {Φ : List Addr} {g : PH} {s : Shared} {A : Around} {R : Result → Shared → Prop} {outer : List Env} {ρ cells : Led} {T : Tb} {fs : List Form} {xs : List (List Int × List Int)} {a1 a2 : Addr} {c1 c2 : Cell} {vs ds : List V}
theorem zna {tb la : Addr} {lv dv : Value} (G : Gd w G0) (K₀ : Stk A outer Φ) (I : Inv w G0 Φ g s.heap cells) (hroom : Room A 4) (hb : NoSeq lv ∨ (lv = .ref la ∧ Rd g cells la c1 ∧ SeqC c1 vs ∧ NoSeq dv))
    (kx : ∀ e s', FlyS w G0 outer 45 e ⟨Φ, s, g, cells.map Prod.fst⟩ g s' cells → R (.error (.ref e)) s') :
    codeAny (model pg w) A (.call (.ref 150) ⟨[.ref tb, lv, dv], []⟩) R s := by
  refine zan (vals := [.ref tb, lv, dv]) I G.XX G.lim hroom.lt (by exact rfl) (by kernel_rfl) (BindsTo.of_eq rfl) (by decide +kernel) (by decide) (by rfl) ?_
  intro env L s X S Q E hQ hEnd hEr hPO
  dsimp only [mkLoc, zah, zap, zar, zal, zaj, zak, za0] at S
  generalize hK : (⟨Φ, _, g, cells.map Prod.fst⟩ : Kon) = K at S kx
  have K₁ : Stk A outer K.Φ := by rw [← hK]; exact K₀
  rcases hb with hb | ⟨rfl, hr, hc, hb⟩
  · refine zcs X.kind ?_ (by rfl); refine Call_ ?_ (by rfl); refine zax X S ixm7 (zdf G) ?_; refine callWith_K G.XX (by kernel_rfl) ?_ (by rfl) (by rfl); refine args_cons ?_ (by rfl); refine zbv X S ixm1 ixm1 ?_; intro vN hvN; refine args_cons ?_ (by rfl); refine zbv X S ixm2 ixm2 ?_; intro vN hvN; refine zaf zab ?_; refine ⟨S.In G.XX, ?_⟩
    rename_i vM hvM
    refine wpAny_call (zd1 (c1 := c1) (la := la) (vs := vs) G (K₁.deeper X) S.enter0 hroom.deeper (.inl (zdh hb hvM)) fun e s' F => hEr _ _ <| zbp K₁ X (F.up0 S) fun s'' F => kx e s'' F)
  · simp only [zah] at S
    refine zcs X.kind ?_ (by rfl); refine Call_ ?_ (by rfl); refine zax X S ixm7 (zdf G) ?_; refine callWith_K G.XX (by kernel_rfl) ?_ (by rfl) (by rfl); refine args_cons ?_ (by rfl); refine r_ev (zae X S ixm1 ixm1) ?_; refine args_cons ?_ (by rfl); refine zbv X S ixm2 ixm2 ?_; intro vN hvN; refine zaf zab ?_; refine ⟨S.In G.XX, ?_⟩
    refine wpAny_call (zd1 G (K₁.deeper X) S.enter0 hroom.deeper (.inr ⟨rfl, hr, hc, zdh hb hvN⟩) fun e s' F => hEr _ _ <| zbp K₁ X (F.up0 S) fun s'' F => kx e s'' F)
theorem zcd (G : Gd w G0) (K₀ : Stk A outer Φ) (P : Rep g T fs xs) (I : Inv w G0 Φ g s.heap (T.led w ρ)) (hroom : Room A 4) (hfl : fs.length ≤ 1000)
    (hr1 : Rd g ρ a1 c1) (hc1 : SeqC c1 vs) (hr2 : Rd g ρ a2 c2) (hc2 : SeqC c2 ds) (hn1 : ∀ v ∈ vs, NumV v) (hn2 : ∀ v ∈ ds, NumV v) (hs1 : vs.length ≤ 1000) (hs2 : ds.length ≤ 1000)
    (hb : patOk vs ds → ∃ f ∈ fs, LetR f.1 ∧ vs = f.1.map V.int)
    (kx : ∀ e s', FlyS w G0 outer 57 e ⟨Φ, s, g, (T.led w ρ).map Prod.fst⟩ g s' (T.led w ρ) → R (.error (.ref e)) s') :
    codeAny (model pg w) A (.call (.ref 150) ⟨[.ref T.tb, .ref a1, .ref a2], []⟩) R s := by
  have hlk := P.lkl
  have hnk := P.nkl
  refine zle G K₀ P.sla P.sna I hroom hr1 hc1 hr2 hc2 hn1 hn2 (zjb (m := 1000) hs1 (by decide)) (zjb (m := 1000) hs2 (by decide)) P.pos (by (rw [sizeLine_eq]; omega)) (by (rw [sizeLine_eq]; exact Nat.le_trans hnk (Nat.le_trans hfl (by decide))))
    (fun ns ms ta s' e1 e2 hp hk hta S => ?_) (fun _ e s' F => kx e s' F)
  obtain ⟨f, hf, hl, e⟩ := hb hp
  rw [e] at e1
  have e3 := zaq e1
  subst e3
  have := (P.known hl).mpr ⟨f, hf, rfl⟩
  rw [hk] at this; cases this
theorem zb1 {x : Str} {tx : Tok} (G : Gd w G0) (K₀ : Stk A outer Φ) (P : Rep g T fs xs) (I : Inv w G0 Φ g s.heap (T.led w ρ)) (hroom : Room A 5) (hfl : fs.length ≤ 1000) (hxl : x.cps.toList.length ≤ 1000)
    (hb : ∀ p, patRead x.cps.toList = some p → ¬ patOk (p.1.map V.int) (p.2.1.map V.int))
    (kx : ∀ e s', FlyS w G0 outer 57 e ⟨Φ, s, g, (T.led w ρ).map Prod.fst⟩ g s' (T.led w ρ) → R (.error (.ref e)) s') :
    codeAny (model pg w) A (.call (.ref 157) ⟨[.ref T.tb, .str x tx], []⟩) R s := by
  have hlk := P.lkl
  have hnk := P.nkl
  exact zg3 G K₀ P.sla P.sna I hroom (by (rw [sizeLine_eq]; omega)) P.pos (by (rw [sizeLine_eq]; omega)) (by (rw [sizeLine_eq]; exact Nat.le_trans hnk (Nat.le_trans hfl (by decide))))
    (fun p ta s' e hp hk hta S => absurd hp (hb p e)) (fun _ e s' F => kx e s' F)
theorem zel (G : Gd w G0) (K₀ : Stk A outer Φ) (P : Rep g T fs xs) (I : Inv w G0 Φ g s.heap (T.led w ρ)) (hroom : Room A 4) (hxl : xs.length ≤ 1000)
    (hr1 : Rd g ρ a1 c1) (hc1 : SeqC c1 vs) (hr2 : Rd g ρ a2 c2) (hc2 : SeqC c2 ds) (hn1 : ∀ v ∈ vs, NumV v) (hn2 : ∀ v ∈ ds, NumV v) (hs1 : vs.length ≤ 1000) (hs2 : ds.length ≤ 1000) (hb : ¬ excOk vs ds)
    (kx : ∀ e s', FlyS w G0 outer 57 e ⟨Φ, s, g, (T.led w ρ).map Prod.fst⟩ g s' (T.led w ρ) → R (.error (.ref e)) s') :
    codeAny (model pg w) A (.call (.ref 162) ⟨[.ref T.tb, .ref a1, .ref a2], []⟩) R s := by
  have hek := P.ekl
  exact zc5 G K₀ I hroom hr1 hc1 hr2 hc2 hn1 hn2 (zjb (m := 1000) hs1 (by decide)) (zjb (m := 1000) hs2 (by decide)) (by (rw [sizeLine_eq]; exact Nat.le_trans hek (Nat.le_trans hxl (by decide)))) (fun ns qs ta s' e1 e2 hp hta S => absurd hp hb) (fun _ e s' F => kx e s' F)
theorem zip {x : Str} {tx : Tok} (G : Gd w G0) (K₀ : Stk A outer Φ) (P : Rep g T fs xs) (I : Inv w G0 Φ g s.heap (T.led w ρ)) (hroom : Room A 5) (hxl : xs.length ≤ 1000) (hxs : x.cps.toList.length ≤ 1000)
    (hb : ¬ excOk ((excRead x.cps.toList).1.map V.int) ((excRead x.cps.toList).2.map V.int))
    (kx : ∀ e s', FlyS w G0 outer 57 e ⟨Φ, s, g, (T.led w ρ).map Prod.fst⟩ g s' (T.led w ρ) → R (.error (.ref e)) s') :
    codeAny (model pg w) A (.call (.ref 169) ⟨[.ref T.tb, .str x tx], []⟩) R s := by
  have hek := P.ekl
  exact zg5 G K₀ I hroom (by (rw [sizeLine_eq]; omega)) (by (rw [sizeLine_eq]; exact Nat.le_trans hek (Nat.le_trans hxl (by decide)))) (fun ta s' hp hta S => absurd hp hb) (fun _ e s' F => kx e s' F)
theorem zcg {args : Args} {lv left right : Value} (G : Gd w G0) (K₀ : Stk A outer Φ) (P : Rep g T fs xs) (I : Inv w G0 Φ g s.heap (T.led w ρ)) (hroom : Room A 5) (hargs : PtsBinds w s args [.ref T.tb, lv, left, right])
    (hlv : (NoSeq lv ∧ vs = []) ∨ (lv = .ref a1 ∧ Rd g ρ a1 c1 ∧ SeqC c1 vs ∧ (∀ v ∈ vs, NumV v) ∧ vs.length ≤ sizeLine)) (hl : NumV (V.of left) ∨ left = .none) (hrt : NumV (V.of right) ∨ right = .none)
    (hb : wordV vs = false ∨ (∀ i, V.of left ≠ .int i) ∨ ∀ i, V.of right ≠ .int i)
    (kx : ∀ e s', FlyS w G0 outer 45 e ⟨Φ, s, g, (T.led w ρ).map Prod.fst⟩ g s' (T.led w ρ) → R (.error (.ref e)) s') :
    codeAny (model pg w) A (.call (.ref 182) args) R s := by
  refine zgq G K₀ P.sla P.sna P.sea I hroom hargs hlv hl hrt P.pos P.num P.nonum P.dep P.exc P.enone
    (fun ns' l' r' rr s' e1 e4 e2 e3 hrr S => ?_) (fun _ e s' F => kx e s' F)
  rcases hb with hb | hb | hb
  · rw [hb] at e4; cases e4
  · exact absurd e2 (hb l')
  · exact absurd e3 (hb r')
end
noncomputable def LamAt (g : PH) (cl : List (Str × Addr)) (qual : Str) (f : Addr) (e : Expr) : Prop :=
  ∃ params body scope pos pm c' ctv, e = .Lambda params body scope pos ∧ g f = some (.raw (kla_obj "<lambda>" qual params body scope (closOf cl scope.names []) pm c' ctv)) ∧ g c' = some (.opq (IsCodeRec qual))
theorem LamAt.mono {g g' : PH} {cl : List (Str × Addr)} {qual : Str} {f : Addr} {e : Expr} (h : LamAt g cl qual f e) (l : g.le g') : LamAt g' cl qual f e := by
  obtain ⟨params, body, scope, pos, pm, c', ctv, e1, e2, e3⟩ := h
  exact ⟨params, body, scope, pos, pm, c', ctv, e1, l _ _ e2, l _ _ e3⟩
noncomputable def noArgs (a : Arguments) : Bool := a.posonlyargs.isEmpty && (a.args.isEmpty && (a.vararg.isNone && (a.kwonlyargs.isEmpty && (a.kw_defaults.isEmpty && (a.kwarg.isNone && a.defaults.isEmpty)))))
theorem zl7 : ∀ {a : Arguments}, noArgs a = true → a = ⟨[], [], none, [], [], none, []⟩
  | ⟨l1, l2, o1, l3, l4, o2, l5⟩, h => by
    cases l1 with | cons => exact Bool.noConfusion (show false = true from h) | nil => ?_
    cases l2 with | cons => exact Bool.noConfusion (show false = true from h) | nil => ?_
    cases o1 with | some => exact Bool.noConfusion (show false = true from h) | none => ?_
    cases l3 with | cons => exact Bool.noConfusion (show false = true from h) | nil => ?_
    cases l4 with | cons => exact Bool.noConfusion (show false = true from h) | nil => ?_
    cases o2 with | some => exact Bool.noConfusion (show false = true from h) | none => ?_
    cases l5 with | cons => exact Bool.noConfusion (show false = true from h) | nil => rfl
noncomputable def lamP : Expr → Option (Arguments × Scope)
  | .Lambda a _ s _ => some (a, s)
  | _ => none
noncomputable def isLam (cl : List (Str × Addr)) (e : Expr) : Bool := match lamP e with
  | some p => noArgs p.1 && p.2.names.all (fun p => !(p.2 == .free) || (cl.lookup p.1).isSome)
  | none => false
theorem zm6 {cl : List (Str × Addr)} {e : Expr} (h : isLam cl e = true) : ∃ body scope pos, e = .Lambda ⟨[], [], none, [], [], none, []⟩ body scope pos ∧ scope.names.all (fun p => !(p.2 == .free) || (cl.lookup p.1).isSome) = true := by
  cases e with
  | Lambda a body scope pos =>
    have h := Bool.and_eq_true_iff.mp h
    obtain rfl := zl7 h.1
    exact ⟨body, scope, pos, rfl, h.2⟩
  | _ => exact Bool.noConfusion (show false = true from h)
noncomputable def LamsAre (g : PH) (cl : List (Str × Addr)) (qual : Str) : List Addr → List Expr → Prop
  | [], [] => True
  | f :: fs, e :: es => LamAt g cl qual f e ∧ LamsAre g cl qual fs es
  | _, _ => False
theorem LamsAre.mono {g g' : PH} {cl : List (Str × Addr)} {qual : Str} (l : g.le g') : ∀ {fs : List Addr} {es : List Expr}, LamsAre g cl qual fs es → LamsAre g' cl qual fs es
  | [], [], _ => trivial
  | _ :: _, _ :: _, h => ⟨h.1.mono l, LamsAre.mono l h.2⟩
  | [], _ :: _, h => h.elim
  | _ :: _, [], h => h.elim
noncomputable def ForallL (p : Expr → Prop) : List Expr → Prop
  | [] => True
  | e :: r => p e ∧ ForallL p r
theorem LamsAre.get {g : PH} {cl : List (Str × Addr)} {qual : Str} {p : Expr → Prop} : ∀ {fs : List Addr} {es : List Expr}, LamsAre g cl qual fs es → ForallL p es → ∀ (i : Nat) f, fs[i]? = some f → ∃ e, LamAt g cl qual f e ∧ p e
  | [], [], _, _, i, f, h => by simp at h
  | a :: r, e :: es, h, hp, 0, f, h2 => by
    simp only [List.getElem?_cons_zero, Option.some.injEq] at h2
    subst h2
    exact ⟨e, h.1, hp.1⟩
  | a :: r, e :: es, h, hp, i + 1, f, h2 => by
    rw [List.getElem?_cons_succ] at h2
    exact LamsAre.get h.2 hp.2 i f h2
  | [], _ :: _, h, _, _, _, _ => h.elim
  | _ :: _, [], h, _, _, _, _ => h.elim
theorem LamsAre.len {g : PH} {cl : List (Str × Addr)} {qual : Str} : ∀ {fs : List Addr} {es : List Expr}, LamsAre g cl qual fs es → fs.length = es.length
  | [], [], _ => rfl
  | _ :: _, _ :: _, h => by simp [LamsAre.len h.2]
  | [], _ :: _, h => h.elim
  | _ :: _, [], h => h.elim
theorem zlk {w : World} {G0 : Heap} {K : Kon} {ρ : Led} {L c P : Addr} {loc : Loc} {env : Env} {fr : Option Addr} {kinds : List (Str × NameKind)} {cl : List (Str × Addr)} {A : Around} {E : Value → Shared → Prop} {qual : Str} {pos : Pos}
    (G : Gl w G0) (X : EnvOk env L fr kinds cl) (hcode : env.code = .ref c) (hq : env.qual ++ "<lambda>" = qual) (C : CodeHd G0 c P) (hPg : G0.get? P = none) : ∀ (es : List Expr) {g : PH} {s : Shared} {ps : Array Value} {Q : List Value → Shared → Prop}, es.all (isLam cl) = true →
    SS w G0 K g s ((L, .ns loc) :: (P, TabC ps) :: ρ) → TabOk qual g ps →
    (∀ fls g' ps' s', LamsAre g' cl qual fls es → g.le g' → TabOk qual g' ps' → SS w G0 K g' s' ((L, .ns loc) :: (P, TabC ps') :: ρ) → Q (fls.map Value.ref) s') → wpAny (model pg w) A (spliced (backTo pos (starEach es env))) Q E s
  | [], g, s, ps, Q, _, S, T, k => args_nil (k [] g ps s trivial (PH.le.refl g) T S)
  | e :: r, g, s, ps, Q, he, S, T, k => by
    simp only [List.all_cons, Bool.and_eq_true] at he
    obtain ⟨he, hr⟩ := he
    obtain ⟨body, scope, ppos, rfl, he⟩ := zm6 he
    · refine args_cons (zfe G X hcode hq C hPg S T (zdo he) rfl fun f g' ps' s' pm c' ctv hle T' hf hc S' => ?_)
      refine zlk G X hcode hq C hPg r hr S' T' fun fls g'' ps'' s'' hl hle' T'' S'' => ?_
      try with_reducible first | refine hQ _ _ ?_ | refine hEnd _ ?_
      exact k (f :: fls) g'' ps'' s'' ⟨⟨_, body, scope, ppos, pm, c', ctv, rfl, hle' _ _ hf, hle' _ _ hc⟩, hl⟩ (hle.trans hle') T'' S''
noncomputable def qR : Str := (Str.ofString "_law_refused" ++ Str.ofString ".<locals>.") ++ Str.ofString "<lambda>"
noncomputable def badES (w : World) : List Expr := match (KK w).lookup 259 with
  | some o => (match o.data with
    | .func fd => (match fd.body with
      | .stmts (_ :: .Assign _ (.List es _) _ :: _) => es
      | _ => [])
    | _ => [])
  | none => []
noncomputable def worseES (w : World) : List Expr := match (KK w).lookup 259 with
  | some o => (match o.data with
    | .func fd => (match fd.body with
      | .stmts (_ :: _ :: .Assign _ (.List es _) _ :: _) => es
      | _ => [])
    | _ => [])
  | none => []
noncomputable def badE (w : World) (i : Nat) : Expr := (badES w).getD i (.Constant .none 0 ⟨0, 0, 0, 0⟩)
noncomputable def worseE (w : World) (i : Nat) : Expr := (worseES w).getD i (.Constant .none 0 ⟨0, 0, 0, 0⟩)
structure RA where
  c1 : Addr
  c2 : Addr
  c3 : Addr
  c4 : Addr
  c5 : Addr
  ka : Addr
  wa : Addr
  ma : Addr
  oa : Addr
structure RX (w : World) (G0 : Heap) (a : RA) (g : PH) (T : Tb) (fs : List Form) (xs : List (List Int × List Int)) (f0 : Form) (ns : List Int) : Prop where
  G : Gd w G0
  P : Rep g T fs xs
  hka : g a.ka = some (.list (f0.1.map V.int))
  hwa : g a.wa = some (.list (ns.map V.int))
  hma : g a.ma = some (.tup ((List.replicate 64 (97 : Int)).map V.int))
  hoa : g a.oa = some (.tup ((List.replicate ns.length (1 : Int)).map V.int))
  hf0 : f0 ∈ fs
  hfo : FormOk f0
  hne : ns ≠ []
  hnl : ns.length ≤ 15
  hlet : ∀ n ∈ ns, isLet n
  hfl : fs.length ≤ 1000
  hxl : xs.length ≤ 1000
theorem RX.mono {w : World} {G0 : Heap} {a : RA} {g g' : PH} {T : Tb} {fs : List Form} {xs : List (List Int × List Int)} {f0 : Form} {ns : List Int} (H : RX w G0 a g T fs xs f0 ns) (l : g.le g') : RX w G0 a g' T fs xs f0 ns :=
  { H with P := H.P.mono l, hka := l _ _ H.hka, hwa := l _ _ H.hwa, hma := l _ _ H.hma, hoa := l _ _ H.hoa }
noncomputable abbrev RC (a : RA) (T : Tb) (σ : Led) : Led := (a.c1, .cell (some (.ref T.tb))) :: (a.c2, .cell (some (.ref a.ka))) :: (a.c3, .cell (some (.ref a.wa))) :: (a.c4, .cell (some (.ref a.ma))) :: (a.c5, .cell (some (.ref a.oa))) :: σ
noncomputable abbrev clR (a : RA) : List (Str × Addr) := [("table", a.c1), ("known", a.c2), ("word", a.c3), ("many", a.c4), ("ones", a.c5)]
noncomputable def DB (w : World) (G0 : Heap) (a : RA) (g : PH) (T : Tb) (D : Addr) (e : Expr) : Prop :=
  ∀ f g5 σ, LamAt g5 (clR a) qR f e → g.le g5 → DeedOk w G0 g5 (T.led w (RC a T σ)) (.ref f) 8 (fun _ _ => False) (fun D' => D' = D)
theorem DB.of {w : World} {G0 : Heap} {a : RA} {g : PH} {T : Tb} {D : Addr} {e body : Expr} {scope : Scope} {pos : Pos} {fs : List Form} {xs : List (List Int × List Int)} {f0 : Form} {ns : List Int} {kinds : List (Str × NameKind)} {cl : List (Str × Addr)}
    (H : RX w G0 a g T fs xs f0 ns) (he : e = .Lambda ⟨[], [], none, [], [], none, []⟩ body scope pos) (hn : scope.names = kinds) (hcl : closOf (clR a) kinds [] = cl)
    (hs : NamesOk kinds ∧ kinds.all (fun p => !(p.2 == .cell)) = true) (hk : scope.kind = .function ∧ scope.isCoroutine = false ∧ scope.isGenerator = false)
    (k : ∀ g5 σ A outer K env L s Q E, RX w G0 a g5 T fs xs f0 ns → Stk A outer (L :: K.Φ) → Room A 7 → EnvOk env L (some L) kinds cl → SS w G0 K g5 s ((L, .ns []) :: T.led w (RC a T σ)) →
      (∀ e s', FlyS w G0 outer D e K g5 s' ((L, .ns []) :: T.led w (RC a T σ)) → E (.ref e) s') → wpAny (model pg w) A (eval body env) Q E s) : DB w G0 a g T D e := by
  subst he hn hcl
  intro f g5 σ hL hle A' outer' Φ' s₁ R' K' hr' I' kok kbad
  obtain ⟨params, body', scope', pos', pm, c', ctv, e, hf, hc⟩ := hL
  cases e
  refine ze1 H.G I' (hr'.mono (by decide)) hf hc rfl hs.1 hs.2 hk.1 hk.2.1 hk.2.2 (zc1 _ _ hs.1.1 (by simp) (fun _ _ h => by cases h)) ?_
  intro env L s X S Q E hQ hEr hPO
  exact k g5 σ _ _ ⟨Φ', s₁, g5, _⟩ env L s Q E (H.mono hle) (K'.deeper X) hr'.deeper X S fun e s' F => hEr _ _ <| zbp K' X F fun s'' F => kbad _ e s'' rfl F
theorem zch {vs : List V} (h : vs.all (fun v => match v with
    | .int _ => true
    | .bool _ => true
    | _ => false) = true) : ∀ v ∈ vs, NumV v := fun v hv => by
  have := List.all_eq_true.mp h v hv
  cases v <;> simp at this
  · exact .inr ⟨_, rfl⟩
  · exact .inl ⟨_, rfl⟩
theorem zds {as bs : List V} (h1 : ∀ v ∈ as, NumV v) (h2 : ∀ v ∈ bs, NumV v) : ∀ v ∈ as ++ bs, NumV v := fun v hv => (List.mem_append.mp hv).elim (h1 v) (h2 v)
theorem zka {n : Nat} {i : Int} : ∀ v ∈ (List.replicate n [V.int i]).flatten, NumV v := fun v hv => by
  obtain ⟨l, hl, hv⟩ := List.mem_flatten.mp hv
  rw [(List.mem_replicate.mp hl).2] at hv
  rw [List.mem_singleton.mp hv]; exact .inl ⟨_, rfl⟩
theorem zl0 {ns : List Int} (hne : ns ≠ []) (hl : ∀ n ∈ ns, isLet n) : ¬ wordV ((innerL (ns ++ [0] ++ ns)).map V.int) = true := by
  obtain ⟨x, r, rfl⟩ := List.exists_cons_of_ne_nil hne
  have hx : x ≠ 0 := by have := (hl x (.head _)).pos; omega
  have hlast : ((x :: r) ++ [0] ++ (x :: r)).getLast? ≠ some 0 := by
    rw [List.getLast?_append]
    cases q : (x :: r).getLast? with
    | none => simp at q
    | some z =>
      have := (hl z (List.mem_of_getLast? q)).pos
      simp; omega
  have e : innerL ((x :: r) ++ [0] ++ (x :: r)) = (x :: r) ++ [0] ++ (x :: r) := by
    have hb : beginOf ((x :: r) ++ [0] ++ (x :: r)) = 0 := by unfold beginOf; simp [hx]
    have he : endOf ((x :: r) ++ [0] ++ (x :: r)) = ((x :: r) ++ [0] ++ (x :: r)).length := by
      unfold endOf
      rw [if_neg (fun h => hlast h.2)]
    unfold innerL
    rw [hb, he]
    unfold sliceV
    simp only [Option.getD_some, List.drop_zero, List.take_length]
  rw [e]
  intro h
  obtain ⟨_, hall⟩ := zgr h
  obtain ⟨zs, e1, e2⟩ := hall
  have := zaq e1
  subst this
  have := e2 0 (by simp)
  omega
section
variable {w : World} {G0 : Heap} {a : RA} {g : PH} {T : Tb} {fs : List Form} {xs : List (List Int × List Int)} {f0 : Form} {ns : List Int}
theorem bad_0 (H : RX w G0 a g T fs xs f0 ns) : DB w G0 a g T 57 (badE w 0) := by
  have G := H.G
  refine DB.of H rfl (kinds := [(("known" : Str), .free), ("table", .free), ("len", .globalImplicit)]) (cl := [("table", a.c1), ("known", a.c2)]) rfl rfl (by decide +kernel) ⟨rfl, rfl, rfl⟩ fun g5 σ A outer K env L s Q E H5 K' hr' X S hx => ?_
  refine methodCall_KW ?_ (by rfl); refine r_ev (zad X S (Or.inr ixm1) ixm0 ixm6) ?_; refine zam (f := 150) (name := "add") G.XX (zat w) S ixm1 ixm2 (by kernel_rfl) (by kernel_rfl) (by rfl) ?_; refine zbk (KF := KK w) (by kernel_rfl) ?_ (by rfl) (by rfl); refine args_cons ?_ (by rfl); refine r_ev (zad X S (Or.inr ixm0) ixm1 ixm7) ?_; refine args_cons ?_ (by rfl); refine wpAny_BinOp ?_; refine List_ ?_; refine zaf (zaa rfl zac zab) ?_; refine zbg S sz1 ?_; walk_at "newo"; refine wpAny_BinOp ?_; refine zai X G.XX S ixm2 (zcc G) (Callee.bi _) (zaa rfl (zad X S (Or.inr ixm0) ixm1 ixm8) zab) ?_
  have hl := H.hfo.len
  refine zi4 S ((S.fact H5.hka).seq SeqC.ofL) (by (rw [List.length_map, sizeLine_eq]; omega)) ?_; walk_at "newt"
  rw [List.length_map]
  refine r_ev zac ?_; refine zeq ?_
  refine zgi S ((S.at ixm1).isL) (by rw [show (2 : Int) ^ 63 = 9223372036854775808 by decide]; omega) (by rw [show (2 : Int) ^ 63 = 9223372036854775808 by decide]; omega) (by simp; omega) fun on s hon S => ?_
  refine zaf zab ?_; refine ⟨S.In G.XX, ?_⟩
  have S := S.selN (ℓ' := (L, .ns []) :: T.led w ((on, _) :: RC a T σ)) [1, 3, 3, 3, 3, 3, 1, 2, 2, 2, 2, 2, 0] (by rfl)
  exact wpAny_call (zcd H.G K' H5.P S.enter0 (hr'.mono (by decide)) H.hfl (.inr H5.hka) SeqC.ofL (.inl ixm0) SeqC.ofL za8 zka (by rw [List.length_map]; omega) (by simp; omega) (fun _ => ⟨f0, H.hf0, H.hfo.range, rfl⟩) (fun e s' F => hx e s' ((F.up0 S).selN [1, 1, 1, 1, 1, 1, 2, 2, 2, 2, 2, 0] (by rfl))))
theorem bad_1 (H : RX w G0 a g T fs xs f0 ns) : DB w G0 a g T 57 (badE w 1) := by
  have G := H.G
  refine DB.of H rfl (kinds := [(("ones" : Str), .free), ("table", .free), ("word", .free)]) (cl := [("word", a.c3), ("table", a.c1), ("ones", a.c5)]) rfl rfl (by decide +kernel) ⟨rfl, rfl, rfl⟩ fun g5 σ A outer K env L s Q E H5 K' hr' X S hx => ?_
  have hnl := H.hnl
  refine methodCall_KW ?_ (by rfl); refine r_ev (zad X S (Or.inr ixm1) ixm1 ixm6) ?_; refine zam (f := 150) (name := "add") G.XX (zat w) S ixm1 ixm2 (by kernel_rfl) (by kernel_rfl) (by rfl) ?_; refine zbk (KF := KK w) (by kernel_rfl) ?_ (by rfl) (by rfl); refine zaf (zaa rfl (zad X S (Or.inr ixm2) ixm0 ixm8) (zaa rfl (zad X S (Or.inr ixm0) ixm2 zcf) zab)) ?_; refine ⟨S.In G.XX, ?_⟩
  refine wpAny_call (zcd H.G K' H5.P S.enter0 (hr'.mono (by decide)) H.hfl (.inr H5.hwa) SeqC.ofL (.inr H5.hoa) SeqC.ofT za8 za8 (by rw [List.length_map]; exact Nat.le_trans hnl (by decide)) (by simp; exact Nat.le_trans hnl (by decide)) ?_ (fun e s' F => hx e s' ((F.up0 S).sel Sel.refl)))
  rintro ⟨ls, ms, e1, e2, h3, h4, h5, h6, h7⟩
  have q1 := congrArg List.length e1
  have q2 := congrArg List.length e2
  simp at q1 q2
  omega
theorem bad_2 (H : RX w G0 a g T fs xs f0 ns) : DB w G0 a g T 57 (badE w 2) := by
  have G := H.G
  refine DB.of H rfl (kinds := [(("ones" : Str), .free), ("table", .free), ("word", .free)]) (cl := [("word", a.c3), ("table", a.c1), ("ones", a.c5)]) rfl rfl (by decide +kernel) ⟨rfl, rfl, rfl⟩ fun g5 σ A outer K env L s Q E H5 K' hr' X S hx => ?_
  refine methodCall_KW ?_ (by rfl); refine r_ev (zad X S (Or.inr ixm1) ixm1 ixm6) ?_; refine zam (f := 150) (name := "add") G.XX (zat w) S ixm1 ixm2 (by kernel_rfl) (by kernel_rfl) (by rfl) ?_; refine zbk (KF := KK w) (by kernel_rfl) ?_ (by rfl) (by rfl); refine args_cons ?_ (by rfl); refine r_ev (zad X S (Or.inr ixm2) ixm0 ixm8) ?_; refine args_cons ?_ (by rfl); refine wpAny_BinOp ?_; refine r_ev (zad X S (Or.inr ixm0) ixm2 zcf) ?_; refine Tuple_ ?_; refine zaf (zaa rfl zac zab) ?_; refine za2 S sz1 ?_; walk_at "newo"
  have hnl := H.hnl
  have hn1 := List.length_pos_iff.mpr H.hne
  refine zi3 S ((S.fact H5.hoa).isT) ((S.at ixm1).isT) (fun e => by have := congrArg List.length e; simp only [List.length_map, List.length_replicate, List.length_nil] at this; omega) (by simp) (by simp [sizeLine_eq]; exact Nat.le_trans hnl (by decide)) fun tu s htu S => ?_
  refine zaf zab ?_; refine ⟨S.In G.XX, ?_⟩
  have S := S.selN (ℓ' := (L, .ns []) :: T.led w ((_, .tup ((List.replicate ns.length (1 : Int)).map V.int ++ [.int 10])) :: RC a T σ)) [1, 3, 3, 3, 3, 3, 1, 2, 2, 2, 2, 2, 0] (by rfl)
  refine wpAny_call (zcd H.G K' H5.P S.enter0 (hr'.mono (by decide)) H.hfl (.inr H5.hwa) SeqC.ofL (.inl ixm0) SeqC.ofT za8 (zds za8 (zch rfl)) (by rw [List.length_map]; exact Nat.le_trans hnl (by decide)) (by simp; exact Nat.le_trans hnl (by decide)) ?_ (fun e s' F => hx e s' ((F.up0 S).selN [1, 1, 1, 1, 1, 1, 2, 2, 2, 2, 2, 0] (by rfl))))
  rintro ⟨ls, ms, e1, e2, h3, h4, h5, h6, h7⟩
  have hmem : .int 10 ∈ ms.map V.int := by rw [← e2]; exact List.mem_append_right _ (.head _)
  obtain ⟨m, hm, e⟩ := List.mem_map.mp hmem
  injection e with e
  have := h7 m hm
  omega
theorem bad_3 (H : RX w G0 a g T fs xs f0 ns) : DB w G0 a g T 57 (badE w 3) := by
  have G := H.G
  refine DB.of H rfl (kinds := [(("ones" : Str), .free), ("table", .free), ("word", .free)]) (cl := [("word", a.c3), ("table", a.c1), ("ones", a.c5)]) rfl rfl (by decide +kernel) ⟨rfl, rfl, rfl⟩ fun g5 σ A outer K env L s Q E H5 K' hr' X S hx => ?_
  refine methodCall_KW ?_ (by rfl); refine r_ev (zad X S (Or.inr ixm1) ixm1 ixm6) ?_; refine zam (f := 150) (name := "add") G.XX (zat w) S ixm1 ixm2 (by kernel_rfl) (by kernel_rfl) (by rfl) ?_; refine zbk (KF := KK w) (by kernel_rfl) ?_ (by rfl) (by rfl); refine args_cons ?_ (by rfl); refine r_ev (zad X S (Or.inr ixm2) ixm0 ixm8) ?_; refine args_cons ?_ (by rfl); refine wpAny_BinOp ?_; refine r_ev (zad X S (Or.inr ixm0) ixm2 zcf) ?_; refine Tuple_ ?_; refine zaf (zaa rfl (zeu zac) zab) ?_; refine za2 S sz1 ?_; walk_at "newo"
  have hnl := H.hnl
  have hn1 := List.length_pos_iff.mpr H.hne
  refine zi3 S ((S.fact H5.hoa).isT) ((S.at ixm1).isT) (fun e => by have := congrArg List.length e; simp only [List.length_map, List.length_replicate, List.length_nil] at this; omega) (by simp) (by simp [sizeLine_eq]; exact Nat.le_trans hnl (by decide)) fun tu s htu S => ?_
  refine zaf zab ?_; refine ⟨S.In G.XX, ?_⟩
  have S := S.selN (ℓ' := (L, .ns []) :: T.led w ((_, .tup ((List.replicate ns.length (1 : Int)).map V.int ++ [.int (-1)])) :: RC a T σ)) [1, 3, 3, 3, 3, 3, 1, 2, 2, 2, 2, 2, 0] (by rfl)
  refine wpAny_call (zcd H.G K' H5.P S.enter0 (hr'.mono (by decide)) H.hfl (.inr H5.hwa) SeqC.ofL (.inl ixm0) SeqC.ofT za8 (zds za8 (zch rfl)) (by rw [List.length_map]; exact Nat.le_trans hnl (by decide)) (by simp; exact Nat.le_trans hnl (by decide)) ?_ (fun e s' F => hx e s' ((F.up0 S).selN [1, 1, 1, 1, 1, 1, 2, 2, 2, 2, 2, 0] (by rfl))))
  rintro ⟨ls, ms, e1, e2, h3, h4, h5, h6, h7⟩
  have hmem : .int (-1) ∈ ms.map V.int := by rw [← e2]; exact List.mem_append_right _ (.head _)
  obtain ⟨m, hm, e⟩ := List.mem_map.mp hmem
  injection e with e
  have := h7 m hm
  omega
theorem bad_4 (H : RX w G0 a g T fs xs f0 ns) : DB w G0 a g T 57 (badE w 4) := by
  have G := H.G
  refine DB.of H rfl (kinds := [(("ones" : Str), .free), ("table", .free), ("word", .free)]) (cl := [("word", a.c3), ("table", a.c1), ("ones", a.c5)]) rfl rfl (by decide +kernel) ⟨rfl, rfl, rfl⟩ fun g5 σ A outer K env L s Q E H5 K' hr' X S hx => ?_
  refine methodCall_KW ?_ (by rfl); refine r_ev (zad X S (Or.inr ixm1) ixm1 ixm6) ?_; refine zam (f := 150) (name := "add") G.XX (zat w) S ixm1 ixm2 (by kernel_rfl) (by kernel_rfl) (by rfl) ?_; refine zbk (KF := KK w) (by kernel_rfl) ?_ (by rfl) (by rfl); refine args_cons ?_ (by rfl); refine r_ev (zad X S (Or.inr ixm2) ixm0 ixm8) ?_; refine args_cons ?_ (by rfl); refine wpAny_BinOp ?_; refine r_ev (zad X S (Or.inr ixm0) ixm2 zcf) ?_; refine Tuple_ ?_; refine zaf (zaa rfl zbu zab) ?_; refine za2 S sz1 ?_; walk_at "newo"
  have hnl := H.hnl
  have hn1 := List.length_pos_iff.mpr H.hne
  refine zi3 S ((S.fact H5.hoa).isT) ((S.at ixm1).isT) (fun e => by have := congrArg List.length e; simp only [List.length_map, List.length_replicate, List.length_nil] at this; omega) (by simp) (by simp [sizeLine_eq]; exact Nat.le_trans hnl (by decide)) fun tu s htu S => ?_
  refine zaf zab ?_; refine ⟨S.In G.XX, ?_⟩
  have S := S.selN (ℓ' := (L, .ns []) :: T.led w ((_, .tup ((List.replicate ns.length (1 : Int)).map V.int ++ [.bool true])) :: RC a T σ)) [1, 3, 3, 3, 3, 3, 1, 2, 2, 2, 2, 2, 0] (by rfl)
  refine wpAny_call (zcd H.G K' H5.P S.enter0 (hr'.mono (by decide)) H.hfl (.inr H5.hwa) SeqC.ofL (.inl ixm0) SeqC.ofT za8 (zds za8 (zch rfl)) (by rw [List.length_map]; exact Nat.le_trans hnl (by decide)) (by simp; exact Nat.le_trans hnl (by decide)) ?_ (fun e s' F => hx e s' ((F.up0 S).selN [1, 1, 1, 1, 1, 1, 2, 2, 2, 2, 2, 0] (by rfl))))
  rintro ⟨ls, ms, e1, e2, h3, h4, h5, h6, h7⟩
  have hmem : .bool true ∈ ms.map V.int := by rw [← e2]; exact List.mem_append_right _ (.head _)
  obtain ⟨m, hm, e⟩ := List.mem_map.mp hmem
  cases e
theorem bad_5 (H : RX w G0 a g T fs xs f0 ns) : DB w G0 a g T 57 (badE w 5) := by
  have G := H.G
  refine DB.of H rfl (kinds := [(("table" : Str), .free)]) (cl := [("table", a.c1)]) rfl rfl (by decide +kernel) ⟨rfl, rfl, rfl⟩ fun g5 σ A outer K env L s Q E H5 K' hr' X S hx => ?_
  refine methodCall_KW ?_ (by rfl); refine r_ev (zad X S (Or.inr ixm0) ixm0 ixm6) ?_; refine zam (f := 150) (name := "add") G.XX (zat w) S ixm1 ixm2 (by kernel_rfl) (by kernel_rfl) (by rfl) ?_; refine zbk (KF := KK w) (by kernel_rfl) ?_ (by rfl) (by rfl); refine args_cons ?_ (by rfl); refine Tuple_ ?_; refine zaf zab ?_; refine za2 S sz0 ?_; walk_at "newo"; refine args_cons ?_ (by rfl); refine Tuple_ ?_; refine zaf (zaa rfl zac zab) ?_; refine za2 S sz1 ?_; walk_at "newo"; refine zaf zab ?_; refine ⟨S.In G.XX, ?_⟩
  have S := S.selN (ℓ' := (L, .ns []) :: T.led w ((_, .tup [.int 1]) :: (_, .tup []) :: RC a T σ)) [1, 3, 3, 3, 3, 3] (by rfl)
  refine wpAny_call (zcd H.G K' H5.P S.enter0 (hr'.mono (by decide)) H.hfl (.inl ixm1) SeqC.ofT (.inl ixm0) SeqC.ofT (zch rfl) (zch rfl) (by show 0 ≤ 1000; decide) (by show 1 ≤ 1000; decide) ?_ (fun e s' F => hx e s' ((F.up0 S).selN [1, 1, 1, 1, 1, 1, 3, 3, 3, 3, 3, 0, 0] (by rfl))))
  rintro ⟨ls, ms, e1, e2, h3, h4, h5, h6, h7⟩
  have e := zaq (show ([] : List Int).map V.int = ls.map V.int from e1)
  subst e
  exact absurd h4 (by decide)
theorem bad_6 (H : RX w G0 a g T fs xs f0 ns) : DB w G0 a g T 57 (badE w 6) := by
  have G := H.G
  refine DB.of H rfl (kinds := [(("table" : Str), .free)]) (cl := [("table", a.c1)]) rfl rfl (by decide +kernel) ⟨rfl, rfl, rfl⟩ fun g5 σ A outer K env L s Q E H5 K' hr' X S hx => ?_
  refine methodCall_KW ?_ (by rfl); refine r_ev (zad X S (Or.inr ixm0) ixm0 ixm6) ?_; refine zam (f := 150) (name := "add") G.XX (zat w) S ixm1 ixm2 (by kernel_rfl) (by kernel_rfl) (by rfl) ?_; refine zbk (KF := KK w) (by kernel_rfl) ?_ (by rfl) (by rfl); refine args_cons ?_ (by rfl); refine Tuple_ ?_; refine zaf (zaa rfl zac zab) ?_; refine za2 S sz1 ?_; walk_at "newo"; refine args_cons ?_ (by rfl); refine Tuple_ ?_; refine zaf (zaa rfl zac (zaa rfl zac zab)) ?_; refine za2 S sz2 ?_; walk_at "newo"; refine zaf zab ?_; refine ⟨S.In G.XX, ?_⟩
  have S := S.selN (ℓ' := (L, .ns []) :: T.led w ((_, .tup [.int 1, .int 1]) :: (_, .tup [.int 0]) :: RC a T σ)) [1, 3, 3, 3, 3, 3] (by rfl)
  refine wpAny_call (zcd H.G K' H5.P S.enter0 (hr'.mono (by decide)) H.hfl (.inl ixm1) SeqC.ofT (.inl ixm0) SeqC.ofT (zch rfl) (zch rfl) (by show 1 ≤ 1000; decide) (by show 2 ≤ 1000; decide) ?_ (fun e s' F => hx e s' ((F.up0 S).selN [1, 1, 1, 1, 1, 1, 3, 3, 3, 3, 3, 0, 0] (by rfl))))
  rintro ⟨ls, ms, e1, e2, h3, h4, h5, h6, h7⟩
  have e := zaq (show ([0] : List Int).map V.int = ls.map V.int from e1)
  subst e
  exact absurd h4 (by decide)
theorem bad_7 (H : RX w G0 a g T fs xs f0 ns) : DB w G0 a g T 57 (badE w 7) := by
  have G := H.G
  refine DB.of H rfl (kinds := [(("table" : Str), .free)]) (cl := [("table", a.c1)]) rfl rfl (by decide +kernel) ⟨rfl, rfl, rfl⟩ fun g5 σ A outer K env L s Q E H5 K' hr' X S hx => ?_
  refine methodCall_KW ?_ (by rfl); refine r_ev (zad X S (Or.inr ixm0) ixm0 ixm6) ?_; refine zam (f := 150) (name := "add") G.XX (zat w) S ixm1 ixm2 (by kernel_rfl) (by kernel_rfl) (by rfl) ?_; refine zbk (KF := KK w) (by kernel_rfl) ?_ (by rfl) (by rfl); refine args_cons ?_ (by rfl); refine List_ ?_; refine zaf (zaa rfl zac (zaa rfl zac zab)) ?_; refine zbg S sz2 ?_; walk_at "newo"; refine args_cons ?_ (by rfl); refine List_ ?_; refine zaf (zaa rfl zac (zaa rfl zac (zaa rfl zac zab))) ?_; refine zbg S sz3 ?_; walk_at "newo"; refine zaf zab ?_; refine ⟨S.In G.XX, ?_⟩
  have S := S.selN (ℓ' := (L, .ns []) :: T.led w ((_, .list [.int 1, .int 1, .int 1]) :: (_, .list [.int 0, .int 0]) :: RC a T σ)) [1, 3, 3, 3, 3, 3] (by rfl)
  refine wpAny_call (zcd H.G K' H5.P S.enter0 (hr'.mono (by decide)) H.hfl (.inl ixm1) SeqC.ofL (.inl ixm0) SeqC.ofL (zch rfl) (zch rfl) (by show 2 ≤ 1000; decide) (by show 3 ≤ 1000; decide) ?_ (fun e s' F => hx e s' ((F.up0 S).selN [1, 1, 1, 1, 1, 1, 3, 3, 3, 3, 3, 0, 0] (by rfl))))
  rintro ⟨ls, ms, e1, e2, h3, h4, h5, h6, h7⟩
  have e := zaq (show ([0, 0] : List Int).map V.int = ls.map V.int from e1)
  subst e
  exact absurd h4 (by decide)
theorem bad_8 (H : RX w G0 a g T fs xs f0 ns) : DB w G0 a g T 57 (badE w 8) := by
  have G := H.G
  refine DB.of H rfl (kinds := [(("ones" : Str), .free), ("table", .free), ("word", .free)]) (cl := [("word", a.c3), ("table", a.c1), ("ones", a.c5)]) rfl rfl (by decide +kernel) ⟨rfl, rfl, rfl⟩ fun g5 σ A outer K env L s Q E H5 K' hr' X S hx => ?_
  have hnl := H.hnl
  have hn1 := List.length_pos_iff.mpr H.hne
  refine methodCall_KW ?_ (by rfl); refine r_ev (zad X S (Or.inr ixm1) ixm1 ixm6) ?_; refine zam (f := 150) (name := "add") G.XX (zat w) S ixm1 ixm2 (by kernel_rfl) (by kernel_rfl) (by rfl) ?_; refine zbk (KF := KK w) (by kernel_rfl) ?_ (by rfl) (by rfl); refine args_cons ?_ (by rfl); refine wpAny_BinOp ?_; refine wpAny_BinOp ?_; refine r_ev (zad X S (Or.inr ixm2) ixm0 ixm8) ?_; refine List_ ?_; refine zaf (zaa rfl zac zab) ?_; refine zbg S sz1 ?_; walk_at "newo"
  refine zff S ((S.fact H5.hwa).isL) ((S.at ixm1).isL) (by simp [sizeLine_eq]; exact Nat.le_trans hnl (by decide)) fun r1 s hr1 S => ?_
  refine r_ev (zad X S (Or.inr ixm2) ixm0 zcf) ?_
  refine zff S ((S.at ixm1).isL) ((S.fact H5.hwa).isL) (by simp [sizeLine_eq]; omega) fun r2 s hr2 S => ?_
  refine args_cons ?_ (by rfl); refine wpAny_BinOp ?_; refine wpAny_BinOp ?_; refine r_ev (zad X S (Or.inr ixm0) ixm2 (ixmt ixm1)) ?_; refine Tuple_ ?_; refine zaf (zaa rfl zac (zaa rfl zac zab)) ?_; refine za2 S sz2 ?_; walk_at "newo"
  refine zi3 S ((S.fact H5.hoa).isT) ((S.at ixm1).isT) (fun e => by have := congrArg List.length e; simp only [List.length_map, List.length_replicate, List.length_nil] at this; omega) (by simp) (by simp [sizeLine_eq]; exact Nat.le_trans hnl (by decide)) fun r3 s hr3 S => ?_
  refine r_ev (zad X S (Or.inr ixm0) ixm2 (ixmt ixm3)) ?_
  refine zi3 S ((S.at ixm1).isT) ((S.fact H5.hoa).isT) (by simp) (fun e => by have := congrArg List.length e; simp only [List.length_map, List.length_replicate, List.length_nil] at this; omega) (by simp [sizeLine_eq]; omega) fun r4 s hr4 S => ?_
  refine zaf zab ?_; refine ⟨S.In G.XX, ?_⟩
  have S := S.selN (ℓ' := (L, .ns []) :: T.led w ((r4, _) :: (r2, _) :: RC a T σ)) [1, 7, 7, 7, 7, 7, 1, 3, 5, 5, 5, 5, 5, 0, 0, 0, 0] (by rfl)
  refine wpAny_call (zcd H.G K' H5.P S.enter0 (hr'.mono (by decide)) H.hfl (.inl ixm1) SeqC.ofL (.inl ixm0) SeqC.ofT (zds (zds za8 (zch rfl)) za8) (zds (zds za8 (zch rfl)) za8) (by simp; omega) (by simp; omega) ?_ (fun e s' F => hx e s' ((F.up0 S).selN [1, 1, 1, 1, 1, 1, 3, 3, 3, 3, 3, 0, 0] (by rfl))))
  rintro ⟨ls, ms, e1, e2, h3, h4, h5, h6, h7⟩
  have e : ns ++ [0] ++ ns = ls := zaq (by rw [← e1]; simp)
  subst e
  exact absurd h4 (zl0 H.hne H.hlet)
theorem bad_9 (H : RX w G0 a g T fs xs f0 ns) : DB w G0 a g T 57 (badE w 9) := by
  have G := H.G
  refine DB.of H rfl (kinds := [(("table" : Str), .free)]) (cl := [("table", a.c1)]) rfl rfl (by decide +kernel) ⟨rfl, rfl, rfl⟩ fun g5 σ A outer K env L s Q E H5 K' hr' X S hx => ?_
  refine methodCall_KW ?_ (by rfl); refine r_ev (zad X S (Or.inr ixm0) ixm0 ixm6) ?_; refine zam (f := 150) (name := "add") G.XX (zat w) S ixm1 ixm2 (by kernel_rfl) (by kernel_rfl) (by rfl) ?_; refine zbk (KF := KK w) (by kernel_rfl) ?_ (by rfl) (by rfl); refine args_cons ?_ (by rfl); refine Tuple_ ?_; refine zaf (zaa rfl zac (zaa rfl zac zab)) ?_; refine za2 S sz2 ?_; walk_at "newo"; refine args_cons ?_ (by rfl); refine Tuple_ ?_; refine zaf (zaa rfl zac (zaa rfl zac (zaa rfl zac zab))) ?_; refine za2 S sz3 ?_; walk_at "newo"; refine zaf zab ?_; refine ⟨S.In G.XX, ?_⟩
  have S := S.selN (ℓ' := (L, .ns []) :: T.led w ((_, .tup [.int 1, .int 1, .int 1]) :: (_, .tup [.int 256, .int 97]) :: RC a T σ)) [1, 3, 3, 3, 3, 3] (by rfl)
  refine wpAny_call (zcd H.G K' H5.P S.enter0 (hr'.mono (by decide)) H.hfl (.inl ixm1) SeqC.ofT (.inl ixm0) SeqC.ofT (zch rfl) (zch rfl) (by show 2 ≤ 1000; decide) (by show 3 ≤ 1000; decide) ?_ (fun e s' F => hx e s' ((F.up0 S).selN [1, 1, 1, 1, 1, 1, 3, 3, 3, 3, 3, 0, 0] (by rfl))))
  rintro ⟨ls, ms, e1, e2, h3, h4, h5, h6, h7⟩
  have e := zaq (show ([256, 97] : List Int).map V.int = ls.map V.int from e1)
  subst e
  exact absurd (h3 256 (.head _)).2 (by decide)
theorem bad_10 (H : RX w G0 a g T fs xs f0 ns) : DB w G0 a g T 57 (badE w 10) := by
  have G := H.G
  refine DB.of H rfl (kinds := [(("table" : Str), .free)]) (cl := [("table", a.c1)]) rfl rfl (by decide +kernel) ⟨rfl, rfl, rfl⟩ fun g5 σ A outer K env L s Q E H5 K' hr' X S hx => ?_
  refine methodCall_KW ?_ (by rfl); refine r_ev (zad X S (Or.inr ixm0) ixm0 ixm6) ?_; refine zam (f := 150) (name := "add") G.XX (zat w) S ixm1 ixm2 (by kernel_rfl) (by kernel_rfl) (by rfl) ?_; refine zbk (KF := KK w) (by kernel_rfl) ?_ (by rfl) (by rfl); refine args_cons ?_ (by rfl); refine Tuple_ ?_; refine zaf (zaa rfl zbu (zaa rfl zac zab)) ?_; refine za2 S sz2 ?_; walk_at "newo"; refine args_cons ?_ (by rfl); refine Tuple_ ?_; refine zaf (zaa rfl zac (zaa rfl zac (zaa rfl zac zab))) ?_; refine za2 S sz3 ?_; walk_at "newo"; refine zaf zab ?_; refine ⟨S.In G.XX, ?_⟩
  have S := S.selN (ℓ' := (L, .ns []) :: T.led w ((_, .tup [.int 1, .int 1, .int 1]) :: (_, .tup [.bool true, .int 97]) :: RC a T σ)) [1, 3, 3, 3, 3, 3] (by rfl)
  refine wpAny_call (zcd H.G K' H5.P S.enter0 (hr'.mono (by decide)) H.hfl (.inl ixm1) SeqC.ofT (.inl ixm0) SeqC.ofT (zch rfl) (zch rfl) (by show 2 ≤ 1000; decide) (by show 3 ≤ 1000; decide) ?_ (fun e s' F => hx e s' ((F.up0 S).selN [1, 1, 1, 1, 1, 1, 3, 3, 3, 3, 3, 0, 0] (by rfl))))
  rintro ⟨ls, ms, e1, e2, h3, h4, h5, h6, h7⟩
  cases ls with
  | nil => cases e1
  | cons x r => injection e1 with e _; cases e
theorem bad_11 (H : RX w G0 a g T fs xs f0 ns) : DB w G0 a g T 57 (badE w 11) := by
  have G := H.G
  refine DB.of H rfl (kinds := [(("many" : Str), .free), ("table", .free)]) (cl := [("table", a.c1), ("many", a.c4)]) rfl rfl (by decide +kernel) ⟨rfl, rfl, rfl⟩ fun g5 σ A outer K env L s Q E H5 K' hr' X S hx => ?_
  refine methodCall_KW ?_ (by rfl); refine r_ev (zad X S (Or.inr ixm1) ixm0 ixm6) ?_; refine zam (f := 150) (name := "add") G.XX (zat w) S ixm1 ixm2 (by kernel_rfl) (by kernel_rfl) (by rfl) ?_; refine zbk (KF := KK w) (by kernel_rfl) ?_ (by rfl) (by rfl); refine args_cons ?_ (by rfl); refine r_ev (zad X S (Or.inr ixm0) ixm1 ixm9) ?_; refine args_cons ?_ (by rfl); refine wpAny_BinOp ?_; refine Tuple_ ?_; refine zaf (zaa rfl zac zab) ?_; refine za2 S sz1 ?_; walk_at "newo"; refine r_ev zac ?_
  refine zlp S (by simp) (by decide) (by decide) hN fun r1 s hr1 S => ?_
  refine zaf zab ?_; refine ⟨S.In G.XX, ?_⟩
  have S := S.selN (ℓ' := (L, .ns []) :: T.led w ((r1, _) :: RC a T σ)) [1, 2, 2, 2, 2, 2] (by rfl)
  refine wpAny_call (zcd H.G K' H5.P S.enter0 (hr'.mono (by decide)) H.hfl (.inr H5.hma) SeqC.ofT (.inl ixm0) SeqC.ofT za8 zka (by rw [List.length_map, List.length_replicate]; decide) (by decide) ?_ (fun e s' F => hx e s' ((F.up0 S).selN [1, 1, 1, 1, 1, 1, 2, 2, 2, 2, 2, 0] (by rfl))))
  rintro ⟨ls, ms, e1, e2, h3, h4, h5, h6, h7⟩
  have e := zaq e1
  subst e
  rw [List.length_replicate] at h5
  exact absurd h5 (by decide)
theorem bad_12 (H : RX w G0 a g T fs xs f0 ns) : DB w G0 a g T 57 (badE w 12) := by
  have G := H.G
  refine DB.of H rfl (kinds := [(("table" : Str), .free)]) (cl := [("table", a.c1)]) rfl rfl (by decide +kernel) ⟨rfl, rfl, rfl⟩ fun g5 σ A outer K env L s Q E H5 K' hr' X S hx => ?_
  refine methodCall_KW ?_ (by rfl); refine r_ev (zad X S (Or.inr ixm0) ixm0 ixm6) ?_; refine zam (f := 157) (name := "add_text") G.XX (zat w) S ixm1 ixm2 (by kernel_rfl) (by kernel_rfl) (by rfl) ?_; refine zbk (KF := KK w) (by kernel_rfl) ?_ (by rfl) (by rfl); refine zaf (zaa rfl zb5 zab) ?_; refine ⟨S.In G.XX, ?_⟩
  refine wpAny_call (zb1 H.G K' H5.P S.enter0 (hr'.mono (by decide)) H.hfl (by show (Str.ofString "").cps.toList.length ≤ 1000; decide +kernel) ?_ (fun e s' F => hx e s' ((F.up0 S).sel Sel.refl)))
  intro p hp
  have e : patRead (Str.ofString "").cps.toList = some ([], [0], false) := by decide +kernel
  rw [e] at hp
  cases hp
  rintro ⟨ls, ms, e1, e2, h3, h4, h5, h6, h7⟩
  have e := zaq (show ([] : List Int).map V.int = ls.map V.int from e1)
  subst e
  exact absurd h4 (by decide)
theorem bad_13 (H : RX w G0 a g T fs xs f0 ns) : DB w G0 a g T 57 (badE w 13) := by
  have G := H.G
  refine DB.of H rfl (kinds := [(("table" : Str), .free)]) (cl := [("table", a.c1)]) rfl rfl (by decide +kernel) ⟨rfl, rfl, rfl⟩ fun g5 σ A outer K env L s Q E H5 K' hr' X S hx => ?_
  refine methodCall_KW ?_ (by rfl); refine r_ev (zad X S (Or.inr ixm0) ixm0 ixm6) ?_; refine zam (f := 157) (name := "add_text") G.XX (zat w) S ixm1 ixm2 (by kernel_rfl) (by kernel_rfl) (by rfl) ?_; refine zbk (KF := KK w) (by kernel_rfl) ?_ (by rfl) (by rfl); refine zaf (zaa rfl zb5 zab) ?_; refine ⟨S.In G.XX, ?_⟩
  refine wpAny_call (zb1 H.G K' H5.P S.enter0 (hr'.mono (by decide)) H.hfl (by show (Str.ofString "7").cps.toList.length ≤ 1000; decide +kernel) ?_ (fun e s' F => hx e s' ((F.up0 S).sel Sel.refl)))
  intro p hp
  have e : patRead (Str.ofString "7").cps.toList = some ([], [7], true) := by decide +kernel
  rw [e] at hp
  cases hp
  rintro ⟨ls, ms, e1, e2, h3, h4, h5, h6, h7⟩
  have e := zaq (show ([] : List Int).map V.int = ls.map V.int from e1)
  subst e
  exact absurd h4 (by decide)
end
section
variable {w : World} {G0 : Heap} {a : RA} {g : PH} {T : Tb} {fs : List Form} {xs : List (List Int × List Int)} {f0 : Form} {ns : List Int}
theorem bad_14 (H : RX w G0 a g T fs xs f0 ns) : DB w G0 a g T 57 (badE w 14) := by
  have G := H.G
  refine DB.of H rfl (kinds := [(("table" : Str), .free)]) (cl := [("table", a.c1)]) rfl rfl (by decide +kernel) ⟨rfl, rfl, rfl⟩ fun g5 σ A outer K env L s Q E H5 K' hr' X S hx => ?_
  refine methodCall_KW ?_ (by rfl); refine r_ev (zad X S (Or.inr ixm0) ixm0 ixm6) ?_; refine zam (f := 157) (name := "add_text") G.XX (zat w) S ixm1 ixm2 (by kernel_rfl) (by kernel_rfl) (by rfl) ?_; refine zbk (KF := KK w) (by kernel_rfl) ?_ (by rfl) (by rfl); refine zaf (zaa rfl zb5 zab) ?_; refine ⟨S.In G.XX, ?_⟩
  refine wpAny_call (zb1 H.G K' H5.P S.enter0 (hr'.mono (by decide)) H.hfl (by show (Str.ofString ".").cps.toList.length ≤ 1000; decide +kernel) ?_ (fun e s' F => hx e s' ((F.up0 S).sel Sel.refl)))
  intro p hp
  have e : patRead (Str.ofString ".").cps.toList = some ([0], [0, 0], false) := by decide +kernel
  rw [e] at hp
  cases hp
  rintro ⟨ls, ms, e1, e2, h3, h4, h5, h6, h7⟩
  have e := zaq (show ([0] : List Int).map V.int = ls.map V.int from e1)
  subst e
  exact absurd h4 (by decide)
theorem bad_15 (H : RX w G0 a g T fs xs f0 ns) : DB w G0 a g T 57 (badE w 15) := by
  have G := H.G
  refine DB.of H rfl (kinds := [(("table" : Str), .free)]) (cl := [("table", a.c1)]) rfl rfl (by decide +kernel) ⟨rfl, rfl, rfl⟩ fun g5 σ A outer K env L s Q E H5 K' hr' X S hx => ?_
  refine methodCall_KW ?_ (by rfl); refine r_ev (zad X S (Or.inr ixm0) ixm0 ixm6) ?_; refine zam (f := 157) (name := "add_text") G.XX (zat w) S ixm1 ixm2 (by kernel_rfl) (by kernel_rfl) (by rfl) ?_; refine zbk (KF := KK w) (by kernel_rfl) ?_ (by rfl) (by rfl); refine zaf (zaa rfl zb5 zab) ?_; refine ⟨S.In G.XX, ?_⟩
  refine wpAny_call (zb1 H.G K' H5.P S.enter0 (hr'.mono (by decide)) H.hfl (by show (Str.ofString "a12").cps.toList.length ≤ 1000; decide +kernel) ?_ (fun e s' F => hx e s' ((F.up0 S).sel Sel.refl)))
  intro p hp
  have e : patRead (Str.ofString "a12").cps.toList = none := by decide +kernel
  rw [e] at hp
  cases hp
theorem bad_16 (H : RX w G0 a g T fs xs f0 ns) : DB w G0 a g T 57 (badE w 16) := by
  have G := H.G
  refine DB.of H rfl (kinds := [(("table" : Str), .free)]) (cl := [("table", a.c1)]) rfl rfl (by decide +kernel) ⟨rfl, rfl, rfl⟩ fun g5 σ A outer K env L s Q E H5 K' hr' X S hx => ?_
  refine methodCall_KW ?_ (by rfl); refine r_ev (zad X S (Or.inr ixm0) ixm0 ixm6) ?_; refine zam (f := 157) (name := "add_text") G.XX (zat w) S ixm1 ixm2 (by kernel_rfl) (by kernel_rfl) (by rfl) ?_; refine zbk (KF := KK w) (by kernel_rfl) ?_ (by rfl) (by rfl); refine zaf (zaa rfl zb5 zab) ?_; refine ⟨S.In G.XX, ?_⟩
  refine wpAny_call (zb1 H.G K' H5.P S.enter0 (hr'.mono (by decide)) H.hfl (by show (Str.ofString "a.b").cps.toList.length ≤ 1000; decide +kernel) ?_ (fun e s' F => hx e s' ((F.up0 S).sel Sel.refl)))
  intro p hp
  have e : patRead (Str.ofString "a.b").cps.toList = some ([97, 0, 98], [0, 0, 0, 0], false) := by decide +kernel
  rw [e] at hp
  cases hp
  rintro ⟨ls, ms, e1, e2, h3, h4, h5, h6, h7⟩
  have e := zaq (show ([97, 0, 98] : List Int).map V.int = ls.map V.int from e1)
  subst e
  exact absurd h4 (by decide)
theorem bad_17 (H : RX w G0 a g T fs xs f0 ns) : DB w G0 a g T 57 (badE w 17) := by
  have G := H.G
  refine DB.of H rfl (kinds := [(("table" : Str), .free), ("chr", .globalImplicit)]) (cl := [("table", a.c1)]) rfl rfl (by decide +kernel) ⟨rfl, rfl, rfl⟩ fun g5 σ A outer K env L s Q E H5 K' hr' X S hx => ?_
  refine methodCall_KW ?_ (by rfl); refine r_ev (zad X S (Or.inr ixm0) ixm0 ixm6) ?_; refine zam (f := 157) (name := "add_text") G.XX (zat w) S ixm1 ixm2 (by kernel_rfl) (by kernel_rfl) (by rfl) ?_; refine zbk (KF := KK w) (by kernel_rfl) ?_ (by rfl) (by rfl); refine args_cons ?_ (by rfl); refine wpAny_BinOp ?_; refine r_ev zb5 ?_; refine zai X G.XX S ixm1 (zkk G) (Callee.bi _) (zaa rfl zac zab) ?_; refine zkx S (by omega) (by omega) ?_; walk_at "newt"
  refine zec S (by show (Str.ofString "a").cps.toList.length + ((⟨#[(256 : Int).toNat]⟩ : Str)).cps.toList.length ≤ sizeLine; decide +kernel) ?_; walk_at "newt"
  refine zaf zab ?_; refine ⟨S.In G.XX, ?_⟩
  refine wpAny_call (zb1 H.G K' H5.P S.enter0 (hr'.mono (by decide)) H.hfl (by show ((Str.ofString "a" ++ (⟨#[(256 : Int).toNat]⟩ : Str) : Str)).cps.toList.length ≤ 1000; decide +kernel) ?_ (fun e s' F => hx e s' ((F.up0 S).sel Sel.refl)))
  intro p hp
  have e : patRead ((Str.ofString "a" ++ (⟨#[(256 : Int).toNat]⟩ : Str) : Str)).cps.toList = some ([97, 256], [0, 0, 0], false) := by decide +kernel
  rw [e] at hp
  cases hp
  rintro ⟨ls, ms, e1, e2, h3, h4, h5, h6, h7⟩
  have e := zaq (show ([97, 256] : List Int).map V.int = ls.map V.int from e1)
  subst e
  exact absurd (h3 256 (by simp)).2 (by decide)
theorem bad_18 (H : RX w G0 a g T fs xs f0 ns) : DB w G0 a g T 57 (badE w 18) := by
  have G := H.G
  refine DB.of H rfl (kinds := [(("table" : Str), .free), ("chr", .globalImplicit)]) (cl := [("table", a.c1)]) rfl rfl (by decide +kernel) ⟨rfl, rfl, rfl⟩ fun g5 σ A outer K env L s Q E H5 K' hr' X S hx => ?_
  refine methodCall_KW ?_ (by rfl); refine r_ev (zad X S (Or.inr ixm0) ixm0 ixm6) ?_; refine zam (f := 157) (name := "add_text") G.XX (zat w) S ixm1 ixm2 (by kernel_rfl) (by kernel_rfl) (by rfl) ?_; refine zbk (KF := KK w) (by kernel_rfl) ?_ (by rfl) (by rfl); refine args_cons ?_ (by rfl); refine wpAny_BinOp ?_; refine zai X G.XX S ixm1 (zkk G) (Callee.bi _) (zaa rfl zac zab) ?_; refine zkx S (by omega) (by omega) ?_; walk_at "newt"; refine r_ev zb5 ?_
  refine zec S (by show ((⟨#[(0 : Int).toNat]⟩ : Str)).cps.toList.length + (Str.ofString "a").cps.toList.length ≤ sizeLine; decide +kernel) ?_; walk_at "newt"
  refine zaf zab ?_; refine ⟨S.In G.XX, ?_⟩
  refine wpAny_call (zb1 H.G K' H5.P S.enter0 (hr'.mono (by decide)) H.hfl (by show (((⟨#[(0 : Int).toNat]⟩ : Str) ++ Str.ofString "a" : Str)).cps.toList.length ≤ 1000; decide +kernel) ?_ (fun e s' F => hx e s' ((F.up0 S).sel Sel.refl)))
  intro p hp
  have e : patRead (((⟨#[(0 : Int).toNat]⟩ : Str) ++ Str.ofString "a" : Str)).cps.toList = none := by decide +kernel
  rw [e] at hp
  cases hp
theorem bad_19 (H : RX w G0 a g T fs xs f0 ns) : DB w G0 a g T 57 (badE w 19) := by
  have G := H.G
  refine DB.of H rfl (kinds := [(("table" : Str), .free), ("word", .free), ("len", .globalImplicit)]) (cl := [("word", a.c3), ("table", a.c1)]) rfl rfl (by decide +kernel) ⟨rfl, rfl, rfl⟩ fun g5 σ A outer K env L s Q E H5 K' hr' X S hx => ?_
  have hnl := H.hnl
  refine methodCall_KW ?_ (by rfl); refine r_ev (zad X S (Or.inr ixm0) ixm1 ixm6) ?_; refine zam (f := 162) (name := "add_exception") G.XX (zat w) S ixm1 ixm2 (by kernel_rfl) (by kernel_rfl) (by rfl) ?_; refine zbk (KF := KK w) (by kernel_rfl) ?_ (by rfl) (by rfl); refine args_cons ?_ (by rfl); refine r_ev (zad X S (Or.inr ixm1) ixm0 ixm8) ?_; refine args_cons ?_ (by rfl); refine Tuple_ ?_; refine args_cons ?_ (by rfl); refine r_ev zac ?_; refine args_cons ?_ (by rfl); refine r_ev zac ?_; refine args_cons ?_ (by rfl); refine wpAny_BinOp ?_; refine zai X G.XX S ixm2 (zcc G) (Callee.bi _) (zaa rfl (zad X S (Or.inr ixm1) ixm0 ixm8) zab) ?_
  refine zi4 S ((S.fact H5.hwa).seq SeqC.ofL) (by (rw [List.length_map, sizeLine_eq]; exact Nat.le_trans hnl (by decide))) ?_; walk_at "newt"
  rw [List.length_map]
  refine r_ev zac ?_; refine zeq ?_; refine zaf zab ?_; refine za2 S sz3 ?_; walk_at "newo"; refine zaf zab ?_; refine ⟨S.In G.XX, ?_⟩
  have S := S.selN (ℓ' := (L, .ns []) :: T.led w ((_, .tup [.int 0, .int 1, .int ((ns.length : Int) + 1)]) :: RC a T σ)) [1, 2, 2, 2, 2, 2] (by rfl)
  refine wpAny_call (zel H.G K' H5.P S.enter0 (hr'.mono (by decide)) H.hxl (.inr H5.hwa) SeqC.ofL (.inl ixm0) SeqC.ofT za8 (zch rfl) (by rw [List.length_map]; exact Nat.le_trans hnl (by decide)) (by show 3 ≤ 1000; decide) ?_ (fun e s' F => hx e s' ((F.up0 S).selN [1, 1, 1, 1, 1, 1, 2, 2, 2, 2, 2, 0] (by rfl))))
  rintro ⟨ls, qs, e1, e2, h3, h4, h5⟩
  have hmem : V.int ((ns.length : Int) + 1) ∈ qs.map V.int := by rw [← e2]; simp
  obtain ⟨m, hm, e⟩ := List.mem_map.mp hmem
  injection e with e
  have := h5 m hm
  have q1 := congrArg List.length e1
  simp at q1
  omega
theorem bad_20 (H : RX w G0 a g T fs xs f0 ns) : DB w G0 a g T 57 (badE w 20) := by
  have G := H.G
  refine DB.of H rfl (kinds := [(("table" : Str), .free), ("word", .free)]) (cl := [("word", a.c3), ("table", a.c1)]) rfl rfl (by decide +kernel) ⟨rfl, rfl, rfl⟩ fun g5 σ A outer K env L s Q E H5 K' hr' X S hx => ?_
  have hnl := H.hnl
  refine methodCall_KW ?_ (by rfl); refine r_ev (zad X S (Or.inr ixm0) ixm1 ixm6) ?_; refine zam (f := 162) (name := "add_exception") G.XX (zat w) S ixm1 ixm2 (by kernel_rfl) (by kernel_rfl) (by rfl) ?_; refine zbk (KF := KK w) (by kernel_rfl) ?_ (by rfl) (by rfl); refine args_cons ?_ (by rfl); refine r_ev (zad X S (Or.inr ixm1) ixm0 ixm8) ?_; refine args_cons ?_ (by rfl); refine Tuple_ ?_; refine zaf (zaa rfl zac (zaa rfl (zeu zac) zab)) ?_; refine za2 S sz2 ?_; walk_at "newo"; refine zaf zab ?_; refine ⟨S.In G.XX, ?_⟩
  have S := S.selN (ℓ' := (L, .ns []) :: T.led w ((_, .tup [.int 1, .int (-1)]) :: RC a T σ)) [1, 2, 2, 2, 2, 2] (by rfl)
  refine wpAny_call (zel H.G K' H5.P S.enter0 (hr'.mono (by decide)) H.hxl (.inr H5.hwa) SeqC.ofL (.inl ixm0) SeqC.ofT za8 (zch rfl) (by rw [List.length_map]; exact Nat.le_trans hnl (by decide)) (by show 2 ≤ 1000; decide) ?_ (fun e s' F => hx e s' ((F.up0 S).selN [1, 1, 1, 1, 1, 1, 2, 2, 2, 2, 2, 0] (by rfl))))
  rintro ⟨ls, qs, e1, e2, h3, h4, h5⟩
  have hmem : V.int (-1) ∈ qs.map V.int := by rw [← e2]; simp
  obtain ⟨m, hm, e⟩ := List.mem_map.mp hmem
  injection e with e
  have := h5 m hm
  omega
theorem bad_21 (H : RX w G0 a g T fs xs f0 ns) : DB w G0 a g T 57 (badE w 21) := by
  have G := H.G
  refine DB.of H rfl (kinds := [(("table" : Str), .free), ("word", .free)]) (cl := [("word", a.c3), ("table", a.c1)]) rfl rfl (by decide +kernel) ⟨rfl, rfl, rfl⟩ fun g5 σ A outer K env L s Q E H5 K' hr' X S hx => ?_
  have hnl := H.hnl
  refine methodCall_KW ?_ (by rfl); refine r_ev (zad X S (Or.inr ixm0) ixm1 ixm6) ?_; refine zam (f := 162) (name := "add_exception") G.XX (zat w) S ixm1 ixm2 (by kernel_rfl) (by kernel_rfl) (by rfl) ?_; refine zbk (KF := KK w) (by kernel_rfl) ?_ (by rfl) (by rfl); refine args_cons ?_ (by rfl); refine r_ev (zad X S (Or.inr ixm1) ixm0 ixm8) ?_; refine args_cons ?_ (by rfl); refine Tuple_ ?_; refine zaf (zaa rfl zbu zab) ?_; refine za2 S sz1 ?_; walk_at "newo"; refine zaf zab ?_; refine ⟨S.In G.XX, ?_⟩
  have S := S.selN (ℓ' := (L, .ns []) :: T.led w ((_, .tup [.bool true]) :: RC a T σ)) [1, 2, 2, 2, 2, 2] (by rfl)
  refine wpAny_call (zel H.G K' H5.P S.enter0 (hr'.mono (by decide)) H.hxl (.inr H5.hwa) SeqC.ofL (.inl ixm0) SeqC.ofT za8 (zch rfl) (by rw [List.length_map]; exact Nat.le_trans hnl (by decide)) (by show 1 ≤ 1000; decide) ?_ (fun e s' F => hx e s' ((F.up0 S).selN [1, 1, 1, 1, 1, 1, 2, 2, 2, 2, 2, 0] (by rfl))))
  rintro ⟨ls, qs, e1, e2, h3, h4, h5⟩
  have hmem : V.bool true ∈ qs.map V.int := by rw [← e2]; simp
  obtain ⟨m, hm, e⟩ := List.mem_map.mp hmem
  cases e
theorem bad_22 (H : RX w G0 a g T fs xs f0 ns) : DB w G0 a g T 57 (badE w 22) := by
  have G := H.G
  refine DB.of H rfl (kinds := [(("table" : Str), .free)]) (cl := [("table", a.c1)]) rfl rfl (by decide +kernel) ⟨rfl, rfl, rfl⟩ fun g5 σ A outer K env L s Q E H5 K' hr' X S hx => ?_
  refine methodCall_KW ?_ (by rfl); refine r_ev (zad X S (Or.inr ixm0) ixm0 ixm6) ?_; refine zam (f := 162) (name := "add_exception") G.XX (zat w) S ixm1 ixm2 (by kernel_rfl) (by kernel_rfl) (by rfl) ?_; refine zbk (KF := KK w) (by kernel_rfl) ?_ (by rfl) (by rfl); refine args_cons ?_ (by rfl); refine Tuple_ ?_; refine zaf (zaa rfl zac (zaa rfl zac zab)) ?_; refine za2 S sz2 ?_; walk_at "newo"; refine args_cons ?_ (by rfl); refine Tuple_ ?_; refine zaf (zaa rfl zac zab) ?_; refine za2 S sz1 ?_; walk_at "newo"; refine zaf zab ?_; refine ⟨S.In G.XX, ?_⟩
  have S := S.selN (ℓ' := (L, .ns []) :: T.led w ((_, .tup [.int 1]) :: (_, .tup [.int 97, .int 0]) :: RC a T σ)) [1, 3, 3, 3, 3, 3] (by rfl)
  refine wpAny_call (zel H.G K' H5.P S.enter0 (hr'.mono (by decide)) H.hxl (.inl ixm1) SeqC.ofT (.inl ixm0) SeqC.ofT (zch rfl) (zch rfl) (by show 2 ≤ 1000; decide) (by show 1 ≤ 1000; decide) ?_ (fun e s' F => hx e s' ((F.up0 S).selN [1, 1, 1, 1, 1, 1, 3, 3, 3, 3, 3, 0, 0] (by rfl))))
  rintro ⟨ls, qs, e1, e2, h3, h4, h5⟩
  exact absurd h3 (by decide)
theorem bad_23 (H : RX w G0 a g T fs xs f0 ns) : DB w G0 a g T 57 (badE w 23) := by
  have G := H.G
  refine DB.of H rfl (kinds := [(("table" : Str), .free)]) (cl := [("table", a.c1)]) rfl rfl (by decide +kernel) ⟨rfl, rfl, rfl⟩ fun g5 σ A outer K env L s Q E H5 K' hr' X S hx => ?_
  refine methodCall_KW ?_ (by rfl); refine r_ev (zad X S (Or.inr ixm0) ixm0 ixm6) ?_; refine zam (f := 162) (name := "add_exception") G.XX (zat w) S ixm1 ixm2 (by kernel_rfl) (by kernel_rfl) (by rfl) ?_; refine zbk (KF := KK w) (by kernel_rfl) ?_ (by rfl) (by rfl); refine args_cons ?_ (by rfl); refine Tuple_ ?_; refine zaf zab ?_; refine za2 S sz0 ?_; walk_at "newo"; refine args_cons ?_ (by rfl); refine Tuple_ ?_; refine zaf zab ?_; refine za2 S sz0 ?_; walk_at "newo"; refine zaf zab ?_; refine ⟨S.In G.XX, ?_⟩
  refine wpAny_call (zel (vs := []) (ds := []) H.G K' H5.P (S.selN (ℓ' := (L, .ns []) :: T.led w ((_, .tup []) :: (_, .tup []) :: RC a T σ)) [1, 3, 3, 3, 3, 3] (by rfl)).enter0 (hr'.mono (by decide)) H.hxl (.inl (.tail _ (.head _))) SeqC.ofT (.inl (.head _)) SeqC.ofT (zch rfl) (zch rfl) (by decide) (by decide) ?_ fun e s' F => hx e s' ((F.up0 (S.selN (ℓ' := (L, .ns []) :: T.led w ((_, .tup []) :: (_, .tup []) :: RC a T σ)) [1, 3, 3, 3, 3, 3] (by rfl))).selN [1, 1, 1, 1, 1, 1, 3, 3, 3, 3, 3, 0, 0] (by rfl)))
  rintro ⟨ls, qs, e1, e2, h3, h4, h5⟩
  exact absurd h3 (by decide)
theorem bad_24 (H : RX w G0 a g T fs xs f0 ns) : DB w G0 a g T 57 (badE w 24) := by
  have G := H.G
  refine DB.of H rfl (kinds := [(("many" : Str), .free), ("table", .free)]) (cl := [("table", a.c1), ("many", a.c4)]) rfl rfl (by decide +kernel) ⟨rfl, rfl, rfl⟩ fun g5 σ A outer K env L s Q E H5 K' hr' X S hx => ?_
  refine methodCall_KW ?_ (by rfl); refine r_ev (zad X S (Or.inr ixm1) ixm0 ixm6) ?_; refine zam (f := 162) (name := "add_exception") G.XX (zat w) S ixm1 ixm2 (by kernel_rfl) (by kernel_rfl) (by rfl) ?_; refine zbk (KF := KK w) (by kernel_rfl) ?_ (by rfl) (by rfl); refine args_cons ?_ (by rfl); refine r_ev (zad X S (Or.inr ixm0) ixm1 ixm9) ?_; refine args_cons ?_ (by rfl); refine Tuple_ ?_; refine zaf (zaa rfl zac zab) ?_; refine za2 S sz1 ?_; walk_at "newo"; refine zaf zab ?_; refine ⟨S.In G.XX, ?_⟩
  have S := S.selN (ℓ' := (L, .ns []) :: T.led w ((_, .tup [.int 1]) :: RC a T σ)) [1, 2, 2, 2, 2, 2] (by rfl)
  refine wpAny_call (zel H.G K' H5.P S.enter0 (hr'.mono (by decide)) H.hxl (.inr H5.hma) SeqC.ofT (.inl ixm0) SeqC.ofT za8 (zch rfl) (by rw [List.length_map, List.length_replicate]; decide) (by show 1 ≤ 1000; decide) ?_ (fun e s' F => hx e s' ((F.up0 S).selN [1, 1, 1, 1, 1, 1, 2, 2, 2, 2, 2, 0] (by rfl))))
  rintro ⟨ls, qs, e1, e2, h3, h4, h5⟩
  have e := zaq e1
  subst e
  rw [List.length_replicate] at h4
  exact absurd h4 (by decide)
theorem bad_25 (H : RX w G0 a g T fs xs f0 ns) : DB w G0 a g T 57 (badE w 25) := by
  have G := H.G
  refine DB.of H rfl (kinds := [(("table" : Str), .free)]) (cl := [("table", a.c1)]) rfl rfl (by decide +kernel) ⟨rfl, rfl, rfl⟩ fun g5 σ A outer K env L s Q E H5 K' hr' X S hx => ?_
  refine methodCall_KW ?_ (by rfl); refine r_ev (zad X S (Or.inr ixm0) ixm0 ixm6) ?_; refine zam (f := 169) (name := "add_word") G.XX (zat w) S ixm1 ixm2 (by kernel_rfl) (by kernel_rfl) (by rfl) ?_; refine zbk (KF := KK w) (by kernel_rfl) ?_ (by rfl) (by rfl); refine zaf (zaa rfl zb5 zab) ?_; refine ⟨S.In G.XX, ?_⟩
  refine wpAny_call (zip H.G K' H5.P S.enter0 (hr'.mono (by decide)) H.hxl (by show (Str.ofString "-").cps.toList.length ≤ 1000; decide +kernel) ?_ (fun e s' F => hx e s' ((F.up0 S).sel Sel.refl)))
  have e : excRead (Str.ofString "-").cps.toList = ([], [0]) := by decide +kernel
  rw [e]
  rintro ⟨ls, qs, e1, e2, h3, h4, h5⟩
  exact absurd h3 (by decide)
theorem bad_26 (H : RX w G0 a g T fs xs f0 ns) : DB w G0 a g T 57 (badE w 26) := by
  have G := H.G
  refine DB.of H rfl (kinds := [(("table" : Str), .free), ("chr", .globalImplicit)]) (cl := [("table", a.c1)]) rfl rfl (by decide +kernel) ⟨rfl, rfl, rfl⟩ fun g5 σ A outer K env L s Q E H5 K' hr' X S hx => ?_
  refine methodCall_KW ?_ (by rfl); refine r_ev (zad X S (Or.inr ixm0) ixm0 ixm6) ?_; refine zam (f := 169) (name := "add_word") G.XX (zat w) S ixm1 ixm2 (by kernel_rfl) (by kernel_rfl) (by rfl) ?_; refine zbk (KF := KK w) (by kernel_rfl) ?_ (by rfl) (by rfl); refine args_cons ?_ (by rfl); refine wpAny_BinOp ?_; refine r_ev zb5 ?_; refine zai X G.XX S ixm1 (zkk G) (Callee.bi _) (zaa rfl zac zab) ?_; refine zkx S (by omega) (by omega) ?_; walk_at "newt"
  refine zec S (by show (Str.ofString "a-").cps.toList.length + ((⟨#[(256 : Int).toNat]⟩ : Str)).cps.toList.length ≤ sizeLine; decide +kernel) ?_; walk_at "newt"
  refine zaf zab ?_; refine ⟨S.In G.XX, ?_⟩
  refine wpAny_call (zip H.G K' H5.P S.enter0 (hr'.mono (by decide)) H.hxl (by show ((Str.ofString "a-" ++ (⟨#[(256 : Int).toNat]⟩ : Str) : Str)).cps.toList.length ≤ 1000; decide +kernel) ?_ (fun e s' F => hx e s' ((F.up0 S).sel Sel.refl)))
  have e : excRead ((Str.ofString "a-" ++ (⟨#[(256 : Int).toNat]⟩ : Str) : Str)).cps.toList = ([97, 256], [1]) := by decide +kernel
  rw [e]
  rintro ⟨ls, qs, e1, e2, h3, h4, h5⟩
  exact absurd h3 (by decide)
end
section
variable {w : World} {G0 : Heap} {a : RA} {g : PH} {T : Tb} {fs : List Form} {xs : List (List Int × List Int)} {f0 : Form} {ns : List Int}
theorem znj (H : RX w G0 a g T fs xs f0 ns) : DB w G0 a g T 45 (worseE w 0) := by
  have G := H.G
  refine DB.of H rfl (kinds := [(("table" : Str), .free)]) (cl := [("table", a.c1)]) rfl rfl (by decide +kernel) ⟨rfl, rfl, rfl⟩ fun g5 σ A outer K env L s Q E H5 K' hr' X S hx => ?_
  refine methodCall_KW ?_ (by rfl); refine r_ev (zad X S (Or.inr ixm0) ixm0 ixm6) ?_; refine zam (f := 150) (name := "add") G.XX (zat w) S ixm1 ixm2 (by kernel_rfl) (by kernel_rfl) (by rfl) ?_; refine zbk (KF := KK w) (by kernel_rfl) ?_ (by rfl) (by rfl); refine args_cons ?_ (by rfl); refine r_ev zac ?_; refine args_cons ?_ (by rfl); refine Tuple_ ?_; refine zaf (zaa rfl zac (zaa rfl zac zab)) ?_; refine za2 S sz2 ?_; walk_at "newo"; refine zaf zab ?_; refine ⟨S.In G.XX, ?_⟩
  refine wpAny_call (zna (la := 0) (c1 := .tup []) (vs := []) H.G K' S.enter0 (hr'.mono (by decide)) (.inl trivial) (fun e s' F => hx e s' ((F.up0 S).selN [1, 2, 2, 2, 2, 2, 2, 2, 2, 2, 2, 0] (by rfl))))
theorem zoc (H : RX w G0 a g T fs xs f0 ns) : DB w G0 a g T 45 (worseE w 1) := by
  have G := H.G
  refine DB.of H rfl (kinds := [(("table" : Str), .free)]) (cl := [("table", a.c1)]) rfl rfl (by decide +kernel) ⟨rfl, rfl, rfl⟩ fun g5 σ A outer K env L s Q E H5 K' hr' X S hx => ?_
  refine methodCall_KW ?_ (by rfl); refine r_ev (zad X S (Or.inr ixm0) ixm0 ixm6) ?_; refine zam (f := 150) (name := "add") G.XX (zat w) S ixm1 ixm2 (by kernel_rfl) (by kernel_rfl) (by rfl) ?_; refine zbk (KF := KK w) (by kernel_rfl) ?_ (by rfl) (by rfl); refine args_cons ?_ (by rfl); refine Tuple_ ?_; refine zaf (zaa rfl zac zab) ?_; refine za2 S sz1 ?_; walk_at "newo"; refine zaf (zaa rfl zac zab) ?_; refine ⟨S.In G.XX, ?_⟩
  refine wpAny_call (zna H.G K' S.enter0 (hr'.mono (by decide)) (.inr ⟨rfl, (.inl ixm0), SeqC.ofT, trivial⟩) (fun e s' F => hx e s' ((F.up0 S).selN [1, 2, 2, 2, 2, 2, 2, 2, 2, 2, 2, 0] (by rfl))))
theorem zob (H : RX w G0 a g T fs xs f0 ns) : DB w G0 a g T 45 (worseE w 2) := by
  have G := H.G
  refine DB.of H rfl (kinds := [(("table" : Str), .free)]) (cl := [("table", a.c1)]) rfl rfl (by decide +kernel) ⟨rfl, rfl, rfl⟩ fun g5 σ A outer K env L s Q E H5 K' hr' X S hx => ?_
  refine methodCall_KW ?_ (by rfl); refine r_ev (zad X S (Or.inr ixm0) ixm0 ixm6) ?_; refine zam (f := 157) (name := "add_text") G.XX (zat w) S ixm1 ixm2 (by kernel_rfl) (by kernel_rfl) (by rfl) ?_; refine zbk (KF := KK w) (by kernel_rfl) ?_ (by rfl) (by rfl); refine zaf (zaa rfl zac zab) ?_; refine ⟨S.In G.XX, ?_⟩
  refine wpAny_call (zju H.G K' S.enter0 (hr'.mono (by decide)) (.inl ⟨_, _, rfl⟩) (fun e s' F => hx e s' ((F.up0 S).sel Sel.refl)))
theorem zog (H : RX w G0 a g T fs xs f0 ns) : DB w G0 a g T 45 (worseE w 3) := by
  have G := H.G
  refine DB.of H rfl (kinds := [(("table" : Str), .free)]) (cl := [("table", a.c1)]) rfl rfl (by decide +kernel) ⟨rfl, rfl, rfl⟩ fun g5 σ A outer K env L s Q E H5 K' hr' X S hx => ?_
  refine methodCall_KW ?_ (by rfl); refine r_ev (zad X S (Or.inr ixm0) ixm0 ixm6) ?_; refine zam (f := 162) (name := "add_exception") G.XX (zat w) S ixm1 ixm2 (by kernel_rfl) (by kernel_rfl) (by rfl) ?_; refine zbk (KF := KK w) (by kernel_rfl) ?_ (by rfl) (by rfl); refine args_cons ?_ (by rfl); refine r_ev zep ?_; refine args_cons ?_ (by rfl); refine Tuple_ ?_; refine zaf zab ?_; refine za2 S sz0 ?_; walk_at "newo"; refine zaf zab ?_; refine ⟨S.In G.XX, ?_⟩
  refine wpAny_call (zd2 (la := 0) (c1 := .tup []) (vs := []) H.G K' S.enter0 (hr'.mono (by decide)) (.inl trivial) (fun e s' F => hx e s' ((F.up0 S).selN [1, 2, 2, 2, 2, 2, 2, 2, 2, 2, 2, 0] (by rfl))))
theorem znk (H : RX w G0 a g T fs xs f0 ns) : DB w G0 a g T 45 (worseE w 4) := by
  have G := H.G
  refine DB.of H rfl (kinds := [(("table" : Str), .free)]) (cl := [("table", a.c1)]) rfl rfl (by decide +kernel) ⟨rfl, rfl, rfl⟩ fun g5 σ A outer K env L s Q E H5 K' hr' X S hx => ?_
  refine methodCall_KW ?_ (by rfl); refine r_ev (zad X S (Or.inr ixm0) ixm0 ixm6) ?_; refine zam (f := 162) (name := "add_exception") G.XX (zat w) S ixm1 ixm2 (by kernel_rfl) (by kernel_rfl) (by rfl) ?_; refine zbk (KF := KK w) (by kernel_rfl) ?_ (by rfl) (by rfl); refine args_cons ?_ (by rfl); refine Tuple_ ?_; refine zaf (zaa rfl zac zab) ?_; refine za2 S sz1 ?_; walk_at "newo"; refine zaf (zaa rfl zac zab) ?_; refine ⟨S.In G.XX, ?_⟩
  refine wpAny_call (zd2 H.G K' S.enter0 (hr'.mono (by decide)) (.inr ⟨rfl, (.inl ixm0), SeqC.ofT, trivial⟩) (fun e s' F => hx e s' ((F.up0 S).selN [1, 2, 2, 2, 2, 2, 2, 2, 2, 2, 2, 0] (by rfl))))
theorem znl (H : RX w G0 a g T fs xs f0 ns) : DB w G0 a g T 45 (worseE w 5) := by
  have G := H.G
  refine DB.of H rfl (kinds := [(("table" : Str), .free)]) (cl := [("table", a.c1)]) rfl rfl (by decide +kernel) ⟨rfl, rfl, rfl⟩ fun g5 σ A outer K env L s Q E H5 K' hr' X S hx => ?_
  refine methodCall_KW ?_ (by rfl); refine r_ev (zad X S (Or.inr ixm0) ixm0 ixm6) ?_; refine zam (f := 169) (name := "add_word") G.XX (zat w) S ixm1 ixm2 (by kernel_rfl) (by kernel_rfl) (by rfl) ?_; refine zbk (KF := KK w) (by kernel_rfl) ?_ (by rfl) (by rfl); refine zaf (zaa rfl zep zab) ?_; refine ⟨S.In G.XX, ?_⟩
  refine wpAny_call (zjd H.G K' S.enter0 (hr'.mono (by decide)) (.inr rfl) (fun e s' F => hx e s' ((F.up0 S).sel Sel.refl)))
theorem zn3 (H : RX w G0 a g T fs xs f0 ns) : DB w G0 a g T 45 (worseE w 6) := by
  have G := H.G
  refine DB.of H rfl (kinds := [(("table" : Str), .free)]) (cl := [("table", a.c1)]) rfl rfl (by decide +kernel) ⟨rfl, rfl, rfl⟩ fun g5 σ A outer K env L s Q E H5 K' hr' X S hx => ?_
  refine methodCall_KW ?_ (by rfl); refine r_ev (zad X S (Or.inr ixm0) ixm0 ixm6) ?_; refine zam (f := 182) (name := "points") G.XX (zat w) S ixm1 ixm2 (by kernel_rfl) (by kernel_rfl) (by rfl) ?_; refine zbk (KF := KK w) (by kernel_rfl) ?_ (by rfl) (by rfl); refine args_cons ?_ (by rfl); refine List_ ?_; refine zaf zab ?_; refine zbg S sz0 ?_; walk_at "newo"; refine zaf zab ?_; refine ⟨S.In G.XX, ?_⟩
  have S := S.selN (ℓ' := (L, .ns []) :: T.led w ((_, .list []) :: RC a T σ)) [1, 2, 2, 2, 2, 2] (by rfl)
  refine wpAny_call (zcg H.G K' H5.P S.enter0 (hr'.mono (by decide)) (zca (S.In G.XX)) (.inr ⟨rfl, (.inl ixm0), SeqC.ofL, zch rfl, by show 0 ≤ sizeLine; decide⟩) (.inl (.inl ⟨_, rfl⟩)) (.inl (.inl ⟨_, rfl⟩)) (.inl (by decide)) (fun e s' F => hx e s' ((F.up0 S).selN [1, 1, 1, 1, 1, 1, 2, 2, 2, 2, 2, 0] (by rfl))))
theorem zoi (H : RX w G0 a g T fs xs f0 ns) : DB w G0 a g T 45 (worseE w 7) := by
  have G := H.G
  refine DB.of H rfl (kinds := [(("table" : Str), .free)]) (cl := [("table", a.c1)]) rfl rfl (by decide +kernel) ⟨rfl, rfl, rfl⟩ fun g5 σ A outer K env L s Q E H5 K' hr' X S hx => ?_
  refine methodCall_KW ?_ (by rfl); refine r_ev (zad X S (Or.inr ixm0) ixm0 ixm6) ?_; refine zam (f := 182) (name := "points") G.XX (zat w) S ixm1 ixm2 (by kernel_rfl) (by kernel_rfl) (by rfl) ?_; refine zbk (KF := KK w) (by kernel_rfl) ?_ (by rfl) (by rfl); refine args_cons ?_ (by rfl); refine List_ ?_; refine zaf (zaa rfl zac (zaa rfl zac zab)) ?_; refine zbg S sz2 ?_; walk_at "newo"; refine zaf zab ?_; refine ⟨S.In G.XX, ?_⟩
  have S := S.selN (ℓ' := (L, .ns []) :: T.led w ((_, .list [.int 0, .int 97]) :: RC a T σ)) [1, 2, 2, 2, 2, 2] (by rfl)
  refine wpAny_call (zcg H.G K' H5.P S.enter0 (hr'.mono (by decide)) (zca (S.In G.XX)) (.inr ⟨rfl, (.inl ixm0), SeqC.ofL, zch rfl, by show 2 ≤ sizeLine; decide⟩) (.inl (.inl ⟨_, rfl⟩)) (.inl (.inl ⟨_, rfl⟩)) (.inl (by decide)) (fun e s' F => hx e s' ((F.up0 S).selN [1, 1, 1, 1, 1, 1, 2, 2, 2, 2, 2, 0] (by rfl))))
theorem znw (H : RX w G0 a g T fs xs f0 ns) : DB w G0 a g T 45 (worseE w 8) := by
  have G := H.G
  refine DB.of H rfl (kinds := [(("table" : Str), .free)]) (cl := [("table", a.c1)]) rfl rfl (by decide +kernel) ⟨rfl, rfl, rfl⟩ fun g5 σ A outer K env L s Q E H5 K' hr' X S hx => ?_
  refine methodCall_KW ?_ (by rfl); refine r_ev (zad X S (Or.inr ixm0) ixm0 ixm6) ?_; refine zam (f := 182) (name := "points") G.XX (zat w) S ixm1 ixm2 (by kernel_rfl) (by kernel_rfl) (by rfl) ?_; refine zbk (KF := KK w) (by kernel_rfl) ?_ (by rfl) (by rfl); refine args_cons ?_ (by rfl); refine List_ ?_; refine zaf (zaa rfl zac (zaa rfl zac zab)) ?_; refine zbg S sz2 ?_; walk_at "newo"; refine zaf zab ?_; refine ⟨S.In G.XX, ?_⟩
  have S := S.selN (ℓ' := (L, .ns []) :: T.led w ((_, .list [.int 97, .int 256]) :: RC a T σ)) [1, 2, 2, 2, 2, 2] (by rfl)
  refine wpAny_call (zcg H.G K' H5.P S.enter0 (hr'.mono (by decide)) (zca (S.In G.XX)) (.inr ⟨rfl, (.inl ixm0), SeqC.ofL, zch rfl, by show 2 ≤ sizeLine; decide⟩) (.inl (.inl ⟨_, rfl⟩)) (.inl (.inl ⟨_, rfl⟩)) (.inl (by decide)) (fun e s' F => hx e s' ((F.up0 S).selN [1, 1, 1, 1, 1, 1, 2, 2, 2, 2, 2, 0] (by rfl))))
theorem zn5 (H : RX w G0 a g T fs xs f0 ns) : DB w G0 a g T 45 (worseE w 9) := by
  have G := H.G
  refine DB.of H rfl (kinds := [(("table" : Str), .free)]) (cl := [("table", a.c1)]) rfl rfl (by decide +kernel) ⟨rfl, rfl, rfl⟩ fun g5 σ A outer K env L s Q E H5 K' hr' X S hx => ?_
  refine methodCall_KW ?_ (by rfl); refine r_ev (zad X S (Or.inr ixm0) ixm0 ixm6) ?_; refine zam (f := 182) (name := "points") G.XX (zat w) S ixm1 ixm2 (by kernel_rfl) (by kernel_rfl) (by rfl) ?_; refine zbk (KF := KK w) (by kernel_rfl) ?_ (by rfl) (by rfl); refine args_cons ?_ (by rfl); refine List_ ?_; refine zaf (zaa rfl zbu (zaa rfl zac zab)) ?_; refine zbg S sz2 ?_; walk_at "newo"; refine zaf zab ?_; refine ⟨S.In G.XX, ?_⟩
  have S := S.selN (ℓ' := (L, .ns []) :: T.led w ((_, .list [.bool true, .int 97]) :: RC a T σ)) [1, 2, 2, 2, 2, 2] (by rfl)
  refine wpAny_call (zcg H.G K' H5.P S.enter0 (hr'.mono (by decide)) (zca (S.In G.XX)) (.inr ⟨rfl, (.inl ixm0), SeqC.ofL, zch rfl, by show 2 ≤ sizeLine; decide⟩) (.inl (.inl ⟨_, rfl⟩)) (.inl (.inl ⟨_, rfl⟩)) (.inl (by decide)) (fun e s' F => hx e s' ((F.up0 S).selN [1, 1, 1, 1, 1, 1, 2, 2, 2, 2, 2, 0] (by rfl))))
theorem zmu (H : RX w G0 a g T fs xs f0 ns) : DB w G0 a g T 45 (worseE w 10) := by
  have G := H.G
  refine DB.of H rfl (kinds := [(("table" : Str), .free)]) (cl := [("table", a.c1)]) rfl rfl (by decide +kernel) ⟨rfl, rfl, rfl⟩ fun g5 σ A outer K env L s Q E H5 K' hr' X S hx => ?_
  refine methodCall_KW ?_ (by rfl); refine r_ev (zad X S (Or.inr ixm0) ixm0 ixm6) ?_; refine zam (f := 182) (name := "points") G.XX (zat w) S ixm1 ixm2 (by kernel_rfl) (by kernel_rfl) (by rfl) ?_; refine zbk (KF := KK w) (by kernel_rfl) ?_ (by rfl) (by rfl); refine zaf (zaa rfl zb5 zab) ?_; refine ⟨S.In G.XX, ?_⟩
  refine wpAny_call (zcg (a1 := 0) (c1 := .tup []) (vs := []) H.G K' H5.P S.enter0 (hr'.mono (by decide)) (zca (S.In G.XX)) (.inl ⟨trivial, rfl⟩) (.inl (.inl ⟨_, rfl⟩)) (.inl (.inl ⟨_, rfl⟩)) (.inl (by decide)) (fun e s' F => hx e s' ((F.up0 S).sel Sel.refl)))
theorem zm5 (H : RX w G0 a g T fs xs f0 ns) : DB w G0 a g T 45 (worseE w 11) := by
  have G := H.G
  refine DB.of H rfl (kinds := [(("table" : Str), .free)]) (cl := [("table", a.c1)]) rfl rfl (by decide +kernel) ⟨rfl, rfl, rfl⟩ fun g5 σ A outer K env L s Q E H5 K' hr' X S hx => ?_
  refine methodCall_KW ?_ (by rfl); refine r_ev (zad X S (Or.inr ixm0) ixm0 ixm6) ?_; refine zam (f := 182) (name := "points") G.XX (zat w) S ixm1 ixm2 (by kernel_rfl) (by kernel_rfl) (by rfl) ?_; refine zbk (KF := KK w) (by kernel_rfl) ?_ (by rfl) (by rfl); refine args_cons ?_ (by rfl); refine List_ ?_; refine zaf (zaa rfl zac (zaa rfl zac zab)) ?_; refine zbg S sz2 ?_; walk_at "newo"; refine zaf (zaa rfl zbu (zaa rfl zac zab)) ?_; refine ⟨S.In G.XX, ?_⟩
  have S := S.selN (ℓ' := (L, .ns []) :: T.led w ((_, .list [.int 97, .int 98]) :: RC a T σ)) [1, 2, 2, 2, 2, 2] (by rfl)
  refine wpAny_call (zcg H.G K' H5.P S.enter0 (hr'.mono (by decide)) (zc7 (S.In G.XX)) (.inr ⟨rfl, (.inl ixm0), SeqC.ofL, zch rfl, by show 2 ≤ sizeLine; decide⟩) (.inl (.inr ⟨_, rfl⟩)) (.inl (.inl ⟨_, rfl⟩)) (.inr (.inl (fun _ h => by cases h))) (fun e s' F => hx e s' ((F.up0 S).selN [1, 1, 1, 1, 1, 1, 2, 2, 2, 2, 2, 0] (by rfl))))
theorem zms (H : RX w G0 a g T fs xs f0 ns) : DB w G0 a g T 45 (worseE w 12) := by
  have G := H.G
  refine DB.of H rfl (kinds := [(("table" : Str), .free)]) (cl := [("table", a.c1)]) rfl rfl (by decide +kernel) ⟨rfl, rfl, rfl⟩ fun g5 σ A outer K env L s Q E H5 K' hr' X S hx => ?_
  refine methodCall_KW ?_ (by rfl); refine r_ev (zad X S (Or.inr ixm0) ixm0 ixm6) ?_; refine zam (f := 182) (name := "points") G.XX (zat w) S ixm1 ixm2 (by kernel_rfl) (by kernel_rfl) (by rfl) ?_; refine zbk (KF := KK w) (by kernel_rfl) ?_ (by rfl) (by rfl); refine args_cons ?_ (by rfl); refine List_ ?_; refine zaf (zaa rfl zac (zaa rfl zac zab)) ?_; refine zbg S sz2 ?_; walk_at "newo"; refine zaf (zaa rfl zac (zaa rfl zep zab)) ?_; refine ⟨S.In G.XX, ?_⟩
  have S := S.selN (ℓ' := (L, .ns []) :: T.led w ((_, .list [.int 97, .int 98]) :: RC a T σ)) [1, 2, 2, 2, 2, 2] (by rfl)
  refine wpAny_call (zcg H.G K' H5.P S.enter0 (hr'.mono (by decide)) (zc7 (S.In G.XX)) (.inr ⟨rfl, (.inl ixm0), SeqC.ofL, zch rfl, by show 2 ≤ sizeLine; decide⟩) (.inl (.inl ⟨_, rfl⟩)) (.inr rfl) (.inr (.inr (fun _ h => by cases h))) (fun e s' F => hx e s' ((F.up0 S).selN [1, 1, 1, 1, 1, 1, 2, 2, 2, 2, 2, 0] (by rfl))))
end
theorem zlw {w : World} {G0 : Heap} {a : RA} {g : PH} {T : Tb} {fs : List Form} {xs : List (List Int × List Int)} {f0 : Form} {ns : List Int} (H : RX w G0 a g T fs xs f0 ns) : ForallL (DB w G0 a g T 57) (badES w) :=
  ⟨bad_0 H, bad_1 H, bad_2 H, bad_3 H, bad_4 H, bad_5 H, bad_6 H, bad_7 H, bad_8 H, bad_9 H, bad_10 H, bad_11 H, bad_12 H, bad_13 H, bad_14 H, bad_15 H, bad_16 H, bad_17 H, bad_18 H, bad_19 H, bad_20 H, bad_21 H, bad_22 H, bad_23 H, bad_24 H, bad_25 H, bad_26 H, trivial⟩
theorem zjn {w : World} {G0 : Heap} {a : RA} {g : PH} {T : Tb} {fs : List Form} {xs : List (List Int × List Int)} {f0 : Form} {ns : List Int} (H : RX w G0 a g T fs xs f0 ns) : ForallL (DB w G0 a g T 45) (worseES w) :=
  ⟨znj H, zoc H, zob H, zog H, znk H, znl H, zn3 H, zoi H, znw H, zn5 H, zmu H, zm5 H, zms H, trivial⟩
theorem zhi (l : List Addr) : (l.map Value.ref).map V.of = l.map V.ref := by rw [List.map_map]; rfl
theorem zlb {w : World} {G0 : Heap} {Φ : List Addr} {g : PH} {s : Shared} {A : Around} {R : Result → Shared → Prop} {outer : List Env} {ρ : Led} {ka wa : Addr} {ps : Array Value} {T : Tb} {fs : List Form} {xs : List (List Int × List Int)} {f0 : Form} {ns : List Int}
    (GL : Gl w G0) (K₀ : Stk A outer Φ) (I : Inv w G0 Φ g s.heap ((256, TabC ps) :: T.led w ρ)) (hroom : Room A 12) (hun : A.units + 60 < cLine) (TO : TabOk qR g ps) (P : Rep g T fs xs) (hf0 : f0 ∈ fs) (hfo : FormOk f0) (hne : ns ≠ []) (hnl : ns.length ≤ 15) (hlet : ∀ n ∈ ns, isLet n) (hfl : fs.length ≤ 1000) (hxl : xs.length ≤ 1000)
    (hka : g ka = some (.list (f0.1.map V.int))) (hwa : g wa = some (.list (ns.map V.int)))
    (k : ∀ g' ps' s', g.le g' → TabOk qR g' ps' → SS w G0 ⟨Φ, s, g, ((256, TabC ps) :: T.led w ρ).map Prod.fst⟩ g' s' ((256, TabC ps') :: T.led w ρ) → R (.ok (.ret (.bool true))) s') :
    codeAny (model pg w) A (.call (.ref 259) ⟨[.ref T.tb, .ref ka, .ref wa], []⟩) R s := by
  have G := GL.toGd
  have hP256 : G0.get? 256 = none := I.gst (256, TabC ps) (.head _)
  have hn1 := List.length_pos_iff.mpr hne
  refine zb3 (vals := [.ref T.tb, .ref ka, .ref wa]) I G.XX G.lim hroom.lt (by exact rfl) (by kernel_rfl) (BindsTo.of_eq rfl) (by decide +kernel) (by rfl) ?_
  intro env L s X hE S Q E hQ hEnd hEr hPO
  obtain ⟨hfu, hco, hqu⟩ := hE
  dsimp only [mkLocC, mkCells, mkCl, isCellK, zah, zap, zar, zal, zaj, zak, za0, cond_true, cond_false, List.cons_append, List.nil_append] at S X
  generalize hK : (⟨Φ, _, g, _⟩ : Kon) = K at S k
  generalize L + 1 = c1, L + 1 + 1 = c2, L + 1 + 1 + 1 = c3, L + 1 + 1 + 1 + 1 = c4, L + 1 + 1 + 1 + 1 + 1 = c5 at S X
  have K₁ : Stk A outer K.Φ := by rw [← hK]; exact K₀
  have hC := zmm G
  refine zbq ?_ (by rfl) (zd5 X ixm5)
  refine Tuple_ ?_; refine args_cons ?_ (by rfl); refine wpAny_BinOp ?_; refine Tuple_ ?_; refine zaf (zaa rfl zac zab) ?_; refine za2 S sz1 ?_; walk_at "newo"; refine r_ev zac ?_
  refine zlp S (by simp) (by decide) (by decide) hN fun ma s hma S => ?_
  refine args_cons ?_ (by rfl); refine wpAny_BinOp ?_; refine Tuple_ ?_; refine zaf (zaa rfl zac zab) ?_; refine za2 S sz1 ?_; walk_at "newo"; refine zai X G.XX S ixm7 (zcc G) (Callee.bi _) (zaa rfl (zad X S (Or.inl ixm2) ixm2 ixm5) zab) ?_
  refine zi4 S ((S.fact hwa).seq SeqC.ofL) (by (rw [List.length_map, sizeLine_eq]; exact Nat.le_trans hnl (by decide))) ?_; walk_at "newt"
  rw [List.length_map]
  skip
  refine zlp S (by simp) (by omega) (by simp; exact Nat.le_trans hnl (by decide)) hN fun oa s hoa S => ?_
  refine zaf zab ?_; refine za2 S sz2 ?_; walk_at "newo"
  refine zbz hroom.deeper.handled S ((S.at ixm1).isT) fun u1 u2 s e1 e2 S => ?_
  obtain rfl := V.of_ref e1
  obtain rfl := V.of_ref e2
  clear e1 e2
  refine zbt X S ixm5 ixm3 (zah _) ixv7 ?_; walk_at "new"; refine zbt X S ixm6 ixm4 (zah _) ixv8 ?_; walk_at "new"
  have em : (List.replicate (64 : Int).toNat [V.int 97]).flatten = (List.replicate 64 (97 : Int)).map V.int := by rfl
  have eo : (List.replicate ((ns.length : Int)).toNat [V.int 1]).flatten = (List.replicate ns.length (1 : Int)).map V.int := by
    rw [Int.toNat_natCast]
    generalize ns.length = n
    induction n with
    | zero => rfl
    | succ n ih => rw [List.replicate_succ, List.flatten_cons, ih, List.replicate_succ]; rfl
  rw [em, eo] at S
  obtain ⟨a, ha⟩ : ∃ a : RA, a = ⟨c1, c2, c3, c4, c5, ka, wa, ma, oa⟩ := ⟨_, rfl⟩
  obtain ⟨g2, hle2, hgm, hgo, S⟩ : ∃ g2, g.le g2 ∧ g2 a.ma = some (.tup ((List.replicate 64 (97 : Int)).map V.int)) ∧ g2 a.oa = some (.tup ((List.replicate ns.length (1 : Int)).map V.int)) ∧ SS w G0 K g2 s ((L, .ns [(("table" : Str), none), ("known", none), ("word", none), ("bad", none), ("worse", none), ("many", none), ("ones", none), ("len", none)]) :: (256, TabC ps) :: T.led w (RC a T ρ)) := by
    subst ha
    have S := S.selN (ℓ' := (ma, _) :: (oa, _) :: (L, _) :: (256, TabC ps) :: T.led w ((c1, .cell _) :: (c2, .cell _) :: (c3, .cell _) :: (c4, .cell _) :: (c5, .cell _) :: ρ)) [4, 3, 1, 7, 7, 7, 7, 7, 7, 2, 2, 2, 2, 2, 0] (by rfl)
    have e1 := S.st.inv.gl _ (.head _)
    have S2 := S.freeze' hma
    have e2 := S2.st.inv.gl _ (.head _)
    have S3 := S2.freeze' hoa
    exact ⟨_, (PH.le_set e1).trans (PH.le_set e2), PH.le_set e2 _ _ PH.set_self, PH.set_self, S3⟩
  have hka2 : g2 a.ka = some (.list (f0.1.map V.int)) := by subst ha; exact hle2 _ _ hka
  have hwa2 : g2 a.wa = some (.list (ns.map V.int)) := by subst ha; exact hle2 _ _ hwa
  have H : RX w G0 a g2 T fs xs f0 ns := ⟨G, P.mono hle2, hka2, hwa2, hgm, hgo, hf0, hfo, hne, hnl, hlet, hfl, hxl⟩
  have X : EnvOk env L (some L) [(("table" : Str), .cell), ("known", .cell), ("word", .cell), ("bad", .local), ("worse", .local), ("many", .cell), ("ones", .cell), ("len", .globalImplicit)] (clR a) := by subst ha; exact X
  clear ha hgm hgo hka2 hwa2 hma hoa em eo
  refine zav ?_ (by rfl)
  refine List_ ?_
  refine zlk GL X hco (qual := qR) (by rw [hqu]; rfl) hC hP256 _ (by rfl) S (TO.mono hle2) fun fl1 g3 ps3 s hl1 hle3 TO3 S => ?_
  have hlen1 : fl1.length = 27 := hl1.len
  refine zbg S (by rw [List.length_map, hlen1]; decide) fun bd s hbd S => ?_
  rw [zhi] at S
  refine za5 X S ixm3 ixu3 ?_; walk_at "new"
  have S := S.selN (ℓ' := (L, _) :: (256, TabC ps3) :: T.led w ((bd, _) :: RC a T ρ)) [1, 2, 2, 2, 2, 2, 2] (by rfl)
  refine zav ?_ (by rfl)
  refine List_ ?_
  refine zlk GL X hco (qual := qR) (by rw [hqu]; rfl) hC hP256 _ (by rfl) S TO3 fun fl2 g4 ps4 s hl2 hle4 TO4 S => ?_
  have hlen2 : fl2.length = 13 := hl2.len
  refine zbg S (by rw [List.length_map, hlen2]; decide) fun wr s hwr S => ?_
  rw [zhi] at S
  refine za5 X S ixm4 ixu4 ?_; walk_at "new"
  have S := S.selN (ℓ' := (L, _) :: T.led w ((256, TabC ps4) :: (bd, _) :: (wr, _) :: RC a T ρ)) [1, 3, 3, 3, 3, 3, 2, 2] (by rfl)
  have D1 := LamsAre.get (hl1.mono hle4) (zlw H)
  have D2 := LamsAre.get hl2 (zjn H)
  clear hl1 hl2
  have hle24 := hle3.trans hle4
  have X0 := X
  refine za9 ?_; refine BoolOp_and ?_; refine wpAny_Compare1 ?_
  refine zcn (G0 := G0) (K := K) (kinds' := [((".0" : Str), .local), ("deed", .local), ("_law_said", .globalImplicit)]) (cl' := []) hroom.handled X ⟨rfl, by decide +kernel, by rfl, by exact ixm1, by rfl, by rfl, by rfl⟩ (fun CC hCC => ?_) (by intro _; with_unfolding_all rfl)
  refine r_ev (zae X S ixm3 ixm3) ?_
  refine zc0 S ((S.at ixm7).isL) fun it s hnew S => ?_
  refine hCC Unit _ it (fun _ _ => True) (fun _ => g4) _ (fun i _ => (List.replicate i (1 : Int)).map V.int) (fun _ _ => T.led w ((256, TabC ps4) :: (bd, .list (fl1.map V.ref)) :: (wr, .list (fl2.map V.ref)) :: RC a T ρ)) () _ ?_ hnew S rfl trivial ?_ ?_ ?_
  · show (fl1.map V.ref).length ≤ sizeLine
    rw [List.length_map, hlen1]; decide
  · intro i _ s C D o _ S
    exact (S.at zcf).isL
  · intro QY QN hY hNo i _ v s C D cenv _ hvi X S
    have hvi : (fl1.map V.ref)[i]? = some (V.of v) := hvi
    rw [List.getElem?_map] at hvi
    obtain ⟨f, hf, e⟩ := Option.map_eq_some_iff.mp hvi
    obtain rfl := V.of_ref e.symm
    clear hvi e
    obtain ⟨ex, hlam, hdb⟩ := D1 i f hf
    rw [zah] at S
    refine zb4 ?_
    refine zb8 ?_; refine zai X G.XX S ixm2 (zcv G) (Callee.fn (by kernel_rfl)) (zaa rfl (zae X S ixm1 ixm0) zab) ?_
    have S := S.selN (ℓ' := (L, _) :: T.led w (RC a T ((C, _) :: (it, _) :: (D, _) :: (256, TabC ps4) :: (bd, _) :: (wr, _) :: ρ))) [2, 4, 4, 4, 4, 4, 7, 7, 7, 7, 7] (by rfl)
    have hlam' := hlam
    obtain ⟨_, _, _, _, _, _, _, _, hfr, _⟩ := hlam'
    refine wpAny_call (zfl (n := 8) (okP := fun _ _ => False) (badP := fun D' => D' = 57) G (K₁.deeper X0) S.enter0 (hroom.deeper.mono (by decide)) hfr (hdb f g4 _ hlam hle24) (fun C h => .inl h) (fun t g5 cells' s' hok5 S' => hok5.elim) (fun t s' hb5 S' => ?_) (fun t s' hb5 S' => ?_))
    rotate_left
    · exact absurd hb5 (by decide)
    replace S := S'.ret0 S
    clear S'
    exact hY i () () C D _ _ _ trivial (by rw [List.replicate_succ', zap]; exact map_of_snoc'.symm) (S.selN [12, 1, 11, 11, 1, 1, 1, 1, 1, 6, 6, 6] (by rfl))
  intro _ Dl1 _ hDl1 s S
  have elen : (Src.seqL bd (fl1.map V.ref)).vals.length = 27 := by show (fl1.map V.ref).length = 27; rw [List.length_map, hlen1]
  rw [elen] at S
  clear elen
  refine wpAny_BinOp ?_; refine List_ ?_; refine zaf (zaa rfl zac zab) ?_; refine zbg S sz1 ?_; walk_at "newo"; refine r_ev zac ?_
  refine zgi S ((S.at ixm1).isL) (by decide) (by decide) (by decide) fun e1 s he1 S => ?_
  have em1 : (List.replicate (27 : Int).toNat [V.int 1]).flatten = (List.replicate 27 (1 : Int)).map V.int := by rfl
  rw [em1] at S
  skip
  refine zmi ((S.at (a := Dl1) ixm3).isL) ((S.at (a := e1) ixm1).isL) (zd3 3 hun (by decide)) ?_
  rw [decide_eq_true rfl]
  refine wpAny_truthy_bool ?_; refine zb8 ?_; refine BoolOp_one ?_; refine wpAny_Compare1 ?_
  have S := S.selN (ℓ' := (L, _) :: T.led w ((256, TabC ps4) :: (bd, _) :: (wr, _) :: RC a T ρ)) [1, 4, 4, 4, 4, 4, 4, 4, 4, 4, 4, 4, 4, 4, 0, 0, 0] (by rfl)
  refine zcn (G0 := G0) (K := K) (kinds' := [((".0" : Str), .local), ("deed", .local), ("_law_said", .globalImplicit)]) (cl' := []) hroom.handled X ⟨rfl, by decide +kernel, by rfl, by exact ixm1, by rfl, by rfl, by rfl⟩ (fun CC hCC => ?_) (by intro _; with_unfolding_all rfl)
  refine r_ev (zae X S ixm4 ixm4) ?_
  refine zc0 S ((S.at ixm8).isL) fun it s hnew S => ?_
  refine hCC Unit _ it (fun _ _ => True) (fun _ => g4) _ (fun i _ => (List.replicate i (2 : Int)).map V.int) (fun _ _ => T.led w ((256, TabC ps4) :: (bd, .list (fl1.map V.ref)) :: (wr, .list (fl2.map V.ref)) :: RC a T ρ)) () _ ?_ hnew S rfl trivial ?_ ?_ ?_
  · show (fl2.map V.ref).length ≤ sizeLine
    rw [List.length_map, hlen2]; decide
  · intro i _ s C D o _ S
    exact (S.at zcp).isL
  · intro QY QN hY hNo i _ v s C D cenv _ hvi X S
    have hvi : (fl2.map V.ref)[i]? = some (V.of v) := hvi
    rw [List.getElem?_map] at hvi
    obtain ⟨f, hf, e⟩ := Option.map_eq_some_iff.mp hvi
    obtain rfl := V.of_ref e.symm
    clear hvi e
    obtain ⟨ex, hlam, hdb⟩ := D2 i f hf
    rw [zah] at S
    refine zb4 ?_
    refine zb8 ?_; refine zai X G.XX S ixm2 (zcv G) (Callee.fn (by kernel_rfl)) (zaa rfl (zae X S ixm1 ixm0) zab) ?_
    have S := S.selN (ℓ' := (L, _) :: T.led w (RC a T ((C, _) :: (it, _) :: (D, _) :: (256, TabC ps4) :: (bd, _) :: (wr, _) :: ρ))) [2, 4, 4, 4, 4, 4, 7, 7, 7, 7, 7] (by rfl)
    have hlam' := hlam
    obtain ⟨_, _, _, _, _, _, _, _, hfr, _⟩ := hlam'
    refine wpAny_call (zfl (n := 8) (okP := fun _ _ => False) (badP := fun D' => D' = 45) G (K₁.deeper X0) S.enter0 (hroom.deeper.mono (by decide)) hfr (hdb f g4 _ hlam hle24) (fun C h => .inr h) (fun t g5 cells' s' hok5 S' => hok5.elim) (fun t s' hb5 S' => ?_) (fun t s' hb5 S' => ?_))
    skip
    · exact absurd hb5 (by decide)
    replace S := S'.ret0 S
    clear S'
    exact hY i () () C D _ _ _ trivial (by rw [List.replicate_succ', zap]; exact map_of_snoc'.symm) (S.selN [12, 1, 11, 11, 1, 1, 1, 1, 1, 6, 6, 6] (by rfl))
  intro _ Dl2 _ hDl2 s S
  have elen : (Src.seqL wr (fl2.map V.ref)).vals.length = 13 := by show (fl2.map V.ref).length = 13; rw [List.length_map, hlen2]
  rw [elen] at S
  clear elen
  refine wpAny_BinOp ?_; refine List_ ?_; refine zaf (zaa rfl zac zab) ?_; refine zbg S sz1 ?_; walk_at "newo"; refine r_ev zac ?_
  refine zgi S ((S.at ixm1).isL) (by decide) (by decide) (by decide) fun e2 s he2 S => ?_
  have em2 : (List.replicate (13 : Int).toNat [V.int 2]).flatten = (List.replicate 13 (2 : Int)).map V.int := by rfl
  rw [em2] at S
  skip
  refine zmi ((S.at (a := Dl2) ixm3).isL) ((S.at (a := e2) ixm1).isL) (zd3 3 hun (by decide)) ?_
  rw [decide_eq_true rfl]
  refine hQ _ _ ?_
  subst_vars
  try with_reducible first | refine hQ _ _ ?_ | refine hEnd _ ?_
  refine k _ ps4 s (hle2.trans hle24) TO4 (S.selN [10, 5, 5, 5, 5, 5, 0, 0, 0, 0, 0, 0, 0, 0, 0, 0, 0] (by rfl))
theorem zoj {w : World} {α : Type} {A : Around} {E : Value → Shared → Prop} {s : Shared} {m : Sem α} {Q : α → Shared → Prop} (P : α → Shared → Prop) (h : wpAny (model pg w) A m P E s) (k : ∀ v s, P v s → Q v s) : wpAny (model pg w) A m Q E s := wpAny_mono h (fun v s h => k v s h) fun _ _ e => e
noncomputable def LongOk (ws : List Int) : Prop := ws ≠ [] ∧ ws.length ≤ 66 ∧ ∀ n ∈ ws, isLet n
noncomputable abbrev rKinds : List (Str × NameKind) := [("box", .cell), ("is_first", .local), ("table", .cell), ("kept", .cell), ("is_far", .local), ("forms", .cell), ("fair", .local), ("words", .cell), ("turn", .local), ("word", .local), ("stands", .local), ("sides", .cell), ("due", .local), ("plain", .local), ("before", .local), ("told", .local), ("found", .local), ("Patterns", .globalImplicit), ("_law_take", .globalImplicit), ("_law_filled", .globalImplicit), ("_law_word", .globalImplicit), ("range", .globalImplicit), ("len", .globalImplicit), ("_law_put", .globalImplicit), ("tuple", .globalImplicit), ("_law_due", .globalImplicit), ("_law_refused", .globalImplicit)]
noncomputable abbrev rLoc (isf far fair turn word stands due plain before told found : Option V) : Loc := [("box", none), ("is_first", isf), ("table", none), ("kept", none), ("is_far", far), ("forms", none), ("fair", fair), ("words", none), ("turn", turn), ("word", word), ("stands", stands), ("sides", none), ("due", due), ("plain", plain), ("before", before), ("told", told), ("found", found), ("Patterns", none), ("_law_take", none), ("_law_filled", none), ("_law_word", none), ("range", none), ("len", none), ("_law_put", none), ("tuple", none), ("_law_due", none), ("_law_refused", none)]
noncomputable abbrev rB (w : World) (ρ : Led) (p1 p2 p3 : Array Value) (kd : Addr) (xs : List (List Int × Addr × Value)) (bx tb fa wl c1 c2 c3 c4 c5 c6 : Addr) (q : Option V) : Led := (231, TabC p1) :: (241, TabC p2) :: (256, TabC p3) :: (kd, TC w xs) :: (c1, .cell (some (.ref bx))) :: (c2, .cell (some (.ref tb))) :: (c3, .cell (some (.ref kd))) :: (c4, .cell (some (.ref fa))) :: (c5, .cell (some (.ref wl))) :: (c6, .cell q) :: ρ
noncomputable abbrev rB' (w : World) (ρ : Led) (p1 p2 : Array Value) (kd : Addr) (xs : List (List Int × Addr × Value)) (bx tb fa wl c1 c2 c3 c4 c5 c6 : Addr) (q : Option V) : Led := (231, TabC p1) :: (241, TabC p2) :: (kd, TC w xs) :: (c1, .cell (some (.ref bx))) :: (c2, .cell (some (.ref tb))) :: (c3, .cell (some (.ref kd))) :: (c4, .cell (some (.ref fa))) :: (c5, .cell (some (.ref wl))) :: (c6, .cell q) :: ρ
noncomputable def roundSs (w : World) : List Stmt := match (KK w).lookup 271 with
  | some o => (match o.data with
    | .func fd => (match fd.body with
      | .stmts ss => ss
      | _ => [])
    | _ => [])
  | none => []
noncomputable def SideAt (g : PH) (v : V) (x : Int × Int) : Prop := ∃ a, v = .ref a ∧ g a = some (.list [.int x.1, .int x.2])
theorem SideAt.mono {g g' : PH} {v : V} {x : Int × Int} (h : SideAt g v x) (l : g.le g') : SideAt g' v x := by
  obtain ⟨a, e, h⟩ := h
  exact ⟨a, e, l _ _ h⟩
theorem LetAt.mono {g g' : PH} {v : V} {x : List Int} (h : LetAt g v x) (l : g.le g') : LetAt g' v x := by
  obtain ⟨a, e, h⟩ := h
  exact ⟨a, e, l _ _ h⟩
theorem zmr {w : World} {G0 : Heap} {K : Kon} {g : PH} {s : Shared} {ℓ : Led} (S : SS w G0 K g s ℓ) {a b : Addr} {x y : List Int} (ha : g a = some (.list (x.map V.int))) (hb : g b = some (.list (y.map V.int))) : Rows2 w s.heap [.ref a, .ref b] [x, y] := by
  refine ⟨rfl, fun i v z h1 h2 => ?_⟩
  rcases i with _ | _ | i
  · cases h1; cases h2; exact ⟨a, rfl, (S.fact ha).isL⟩
  · cases h1; cases h2; exact ⟨b, rfl, (S.fact hb).isL⟩
  · simp at h1
theorem All2.imp {α β : Type} {P Q : α → β → Prop} {as : List α} {bs : List β} (h : All2 P as bs) (k : ∀ a b, P a b → Q a b) : All2 Q as bs := ⟨h.1, fun i a b h1 h2 => k _ _ (h.2 i a b h1 h2)⟩
theorem KeptAre.mono {g g' : PH} {xs : List (List Int × Addr × Value)} {kp : List (List Int × List Int)} (h : KeptAre g xs kp) (l : g.le g') : KeptAre g' xs kp := ⟨fun x hx => l _ _ (h.keys x hx), h.miss, fun k a v e => by
  obtain ⟨sa, st, e1, e2, e3⟩ := h.hit k a v e
  exact ⟨sa, st, e1, l _ _ e2, e3⟩⟩
structure RF (g : PH) (T : Tb) (fs : List Form) (vs : List V) (xs : List (List Int × Addr × Value)) (kp : List (List Int × List Int)) (fa wl w0 w1 : Addr) (ws0 ws1 : List Int) (p3 : Array Value) : Prop where
  P : Rep g T fs kp
  hfs : FormsAre g vs fs
  hkp : KeptAre g xs kp
  gfa : g fa = some (.list vs)
  gwl : g wl = some (.list [.ref w0, .ref w1])
  gw0 : g w0 = some (.list (ws0.map V.int))
  gw1 : g w1 = some (.list (ws1.map V.int))
  T3 : TabOk qR g p3
theorem RF.mono {g g' : PH} {T : Tb} {fs : List Form} {vs : List V} {xs : List (List Int × Addr × Value)} {kp : List (List Int × List Int)} {fa wl w0 w1 : Addr} {ws0 ws1 : List Int} {p3 : Array Value} (h : RF g T fs vs xs kp fa wl w0 w1 ws0 ws1 p3) (l : g.le g') : RF g' T fs vs xs kp fa wl w0 w1 ws0 ws1 p3 :=
  ⟨h.P.mono l, h.hfs.mono l, h.hkp.mono l, l _ _ h.gfa, l _ _ h.gwl, l _ _ h.gw0, l _ _ h.gw1, h.T3.mono l⟩
theorem DueIs.len {fs : List Form} {kp : List (List Int × List Int)} {ns : List Int} {l r : Int} {out : List Int} (h : DueIs fs kp ns l r out) : out.length ≤ 64 := by
  have hc : dueCnt (ns.take 63).length l r ≤ 64 := by
    have : (ns.take 63).length ≤ 63 := by rw [List.length_take]; exact Nat.le_trans (Nat.min_le_left _ _) (by decide)
    unfold dueCnt dueLo
    have h1 := (zcy l).1
    have h2 := (zcy r).1
    generalize min (max l 1) 63 = lo at h1 ⊢
    generalize min (max r 1) 63 = hi at h2 ⊢
    omega
  rcases h with ⟨st, _, rfl⟩ | ⟨_, ms, _, rfl⟩
  · unfold insOf
    exact Nat.le_trans (List.length_filter_le _ _) (by simpa using hc)
  · unfold oddsOf
    exact Nat.le_trans (List.length_filter_le _ _) (by simpa using hc)
theorem LetAt.two {g : PH} {C : List V → Prop} {acc : List V} {x y : List Int} (h : All2 (LetAt g) acc [x, y]) (k : ∀ a b, g a = some (.list (x.map V.int)) → g b = some (.list (y.map V.int)) → C [.ref a, .ref b]) : C acc := by
  obtain ⟨hl, h⟩ := h
  rcases acc with _ | ⟨u, _ | ⟨v, _ | ⟨z, r⟩⟩⟩
  · cases hl
  · cases hl
  · obtain ⟨a, rfl, ga⟩ := h 0 _ _ rfl rfl
    obtain ⟨b, rfl, gb⟩ := h 1 _ _ rfl rfl
    exact k a b ga gb
  · cases hl
theorem SideAt.two {g : PH} {C : List V → List (Int × Int) → Prop} {acc : List V} {sd : List (Int × Int)} (h : All2 (SideAt g) acc sd) (hs : sd.length = 2) (k : ∀ a b x y, g a = some (.list [.int x.1, .int x.2]) → g b = some (.list [.int y.1, .int y.2]) → C [.ref a, .ref b] [x, y]) : C acc sd := by
  obtain ⟨hl, h⟩ := h
  rw [hs] at hl
  rcases sd with _ | ⟨x, _ | ⟨y, _ | ⟨z, r⟩⟩⟩
  · cases hs
  · cases hs
  · rcases acc with _ | ⟨u, _ | ⟨v, _ | ⟨z, r⟩⟩⟩
    · cases hl
    · cases hl
    · obtain ⟨a, rfl, ga⟩ := h 0 _ _ rfl rfl
      obtain ⟨b, rfl, gb⟩ := h 1 _ _ rfl rfl
      exact k a b x y ga gb
    · cases hl
  · cases hs
theorem two_of {α : Type} {C : List α → Prop} {l : List α} (h : l.length = 2) (k : ∀ x y, C [x, y]) : C l := by
  rcases l with _ | ⟨u, _ | ⟨v, _ | ⟨z, r⟩⟩⟩
  · cases h
  · cases h
  · exact k u v
  · cases h
theorem zl8 {w : World} {G0 : Heap} {K : Kon} {g : PH} {s : Shared} {A : Around} {env : Env} {Q : Flow → Shared → Prop} {E : Value → Shared → Prop} {outer : List Env} {ρ : Led} {bx kd fa wl w0 w1 L c1 c2 c3 c4 c5 c6 : Addr} {b : Int × Int} {p1 p2 p3 : Array Value} {isf fb : Bool}
    {T : Tb} {fs : List Form} {vs : List V} {xs : List (List Int × Addr × Value)} {kp : List (List Int × List Int)} {ws0 ws1 : List Int} {o1 o2 o3 : Option V}
    (GL : Gl w G0) (K₁ : Stk A outer K.Φ) (X : EnvOk env L (some L) rKinds [("box", c1), ("table", c2), ("kept", c3), ("forms", c4), ("words", c5), ("sides", c6)]) (hroom : Room A 20) (hun : A.units + 100 < cLine)
    (hb : BoxOk b) (F : RF g T fs vs xs kp fa wl w0 w1 ws0 ws1 p3) (hok : ∀ f ∈ fs, FormOk f) (hf1 : 1 ≤ fs.length) (hf7 : fs.length ≤ 7) (hW : WordsOk kp) (hkl : kp.length ≤ 10) (hkd : (kd == sysModules) = false)
    (hws0 : LongOk ws0) (hws1 : WordOk ws1) 
    (S : SS w G0 K g s ((L, .ns (rLoc (some (.bool isf)) (some (.bool fb)) (some (.bool true)) o1 o2 o3 none none none none none)) :: (bx, bxC b) :: T.led w (rB w ρ p1 p2 p3 kd xs bx T.tb fa wl c1 c2 c3 c4 c5 c6 none)))
    (k : ∀ g' p3' b' s' loc pr c3' fo c4' sl, g.le g' → TabOk qR g' p3' → SS w G0 K g' s' ((L, .ns loc) :: (pr, c3') :: T.led w ((fo, c4') :: (bx, bxC b') :: (256, TabC p3') :: rB' w ρ p1 p2 kd xs bx T.tb fa wl c1 c2 c3 c4 c5 c6 (some (.ref sl)))) → Q (.ret (.bool true)) s') :
    wpAny (model pg w) (A.deeper env) (execs ((roundSs w).drop 6) env) Q E s := by
  have G := GL.toGd
  have hws0l := hws0.2.1
  have hws1l := hws1.2.1
  have hvl : vs.length = fs.length := F.hfs.1
  have hX0 := X
  refine zav ?_ (zko X zcp)
  refine zcn (G0 := G0) (K := K) (kinds' := [((".0" : Str), .local), ("lap", .local), ("_law_side", .globalImplicit), ("box", .cell)]) (cl' := [("box", c1)]) hroom.handled X ⟨rfl, by decide +kernel, by rfl, by exact ixm1, by rfl, by rfl, by rfl⟩ (fun CC hCC => ?_) (by intro _; with_unfolding_all rfl)
  refine zai X G.XX S (ixmt ixm9) (zb2 G) (Callee.ty _) (zaa rfl zac zab) ?_; refine zbr S ?_; walk_at "newo"
  clear hN
  generalize aN = ra at S ⊢
  refine zce S ixm1 (by decide) (by decide) fun it s hnew S => ?_
  rw [show (2 - 0 : Int).toNat = 2 from rfl] at S
  refine hCC (PH × List V × (Int × Int) × List (Int × Int)) _ it (fun i y => g.le y.1 ∧ All2 (SideAt y.1) y.2.1 y.2.2.2 ∧ y.2.2.2.length = i ∧ BoxOk y.2.2.1) (fun y => y.1) _ (fun _ y => y.2.1) (fun _ y => (ra, .opq (RangeObj 0 2)) :: (bx, bxC y.2.2.1) :: T.led w (rB w ρ p1 p2 p3 kd xs bx T.tb fa wl c1 c2 c3 c4 c5 c6 none)) (g, [], b, []) _ ?_ hnew (S.selN [] (by rfl)) rfl ⟨PH.le.refl g, All2.nil, rfl, hb⟩ ?_ ?_ ?_
  · rw [zbf, sizeLine_eq]; decide
  · intros; exact trivial
  · intro QY QN hY hNo i; refine pr4 ?_; intro g'' acc b' sd v s C D cenv hP hvi X S
    dsimp only at hP S
    refine and4 hP fun hle hsd hsl hb' => ?_
    clear hvi
    refine zb4 ?_
    refine zb8 ?_; refine List_ ?_; refine args_cons ?_ (by rfl); refine zai X G.XX S ixm2 (zg4 G) (Callee.fn (by kernel_rfl)) (zaa rfl (zad X S (Or.inl ixm3) ixm0 (ixmt ixm3)) zab) ?_
    have S := S.selN (ℓ' := (C, _) :: (bx, _) :: (L, _) :: (it, _) :: (D, _) :: (ra, _) :: T.led w (rB w ρ p1 p2 p3 kd xs bx T.tb fa wl c1 c2 c3 c4 c5 c6 none)) [1, 5] (by rfl)
    refine wpAny_call (zlm G S.enter0 (hroom.deeper.mono (by decide)) hb' fun d1 b1 t1 s' hb1 S' => ?_)
    replace S := S'.ret0 S
    clear S'
    refine args_cons ?_ (by rfl); refine zai X G.XX S ixm2 (zg4 G) (Callee.fn (by kernel_rfl)) (zaa rfl (zad X S (Or.inl ixm3) ixm0 (ixmt ixm3)) zab) ?_
    refine wpAny_call (zlm G S.enter0 (hroom.deeper.mono (by decide)) hb1 fun d2 b2 t2 s' hb2 S' => ?_)
    replace S := S'.ret0 S
    clear S'
    refine zaf zab ?_; refine zbg S sz2 ?_; walk_at "newo"
    generalize aN = sa at S hN ⊢
    have S := S.selN (ℓ' := (sa, .list [.int d1, .int d2]) :: (C, _) :: (L, _) :: (it, _) :: (D, .list acc) :: (ra, .opq (RangeObj 0 2)) :: (bx, bxC b2) :: T.led w (rB w ρ p1 p2 p3 kd xs bx T.tb fa wl c1 c2 c3 c4 c5 c6 none)) [2, 1, 2, 2, 2, 2] (by rfl)
    have e1 := S.st.inv.gl _ (.head _)
    have S := S.freeze' hN
    exact hY i (g'', acc, b', sd) (g''.set sa (.list [.int d1, .int d2]), acc ++ [.ref sa], b2, sd ++ [(d1, d2)]) C D _ _ _ ⟨hle.trans (PH.le_set e1), (hsd.imp fun _ _ h => h.mono (PH.le_set e1)).snoc ⟨sa, rfl, PH.set_self⟩, by rw [List.length_append, hsl]; rfl, hb2⟩ rfl S
  refine pr4 ?_; intro g2 acc b' sd sl hP hnsl s S
  dsimp only at hP S
  refine and4 hP fun hle hsd hsl hb' => ?_
  rw [zbf] at hsl
  revert S
  apply SideAt.two hsd hsl; intro sa0 sa1 sd0 sd1 gs0 gs1 S
  clear hsd hsl hb
  refine zbt X S zcp ixm5 (zah _) (ixvt ixv6) ?_; walk_at "new"
  have S := S.selN (ℓ' := (sl, .list [.ref sa0, .ref sa1]) :: (L, _) :: (bx, bxC b') :: T.led w (rB w ρ p1 p2 p3 kd xs bx T.tb fa wl c1 c2 c3 c4 c5 c6 (some (.ref sl)))) [2, 1, 2, 2, 2, 2, 2, 2, 2, 2, 2, 2, 2, 2, 2, 2, 2, 2, 0] (by rfl)
  have e1 := S.st.inv.gl _ (.head _)
  have S := S.freeze' hnsl
  have gsl := PH.set_self (g := g2) (a := sl) (c := .list [.ref sa0, .ref sa1])
  have hle3 := PH.le_set (c := .list [.ref sa0, .ref sa1]) e1
  replace gs0 := hle3 _ _ gs0
  replace gs1 := hle3 _ _ gs1
  replace hle := hle.trans hle3
  generalize g2.set sl (.list [.ref sa0, .ref sa1]) = g3 at S gsl gs0 gs1 hle
  clear hle3 e1
  replace F := F.mono hle
  refine zcb (G0 := G0) (K := K) (kinds' := [((".0" : Str), .local), ("k", .local), ("_law_due", .globalImplicit), ("forms", .cell), ("kept", .cell), ("sides", .cell), ("words", .cell)]) (cl' := [("words", c5), ("sides", c6), ("kept", c3), ("forms", c4)]) hroom.handled X ⟨rfl, by decide +kernel, by rfl, by exact ixm1, by rfl, by rfl, by rfl⟩ (zd8 X (ixmt ixm0) rfl (by decide +kernel)) (ixmt ixm0) (fun CC hCC => ?_) (by intro _; with_unfolding_all rfl)
  refine zai X G.XX S (ixmt ixm9) (zb2 G) (Callee.ty _) (zaa rfl zac zab) ?_; refine zbr S ?_; walk_at "newo"
  clear hN
  generalize aN = rb at S ⊢
  refine zce S ixm1 (by decide) (by decide) fun it s hnew S => ?_
  rw [show (2 - 0 : Int).toNat = 2 from rfl] at S
  refine hCC (PH × List V × List (List Int)) _ it (fun i y => g3.le y.1 ∧ All2 (LetAt y.1) y.2.1 y.2.2 ∧ y.2.2.length = i ∧ (∀ d, y.2.2[0]? = some d → DueIs fs kp ws0 sd0.1 sd0.2 d) ∧ (∀ d, y.2.2[1]? = some d → DueIs fs kp ws1 sd1.1 sd1.2 d)) (fun y => y.1) _ (fun _ y => y.2.1) (fun _ _ => (rb, .opq (RangeObj 0 2)) :: (bx, bxC b') :: T.led w (rB w ρ p1 p2 p3 kd xs bx T.tb fa wl c1 c2 c3 c4 c5 c6 (some (.ref sl)))) (g3, [], []) _ ?_ hnew (S.selN [] (by rfl)) rfl ⟨PH.le.refl g3, All2.nil, rfl, by simp, by simp⟩ ?_ ?_ ?_
  · rw [zbf, sizeLine_eq]; decide
  · intros; exact trivial
  · intro QY QN hY hNo i; refine pr3 ?_; intro g'' acc ds v s C D cenv hP hvi X S
    dsimp only at hP S
    refine and5 hP fun hle'' hds hdl hd0 hd1 => ?_
    revert S; apply zby hvi; intro hilt tv S
    clear hvi
    dsimp only [mkLoc, zah, zap, zar, zal, zaj, zak, za0] at S
    have F := F.mono hle''
    replace gsl := hle'' _ _ gsl
    replace gs0 := hle'' _ _ gs0
    replace gs1 := hle'' _ _ gs1
    obtain ⟨wk, sk, wsk, sdk, hwk, hsk, gwk, gsk, hlk, hnx⟩ : ∃ (wk sk : Addr) (wsk : List Int) (sdk : Int × Int), ([V.ref w0, V.ref w1] : List V)[((i : Nat) : Int).toNat]? = some (.ref wk) ∧ ([V.ref sa0, V.ref sa1] : List V)[((i : Nat) : Int).toNat]? = some (.ref sk) ∧ g'' wk = some (.list (wsk.map V.int)) ∧ g'' sk = some (.list [.int sdk.1, .int sdk.2]) ∧ wsk.length ≤ 1000 ∧
        ∀ d, DueIs fs kp wsk sdk.1 sdk.2 d → (∀ d', (ds ++ [d])[0]? = some d' → DueIs fs kp ws0 sd0.1 sd0.2 d') ∧ (∀ d', (ds ++ [d])[1]? = some d' → DueIs fs kp ws1 sd1.1 sd1.2 d') := by
      rcases i with _ | _ | i
      · have : ds = [] := List.length_eq_zero_iff.mp hdl
        subst this
        exact ⟨w0, sa0, ws0, sd0, rfl, rfl, F.gw0, gs0, by exact Nat.le_trans hws0l (by decide), fun d h => ⟨fun d' e => by cases e; exact h, fun d' e => by simp at e⟩⟩
      · obtain ⟨d0, rfl⟩ : ∃ d0, ds = [d0] := List.length_eq_one_iff.mp hdl
        exact ⟨w1, sa1, ws1, sd1, rfl, rfl, F.gw1, gs1, by exact Nat.le_trans hws1l (by decide), fun d h => ⟨fun d' e => hd0 d' e, fun d' e => by cases e; exact h⟩⟩
      · omega
    refine zb4 ?_
    refine zb8 ?_; refine Call_ ?_ (by rfl); refine zax X S ixm2 (zhu G) ?_; refine callWith_K G.XX (by kernel_rfl) ?_ (by rfl) (by rfl); refine args_cons ?_ (by rfl); refine r_ev (zad X S (Or.inl ixm3) ixm3 (ixmt ixm6)) ?_; refine args_cons ?_ (by rfl); refine r_ev (zad X S (Or.inl ixm4) ixm2 (ixmt ixm5)) ?_; refine args_cons ?_ (by rfl); refine zbb (zad X S (Or.inl ixm6) ixm0 (ixmt ixm7)) (zag X S ixm1 ixm0) ?_
    refine zbc ((S.fact F.gwl).seq SeqC.ofL) (by show 2 ≤ sizeLine; decide) (Int.natCast_nonneg _) (b := wk) hwk zbm ?_
    refine args_cons ?_ (by rfl); refine Subscript_ ?_; refine zbb (zad X S (Or.inl ixm5) ixm1 (ixmt ixm8)) (zag X S ixm1 ixm0) ?_
    refine zbc ((S.fact gsl).seq SeqC.ofL) (by show 2 ≤ sizeLine; decide) (Int.natCast_nonneg _) (b := sk) hsk zbm ?_
    refine r_ev zac ?_
    refine zen ((S.fact gsk).seq SeqC.ofL) (by show 2 ≤ sizeLine; decide) (by decide) (n := sdk.1) rfl zbi fun tl => ?_
    refine args_cons ?_ (by rfl); refine Subscript_ ?_; refine zbb (zad X S (Or.inl ixm5) ixm1 (ixmt ixm8)) (zag X S ixm1 ixm0) ?_
    refine zbc ((S.fact gsl).seq SeqC.ofL) (by show 2 ≤ sizeLine; decide) (Int.natCast_nonneg _) (b := sk) hsk zbm ?_
    refine r_ev zac ?_
    refine zen ((S.fact gsk).seq SeqC.ofL) (by show 2 ≤ sizeLine; decide) (by decide) (n := sdk.2) rfl zbi fun tr => ?_
    refine zaf zab ?_; refine ⟨S.In G.XX, ?_⟩
    have S := S.selN (ℓ' := (C, _) :: (kd, _) :: (L, _) :: (it, _) :: (D, _) :: (rb, _) :: (bx, _) :: T.led w ((231, _) :: (241, _) :: (256, _) :: (c1, _) :: (c2, _) :: (c3, _) :: (c4, _) :: (c5, _) :: (c6, _) :: ρ)) [1, 14] (by rfl)
    refine wpAny_call (znf G S.enter0 (hroom.deeper.mono (by decide)) (zd3 33 hun (by decide)) hkd (.inr F.gfa) (.inr gwk) F.hfs hok (Nat.lt_of_le_of_lt hf7 (by decide)) F.hkp hlk fun r d s' hd hr S' => ?_)
    have hr := S.unborn hr
    replace S := S'.ret0 S
    clear S'
    have S := S.selN (ℓ' := (r, .list (d.map V.int)) :: (C, _) :: (L, _) :: (it, _) :: (D, _) :: (rb, _) :: (bx, _) :: T.led w (rB w ρ p1 p2 p3 kd xs bx T.tb fa wl c1 c2 c3 c4 c5 c6 (some (.ref sl)))) [2, 1, 2, 2, 2, 2, 2, 2, 2, 2, 2, 2, 2, 2, 2] (by rfl)
    have e1 := S.st.inv.gl _ (.head _)
    have S := S.freeze' hr
    exact hY i (g'', acc, ds) (g''.set r (.list (d.map V.int)), acc ++ [.ref r], ds ++ [d]) C D _ _ _ ⟨hle''.trans (PH.le_set e1), (hds.imp fun _ _ h => h.mono (PH.le_set e1)).snoc ⟨r, rfl, PH.set_self⟩, by rw [List.length_append, hdl]; rfl, (hnx d hd).1, (hnx d hd).2⟩ rfl S
  refine pr3 ?_; intro g4 acc ds D hP hD
  dsimp only at hP
  refine and5 hP fun hle4 hds hdl hd0 hd1 => ?_
  rw [zbf] at hdl
  revert hds hd0 hd1
  apply two_of hdl; intro ds0 ds1 hds hd0 hd1
  replace hd0 := hd0 ds0 rfl
  replace hd1 := hd1 ds1 rfl
  apply LetAt.two hds; intro da0 da1 gd0 gd1
  clear hds hdl
  refine ⟨_, by exact ixut ixu0, fun s S => ?_⟩
  dsimp only at S
  have S := S.selN (ℓ' := (L, _) :: (D, .list [.ref da0, .ref da1]) :: (kd, _) :: (bx, _) :: T.led w ((231, _) :: (241, _) :: (256, _) :: (c1, _) :: (c2, _) :: (c3, _) :: (c4, _) :: (c5, _) :: (c6, _) :: ρ)) [1, 1, 11, 2, 2, 2, 2, 2, 2, 2, 2, 2, 2, 2, 2, 2, 2, 2, 0] (by rfl)
  replace F := F.mono hle4
  replace gsl := hle4 _ _ gsl
  replace gs0 := hle4 _ _ gs0
  replace gs1 := hle4 _ _ gs1
  refine zci (G0 := G0) hroom.handled X (ixmt ixm1) (ixmt ixm2) ?_ rfl (by decide +kernel) rfl rfl rfl rfl
  refine Tuple_ ?_; refine args_cons ?_ (by rfl); refine Call_ ?_ (by rfl); refine zax X S (ixmt (ixmt ixm1)) (zhu G) ?_; refine callWith_K G.XX (by kernel_rfl) ?_ (by rfl) (by rfl); refine args_cons ?_ (by rfl); refine r_ev (zad X S (Or.inl ixm5) ixm3 (ixmt ixm3)) ?_; refine args_cons ?_ (by rfl); refine r_ev (zad X S (Or.inl ixm3) ixm2 (ixmt ixm2)) ?_; refine args_cons ?_ (by rfl); refine zbb (zad X S (Or.inl ixm7) ixm4 (ixmt ixm4)) zac ?_
  refine zbc ((S.fact F.gwl).seq SeqC.ofL) (by show 2 ≤ sizeLine; decide) (by decide) (b := w1) rfl zbi ?_
  refine zaf (zaa rfl zac (zaa rfl zac zab)) ?_; refine ⟨S.In G.XX, ?_⟩
  have S := S.selN (ℓ' := (L, _) :: (kd, _) :: (D, _) :: (bx, _) :: T.led w ((231, _) :: (241, _) :: (256, _) :: (c1, _) :: (c2, _) :: (c3, _) :: (c4, _) :: (c5, _) :: (c6, _) :: ρ)) [1, 2] (by rfl)
  refine wpAny_call (znf G S.enter0 (hroom.deeper.mono (by decide)) (zd3 33 hun (by decide)) hkd (.inr F.gfa) (.inr F.gw1) F.hfs hok (Nat.lt_of_le_of_lt hf7 (by decide)) F.hkp (Nat.le_trans hws1l (by decide)) fun pl plain s' hpl hplr S' => ?_)
  have hplr := S.unborn hplr
  replace S := S'.ret0 S
  clear S'
  refine args_cons ?_ (by rfl)
  obtain ⟨g5, S, hle5, gD, gpl⟩ := (S.selN (ℓ' := (D, .list [.ref da0, .ref da1]) :: (pl, .list (plain.map V.int)) :: (L, _) :: (bx, _) :: T.led w (rB w ρ p1 p2 p3 kd xs bx T.tb fa wl c1 c2 c3 c4 c5 c6 (some (.ref sl)))) [4, 2, 1, 2, 2, 2, 2, 2, 2, 2, 2, 2] (by rfl)).freeze2 hD hplr
  replace F := F.mono hle5
  replace gsl := hle5 _ _ gsl
  replace gs0 := hle5 _ _ gs0
  replace gs1 := hle5 _ _ gs1
  replace gd0 := hle5 _ _ gd0
  replace gd1 := hle5 _ _ gd1
  refine zcn (G0 := G0) (K := K) (kinds' := [((".0" : Str), .local), ("word", .local), ("list", .globalImplicit)]) (cl' := []) hroom.handled X ⟨rfl, by decide +kernel, by rfl, by exact ixm1, by rfl, by rfl, by rfl⟩ (fun CC hCC => ?_) (by intro _; with_unfolding_all rfl)
  refine r_ev (zad X S (Or.inl ixm7) ixm4 (ixmt ixm3)) ?_
  refine zc0 S ((S.fact F.gwl).isL) fun it s hnew S => ?_
  refine hCC (PH × List V) _ it (fun i y => g5.le y.1 ∧ All2 (LetAt y.1) y.2 ([ws0, ws1].take i)) (fun y => y.1) _ (fun _ y => y.2) (fun _ _ => (bx, bxC b') :: T.led w (rB w ρ p1 p2 p3 kd xs bx T.tb fa wl c1 c2 c3 c4 c5 c6 (some (.ref sl)))) (g5, []) _ ?_ hnew (S.selN [] (by rfl)) rfl ⟨PH.le.refl g5, All2.nil⟩ ?_ ?_ ?_
  · show 2 ≤ sizeLine; decide
  · intro i y s C D o hP S
    exact (S.fact (hP.1 _ _ F.gwl)).isL
  · intro QY QN hY hNo i; refine pr2 ?_; intro g'' acc v s C D cenv hP hvi X S
    dsimp only at hP S
    obtain ⟨hle'', hds⟩ := hP
    have F := F.mono hle''
    obtain ⟨wk, wsk, hv, gwk, hlk, hnx⟩ : ∃ (wk : Addr) (wsk : List Int), V.of v = .ref wk ∧ g'' wk = some (.list (wsk.map V.int)) ∧ wsk.length ≤ 1000 ∧ [ws0, ws1].take (i + 1) = [ws0, ws1].take i ++ [wsk] := by
      rcases i with _ | _ | i
      · exact ⟨w0, ws0, (Option.some.inj hvi).symm, F.gw0, by exact Nat.le_trans hws0l (by decide), rfl⟩
      · exact ⟨w1, ws1, (Option.some.inj hvi).symm, F.gw1, by exact Nat.le_trans hws1l (by decide), rfl⟩
      · simp [Src.vals] at hvi
    obtain rfl := V.of_ref hv
    clear hvi hv
    rw [zah] at S
    refine zb4 ?_
    refine zb8 ?_; refine zai X G.XX S ixm2 (zc3 G) (Callee.ty _) (zaa rfl (zae X S ixm1 ixm0) zab) ?_
    refine zfb S ((S.fact gwk).seq SeqC.ofL) (zdl (m := 1000) hlk (by decide)) fun r s hr S => ?_
    have S := S.selN (ℓ' := (r, .list (wsk.map V.int)) :: (C, _) :: (L, _) :: (it, _) :: (D, _) :: (bx, _) :: T.led w (rB w ρ p1 p2 p3 kd xs bx T.tb fa wl c1 c2 c3 c4 c5 c6 (some (.ref sl)))) [2] (by rfl)
    have e1 := S.st.inv.gl _ (.head _)
    have S := S.freeze' hr
    exact hY i (g'', acc) (g''.set r (.list (wsk.map V.int)), acc ++ [.ref r]) C D _ _ _ ⟨hle''.trans (PH.le_set e1), by rw [hnx]; exact (hds.imp fun _ _ h => h.mono (PH.le_set e1)).snoc ⟨r, rfl, PH.set_self⟩⟩ rfl S
  refine pr2 ?_; intro g6 acc bf hP hbf s S
  dsimp only at hP S
  obtain ⟨hle6, hds⟩ := hP
  have elen : (Src.seqL wl [V.ref w0, V.ref w1]).vals.length = 2 := rfl
  rw [elen] at hds
  clear elen
  revert S
  apply LetAt.two hds; intro ba0 ba1 gb0 gb1 S
  clear hds
  refine zaf zab ?_; refine za2 S sz2 ?_; walk_at "newo"
  refine fun Z kZ => kZ _ _ _ _ _ _ rfl S (S.at ixm1).isT fun u1 u2 s e1 e2 S => ?_
  obtain rfl := V.of_ref e1
  obtain rfl := V.of_ref e2
  clear e1 e2
  refine za5 X S (ixmt ixm2) (ixut ixu2) ?_; walk_at "new"; refine za5 X S (ixmt ixm1) (ixut ixu1) ?_; walk_at "new"
  obtain ⟨g7, S, hle7, gbf⟩ := (S.selN (ℓ' := (bf, .list [.ref ba0, .ref ba1]) :: (L, _) :: (bx, _) :: T.led w (rB w ρ p1 p2 p3 kd xs bx T.tb fa wl c1 c2 c3 c4 c5 c6 (some (.ref sl)))) [3, 1, 2, 2, 2, 2, 2, 2, 2, 2, 2, 2, 2, 2, 2, 2, 2, 2, 0] (by rfl)).freeze1 hbf
  have hle57 := hle6.trans hle7
  replace F := F.mono hle57
  replace gsl := hle57 _ _ gsl
  replace gs0 := hle57 _ _ gs0
  replace gs1 := hle57 _ _ gs1
  replace gd0 := hle57 _ _ gd0
  replace gd1 := hle57 _ _ gd1
  replace gD := hle57 _ _ gD
  replace gpl := hle57 _ _ gpl
  replace gb0 := hle7 _ _ gb0
  replace gb1 := hle7 _ _ gb1
  have hleg7 := ((hle.trans hle4).trans hle5).trans hle57
  clear hle hle4 hle5 hle6 hle7 hle57 hplr hD hbf hN
  have hp0 : ∀ n ∈ ws0, 1 ≤ n ∧ n ≤ 255 := fun n hn => (hws0.2.2 n hn).pos
  have hp1 : ∀ n ∈ ws1, 1 ≤ n ∧ n ≤ 255 := fun n hn => (hws1.2.2 n hn).pos
  refine zav ?_ (by rfl); refine methodCall_KW ?_ (by rfl); refine r_ev (zad X S (Or.inl ixm2) ixm1 (ixmt ixm0)) ?_; refine zam (f := 182) (name := "points") G.XX (zat w) S ixm2 ixm3 (by kernel_rfl) (by kernel_rfl) (by rfl) ?_; refine zbk (KF := KK w) (by kernel_rfl) ?_ (by rfl) (by rfl); refine args_cons ?_ (by rfl); refine Call_ ?_ (by rfl); refine zax X S (ixmt (ixmt ixm0)) (zb0 G) ?_; refine PyProof.Rows.callWith_type1 ?_ (by rfl) (by rfl); refine args_cons ?_ (by rfl); refine zbb (zad X S (Or.inl ixm7) ixm4 (ixmt ixm3)) zac ?_
  refine zbc ((S.fact F.gwl).seq SeqC.ofL) (by show 2 ≤ sizeLine; decide) (by decide) (b := w0) rfl zbi ?_
  refine zaf zab ?_
  refine zdc S ((S.fact F.gw0).isL) (zdl (m := 66) hws0l (by decide)) fun tu s htu S => ?_
  refine args_cons ?_ (by rfl); refine Subscript_ ?_; refine zbb (zad X S (Or.inl zcp) ixm5 (ixmt ixm5)) zac ?_
  refine zbc ((S.fact gsl).seq SeqC.ofL) (by show 2 ≤ sizeLine; decide) (by decide) (b := sa0) rfl zbi ?_
  refine r_ev zac ?_
  refine zen ((S.fact gs0).seq SeqC.ofL) (by show 2 ≤ sizeLine; decide) (by decide) (n := sd0.1) rfl zbi fun tl => ?_
  refine args_cons ?_ (by rfl); refine Subscript_ ?_; refine zbb (zad X S (Or.inl zcp) ixm5 (ixmt ixm5)) zac ?_
  refine zbc ((S.fact gsl).seq SeqC.ofL) (by show 2 ≤ sizeLine; decide) (by decide) (b := sa0) rfl zbi ?_
  refine r_ev zac ?_
  refine zen ((S.fact gs0).seq SeqC.ofL) (by show 2 ≤ sizeLine; decide) (by decide) (n := sd0.2) rfl zbi fun tr => ?_
  refine zaf zab ?_; refine ⟨S.In G.XX, ?_⟩
  have S := S.selN (ℓ' := (L, _) :: T.led w ((tu, .tup (ws0.map V.int)) :: (bx, bxC b') :: rB w ρ p1 p2 p3 kd xs bx T.tb fa wl c1 c2 c3 c4 c5 c6 (some (.ref sl)))) [1, 3, 3, 3, 3, 3] (by rfl)
  refine wpAny_call (zfj G (K₁.deeper X) F.P S.enter0 (hroom.deeper.mono (by decide)) (zc7 (S.In G.XX)) hws0.1 hp0 (Nat.le_trans hws0l (by decide)) (.inl (.head _)) SeqC.ofT rfl rfl fun to s' hto S' => ?_)
  have hto := S.unborn hto
  replace S := S'.ret0 S
  clear S'
  rw [zft F.P hok hW hp0 hd0] at S
  refine za5 X S (ixmt ixm3) (ixut ixu3) ?_; walk_at "new"
  refine zav ?_ (by rfl); refine BoolOp_and ?_; refine r_ev (zbw X S ixm6 ixm6) ?_; refine wpAny_truthy_bool ?_; refine zb8 ?_; refine BoolOp_one ?_; refine wpAny_Compare1 ?_; refine r_ev (zae X S (ixmt ixm3) (ixmt ixm3)) ?_; refine zbb (zae X S (ixmt ixm0) (ixmt ixm0)) zac ?_
  refine zbc ((S.fact gD).seq SeqC.ofL) (by show 2 ≤ sizeLine; decide) (by decide) (b := da0) rfl zbi ?_
  skip
  refine zmi ((S.at (a := to) ixm1).isL) ((S.fact gd0).isL) (zd3 3 hun (by decide)) ?_
  rw [decide_eq_true rfl]
  refine zef X S ixm6 ixu6 ?_; walk_at "new"; refine zcs X.kind ?_ (by rfl); refine methodCall_KW ?_ (by rfl); refine r_ev (zae X S (ixmt ixm3) (ixmt ixm3)) ?_; refine zbj S ixm1 ?_; refine zd6 ?_ (by rfl) (by rfl); refine zaf (zaa rfl zac zab) ?_
  refine zd9 S ixv1 (by have := hd0.len; rw [List.length_map, sizeLine_eq]; exact Nat.le_trans this (by decide)) rfl ?_; walk_at "new"
  have S := S.selN (ℓ' := (L, _) :: (256, TabC p3) :: T.led w ((bx, bxC b') :: rB' w ρ p1 p2 kd xs bx T.tb fa wl c1 c2 c3 c4 c5 c6 (some (.ref sl)))) [1, 11, 2, 2, 2, 2, 2, 3, 3, 3, 3, 3, 3, 3, 3, 3, 3, 0, 0] (by rfl)
  refine zc4 (fun s => ∀ Z : Prop, (∀ g8 p3', g7.le g8 → TabOk qR g8 p3' → SS w G0 K g8 s ((L, .ns (rLoc (some (.bool isf)) (some (.bool fb)) (some (.bool true)) o1 o2 o3 (some (.ref D)) (some (.ref pl)) (some (.ref bf)) (some (.ref to)) none)) :: (256, TabC p3') :: T.led w ((bx, bxC b') :: rB' w ρ p1 p2 kd xs bx T.tb fa wl c1 c2 c3 c4 c5 c6 (some (.ref sl)))) → Z) → Z) (fun J hJ => ?_) ?_
  · cases isf with
    | false =>
      refine isTrue_and ?_; refine zbs (zba (zbw X S ixm1 ixm1) (by rfl)) ?_; refine zc9 ?_; refine br_f ?_; refine zas ?_
      exact hJ _ fun Z kZ => kZ g7 p3 (PH.le.refl g7) F.T3 S
    | true =>
      obtain ⟨f0, hf0⟩ : ∃ f0, fs[0]? = some f0 := ⟨_, List.getElem?_eq_getElem (by omega)⟩
      obtain ⟨v0, hv0, t0, la0, lb0, rfl, hq1, hq2, hq3⟩ := F.hfs.get hf0
      refine isTrue_and ?_; refine zbs (zba (zbw X S ixm1 ixm1) (by rfl)) ?_; refine zb8 ?_; refine isTrue_and ?_; refine isTrue_not ?_; refine PyProof.Rows.isTrue_plain ?_ (by rfl); refine Call_ ?_ (by rfl); refine zax X S (ixmt (ixmt ixm2)) (zhe G) ?_; refine callWith_K G.XX (by kernel_rfl) ?_ (by rfl) (by rfl); refine args_cons ?_ (by rfl); refine r_ev (zad X S (Or.inl ixm2) ixm1 (ixmt ixm0)) ?_; refine args_cons ?_ (by rfl); refine Subscript_ ?_; refine zbb (zad X S (Or.inl ixm5) ixm3 (ixmt ixm2)) zac ?_
      refine zbc ((S.fact F.gfa).seq SeqC.ofL) (by rw [hvl, sizeLine_eq]; exact Nat.le_trans hf7 (by decide)) (by decide) (b := t0) hv0 zbi ?_
      refine r_ev zac ?_
      refine zbc ((S.fact hq1).seq SeqC.ofT) (by show 2 ≤ sizeLine; decide) (by decide) (b := la0) rfl zbi ?_
      refine args_cons ?_ (by rfl); refine zbb (zad X S (Or.inl ixm7) ixm4 (ixmt ixm3)) zac ?_
      refine zbc ((S.fact F.gwl).seq SeqC.ofL) (by show 2 ≤ sizeLine; decide) (by decide) (b := w1) rfl zbi ?_
      refine zaf zab ?_; refine ⟨S.In G.XX, ?_⟩
      refine wpAny_call (zlb GL (K₁.deeper X) S.enter0 (hroom.deeper.mono (by decide)) (zd3 63 hun (by decide)) F.T3 F.P (List.mem_of_getElem? hf0) (hok _ (List.mem_of_getElem? hf0)) hws1.1 hws1l hws1.2.2 (Nat.le_trans hf7 (by decide)) (Nat.le_trans hkl (by decide)) hq2 F.gw1 fun g8 p3' s' hle8 hT3 S' => ?_)
      replace S := S'.ret0 S
      clear S'
      refine wpAny_truthy_bool ?_; refine zdz ?_; refine br_f ?_; refine zas ?_
      exact hJ _ fun Z kZ => kZ g8 p3' hle8 hT3 S
  clear S
  intro s hs
  refine hs _ fun g8 p3' hle8 hT3' S => ?_
  replace F := F.mono hle8
  replace gsl := hle8 _ _ gsl
  replace gs0 := hle8 _ _ gs0
  replace gs1 := hle8 _ _ gs1
  replace gd0 := hle8 _ _ gd0
  replace gd1 := hle8 _ _ gd1
  replace gD := hle8 _ _ gD
  replace gpl := hle8 _ _ gpl
  replace gbf := hle8 _ _ gbf
  replace gb0 := hle8 _ _ gb0
  replace gb1 := hle8 _ _ gb1
  refine zcb (G0 := G0) (K := K) (kinds' := [((".0" : Str), .local), ("k", .local), ("sides", .cell), ("table", .cell), ("words", .cell)]) (cl' := [("words", c5), ("table", c2), ("sides", c6)]) hroom.handled X ⟨rfl, by decide +kernel, by rfl, by exact ixm1, by rfl, by rfl, by rfl⟩ (zd8 X (ixmt ixm4) rfl (by decide +kernel)) (ixmt ixm4) (fun CC hCC => ?_) (by intro _; with_unfolding_all rfl)
  refine zai X G.XX S (ixmt ixm9) (zb2 G) (Callee.ty _) (zaa rfl zac zab) ?_; refine zbr S ?_; walk_at "newo"
  clear hN
  generalize aN = rc at S ⊢
  refine zce S ixm1 (by decide) (by decide) fun it s hnew S => ?_
  rw [show (2 - 0 : Int).toNat = 2 from rfl] at S
  refine hCC (PH × List V) _ it (fun i y => g8.le y.1 ∧ All2 (LetAt y.1) y.2 ([ds0, ds1].take i)) (fun y => y.1) _ (fun _ y => y.2) (fun _ _ => (rc, .opq (RangeObj 0 2)) :: T.led w ((bx, bxC b') :: (256, TabC p3') :: rB' w ρ p1 p2 kd xs bx T.tb fa wl c1 c2 c3 c4 c5 c6 (some (.ref sl)))) (g8, []) _ ?_ hnew (S.selN [1, 1, 1, 2, 2, 2, 2, 2, 2] (by rfl)) rfl ⟨PH.le.refl g8, All2.nil⟩ ?_ ?_ ?_
  · rw [zbf, sizeLine_eq]; decide
  · intros; exact trivial
  · intro QY QN hY hNo i; refine pr2 ?_; intro g'' acc v s C D cenv hP hvi X S
    dsimp only at hP S
    obtain ⟨hle'', hds⟩ := hP
    revert S; apply zby hvi; intro hilt tv S
    clear hvi
    dsimp only [mkLoc, zah, zap, zar, zal, zaj, zak, za0] at S
    have F := F.mono hle''
    replace gsl := hle'' _ _ gsl
    replace gs0 := hle'' _ _ gs0
    replace gs1 := hle'' _ _ gs1
    obtain ⟨wk, sk, wsk, sdk, dk, hwk, hsk, gwk, gsk, hlk, hne, hpk, hdk, hnx⟩ : ∃ (wk sk : Addr) (wsk : List Int) (sdk : Int × Int) (dk : List Int), ([V.ref w0, V.ref w1] : List V)[((i : Nat) : Int).toNat]? = some (.ref wk) ∧ ([V.ref sa0, V.ref sa1] : List V)[((i : Nat) : Int).toNat]? = some (.ref sk) ∧ g'' wk = some (.list (wsk.map V.int)) ∧ g'' sk = some (.list [.int sdk.1, .int sdk.2]) ∧ wsk.length ≤ 1000 ∧ wsk ≠ [] ∧ (∀ n ∈ wsk, 1 ≤ n ∧ n ≤ 255) ∧
        DueIs fs kp wsk sdk.1 sdk.2 dk ∧ [ds0, ds1].take (i + 1) = [ds0, ds1].take i ++ [dk] := by
      rcases i with _ | _ | i
      · exact ⟨w0, sa0, ws0, sd0, ds0, rfl, rfl, F.gw0, gs0, by exact Nat.le_trans hws0l (by decide), hws0.1, hp0, hd0, rfl⟩
      · exact ⟨w1, sa1, ws1, sd1, ds1, rfl, rfl, F.gw1, gs1, by exact Nat.le_trans hws1l (by decide), hws1.1, hp1, hd1, rfl⟩
      · omega
    refine zb4 ?_
    refine zb8 ?_; refine methodCall_KW ?_ (by rfl); refine r_ev (zad X S (Or.inl ixm3) ixm1 (ixmt ixm4)) ?_; refine zam (f := 182) (name := "points") G.XX (zat w) S ixm5 ixm6 (by kernel_rfl) (by kernel_rfl) (by rfl) ?_; refine zbk (KF := KK w) (by kernel_rfl) ?_ (by rfl) (by rfl); refine args_cons ?_ (by rfl); refine zbb (zad X S (Or.inl ixm4) ixm0 (ixmt ixm7)) (zag X S ixm1 ixm0) ?_
    refine zbc ((S.fact F.gwl).seq SeqC.ofL) (by show 2 ≤ sizeLine; decide) (Int.natCast_nonneg _) (b := wk) hwk zbm ?_
    refine args_cons ?_ (by rfl); refine Subscript_ ?_; refine zbb (zad X S (Or.inl ixm2) ixm2 (ixmt ixm8)) (zag X S ixm1 ixm0) ?_
    refine zbc ((S.fact gsl).seq SeqC.ofL) (by show 2 ≤ sizeLine; decide) (Int.natCast_nonneg _) (b := sk) hsk zbm ?_
    refine r_ev zac ?_
    refine zen ((S.fact gsk).seq SeqC.ofL) (by show 2 ≤ sizeLine; decide) (by decide) (n := sdk.1) rfl zbi fun tl => ?_
    refine args_cons ?_ (by rfl); refine Subscript_ ?_; refine zbb (zad X S (Or.inl ixm2) ixm2 (ixmt ixm8)) (zag X S ixm1 ixm0) ?_
    refine zbc ((S.fact gsl).seq SeqC.ofL) (by show 2 ≤ sizeLine; decide) (Int.natCast_nonneg _) (b := sk) hsk zbm ?_
    refine r_ev zac ?_
    refine zen ((S.fact gsk).seq SeqC.ofL) (by show 2 ≤ sizeLine; decide) (by decide) (n := sdk.2) rfl zbi fun tr => ?_
    refine zaf zab ?_; refine ⟨S.In G.XX, ?_⟩
    have S := S.selN (ℓ' := (L, _) :: T.led w ((C, _) :: (it, _) :: (D, _) :: (rc, _) :: (bx, _) :: (256, _) :: rB' w ρ p1 p2 kd xs bx T.tb fa wl c1 c2 c3 c4 c5 c6 (some (.ref sl)))) [2, 5, 5, 5, 5, 5] (by rfl)
    refine wpAny_call (zfj G (K₁.deeper hX0) F.P S.enter0 (hroom.deeper.mono (by decide)) (zc7 (S.In G.XX)) hne hpk hlk (.inr gwk) SeqC.ofL rfl rfl fun r s' hr S' => ?_)
    have hr := S.unborn hr
    replace S := S'.ret0 S
    clear S'
    rw [zft F.P hok hW hpk hdk] at S
    have S := S.selN (ℓ' := (r, .list (dk.map V.int)) :: (C, _) :: (L, _) :: (it, _) :: (D, _) :: (rc, _) :: T.led w ((bx, _) :: (256, TabC p3') :: rB' w ρ p1 p2 kd xs bx T.tb fa wl c1 c2 c3 c4 c5 c6 (some (.ref sl)))) [2, 7, 1, 6, 6, 6] (by rfl)
    have e1 := S.st.inv.gl _ (.head _)
    have S := S.freeze' hr
    exact hY i (g'', acc) (g''.set r (.list (dk.map V.int)), acc ++ [.ref r]) C D _ _ _ ⟨hle''.trans (PH.le_set e1), by rw [hnx]; exact (hds.imp fun _ _ h => h.mono (PH.le_set e1)).snoc ⟨r, rfl, PH.set_self⟩⟩ rfl S
  refine pr2 ?_; intro g9 acc fo hP hfo
  dsimp only at hP
  obtain ⟨hle9, hds⟩ := hP
  rw [zbf] at hds
  apply LetAt.two hds; intro fa0 fa1 gf0 gf1
  clear hds
  refine ⟨_, by exact ixut ixu4, fun s S => ?_⟩
  dsimp only at S
  have S := S.selN (ℓ' := (L, _) :: T.led w ((fo, .list [.ref fa0, .ref fa1]) :: (bx, _) :: (256, TabC p3') :: rB' w ρ p1 p2 kd xs bx T.tb fa wl c1 c2 c3 c4 c5 c6 (some (.ref sl)))) [1, 3, 3, 3, 3, 3, 1, 2, 2, 2, 2, 2, 2, 2, 2, 2, 2, 2, 0] (by rfl)
  replace F := F.mono hle9
  replace gd0 := hle9 _ _ gd0
  replace gd1 := hle9 _ _ gd1
  replace gD := hle9 _ _ gD
  replace gpl := hle9 _ _ gpl
  replace gbf := hle9 _ _ gbf
  replace gb0 := hle9 _ _ gb0
  replace gb1 := hle9 _ _ gb1
  replace hT3' := hT3'.mono hle9
  refine za9 ?_; refine BoolOp_and ?_; refine r_ev (zbw X S ixm6 ixm6) ?_; refine wpAny_truthy_bool ?_; refine zb8 ?_; refine BoolOp_and ?_; refine zm9 (zae X S (ixmt ixm4) (ixmt ixm4)) (zae X S (ixmt ixm0) (ixmt ixm0)) (by rfl) ?_
  refine znd (xs := [ds0, ds1]) (ys := [ds0, ds1]) ((S.at (a := fo) ixm6).isL) ((S.fact gD).isL) (zmr S gf0 gf1) (zmr S gd0 gd1) (zd3 4 hun (by decide)) ?_
  rw [decide_eq_true rfl]
  refine wpAny_truthy_bool ?_; refine zb8 ?_; refine BoolOp_and ?_; refine wpAny_Compare1 ?_; refine methodCall_KW ?_ (by rfl); refine r_ev (zad X S (Or.inl ixm2) ixm1 (ixmt ixm1)) ?_; refine zam (f := 182) (name := "points") G.XX (zat w) S ixm1 ixm2 (by kernel_rfl) (by kernel_rfl) (by rfl) ?_; refine zbk (KF := KK w) (by kernel_rfl) ?_ (by rfl) (by rfl); refine args_cons ?_ (by rfl); refine zbb (zad X S (Or.inl ixm7) ixm4 (ixmt ixm4)) zac ?_
  refine zbc ((S.fact F.gwl).seq SeqC.ofL) (by show 2 ≤ sizeLine; decide) (by decide) (b := w1) rfl zbi ?_
  refine zaf zab ?_; refine ⟨S.In G.XX, ?_⟩
  refine wpAny_call (zfj G (K₁.deeper X) F.P S.enter0 (hroom.deeper.mono (by decide)) (zca (S.In G.XX)) hws1.1 hp1 (Nat.le_trans hws1l (by decide)) (.inr F.gw1) SeqC.ofL rfl rfl fun pr s' hpr S' => ?_)
  replace S := S'.ret0 S
  clear S'
  rw [zft F.P hok hW hp1 hpl] at S
  refine r_ev (zae X S (ixmt ixm1) (ixmt ixm1)) ?_
  refine zmi ((S.at (a := pr) ixm1).isL) ((S.fact gpl).isL) (zd3 3 hun (by decide)) ?_
  rw [decide_eq_true rfl]
  refine wpAny_truthy_bool ?_; refine zb8 ?_; refine BoolOp_one ?_; refine zm9 (zad X S (Or.inl ixm7) ixm4 (ixmt ixm5)) (zae X S (ixmt ixm2) (ixmt ixm2)) (by rfl) ?_
  refine znd (xs := [ws0, ws1]) (ys := [ws0, ws1]) ((S.fact F.gwl).isL) ((S.fact gbf).isL) (zmr S F.gw0 F.gw1) (zmr S gb0 gb1) (zd3 4 hun (by decide)) ?_
  rw [decide_eq_true rfl]
  skip
  try with_reducible first | refine hQ _ _ ?_ | refine hEnd _ ?_
  exact k _ p3' b' _ _ _ _ _ _ _ ((hleg7.trans hle8).trans hle9) hT3' S
noncomputable def StandsR (i : Nat) (st : List Int) : Prop := ∃ p : Int → Bool, st = ((List.range i).map fun (j : Nat) => (j : Int)).filter p
theorem StandsR.nil : StandsR 0 [] := ⟨fun _ => true, rfl⟩
theorem StandsR.snoc {i : Nat} {st : List Int} (h : StandsR i st) (b : Bool) : StandsR (i + 1) (if b then st ++ [(i : Int)] else st) := by
  obtain ⟨p, rfl⟩ := h
  refine ⟨fun x => if x = (i : Int) then b else p x, ?_⟩
  rw [List.range_succ, List.map_append, List.filter_append]
  have e : ((List.range i).map fun (j : Nat) => (j : Int)).filter (fun x => if x = (i : Int) then b else p x) = ((List.range i).map fun (j : Nat) => (j : Int)).filter p := by
    refine List.filter_congr fun x hx => ?_
    obtain ⟨j, hj, rfl⟩ := List.mem_map.mp hx
    have := List.mem_range.mp hj
    rw [if_neg (by omega)]
  rw [e]
  cases b <;> simp
theorem StandsR.ok {n : Nat} {st : List Int} (h : StandsR (n + 1) st) : StandsOk n st := h
theorem LongOk.take {ws : List Int} (h : LongOk ws) : WordL (ws.take 63) := ⟨fun e => h.1 (by
  cases ws with
  | nil => rfl
  | cons a r => simp at e), by rw [List.length_take]; exact Nat.le_trans (Nat.min_le_left _ _) (by decide), fun n hn => h.2.2 n (List.mem_of_mem_take hn)⟩
theorem WordOk.l {ws : List Int} (h : WordOk ws) : WordL ws := ⟨h.1, by have := h.2.1; exact Nat.le_trans this (by decide), h.2.2⟩
theorem take63 (ws : List Int) : sliceV (ws.map V.int) none (some 63) = (ws.take 63).map V.int := by
  unfold sliceV
  simp [List.map_take]
theorem WordsOk.cons {kp : List (List Int × List Int)} {ns st : List Int} (h : WordsOk kp) (hw : WordL ns) (hs : StandsOk ns.length st) : WordsOk ((ns, st) :: kp) := by
  intro x hx
  rcases List.mem_cons.mp hx with rfl | hx
  · exact ⟨fun n hn => (hw.2.2 n hn).pos, hs⟩
  · exact h x hx
theorem zjx (xs : List (List Int × Addr × Value)) (k : List Int) (a : Addr) (v : Value) : (storedH xs k a v).length ≤ xs.length + 1 := by
  cases q : atKey xs k with
  | none => rw [storedH_new q]; simp
  | some p => rw [storedH_old q]; simp
structure MidSt where
  g : PH
  o1 : Option V
  o2 : Option V
  o3 : Option V
  T : Tb
  p2 : Array Value
  xs : List (List Int × Addr × Value)
  kp : List (List Int × List Int)
  b : Int × Int
theorem MidSt.el {C : MidSt → Prop} (h : ∀ g o1 o2 o3 T p2 xs kp b, C ⟨g, o1, o2, o3, T, p2, xs, kp, b⟩) (y : MidSt) : C y := h y.g y.o1 y.o2 y.o3 y.T y.p2 y.xs y.kp y.b
theorem zlh {w : World} {G0 : Heap} {K : Kon} {g : PH} {s : Shared} {A : Around} {env : Env} {Q : Flow → Shared → Prop} {E : Value → Shared → Prop} {outer : List Env} {ρ : Led} {bx kd fa wl w0 w1 L c1 c2 c3 c4 c5 c6 : Addr} {b : Int × Int} {p1 p2 p3 : Array Value} {isf fb : Bool}
    {T : Tb} {fs : List Form} {vs : List V} {ws0 ws1 : List Int}
    (GL : Gl w G0) (K₁ : Stk A outer K.Φ) (X : EnvOk env L (some L) rKinds [("box", c1), ("table", c2), ("kept", c3), ("forms", c4), ("words", c5), ("sides", c6)]) (hroom : Room A 20) (hun : A.units + 100 < cLine) (hE : PassesOwn (model pg w) (A.deeper env) env E)
    (hb : BoxOk b) (F : RF g T fs vs [] [] fa wl w0 w1 ws0 ws1 p3) (T2 : TabOk qP g p2) (hok : ∀ f ∈ fs, FormOk f) (hf1 : 1 ≤ fs.length) (hf7 : fs.length ≤ 7) (hkd : (kd == sysModules) = false)
    (hws0 : LongOk ws0) (hws1 : WordOk ws1)
    (S : SS w G0 K g s ((L, .ns (rLoc (some (.bool isf)) (some (.bool fb)) (some (.bool true)) none none none none none none none none)) :: (bx, bxC b) :: T.led w (rB w ρ p1 p2 p3 kd [] bx T.tb fa wl c1 c2 c3 c4 c5 c6 none)))
    (k : ∀ g' p2' p3' b' s', g.le g' → TabOk qP g' p2' → TabOk qR g' p3' → SS w G0 K g' s' ((bx, bxC b') :: (231, TabC p1) :: (241, TabC p2') :: (256, TabC p3') :: ρ) → Q (.ret (.bool true)) s') :
    wpAny (model pg w) (A.deeper env) (execs ((roundSs w).drop 5) env) Q E s := by
  have G := GL.toGd
  have hws0l := hws0.2.1
  have hws1l := hws1.2.1
  refine zdn ?_ (by intro _; with_unfolding_all rfl)
  refine Call_ ?_ (by rfl); refine zax X S (ixmt ixm9) (zb2 G) ?_; refine PyProof.Rows.callWith_type1 ?_ (by rfl) (by rfl); refine args_cons ?_ (by rfl); refine zai X G.XX S (ixmt ixm6) (za6 G) (Callee.fn (by kernel_rfl)) (zaa rfl (zad X S (Or.inl ixm0) ixm0 zcp) (zaa rfl zac zab)) ?_
  refine wpAny_call (zb9 G S.enter0 (hroom.deeper.mono (by decide)) hb (by decide) (by decide) fun n b1 t s' hn0 hn1 hb1 S' => ?_)
  replace S := S'.ret0 S
  clear S'
  refine zaf zab ?_; refine zbr S ?_; walk_at "newo"
  clear hN
  generalize aN = ra at S ⊢
  refine zce S ixm1 (by decide) (by rw [show (2 : Nat) ^ 60 = 1152921504606846976 by decide]; omega) fun it s hnew S => ?_
  rw [Int.sub_zero] at S
  refine zbd (fun i (y : MidSt) => g.le y.g ∧ y.T.tb = T.tb ∧ TabOk qP y.g y.p2 ∧ RF y.g y.T fs vs y.xs y.kp fa wl w0 w1 ws0 ws1 p3 ∧ WordsOk y.kp ∧ y.kp.length ≤ i ∧ y.xs.length ≤ i ∧ BoxOk y.b) MidSt.g
      (fun _ y => rLoc (some (V.bool isf)) (some (.bool fb)) (some (.bool true)) y.o1 y.o2 y.o3 none none none none none)
      (fun _ y => (ra, .opq (RangeObj 0 n)) :: (bx, bxC y.b) :: y.T.led w (rB w ρ p1 y.p2 p3 kd y.xs bx y.T.tb fa wl c1 c2 c3 c4 c5 c6 none)) ⟨g, none, none, none, T, p2, [], [], b1⟩
    hE hroom.handled hnew (S.selN [] (by rfl)) ⟨PH.le.refl g, rfl, T2, F, by intro x hx; simp at hx, Nat.le_refl _, Nat.le_refl _, hb1⟩ ?_ ?_ ?_
  · intros; exact trivial
  · intro Q' hL hB hR i; refine MidSt.el ?_; intro g1 o1 o2 o3 T' p2' xs kp b' v s hP hvi S
    apply zby hvi; intro hilt tv
    dsimp only at hP S
    refine and8 hP fun hle1 hTb T2' F hW hkl hxl hb' => ?_
    clear hvi
    refine za3 X S ixm8 ixu8 ?_; walk_at "new"; refine zav ?_ (by rfl); refine Subscript_ ?_; refine List_ ?_; refine args_cons ?_ (by rfl); refine Subscript_ ?_; refine zbb (zad X S (Or.inl ixm7) ixm4 (ixmt ixm5)) zac ?_
    refine zbc ((S.fact F.gwl).seq SeqC.ofL) (by show 2 ≤ sizeLine; decide) (by decide) (b := w0) rfl zbi ?_
    refine wpAny_Slice ?_; refine wpAny_evalPart_none ?_; refine wpAny_evalPart_some ?_; refine r_ev zac ?_; refine wpAny_evalPart_none ?_
    refine zcx S ((S.fact F.gw0).isL) (zdl (m := 66) hws0l (by decide)) Part.none (Part.int _ _ (by omega)) fun sw s hsw S => ?_
    rw [show ((63 : Int).toNat) = 63 from rfl, take63] at S
    refine args_cons ?_ (by rfl); refine zbb (zad X S (Or.inl ixm7) ixm4 (ixmt ixm6)) zac ?_
    refine zbc ((S.fact F.gwl).seq SeqC.ofL) (by show 2 ≤ sizeLine; decide) (by decide) (b := w1) rfl zbi ?_
    refine args_cons ?_ (by rfl); refine zai X G.XX S (ixmt ixm8) (zev G) (Callee.fn (by kernel_rfl)) (zaa rfl (zad X S (Or.inl ixm0) ixm0 (ixmt ixm2)) (zaa rfl (zad X S (Or.inl ixm5) ixm3 (ixmt ixm5)) zab)) ?_
    have S := S.selN (ℓ' := (L, _) :: (bx, bxC b') :: (sw, _) :: (it, _) :: (ra, _) :: T'.led w (rB w ρ p1 p2' p3 kd xs bx T'.tb fa wl c1 c2 c3 c4 c5 c6 none)) [1, 4] (by rfl)
    refine wpAny_call (zjt G S.enter0 (hroom.deeper.mono (by decide)) hb' (.inr F.gfa) SeqC.ofL F.hfs hok hf1 (Nat.lt_of_le_of_lt hf7 (by decide)) fun w3 ws3 b2 s' hws3 hb2 hw3 S' => ?_)
    have hw3 := S.unborn hw3
    replace S := S'.ret0 S
    clear S'
    refine zaf zab ?_; refine zbg S sz3 ?_; walk_at "newo"; refine zai X G.XX S (ixmt ixm6) (za6 G) (Callee.fn (by kernel_rfl)) (zaa rfl (zad X S (Or.inl ixm0) ixm0 (ixmt ixm4)) (zaa rfl zac zab)) ?_
    have S := S.selN (ℓ' := (L, _) :: (bx, bxC b2) :: (sw, _) :: (w3, _) :: (aN, _) :: (it, _) :: (ra, _) :: T'.led w (rB w ρ p1 p2' p3 kd xs bx T'.tb fa wl c1 c2 c3 c4 c5 c6 none)) [1, 3, 3, 2] (by rfl)
    refine wpAny_call (zb9 G S.enter0 (hroom.deeper.mono (by decide)) hb2 (by decide) (by decide) fun d b3 t s' hd0 hd1 hb3 S' => ?_)
    replace S := S'.ret0 S
    clear S'
    skip
    obtain ⟨g2, S, hle2, gsw, gw3⟩ := (S.selN (ℓ' := (sw, .list ((ws0.take 63).map V.int)) :: (w3, .list (ws3.map V.int)) :: (L, _) :: (aN, _) :: (bx, _) :: (it, _) :: (ra, _) :: T'.led w (rB w ρ p1 p2' p3 kd xs bx T'.tb fa wl c1 c2 c3 c4 c5 c6 none)) [3, 3, 1, 2] (by rfl)).freeze2 hsw hw3
    replace F := F.mono hle2
    replace T2' := T2'.mono hle2
    replace hle1 := hle1.trans hle2
    obtain ⟨wk, wsk, hwk, gwk, hwL⟩ : ∃ (wk : Addr) (wsk : List Int), ([V.ref sw, V.ref w1, V.ref w3] : List V)[d.toNat]? = some (.ref wk) ∧ g2 wk = some (.list (wsk.map V.int)) ∧ WordL wsk := by
      obtain rfl | rfl | rfl : d = 0 ∨ d = 1 ∨ d = 2 := by omega
      · exact ⟨sw, _, rfl, gsw, hws0.take⟩
      · exact ⟨w1, _, rfl, F.gw1, hws1.l⟩
      · exact ⟨w3, _, rfl, gw3, hws3.l⟩
    have hwl := hwL.2.1
    refine zbc ((S.at (a := aN) ixm1).seq SeqC.ofL) (by show 3 ≤ sizeLine; decide) hd0 (b := wk) hwk zh4 ?_
    refine za5 X S ixm9 ixu9 ?_; walk_at "new"
    have S := S.selN (ℓ' := (L, _) :: (bx, bxC b3) :: (it, _) :: (ra, _) :: T'.led w (rB w ρ p1 p2' p3 kd xs bx T'.tb fa wl c1 c2 c3 c4 c5 c6 none)) [1, 2, 2, 2, 2, 2, 2, 2, 2, 2, 2, 2, 2, 2, 2, 2, 2, 2, 2, 0] (by rfl)
    have hX0 := X
    refine zcb (G0 := G0) (K := K) (kinds' := [((".0" : Str), .local), ("k", .local), ("_law_take", .globalImplicit), ("box", .cell)]) (cl' := [("box", c1)]) hroom.handled X ⟨rfl, by decide +kernel, by rfl, by exact ixm1, by rfl, by rfl, by rfl⟩ (zd8 X zcf rfl (by decide +kernel)) zcf (fun CC hCC => ?_) (by intro _; with_unfolding_all rfl)
    refine Call_ ?_ (by rfl); refine zax X S (ixmt ixm9) (zb2 G) ?_; refine PyProof.Rows.callWith_type1 ?_ (by rfl) (by rfl); refine args_cons ?_ (by rfl); refine wpAny_BinOp ?_; refine zai X G.XX S (ixmt zcf) (zcc G) (Callee.bi _) (zaa rfl (zae X S ixm9 ixm9) zab) ?_
    refine zi4 S ((S.fact gwk).seq SeqC.ofL) (zdl (m := 63) hwl (by decide)) ?_; walk_at "newt"
    rw [List.length_map]
    refine r_ev zac ?_; refine zeq ?_; refine zaf zab ?_; refine zbr S ?_; walk_at "newo"
    clear hN
    generalize aN = rk at S ⊢
    refine zck (n := wsk.length + 1) S ixm1 (by rfl) (by omega) fun it2 s hnew2 S => ?_
    refine hCC (List Int × Int × Int) _ it2 (fun j y => StandsR j y.1 ∧ BoxOk y.2) (fun _ => g2) _ (fun _ y => y.1.map V.int) (fun _ y => (rk, .opq (RangeObj 0 ((wsk.length : Int) + 1))) :: (bx, bxC y.2) :: (it, .opq ((Src.rng 0 n.toNat).iter (i + 1))) :: (ra, .opq (RangeObj 0 n)) :: T'.led w (rB w ρ p1 p2' p3 kd xs bx T'.tb fa wl c1 c2 c3 c4 c5 c6 none)) ([], b3) _ ?_ hnew2 (S.selN [] (by rfl)) rfl ⟨StandsR.nil, hb3⟩ ?_ ?_ ?_
    · rw [zbf, sizeLine_eq]; omega
    · intros; exact trivial
    · intro QY QN hY hNo j; refine pr2 ?_; intro st b4 v s C D cenv hP hvi X S
      dsimp only at hP S
      have hst := hP.1
      have hb4 := hP.2
      clear hP
      revert S; apply zby hvi; intro hilt tv S
      clear hvi
      dsimp only [mkLoc, zah, zap, zar, zal, zaj, zak, za0] at S
      refine zde ?_
      refine wpAny_isTrue_Compare1 ?_; refine zai X G.XX S ixm2 (za6 G) (Callee.fn (by kernel_rfl)) (zaa rfl (zad X S (Or.inl ixm3) ixm0 (ixmt ixm5)) (zaa rfl zac zab)) ?_
      have S := S.selN (ℓ' := (C, _) :: (bx, _) :: (L, _) :: (it2, _) :: (D, _) :: (rk, _) :: (it, _) :: (ra, _) :: T'.led w (rB w ρ p1 p2' p3 kd xs bx T'.tb fa wl c1 c2 c3 c4 c5 c6 none)) [1, 5] (by rfl)
      refine wpAny_call (zb9 G S.enter0 (hroom.deeper.mono (by decide)) hb4 (by decide) (by decide) fun d b5 t s' hd0 hd1 hb5 S' => ?_)
      replace S := S'.ret0 S
      clear S'
      refine r_ev zac ?_; refine PyProof.Rows.eq_int ?_; refine wpAny_truthy_bool ?_
      have hsn := hst.snoc (d == 0)
      refine zdg (fun h => ?_) (fun h => ?_)
      · rw [if_pos h] at hsn
        refine r_ev (zag X S ixm1 ixm0) ?_
        exact hY j (st, b4) (st ++ [(j : Int)], b5) C D (.int j) _ _ ⟨hsn, hb5⟩ map_of_snoc.symm (S.selN [1, 2, 2, 2, 2] (by rfl))
      · rw [if_neg (by simp [h])] at hsn
        exact hNo j (st, b4) (st, b5) C D (.int j) _ ⟨hsn, hb5⟩ rfl (S.selN [1, 2, 2, 2, 2] (by rfl))
    refine pr2 ?_; intro st b4 D hP hD
    dsimp only at hP
    have hst := hP.1
    have hb4 := hP.2
    clear hP
    rw [zbf] at hst
    refine ⟨_, by exact ixu10, fun s S => ?_⟩
    dsimp only at S
    obtain ⟨g3, S, hle3, gD⟩ := (S.selN (ℓ' := (D, .list (st.map V.int)) :: (L, _) :: (bx, _) :: (241, _) :: T'.led w ((it, _) :: (ra, _) :: (231, _) :: (256, _) :: (kd, _) :: (c1, _) :: (c2, _) :: (c3, _) :: (c4, _) :: (c5, _) :: (c6, _) :: ρ)) [2, 1, 2, 10, 4, 4, 4, 4, 4, 2, 2, 2, 2, 2, 2, 2, 2, 2, 2, 2, 0] (by rfl)).freeze1 hD
    replace F := F.mono hle3
    replace T2' := T2'.mono hle3
    replace hle1 := hle1.trans hle3
    replace gwk := hle3 _ _ gwk
    refine x_if ?_; refine wpAny_isTrue_Compare1 ?_; refine zai X G.XX S (ixmt zcp) (zla G) (Callee.fn (by kernel_rfl)) (zaa rfl (zad X S (Or.inl ixm0) ixm0 (ixmt ixm1)) (zaa rfl (zad X S (Or.inl ixm2) ixm1 (ixmt ixm2)) (zaa rfl (zae X S ixm9 ixm9) (zaa rfl (zae X S zcf zcf) zab)))) ?_
    refine wpAny_call (put_ok GL (K₁.deeper X) S.enter0 (hroom.deeper.mono (by decide)) hb4 T2' F.P hwL hst.ok (by omega) gwk gD fun T4 b5 p4 g4 t s' hT4 hle4 T24 P4 hb5 S' => ?_)
    replace S := S'.ret0 S
    clear S'
    replace F := F.mono hle4
    replace hle1 := hle1.trans hle4
    replace gwk := hle4 _ _ gwk
    replace gD := hle4 _ _ gD
    rw [← hT4] at S
    refine r_ev zac ?_; refine PyProof.Rows.ne_int ?_; refine wpAny_truthy_bool ?_
    refine ⟨fun h => absurd h (by decide), fun _ => ?_⟩
    refine zas ?_; refine zbh ?_ (by rfl); refine r_ev (zae X S zcf zcf) ?_; refine r_ev (zad X S (Or.inl ixm3) ixm2 (ixmt ixm3)) ?_; refine zai X G.XX S (ixmt (ixmt ixm0)) (zb0 G) (Callee.ty _) (zaa rfl (zae X S ixm9 ixm9) zab) ?_
    refine zdc S ((S.fact gwk).isL) (zdl (m := 63) hwl (by decide)) fun tu s htu S => ?_
    skip
    refine zol (v := .ref D) (k := wsk) S (ixvt ixv1) F.hkp.keys (zd3 4 hun (by decide)) ((S.at ixm1).isT) (by (rw [sizeLine_eq]; omega)) ?_; walk_at "new"
    refine zas ?_
    obtain ⟨g5, S, hle5, gtu⟩ := (S.selN (ℓ' := (tu, .tup (wsk.map V.int)) :: (L, _) :: (it, _) :: (ra, _) :: (bx, _) :: T4.led w (rB w ρ p1 p4 p3 kd (storedH xs wsk tu (.ref D)) bx T4.tb fa wl c1 c2 c3 c4 c5 c6 none)) [2, 1, 8, 8, 1, 2, 2, 2, 2, 2, 2] (by rfl)).freeze1 htu
    have F := F.mono hle5
    refine hL i .next ⟨g5, some (.int i), some (.ref wk), some (.ref D), T4, p4, storedH xs wsk tu (.ref D), (wsk, st) :: kp, b5⟩ _ ⟨hle1.trans hle5, hT4.trans hTb, T24.mono hle5, ⟨P4.mono hle5, F.hfs, F.hkp.store gtu (hle5 _ _ gD), F.gfa, F.gwl, F.gw0, F.gw1, F.T3⟩, hW.cons hwL hst.ok, by rw [List.length_cons]; exact Nat.succ_le_succ hkl, by have := zjx xs wsk tu (.ref D); dsimp only; omega, hb5⟩ S rfl
  · refine MidSt.el ?_; intro g1 o1 o2 o3 T' p2' xs kp b' s hP S
    dsimp only at hP S
    refine and8 hP fun hle1 hTb T2' F hW hkl hxl hb' => ?_
    rw [zbf] at hkl
    refine zl8 (T := T') (fs := fs) (vs := vs) (xs := xs) (kp := kp) GL K₁ X hroom hun hb' F hok hf1 hf7 hW (by omega) hkd hws0 hws1 (S.selN [1, 2, 2, 2, 2, 2, 2, 2, 2, 2, 2, 2, 2, 2, 2, 2, 0] (by rfl)) fun g' p3' b'' s' loc pr c3' fo c4' sl hle hT3 S => ?_
    try with_reducible first | refine hQ _ _ ?_ | refine hEnd _ ?_
    exact k g' p2' p3' b'' s' (hle1.trans hle) (T2'.mono hle) hT3 (S.selN [9, 10, 10, 9, 0, 0, 0, 0, 0, 0, 0, 0, 0, 0, 0, 0, 0, 0, 0] (by rfl))
theorem WordOk.long {ws : List Int} (h : WordOk ws) : LongOk ws := ⟨h.1, by have := h.2.1; exact Nat.le_trans this (by decide), h.2.2⟩
theorem zmw {n : Nat} {ws : List Int} : (List.replicate n (ws.map V.int)).flatten = ((List.replicate n ws).flatten).map V.int := by
  rw [List.map_flatten, List.map_replicate]
theorem WordOk.far {ws : List Int} (h : WordOk ws) {k : Nat} (h1 : 1 ≤ k) (h2 : k ≤ 66) : LongOk (((List.replicate 66 ws).flatten).take k) := by
  refine ⟨fun e => ?_, by rw [List.length_take]; exact Nat.le_trans (Nat.min_le_left _ _) h2, fun n hn => ?_⟩
  · have := List.length_pos_iff.mpr h.1
    have e := congrArg List.length e
    rw [List.length_take, List.length_flatten, List.map_replicate, List.sum_replicate_nat] at e
    simp only [List.length_nil] at e
    omega
  · obtain ⟨l, hl, hn⟩ := List.mem_flatten.mp (List.mem_of_mem_take hn)
    rw [(List.mem_replicate.mp hl).2] at hn
    exact h.2.2 n hn
theorem takeK (ws : List Int) (k : Nat) : sliceV (ws.map V.int) none (some k) = (ws.take k).map V.int := by
  unfold sliceV
  simp [List.map_take]
theorem zm4 {w : World} {G0 : Heap} {Φ : List Addr} {g : PH} {s : Shared} {A : Around} {R : Result → Shared → Prop} {outer : List Env} {ρ : Led} {bx : Addr} {b : Int × Int} {p1 p2 p3 : Array Value} {isf : Bool}
    (GL : Gl w G0) (K₀ : Stk A outer Φ) (I : Inv w G0 Φ g s.heap ((bx, bxC b) :: (231, TabC p1) :: (241, TabC p2) :: (256, TabC p3) :: ρ)) (hroom : Room A 20) (hun : A.units + 100 < cLine) (hb : BoxOk b) (T1 : TabOk qF g p1) (T2 : TabOk qP g p2) (T3 : TabOk qR g p3)
    (k : ∀ g' p1' p2' p3' b' s', g.le g' → TabOk qF g' p1' → TabOk qP g' p2' → TabOk qR g' p3' → SS w G0 ⟨Φ, s, g, ((bx, bxC b) :: (231, TabC p1) :: (241, TabC p2) :: (256, TabC p3) :: ρ).map Prod.fst⟩ g' s' ((bx, bxC b') :: (231, TabC p1') :: (241, TabC p2') :: (256, TabC p3') :: ρ) → R (.ok (.ret (.bool true))) s') :
    codeAny (model pg w) A (.call (.ref 271) ⟨[.ref bx, .bool isf], []⟩) R s := by
  have G := GL.toGd
  refine zb3 (vals := [.ref bx, .bool isf]) I G.XX G.lim hroom.lt (by exact rfl) (by kernel_rfl) (BindsTo.of_eq rfl) (by decide +kernel) (by rfl) ?_
  intro env L s X hE S Q E hQ hEnd hEr hPO
  clear hE
  dsimp only [mkLocC, mkCells, mkCl, isCellK, zah, zap, zar, zal, zaj, zak, za0, cond_true, cond_false, List.cons_append, List.nil_append] at S X
  generalize hK : (⟨Φ, _, g, _⟩ : Kon) = K at S k
  generalize L + 1 = c1, L + 1 + 1 = c2, L + 1 + 1 + 1 = c3, L + 1 + 1 + 1 + 1 = c4, L + 1 + 1 + 1 + 1 + 1 = c5, L + 1 + 1 + 1 + 1 + 1 + 1 = c6 at S X
  have K₁ : Stk A outer K.Φ := by rw [← hK]; exact K₀
  refine zbq ?_ (by rfl) (zd5 X ixm2)
  refine Tuple_ ?_
  refine args_cons ?_ (by rfl)
  refine Call_ ?_ (by rfl)
  refine zax X S (ixmt ixm5) (zky G) ?_
  refine r_cwF0 S G.XX (by kernel_rfl) ?_
  refine wpAny_call (zja G S.enter0 (hroom.deeper.mono (by decide)) fun T s' P S' => ?_)
  replace S := S'.ret0 S
  clear S'
  refine args_cons ?_ (by rfl)
  refine znn S G fun kd s hkd hkds S => ?_
  refine zaf zab ?_; refine za2 S sz2 ?_; walk_at "newo"
  refine zbz hroom.deeper.handled S ((S.at ixm1).isT) fun u1 u2 s e1 e2 S => ?_
  obtain rfl := V.of_ref e1
  obtain rfl := V.of_ref e2
  clear e1 e2
  refine zbt X S ixm2 ixm1 (zah _) ixv9 ?_; walk_at "new"; refine zbt X S ixm3 ixm2 (zah _) znh ?_; walk_at "new"
  have S := S.selN (ℓ' := (L, _) :: (bx, bxC b) :: T.led w ((231, TabC p1) :: (241, TabC p2) :: (256, TabC p3) :: (kd, TC w []) :: (c1, .cell (some (.ref bx))) :: (c2, .cell (some (.ref T.tb))) :: (c3, .cell (some (.ref kd))) :: (c4, .cell none) :: (c5, .cell none) :: (c6, .cell none) :: ρ)) [1, 14, 3, 3, 3, 3, 3, 9, 9, 9, 2, 2, 2, 2, 2, 2, 2, 0] (by rfl)
  refine zav (zoj (fun v s => ∃ fb b', v = .bool fb ∧ BoxOk b' ∧ SS w G0 K g s ((L, .ns (rLoc (some (.bool isf)) none none none none none none none none none none)) :: (bx, bxC b') :: T.led w ((231, TabC p1) :: (241, TabC p2) :: (256, TabC p3) :: (kd, TC w []) :: (c1, .cell (some (.ref bx))) :: (c2, .cell (some (.ref T.tb))) :: (c3, .cell (some (.ref kd))) :: (c4, .cell none) :: (c5, .cell none) :: (c6, .cell none) :: ρ))) ?_ ?_) (by rfl)
  · cases isf with
    | false =>
      refine BoolOp_and ?_; refine r_ev (zbw X S ixm1 ixm1) ?_; refine wpAny_truthy_bool ?_; refine zc9 ?_
      exact ⟨false, b, rfl, hb, S⟩
    | true =>
      refine BoolOp_and ?_; refine r_ev (zbw X S ixm1 ixm1) ?_; refine wpAny_truthy_bool ?_; refine zb8 ?_; refine BoolOp_one ?_; refine wpAny_Compare1 ?_; refine zai X G.XX S (ixmt ixm6) (za6 G) (Callee.fn (by kernel_rfl)) (zaa rfl (zad X S (Or.inl ixm0) ixm0 zcp) (zaa rfl zac zab)) ?_
      refine wpAny_call (zb9 G S.enter0 (hroom.deeper.mono (by decide)) hb (by decide) (by decide) fun d b1 t s' hd0 hd1 hb1 S' => ?_)
      replace S := S'.ret0 S
      clear S'
      refine r_ev zac ?_; refine PyProof.Rows.eq_int ?_
      exact ⟨_, b1, rfl, hb1, S⟩
  clear S
  rintro v s ⟨fb, b1, rfl, hb1, S⟩
  refine zef X S ixm4 ixu4 ?_; walk_at "new"
  refine zbq ?_ (by rfl) (by rfl)
  (refine Call_ ?_ (by rfl); refine zax X S (ixmt ixm7) (zhx G) ?_; refine callWith_K G.XX (by kernel_rfl) ?_ (by rfl) (by rfl))
  refine args_cons ?_ (by rfl)
  refine r_ev (zad X S (Or.inl ixm0) ixm0 zcp) ?_
  refine args_cons ?_ (by rfl)
  refine r_ev (zad X S (Or.inl ixm2) ixm1 (ixmt ixm0)) ?_
  refine args_cons ?_ (by rfl)
  refine wpAny_BinOp ?_
  refine r_ev zac ?_
  (refine Call_ ?_ (by rfl); refine zax X S (ixmt ixm6) (za6 G) ?_; refine callWith_K G.XX (by kernel_rfl) ?_ (by rfl) (by rfl))
  refine args_cons ?_ (by rfl)
  refine r_ev (zad X S (Or.inl ixm0) ixm0 zcp) ?_
  refine args_cons ?_ (by rfl)
  refine zoj (fun v s => ∃ m t, v = .int m t ∧ 3 ≤ m ∧ m ≤ 6 ∧ SS w G0 K g s ((L, .ns (rLoc (some (.bool isf)) (some (.bool fb)) none none none none none none none none none)) :: (bx, bxC b1) :: T.led w ((231, TabC p1) :: (241, TabC p2) :: (256, TabC p3) :: (kd, TC w []) :: (c1, .cell (some (.ref bx))) :: (c2, .cell (some (.ref T.tb))) :: (c3, .cell (some (.ref kd))) :: (c4, .cell none) :: (c5, .cell none) :: (c6, .cell none) :: ρ))) ?_ ?_
  · cases fb with
    | false =>
      refine IfExp_ ?_; refine zbs (zba (zbw X S ixm4 ixm4) (by rfl)) ?_; refine zc9 ?_; refine r_ev zac ?_
      exact ⟨_, _, rfl, by decide, by decide, S⟩
    | true =>
      refine IfExp_ ?_; refine zbs (zba (zbw X S ixm4 ixm4) (by rfl)) ?_; refine zb8 ?_; refine r_ev zac ?_
      exact ⟨_, _, rfl, by decide, by decide, S⟩
  clear S
  rintro v s ⟨m, tm, rfl, hm3, hm6, S⟩
  refine zaf zab ?_; refine ⟨S.In G.XX, ?_⟩
  refine wpAny_call (zb9 G S.enter0 (hroom.deeper.mono (by decide)) hb1 (by omega) (Int.lt_of_le_of_lt hm6 (by decide)) fun d b2 t s' hd0 hd1 hb2 S' => ?_)
  replace S := S'.ret0 S
  clear S'
  refine zeq ?_; refine zaf zab ?_; refine ⟨S.In G.XX, ?_⟩
  have S := S.selN (ℓ' := (L, _) :: (bx, bxC b2) :: (231, TabC p1) :: T.led w ((241, TabC p2) :: (256, TabC p3) :: (kd, TC w []) :: (c1, .cell (some (.ref bx))) :: (c2, .cell (some (.ref T.tb))) :: (c3, .cell (some (.ref kd))) :: (c4, .cell none) :: (c5, .cell none) :: (c6, .cell none) :: ρ)) [1, 1, 6] (by rfl)
  refine wpAny_call (zl5 GL (K₁.deeper X) S.enter0 (hroom.deeper.mono (by decide)) (zd3 63 hun (by decide)) hb2 (by omega) (by omega) T1 P fun r fa T' fs b3 p1' vs g1 s' hTb hle1 T1' P' hfs hok hf1 hf7 hb3 hr hfa S' => ?_)
  have hr := S.unborn hr
  have hfa := S.unborn hfa
  replace S := S'.ret0 S
  clear S'
  show wpAny _ _ (assign _ env _) _ _ _
  refine zbz hroom.deeper.handled S ((S.at ixm1).isT) fun u1 u2 s e1 e2 S => ?_
  obtain rfl := V.of_ref e1
  obtain rfl := V.of_bool e2
  clear e1 e2
  refine zbt X S ixm5 ixm3 (zah _) (ixvt ixv4) ?_; walk_at "new"; refine zef X S ixm6 ixu6 ?_; walk_at "new"
  rw [← hTb] at S
  obtain ⟨g2, S, hle2, gfa⟩ := (S.selN (ℓ' := (fa, .list vs) :: (L, _) :: (bx, _) :: T'.led w ((231, _) :: (241, _) :: (256, _) :: (kd, _) :: (c1, _) :: (c2, _) :: (c3, _) :: (c4, _) :: (c5, _) :: (c6, _) :: ρ)) [3, 1, 2, 3, 3, 3, 3, 3, 2, 2, 2, 2, 2, 2, 2, 2, 2, 2, 0] (by rfl)).freeze1 hfa
  replace P' := P'.mono hle2
  replace hfs := hfs.mono hle2
  have hleA := hle1.trans hle2
  replace T1' := T1'.mono hle2
  refine zav ?_ (by rfl); refine List_ ?_; refine args_cons ?_ (by rfl); refine zai X G.XX S (ixmt ixm8) (zev G) (Callee.fn (by kernel_rfl)) (zaa rfl (zad X S (Or.inl ixm0) ixm0 zcp) (zaa rfl (zad X S (Or.inl ixm5) ixm3 (ixmt ixm2)) zab)) ?_
  refine wpAny_call (zjt G S.enter0 (hroom.deeper.mono (by decide)) hb3 (.inr gfa) SeqC.ofL hfs hok hf1 (Nat.lt_of_le_of_lt hf7 (by decide)) fun w0 ws0 b4 s' hws0 hb4 hw0 S' => ?_)
  have hw0 := S.unborn hw0
  replace S := S'.ret0 S
  clear S'
  refine args_cons ?_ (by rfl); refine zai X G.XX S (ixmt ixm8) (zev G) (Callee.fn (by kernel_rfl)) (zaa rfl (zad X S (Or.inl ixm0) ixm0 (ixmt ixm0)) (zaa rfl (zad X S (Or.inl ixm5) ixm3 (ixmt ixm3)) zab)) ?_
  have S := S.selN (ℓ' := (L, _) :: (bx, bxC b4) :: (w0, .list (ws0.map V.int)) :: T'.led w ((231, TabC p1') :: (241, TabC p2) :: (256, TabC p3) :: (kd, TC w []) :: (c1, .cell (some (.ref bx))) :: (c2, .cell (some (.ref T'.tb))) :: (c3, .cell (some (.ref kd))) :: (c4, .cell (some (.ref fa))) :: (c5, .cell none) :: (c6, .cell none) :: ρ)) [1, 2] (by rfl)
  refine wpAny_call (zjt G S.enter0 (hroom.deeper.mono (by decide)) hb4 (.inr gfa) SeqC.ofL hfs hok hf1 (Nat.lt_of_le_of_lt hf7 (by decide)) fun w1 ws1 b5 s' hws1 hb5 hw1 S' => ?_)
  have hw1 := S.unborn hw1
  replace S := S'.ret0 S
  clear S'
  refine zaf zab ?_; refine zbg S sz2 ?_; walk_at "newo"; refine zbt X S ixm7 ixm4 (zah _) (ixvt ixv6) ?_; walk_at "new"
  generalize aN = wl at S hN ⊢
  obtain ⟨g3, S, hle3, gw0, gw1⟩ := (S.selN (ℓ' := (w0, .list (ws0.map V.int)) :: (w1, .list (ws1.map V.int)) :: (L, _) :: (bx, _) :: (wl, _) :: T'.led w (rB w ρ p1' p2 p3 kd [] bx T'.tb fa wl c1 c2 c3 c4 c5 c6 none)) [5, 3, 1, 2] (by rfl)).freeze2 hw0 hw1
  refine zc4 (fun s => ∀ Z : Prop, (∀ g4 w0' ws0' b6, g3.le g4 → LongOk ws0' → g4 w0' = some (.list (ws0'.map V.int)) → BoxOk b6 → SS w G0 K g4 s ((L, .ns (rLoc (some (.bool isf)) (some (.bool fb)) (some (.bool true)) none none none none none none none none)) :: (bx, bxC b6) :: (wl, .list [.ref w0', .ref w1]) :: T'.led w (rB w ρ p1' p2 p3 kd [] bx T'.tb fa wl c1 c2 c3 c4 c5 c6 none)) → Z) → Z) (fun J hJ => ?_) ?_
  · cases fb with
    | false =>
      refine zbs (zba (zbw X S ixm4 ixm4) (by rfl)) ?_; refine br_f ?_; refine zas ?_
      exact hJ _ fun Z kZ => kZ g3 w0 ws0 b5 (PH.le.refl g3) hws0.long gw0 hb5 S
    | true =>
      have hl0 := hws0.2.1
      refine zbs (zba (zbw X S ixm4 ixm4) (by rfl)) ?_; refine br_t ?_; refine zbh ?_ (by rfl); refine Subscript_ ?_; refine wpAny_BinOp ?_; refine zbb (zad X S (Or.inl ixm7) ixm4 (ixmt ixm4)) zac ?_
      refine zbc ((S.at (a := wl) ixm2).seq SeqC.ofL) (by show 2 ≤ sizeLine; decide) (by decide) (b := w0) rfl zbi ?_
      refine r_ev zac ?_
      refine zgi S ((S.fact gw0).isL) (by decide) (by decide) (by rw [List.length_map, show ((66 : Int).toNat) = 66 from rfl]; omega) fun r1 s hr1 S => ?_
      rw [zmw, show ((66 : Int).toNat) = 66 from rfl] at S
      refine wpAny_Slice ?_; refine wpAny_evalPart_none ?_; refine wpAny_evalPart_some ?_; refine wpAny_BinOp ?_; refine r_ev zac ?_; refine zai X G.XX S (ixmt ixm6) (za6 G) (Callee.fn (by kernel_rfl)) (zaa rfl (zad X S (Or.inl ixm0) ixm0 (ixmt ixm1)) (zaa rfl zac zab)) ?_
      have S := S.selN (ℓ' := (L, _) :: (bx, bxC b5) :: (r1, _) :: (wl, _) :: T'.led w (rB w ρ p1' p2 p3 kd [] bx T'.tb fa wl c1 c2 c3 c4 c5 c6 none)) [1, 2] (by rfl)
      refine wpAny_call (zb9 G S.enter0 (hroom.deeper.mono (by decide)) hb5 (by decide) (by decide) fun d b6 t s' hd0 hd1 hb6 S' => ?_)
      replace S := S'.ret0 S
      clear S'
      refine zeq ?_; refine wpAny_evalPart_none ?_
      refine zcx S ((S.at (a := r1) ixm2).isL) (by rw [List.length_map, List.length_flatten, List.map_replicate, List.sum_replicate_nat, sizeLine_eq]; omega) Part.none (Part.int _ _ (by omega)) fun sl s hsl S => ?_
      rw [takeK] at S
      refine r_ev (zad X S (Or.inl ixm7) ixm4 (ixmt ixm6)) ?_; refine r_ev zac ?_
      (refine zi1 S ixv4 (by decide) (by decide) (of_decide_eq_true rfl) rfl rfl ?_; walk_at "new")
      refine zas ?_
      obtain ⟨g4, S, hle4, gsl⟩ := (S.selN (ℓ' := (sl, .list ((((List.replicate 66 ws0).flatten).take (62 + d).toNat).map V.int)) :: (L, _) :: (bx, _) :: (wl, _) :: T'.led w (rB w ρ p1' p2 p3 kd [] bx T'.tb fa wl c1 c2 c3 c4 c5 c6 none)) [2, 1, 1, 2, 2, 2, 2, 2, 2, 2, 2, 2, 2, 2, 2, 2, 2, 2, 2, 0] (by rfl)).freeze1 hsl
      exact hJ _ fun Z kZ => kZ g4 sl _ b6 hle4 (hws0.far (by omega) (by omega)) gsl hb6 S
  clear S
  intro s hs
  refine hs _ fun g4 w0' ws0' b6 hle4 hws0' gw0' hb6 S => ?_
  replace gw1 := hle4 _ _ gw1
  obtain ⟨g5, S, hle5, gwl⟩ := (S.selN (ℓ' := (wl, .list [.ref w0', .ref w1]) :: (L, _) :: (bx, _) :: T'.led w (rB w ρ p1' p2 p3 kd [] bx T'.tb fa wl c1 c2 c3 c4 c5 c6 none)) [3] (by rfl)).freeze1 hN
  have hleB := (hle3.trans hle4).trans hle5
  have hleC := hleA.trans hleB
  refine zlh (T := T') (fs := fs) (vs := vs) GL K₁ X hroom hun hPO hb6 ⟨P'.mono hleB, hfs.mono hleB, KeptAre.nil _, hleB _ _ gfa, gwl, hle5 _ _ gw0', hle5 _ _ gw1, T3.mono hleC⟩ (T2.mono hleC) hok hf1 hf7 hkds hws0' hws1 S fun g' p2' p3' b' s' hle T2' T3' S => ?_
  try with_reducible first | refine hQ _ _ ?_ | refine hEnd _ ?_
  exact k g' p1' p2' p3' b' s' (hleC.trans hle) ((T1'.mono hleB).mono hle) T2' T3' S
theorem zhp {ws : Array Value} : ws.toList.toArray = ws := by simp
theorem r_neI {w : World} {A : Around} {E : Value → Shared → Prop} {s : Shared} {Q : Value → Shared → Prop} {a b : Addr} {ns ms : List Int} (hl : IsL w s.heap a (ns.map V.int)) (hb : IsL w s.heap b (ms.map V.int)) (hu : A.units + 64 < cLine) (k : Q (.bool (!decide (ns = ms))) s) : wpAny (model pg w) A (compareOp .NotEq (.ref a) (.ref b)) Q E s := by
  obtain ⟨ws, hl, hm⟩ := hl
  obtain ⟨us, hb, hm'⟩ := hb
  exact ke_ne_ints (xs := ws.toList) (ys := us.toList) (by rw [zhp]; exact hl) (by rw [zhp]; exact hb) (zdp hm) (zdp hm') hu k
theorem r_sumL {w : World} {G0 : Heap} {K : Kon} {g : PH} {s : Shared} {ℓ : Led} {A : Around} {E : Value → Shared → Prop} {Q : Value → Shared → Prop} {a : Addr} {ns : List Int} (hh : A.handled = none) (S : SS w G0 K g s ℓ) (hl : IsL w s.heap a (ns.map V.int)) (k : ∀ m t s', SS w G0 K g s' ℓ → Q (.int m t) s') : wpAny (model pg w) A (call (.builtin "sum") [.ref a]) Q E s := by
  obtain ⟨ws, hl, hm⟩ := hl
  obtain ⟨xs, e⟩ := (zdp hm).allInts.items
  have e : ws = intItems xs := by rw [← e]
  rw [e] at hl
  exact sum_intListG hh hl fun h' tk t' hk => k _ _ _ (S.grow (t := tk) hk)
noncomputable abbrev lKinds : List (Str × NameKind) := [("script", .local), ("cells", .local), ("k", .local), ("range", .globalImplicit), ("len", .globalImplicit), ("_law_round", .globalImplicit), ("_law_box", .globalImplicit), ("sum", .globalImplicit)]
noncomputable abbrev lLoc (script cells k : Option V) : Loc := [("script", script), ("cells", cells), ("k", k), ("range", none), ("len", none), ("_law_round", none), ("_law_box", none), ("sum", none)]
noncomputable def lawSs (w : World) : List Stmt := match (KK w).lookup 278 with
  | some o => (match o.data with
    | .func fd => (match fd.body with
      | .stmts ss => ss
      | _ => [])
    | _ => [])
  | none => []
theorem drop2 (ws : List Int) : sliceV (ws.map V.int) (some 2) none = (ws.drop 2).map V.int := by
  unfold sliceV
  rw [Option.getD_some, Option.getD_none, List.take_length, List.map_drop]
theorem law_ok {w : World} {G0 : Heap} {K : Kon} {g : PH} {s : Shared} {A : Around} {env : Env} {Q : Flow → Shared → Prop} {E : Value → Shared → Prop} {outer : List Env} {L sa : Addr} {xs : List Int}
    (GL : Gl w G0) (K₁ : Stk A outer K.Φ) (X : EnvOk env L (some L) lKinds []) (hroom : Room A 25) (hun : A.units + 110 < cLine) (hE : PassesOwn (model pg w) (A.deeper env) env E)
    (hsa : g sa = some (.rlist (xs.map V.int))) (hx : xs.length ≤ 63)
    (S : SS w G0 K g s ((L, .ns (lLoc (some (.ref sa)) none none)) :: (231, TabC #[]) :: (241, TabC #[]) :: (256, TabC #[]) :: []))
    (k : ∀ g' loc p1 p2 p3 s', SS w G0 K g' s' ((L, .ns loc) :: (231, TabC p1) :: (241, TabC p2) :: (256, TabC p3) :: []) → Q (.ret (.bool true)) s') :
    wpAny (model pg w) (A.deeper env) (execs (lawSs w) env) Q E s := by
  have G := GL.toGd
  refine zav (zoj (fun v s => ∃ (cl : Addr) (cs : List Int), v = .ref cl ∧ cs.length ≤ 2 ∧ K.s₀.heap.get? cl = none ∧ SS w G0 K g s ((L, .ns (lLoc (some (.ref sa)) none none)) :: (cl, .list (cs.map V.int)) :: (231, TabC #[]) :: (241, TabC #[]) :: (256, TabC #[]) :: [])) ?_ ?_) (by rfl)
  · refine IfExp_ ?_; refine wpAny_isTrue_Compare1 ?_; refine r_ev (zae X S ixm0 ixm0) ?_; refine List_ ?_; refine zaf zab ?_; refine zbg S sz0 ?_; walk_at "newo"
    refine r_neI (ns := xs) (ms := []) ((S.fact hsa).isLr) (show IsL w _ aN (([] : List Int).map V.int) from (S.at (a := aN) (c := .list []) ixm1).isL) (zd3 67 hun (by decide)) ?_
    refine wpAny_truthy_bool ?_
    have S := S.selN (ℓ' := (L, _) :: (231, TabC #[]) :: (241, TabC #[]) :: (256, TabC #[]) :: []) [1, 2, 2, 2, 0] (by rfl)
    refine zdg (fun _ => ?_) (fun _ => ?_)
    · refine Subscript_ ?_; refine r_ev (zae X S ixm0 ixm0) ?_; refine wpAny_Slice ?_; refine wpAny_evalPart_none ?_; refine wpAny_evalPart_some ?_; refine r_ev zac ?_; refine wpAny_evalPart_none ?_
      refine zcx S ((S.fact hsa).isLr) (zdl (m := 63) hx (by decide)) Part.none (Part.int _ _ (by omega)) fun cl s hcl S => ?_
      rw [show ((2 : Int).toNat) = 2 from rfl, takeK] at S
      exact ⟨cl, _, rfl, by rw [List.length_take]; exact Nat.le_trans (Nat.min_le_left _ _) (by decide), hcl, S⟩
    · clear hN
      refine List_ ?_; refine args_cons ?_ (by rfl); refine wpAny_BinOp ?_; refine zki zac zac ?_; refine znu (by decide) (by decide +kernel) ?_; refine r_ev zac ?_; refine zeq ?_; refine zaf zab ?_; refine zbg S sz1 ?_; walk_at "newo"
      exact ⟨aN, [_], rfl, by decide, hN, S⟩
  clear S
  rintro v s ⟨cl, cs, rfl, hcs, hcl, S⟩
  refine za5 X S ixm1 ixu1 ?_; walk_at "new"
  obtain ⟨g1, S, hle1, gcl⟩ := (S.selN (ℓ' := (cl, .list (cs.map V.int)) :: (L, _) :: (231, TabC #[]) :: (241, TabC #[]) :: (256, TabC #[]) :: []) [2] (by rfl)).freeze1 hcl
  refine zdn ?_ (by intro _; with_unfolding_all rfl)
  refine Call_ ?_ (by rfl); refine zax X S ixm3 (zb2 G) ?_; refine PyProof.Rows.callWith_type1 ?_ (by rfl) (by rfl); refine args_cons ?_ (by rfl); refine zai X G.XX S ixm4 (zcc G) (Callee.bi _) (zaa rfl (zae X S ixm1 ixm1) zab) ?_
  refine zi4 S ((S.fact gcl).seq SeqC.ofL) (by (rw [List.length_map, sizeLine_eq]; exact Nat.le_trans hcs (by decide))) ?_; walk_at "newt"
  rw [List.length_map]
  refine zaf zab ?_; refine zbr S ?_; walk_at "newo"
  generalize aN = ra at S hN ⊢
  refine zck (n := cs.length) S ixm1 (by rfl) (Nat.le_trans hcs (by decide)) fun it s hnew S => ?_
  refine zbd (σ := PH × Option V × Array Value × Array Value × Array Value) (fun i y => g1.le y.1 ∧ TabOk qF y.1 y.2.2.1 ∧ TabOk qP y.1 y.2.2.2.1 ∧ TabOk qR y.1 y.2.2.2.2) (fun y => y.1)
      (fun _ y => lLoc (some (V.ref sa)) (some (.ref cl)) y.2.1) (fun _ y => (ra, .opq (RangeObj 0 (cs.length : Int))) :: (231, TabC y.2.2.1) :: (241, TabC y.2.2.2.1) :: (256, TabC y.2.2.2.2) :: []) (g1, none, #[], #[], #[])
    hE hroom.handled hnew (S.selN [] (by rfl)) ⟨PH.le.refl g1, TabOk.nil _ _, TabOk.nil _ _, TabOk.nil _ _⟩ ?_ ?_ ?_
  · intros; exact trivial
  · intro Q' hL hB hR i; refine pr5 ?_; intro g2 o p1 p2 p3 v s hP hvi S
    apply zby hvi; intro hilt tv
    dsimp only at hP S
    refine and4 hP fun hle2 T1 T2 T3 => ?_
    clear hvi
    have hsa2 := hle2 _ _ (hle1 _ _ hsa)
    have gcl2 := hle2 _ _ gcl
    refine za3 X S ixm2 ixu2 ?_; walk_at "new"; refine x_if ?_; refine isTrue_not ?_; refine PyProof.Rows.isTrue_plain ?_ (by rfl); refine Call_ ?_ (by rfl); refine zax X S ixm5 (zi0 G) ?_; refine callWith_K G.XX (by kernel_rfl) ?_ (by rfl) (by rfl); refine args_cons ?_ (by rfl); refine Call_ ?_ (by rfl); refine zax X S ixm6 (zk0 G) ?_; refine callWith_K G.XX (by kernel_rfl) ?_ (by rfl) (by rfl); refine args_cons ?_ (by rfl); refine zbb (zae X S ixm1 ixm1) (zag X S ixm2 ixm2) ?_
    obtain ⟨n, hn⟩ : ∃ n, cs[((i : Nat) : Int).toNat]? = some n := ⟨_, List.getElem?_eq_getElem (by omega)⟩
    refine zb6 ((S.fact gcl2).seq SeqC.ofL) (by (rw [sizeLine_eq]; exact Nat.le_trans hcs (by decide))) (Int.natCast_nonneg _) hn zbm fun t => ?_
    refine args_cons ?_ (by rfl); refine Call_ ?_ (by rfl); refine zax X S ixm7 (g_sum G) ?_; refine PyProof.Rows.callWith_builtin1 ?_ (by rfl) (by rfl); refine args_cons ?_ (by rfl); refine Subscript_ ?_; refine r_ev (zae X S ixm0 ixm0) ?_; refine wpAny_Slice ?_; refine wpAny_evalPart_some ?_; refine r_ev zac ?_; refine wpAny_evalPart_none ?_; refine wpAny_evalPart_none ?_
    refine zcx S ((S.fact hsa2).isLr) (zdl (m := 63) hx (by decide)) (Part.int _ _ (by omega)) Part.none fun sl s hsl S => ?_
    rw [show ((2 : Int).toNat) = 2 from rfl, drop2] at S
    refine zaf zab ?_
    refine r_sumL (ns := xs.drop 2) hroom.deeper.handled S ((S.at (a := sl) ixm1).isL) fun m t s S => ?_
    refine zaf zab ?_; refine ⟨S.In G.XX, ?_⟩
    refine wpAny_call (box_ok G S.enter0 (hroom.deeper.mono (by decide)) fun bx b s' hbx hb S' => ?_)
    replace S := S'.ret0 S
    clear S'
    refine zaf (zaa rfl (zlf (zag X S ixm2 ixm2) zac zhc (by rfl)) zab) ?_; refine ⟨S.In G.XX, ?_⟩
    have S := S.selN (ℓ' := (L, _) :: (bx, bxC b) :: (231, TabC p1) :: (241, TabC p2) :: (256, TabC p3) :: (it, _) :: (ra, _) :: []) [1, 1, 4, 4, 4, 2, 2, 0] (by rfl)
    refine wpAny_call (zm4 GL (K₁.deeper X) S.enter0 (hroom.deeper.mono (by decide)) (zd3 103 hun (by decide)) hb T1 T2 T3 fun g3 p1' p2' p3' b' s' hle3 T1' T2' T3' S' => ?_)
    replace S := S'.ret0 S
    clear S'
    refine wpAny_truthy_bool ?_; refine zn6 ?_; refine zas ?_; refine zas ?_
    exact hL i .next (g3, some (.int i), p1', p2', p3') _ ⟨hle2.trans hle3, T1', T2', T3'⟩ (S.selN [1, 5, 5, 2, 2, 2, 0] (by rfl)) rfl
  · refine pr5 ?_; intro g2 o p1 p2 p3 s hP S
    dsimp only at hP S
    refine zdy zbu ?_
    try with_reducible first | refine hQ _ _ ?_ | refine hEnd _ ?_
    exact k g2 _ p1 p2 p3 _ (S.selN [1, 2, 2, 2, 0] (by rfl))
noncomputable abbrev lScope : Scope := { kind := .function, names := lKinds, isGenerator := false, isCoroutine := false }
theorem top_gl {w : World} {B : Heap} {p : Program} {loose : List Str} {mean : ExcName → Option Value} {mg mb : Str → Option Value} (XX : (KK w).In B) (T : Top p loose mean mg mb B) : Gl w B := by
  refine { XX := XX, lim := T.nolimit, gl := ⟨mg, T.g⟩, bl := ⟨mb, T.b, T.builtins⟩, bmain := ?_ }
  obtain ⟨bm, ob, h1, h2, h3, h4, h5, h6⟩ := T.bmain
  refine ⟨mg, bm, ob, T.g, h1, h2, fun e => ?_, h3, h4, h5, h6⟩
  subst e
  obtain ⟨o, es, ep, e1, e2, _⟩ := T.g
  rw [h3] at e1
  cases e1
  rw [h6] at e2
  cases e2
theorem ints_v {vs : List Value} {xs : List Int} (hi : IntsAre vs xs) : vs.map V.of = xs.map V.int := by
  induction hi with
  | nil => rfl
  | cons n t _ ih => simp only [List.map_cons]; rw [← ih]; rfl
theorem join {w : World} {B h₁ : Heap} {p : Program} {loose : List Str} {mean : ExcName → Option Value} {mg mb m : Str → Option Value} {L sa fa : Addr} {cd : Value} {vs : List Value} {xs : List Int} {name : Str} {s : Shared} {Q : Flow → Shared → Prop} {E : Value → Shared → Prop}
    (XX : (KK w).In B) (T : Top p loose mean mg mb B) (F : Fr B L h₁ m) (hm : m "script" = some (.ref sa)) (hl : B.IsList sa vs.toArray) (hi : IntsAre vs xs) (hx : xs.length ≤ 63)
    (N : News B L h₁ [(256, tabObj #[]), (241, tabObj #[]), (231, tabObj #[])]) (hs : s.heap = h₁) (hE : PassesOwn (model pg w) (callerA.deeper (envOf name lScope L fa cd)) (envOf name lScope L fa cd) E)
    (k : ∀ s' m', Fr B L s'.heap m' → s'.os = s.os → s'.gens = s.gens → GrownAll [(258, 256), (243, 241), (233, 231)] s'.heap → Q (.ret (.bool true)) s') :
    wpAny (model pg w) (callerA.deeper (envOf name lScope L fa cd)) (execs (lawSs w) (envOf name lScope L fa cd)) Q E s := by
  subst hs
  have hBL : B.get? L = none := by
    cases q : B.get? L with
    | none => rfl
    | some o => exact absurd (Nat.lt_of_lt_of_le (Heap.lt_size q) F.above) (Nat.lt_irrefl _)
  have n1 := N _ (.head _)
  have n2 := N _ (.tail _ (.head _))
  have n3 := N _ (.tail _ (.tail _ (.head _)))
  have hsB : B.get? sa ≠ none := by
    obtain ⟨o, ho, _⟩ := hl
    rw [ho]; simp
  have hsa : ∀ a, B.get? a = none → (PH.set (fun _ => none) sa (.rlist (xs.map V.int))) a = none := fun a h => by
    unfold PH.set
    rw [if_neg (fun e => hsB (by rw [← e]; exact h))]
  have hnm : NamesOk lKinds := by decide +kernel
  have X : EnvOk (envOf name lScope L fa cd) L (some L) lKinds [] := ⟨rfl, rfl, rfl, rfl, fun x kk hm => za1 hnm.1 hm, fun x kk hm => hnm.2 _ (List.mem_map_of_mem (f := Prod.fst) hm), fun x c hm => (by cases hm), rfl⟩
  have I : Inv w B [] (PH.set (fun _ => none) sa (.rlist (xs.map V.int))) s.heap ((L, .ns (lLoc (some (.ref sa)) none none)) :: (231, TabC #[]) :: (241, TabC #[]) :: (256, TabC #[]) :: []) := by
    refine ⟨F.keep, fun a c h => ?_, fun q hq => ?_, ?_, fun q hq => ?_, fun q hq => ?_, fun a ha => by cases ha⟩
    · unfold PH.set at h
      split at h
      · rename_i e
        subst e
        cases h
        obtain ⟨o, ho, hc, n, hd⟩ := hl
        refine ⟨o, F.keep _ _ ho, hc, _, n, hd, ?_⟩
        exact ints_v hi
      · cases h
    · rcases List.mem_cons.mp hq with rfl | hq
      · refine At.of_ns F.ns (by simp only [List.map_cons, List.map_nil]; decide +kernel) fun x pv hm' => ?_
        simp only [lLoc, List.mem_cons, Prod.mk.injEq, reduceCtorEq, and_false, or_false, List.not_mem_nil] at hm'
        obtain ⟨rfl, h2⟩ := hm'
        cases h2
        exact ⟨_, hm, rfl⟩
      rcases List.mem_cons.mp hq with rfl | hq
      · exact ⟨_, n3.1, rfl⟩
      rcases List.mem_cons.mp hq with rfl | hq
      · exact ⟨_, n2.1, rfl⟩
      rcases List.mem_cons.mp hq with rfl | hq
      · exact ⟨_, n1.1, rfl⟩
      · cases hq
    · have d1 := n1.2.1
      have d2 := n2.2.1
      have d3 := n3.2.1
      simp only [List.map_cons, List.map_nil, List.nodup_cons, List.mem_cons, List.not_mem_nil, or_false, not_or]
      exact ⟨⟨Ne.symm d3, Ne.symm d2, Ne.symm d1⟩, ⟨by decide, by decide⟩, by decide, by simp⟩
    · refine hsa _ ?_
      rcases List.mem_cons.mp hq with rfl | hq
      · exact hBL
      rcases List.mem_cons.mp hq with rfl | hq
      · exact n3.2.2
      rcases List.mem_cons.mp hq with rfl | hq
      · exact n2.2.2
      rcases List.mem_cons.mp hq with rfl | hq
      · exact n1.2.2
      · cases hq
    · rcases List.mem_cons.mp hq with rfl | hq
      · exact hBL
      rcases List.mem_cons.mp hq with rfl | hq
      · exact n3.2.2
      rcases List.mem_cons.mp hq with rfl | hq
      · exact n2.2.2
      rcases List.mem_cons.mp hq with rfl | hq
      · exact n1.2.2
      · cases hq
  refine law_ok (A := callerA) (outer := []) (K := ⟨[], s, _, _⟩) (top_gl XX T) ⟨rfl, rfl, by simp⟩ X ⟨rfl, by decide +kernel⟩ (by decide +kernel) hE (by unfold PH.set; rw [if_pos rfl]) hx ⟨I.start, Same.refl s⟩ fun g' loc p1 p2 p3 s' S => ?_
  obtain ⟨m', hn, -, -⟩ := (S.at (.head _)).ns_any
  obtain ⟨q1, e1, r1⟩ := S.at (a := 231) (.tail _ (.head _))
  obtain ⟨q2, e2, r2⟩ := S.at (a := 241) (.tail _ (.tail _ (.head _)))
  obtain ⟨q3, e3, r3⟩ := S.at (a := 256) (.tail _ (.tail _ (.tail _ (.head _))))
  try with_reducible first | refine hQ _ _ ?_ | refine hEnd _ ?_
  exact k s' m' ⟨hn, S.st.inv.stat, F.above⟩ S.same.os S.same.gens ⟨⟨p3, by rw [e3, r3]⟩, ⟨p2, by rw [e2, r2]⟩, ⟨p1, by rw [e1, r1]⟩, trivial⟩
end Mine
section
open PySem PySem.W PyProof.Rows
theorem PySem.Challenge.cw_rg0153_01_holds : PySem.Challenge.rw_rg0153_01.Holds := by
  w_on
  refine holds_law Mine.said fun said => ?_
  refine holds_open (q := Mine.vw) (loose := [Str.ofString "PageError"]) (Xt := fun s => xlAt Mine.vw [] s && recOk (RowW.records PySem.Challenge.rw_rg0153_01.row.toRowW) s) (XP := XL Mine.vw []) (Yf := Hook.obs (kmHook Mine.hp Mine.hpAs Mine.hp_as [256, 241, 231])) (Ya := Hook.val (kmHook Mine.hp Mine.hpAs Mine.hp_as [256, 241, 231])) (YP := Hook.says (kmHook Mine.hp Mine.hpAs Mine.hp_as [256, 241, 231])) (N := 3848) Mine.left (Hook.of _) (Hook.keeps _) (fun s e => xl_of s (Bool.and_eq_true_iff.mp e).1) XL.keeps (by rfl) (by rfl) (by rfl) (fun s e => recFacts_of (Bool.and_eq_true_iff.mp e).2) (by rfl) (by first | assumption | decide +kernel) (by decide +kernel) ⟨rfl, rfl, rfl, rfl, rfl, by decide +kernel⟩ ?hw ?hc
  case hw => w_witness2
  case hc =>
    k_go0
    refine' Mine.join ?jXX ?jT ?jF ?jm ?jl ?ji ?jx ?jN ?js ?jE ?jk
    case js => rfl
    case jN => assumption
    case jF => assumption
    case jXX => assumption
    case jT => assumption
    case jl => assumption
    case ji => assumption
    case jx => omega
    case jm => rfl
    case jE => passes_own
    case jk =>
      intro s' m' F os gens grown
      refine ⟨?_, grown⟩
      have hg : s'.gens = #[] := gens.trans (by assumption)
      have hos := os
      kc_bool
      refine goodW_bool F hg (raisesW_false ?_) ?_ hos
      · wrow_none_raised
      · kc_post
end
