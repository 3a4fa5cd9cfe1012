import PyProof.Rows.All
import Wide.All
import OpenK.AllK
import Wide.FinOn
import PySem.Challenge.RW_sa0089_01
set_option Elab.async false
set_option maxRecDepth 100000
set_option linter.unusedVariables false
set_option compiler.extract_closed false

set_option linter.unusedVariables false
namespace Mine
/-! small steps of arithmetic, for short proofs -/
theorem m1 {a : Nat} : 0 < a + 1 := Nat.zero_lt_succ _
theorem m2 {a : Nat} : a < a + 1 := Nat.lt_succ_self _
theorem m3 {a b : Nat} (h : a < b := by assumption) : a ≤ b := Nat.le_of_lt h
theorem m4 {a b : Nat} (h : a < b := by assumption) : a < b + 1 := Nat.lt_succ_of_lt h
theorem m5 {a b : Nat} (h : a < b := by assumption) : a + 1 < b + 1 := Nat.succ_lt_succ h
theorem m7 {a b : Nat} (h : a + 1 ≤ b := by assumption) : a ≤ b := Nat.le_of_succ_le h
theorem m8 {a b : Nat} (h : a + 1 ≤ b := by assumption) : a < b := h
theorem m18 {a b c : Nat} (h : a < b := by assumption) (h2 : b ≤ c := by assumption) : a < c := Nat.lt_of_lt_of_le h h2
theorem m22 {n : Nat} (h : n ≤ 1000 := by assumption) : n ≤ 16777216 := by omega
theorem m23 {i n : Nat} (h : i < n := by assumption) (h2 : n ≤ 1000 := by assumption) : (i : Int) < 2 ^ 63 := by omega
theorem m24 {i n : Nat} (h : i < n + 1 := by assumption) (h2 : ¬ i = n := by assumption) : i < n := by omega
theorem m25 {i n m : Nat} (h : i < n + m := by assumption) (h2 : ¬ i < n := by assumption) : i - n < m := by omega
theorem m29 {a b : Nat} : a + b - a = b := by omega
theorem m30 {a b : Nat} : a ≤ a + b := Nat.le_add_right _ _
theorem m31 {i : Nat} {P : Prop} (h : i < 0 := by assumption) : P := absurd h (Nat.not_lt_zero _)
theorem m33 {i n : Nat} {P : Prop} (h : i = n := by assumption) (h2 : i < n := by assumption) : P := by omega
/-! some things and what holds of them, in one -/
inductive X1_3 {A1 : Type} (P1 P2 P3 : A1 → Prop) : Prop
  | mk (x1 : A1) (p1 : P1 x1) (p2 : P2 x1) (p3 : P3 x1) : X1_3 P1 P2 P3
inductive X1_4 {A1 : Type} (P1 P2 P3 P4 : A1 → Prop) : Prop
  | mk (x1 : A1) (p1 : P1 x1) (p2 : P2 x1) (p3 : P3 x1) (p4 : P4 x1) : X1_4 P1 P2 P3 P4
inductive X2_3 {A1 A2 : Type} (P1 P2 P3 : A1 → A2 → Prop) : Prop
  | mk (x1 : A1) (x2 : A2) (p1 : P1 x1 x2) (p2 : P2 x1 x2) (p3 : P3 x1 x2) : X2_3 P1 P2 P3
inductive X3_3 {A1 A2 A3 : Type} (P1 P2 P3 : A1 → A2 → A3 → Prop) : Prop
  | mk (x1 : A1) (x2 : A2) (x3 : A3) (p1 : P1 x1 x2 x3) (p2 : P2 x1 x2 x3) (p3 : P3 x1 x2 x3) : X3_3 P1 P2 P3
inductive X4_3 {A1 A2 A3 A4 : Type} (P1 P2 P3 : A1 → A2 → A3 → A4 → Prop) : Prop
  | mk (x1 : A1) (x2 : A2) (x3 : A3) (x4 : A4) (p1 : P1 x1 x2 x3 x4) (p2 : P2 x1 x2 x3 x4) (p3 : P3 x1 x2 x3 x4) : X4_3 P1 P2 P3
inductive X4_4 {A1 A2 A3 A4 : Type} (P1 P2 P3 P4 : A1 → A2 → A3 → A4 → Prop) : Prop
  | mk (x1 : A1) (x2 : A2) (x3 : A3) (x4 : A4) (p1 : P1 x1 x2 x3 x4) (p2 : P2 x1 x2 x3 x4) (p3 : P3 x1 x2 x3 x4) (p4 : P4 x1 x2 x3 x4) : X4_4 P1 P2 P3 P4
inductive X9_4 {A1 A2 A3 A4 A5 A6 A7 A8 A9 : Type} (P1 P2 P3 P4 : A1 → A2 → A3 → A4 → A5 → A6 → A7 → A8 → A9 → Prop) : Prop
  | mk (x1 : A1) (x2 : A2) (x3 : A3) (x4 : A4) (x5 : A5) (x6 : A6) (x7 : A7) (x8 : A8) (x9 : A9) (p1 : P1 x1 x2 x3 x4 x5 x6 x7 x8 x9) (p2 : P2 x1 x2 x3 x4 x5 x6 x7 x8 x9) (p3 : P3 x1 x2 x3 x4 x5 x6 x7 x8 x9) (p4 : P4 x1 x2 x3 x4 x5 x6 x7 x8 x9) : X9_4 P1 P2 P3 P4
inductive X4_7 {A1 A2 A3 A4 : Type} (P1 P2 P3 P4 P5 P6 P7 : A1 → A2 → A3 → A4 → Prop) : Prop
  | mk (x1 : A1) (x2 : A2) (x3 : A3) (x4 : A4) (p1 : P1 x1 x2 x3 x4) (p2 : P2 x1 x2 x3 x4) (p3 : P3 x1 x2 x3 x4) (p4 : P4 x1 x2 x3 x4) (p5 : P5 x1 x2 x3 x4) (p6 : P6 x1 x2 x3 x4) (p7 : P7 x1 x2 x3 x4) : X4_7 P1 P2 P3 P4 P5 P6 P7
inductive X4_8 {A1 A2 A3 A4 : Type} (P1 P2 P3 P4 P5 P6 P7 P8 : A1 → A2 → A3 → A4 → Prop) : Prop
  | mk (x1 : A1) (x2 : A2) (x3 : A3) (x4 : A4) (p1 : P1 x1 x2 x3 x4) (p2 : P2 x1 x2 x3 x4) (p3 : P3 x1 x2 x3 x4) (p4 : P4 x1 x2 x3 x4) (p5 : P5 x1 x2 x3 x4) (p6 : P6 x1 x2 x3 x4) (p7 : P7 x1 x2 x3 x4) (p8 : P8 x1 x2 x3 x4) : X4_8 P1 P2 P3 P4 P5 P6 P7 P8
inductive X3_7 {A1 A2 A3 : Type} (P1 P2 P3 P4 P5 P6 P7 : A1 → A2 → A3 → Prop) : Prop
  | mk (x1 : A1) (x2 : A2) (x3 : A3) (p1 : P1 x1 x2 x3) (p2 : P2 x1 x2 x3) (p3 : P3 x1 x2 x3) (p4 : P4 x1 x2 x3) (p5 : P5 x1 x2 x3) (p6 : P6 x1 x2 x3) (p7 : P7 x1 x2 x3) : X3_7 P1 P2 P3 P4 P5 P6 P7
end Mine

section
open PySem PySem.W PyProof.Rows
set_option maxHeartbeats 8000000
namespace Mine
/-- the text that the claim reads: all its statements but the settings of __name__ -/
noncomputable def vw : Program := view Challenge.pw_sa0089_01 [1, 3, 5, 6, 7, 8, 9, 10, 12, 13, 14, 15, 16, 17, 18, 19, 20, 21, 23, 24, 25, 26, 27, 28, 30, 31, 32, 33, 34, 35]
/- the head in one look: the run of the top by the kernel, with the library's quick twin of topRun -/
local macro_rules | `(tactic| o_head $H) => `(tactic| refine holds_open (q := vw) (loose := []) (Xt := fun s => xlAt vw [] s && recOk (RowW.records Challenge.rw_sa0089_01.row.toRowW) s) (XP := XL vw []) (Yf := Hook.obs $H) (Ya := Hook.val $H) (YP := Hook.says $H) (N := 2304) (fun w => by unfold openEnds topFrom; rw [PySem.W.Fast.te14082659384304107361]; kernel_rfl) (Hook.of $H) (Hook.keeps $H) (fun s e => xl_of s (Bool.and_eq_true_iff.mp e).1) XL.keeps (by rfl) (by rfl) (by rfl) (fun s e => recFacts_of (Bool.and_eq_true_iff.mp e).2) (by rfl) (by assumption) (by decide +kernel) ⟨rfl, rfl, rfl, rfl, rfl, by decide +kernel⟩ ?hw ?hc)
open_top hd for PySem.Challenge.rw_sa0089_01
end Mine
end

section
set_option maxRecDepth 100000
set_option Elab.async false
namespace Mine
open PySem PySem.Calls PySem.W PyProof.Rows

noncomputable abbrev WM := Addr → Option Obj
noncomputable abbrev Vars := List (Str × Option Value)
noncomputable abbrev Own := List (Addr × Obj)
noncomputable abbrev RestT := Array GenState × Drawn × OsState
noncomputable abbrev CbTok := Tok

noncomputable def lstO (vs : List Value) (n : Nat) : Obj := { cls := .type "list", data := .seq vs.toArray n }
noncomputable def tupO (vs : List Value) : Obj := { cls := .type "tuple", data := .seq vs.toArray }

noncomputable def vark (env : Env) (x : Str) : Bool :=
  (x != ("__debug__" : Str)) && (x != ("__classdict__" : Str)) &&
  (match env.kindOf x with
   | some .local => true
   | some .cell => (env.cells.lookup x).isSome
   | some .free => (env.cells.lookup x).isSome
   | _ => false)

noncomputable def Sub (b b' : WM) : Prop := ∀ a o, b a = some o → b' a = some o
noncomputable def Gr (k b b' : WM) : Prop := Sub b b' ∧ ∀ a, b' a ≠ none → b a = none → k a = none
noncomputable def upd (b : WM) (a : Addr) (o : Obj) : WM := fun c => if c = a then some o else b c

theorem Sub.refl (b : WM) : Sub b b := fun _ _ h => h
theorem Sub.trans {b c d : WM} (x : Sub b c) (y : Sub c d) : Sub b d := fun a o h => y a o (x a o h)
theorem Gr.refl (k b : WM) : Gr k b b := ⟨Sub.refl b, fun _ h h' => absurd h' h⟩
theorem Gr.trans {k b c d : WM} (x : Gr k b c) (y : Gr k c d) : Gr k b d :=
  ⟨x.1.trans y.1, fun a h h' => by
    cases hc : c a with
    | none => exact y.2 a h hc
    | some o => exact x.2 a (by rw [hc]; simp) h'⟩
theorem Gr.mono {k k' b c : WM} (x : Gr k' b c) (h : ∀ a, k a ≠ none → k' a ≠ none) : Gr k b c :=
  ⟨x.1, fun a h1 h2 => by
    have := x.2 a h1 h2
    cases hk : k a with
    | none => rfl
    | some o => exact absurd this (h a (by rw [hk]; simp))⟩
theorem Gr.sub {k k' b c : WM} (x : Gr k' b c) (h : Sub k k') : Gr k b c := x.mono fun a ha => by
  cases hk : k a with
  | none => exact absurd hk ha
  | some o => rw [h a o hk]; simp
theorem Gr.upd {k b : WM} {a : Addr} {o : Obj} (hk : k a = none) (hb : b a = none) : Gr k b (upd b a o) :=
  ⟨fun c o' h => by
    unfold Mine.upd
    by_cases e : c = a
    · subst e; rw [hb] at h; cases h
    · rw [if_neg e]; exact h, fun c h h' => by
    unfold Mine.upd at h
    by_cases e : c = a
    · subst e; exact hk
    · rw [if_neg e] at h; exact absurd h' h⟩
theorem upd_self (b : WM) (a : Addr) (o : Obj) : upd b a o a = some o := by simp [upd]

theorem nodup_mid {α : Type} {a : α} {l₁ l₂ : List α} (h : (l₁ ++ a :: l₂).Nodup) : a ∉ l₁ ++ l₂ ∧ (l₁ ++ l₂).Nodup := by
  have := (List.perm_middle (a := a) (l₁ := l₁) (l₂ := l₂)).nodup_iff.mp h
  rwa [List.nodup_cons] at this

/-- what holds of the state inside a frame -/
structure St (H₀ : Heap) (env : Env) (k b : WM) (σ : Vars) (w : Own) (r : RestT) (s : Shared) : Prop where
  rest : s.gens = r.1 ∧ s.drawn = r.2.1 ∧ s.os = r.2.2
  bk : ∀ a o, H₀.get? a = some o → k a = some o
  keep : ∀ a o, k a = some o → s.heap.get? a = some o
  froz : ∀ a o, b a = some o → s.heap.get? a = some o
  own : ∀ p ∈ w, s.heap.get? p.1 = some p.2 ∧ k p.1 = none ∧ b p.1 = none ∧ ∃ xs n, p.2.data = .seq xs n
  nodup : (w.map (·.1)).Nodup
  names : (σ.map (·.1)).Nodup
  kinds : ∀ p ∈ σ, vark env p.1 = true
  fk : env.scope.kind = .function
  gl : env.globals = mainGlobals ∧ env.builtins = builtinsNs
  loc : ∃ m, s.heap.Ns env.locals m ∧ ∀ x v, (x, some v) ∈ σ → env.kindOf x = some .local → m x = some v
  cel : ∀ x c, env.cells.lookup x = some c → ∃ v, s.heap.IsCell c v ∧ ∀ u, (x, some u) ∈ σ → env.kindOf x ≠ some .local → v = some u
  lk : k env.locals = none
  lb : b env.locals = none
  ck : ∀ x c, env.cells.lookup x = some c → @LT.lt Nat _ env.locals c → k c = none ∧ b c = none
  apart : ∀ x y c, env.cells.lookup x = some c → env.cells.lookup y = some c → @LT.lt Nat _ env.locals c → x = y

section
variable {H₀ : Heap} {env : Env} {k b : WM} {σ σ' : Vars} {w w' : Own} {r : RestT} {s : Shared}

theorem dat_ne {h : Heap} {a c : Addr} {oa oc : Obj} (ha : h.get? a = some oa) (hc : h.get? c = some oc) (hd : oa.data ≠ oc.data) : a ≠ c := by
  rintro rfl; rw [ha] at hc; cases hc; exact hd rfl

theorem St.ext (H : St H₀ env k b σ w r s) {h' : Heap} {tk : Nat} (x : ∀ a o, s.heap.get? a = some o → h'.get? a = some o) :
    St H₀ env k b σ w r { s with heap := h', toks := tk } :=
  { rest := H.rest, bk := H.bk, keep := fun a o e => x _ _ (H.keep a o e), froz := fun a o e => x _ _ (H.froz a o e),
    own := fun p hp => ⟨x _ _ (H.own p hp).1, (H.own p hp).2⟩, nodup := H.nodup, names := H.names, kinds := H.kinds, fk := H.fk, gl := H.gl,
    loc := let ⟨m, hn, hm⟩ := H.loc; ⟨m, hn.keeps x, hm⟩,
    cel := fun y c hc => let ⟨v, hv, hu⟩ := H.cel y c hc; ⟨v, hv.keeps x, hu⟩,
    lk := H.lk, lb := H.lb, ck := H.ck, apart := H.apart }
theorem St.tok (H : St H₀ env k b σ w r s) {tk : Nat} : St H₀ env k b σ w r { s with toks := tk } := H.ext (h' := s.heap) fun _ _ e => e
theorem St.heap (H : St H₀ env k b σ w r s) {h' : Heap} (x : ∀ a o, s.heap.get? a = some o → h'.get? a = some o) : St H₀ env k b σ w r { s with heap := h' } := H.ext (tk := s.toks) x

theorem St.fresh (H : St H₀ env k b σ w r s) {a : Addr} (ha : s.heap.get? a = none) : k a = none ∧ b a = none := by
  constructor
  · cases e : k a with
    | none => rfl
    | some o => rw [H.keep a o e] at ha; cases ha
  · cases e : b a with
    | none => rfl
    | some o => rw [H.froz a o e] at ha; cases ha

theorem get_size_none (h : Heap) : h.get? h.objs.size = none := by
  cases e : h.get? h.objs.size with
  | none => rfl
  | some o => exact absurd (Heap.lt_size e) (Nat.lt_irrefl _)

theorem St.ns_dict (H : St H₀ env k b σ w r s) : ∃ o es ep, s.heap.get? env.locals = some o ∧ o.data = .dict es ep := by
  obtain ⟨m, ⟨o, es, ep, ho, hd, _⟩, _⟩ := H.loc
  exact ⟨o, es, ep, ho, hd⟩

/-- put a new object among the frozen ones -/
theorem St.froze (H : St H₀ env k b σ w r s) {a : Addr} {o : Obj} (hk : k a = none) (hb : b a = none) (hw : ∀ p ∈ w, p.1 ≠ a) (hl : env.locals ≠ a)
    (hc : ∀ x c, env.cells.lookup x = some c → @LT.lt Nat _ env.locals c → c ≠ a) (ho : s.heap.get? a = some o) : St H₀ env k (upd b a o) σ w r s :=
  { H with
    froz := fun c o' e => by
      unfold upd at e
      by_cases q : c = a
      · subst q; rw [if_pos rfl] at e; cases e; exact ho
      · rw [if_neg q] at e; exact H.froz c o' e
    own := fun p hp => ⟨(H.own p hp).1, (H.own p hp).2.1, by unfold upd; rw [if_neg (hw p hp)]; exact (H.own p hp).2.2.1, (H.own p hp).2.2.2⟩
    lb := by unfold upd; rw [if_neg hl]; exact H.lb
    ck := fun x c h hl => ⟨(H.ck x c h hl).1, by unfold upd; rw [if_neg (hc x c h hl)]; exact (H.ck x c h hl).2⟩ }

/-- a new object -/
theorem St.allocB (H : St H₀ env k b σ w r s) {h' : Heap} {tk : Nat} {a : Addr} {o : Obj} (ha : s.heap.get? a = none) (x : ∀ a o, s.heap.get? a = some o → h'.get? a = some o) (ho : h'.get? a = some o) :
    Gr k b (upd b a o) ∧ St H₀ env k (upd b a o) σ w r { s with heap := h', toks := tk } := by
  obtain ⟨hk, hb⟩ := H.fresh ha
  refine ⟨Gr.upd hk hb, (H.ext x).froze hk hb (fun p hp q => ?_) (fun q => ?_) (fun y c hc _ q => ?_) ho⟩
  · have := (H.own p hp).1; rw [q, ha] at this; cases this
  · obtain ⟨oL, _, _, hL, _⟩ := H.ns_dict; rw [q, ha] at hL; cases hL
  · obtain ⟨v, ⟨oc, hoc, _⟩, _⟩ := H.cel y c hc; rw [q, ha] at hoc; cases hoc

theorem St.allocW (H : St H₀ env k b σ w r s) {h' : Heap} {tk : Nat} {a : Addr} {o : Obj} (ha : s.heap.get? a = none) (x : ∀ a o, s.heap.get? a = some o → h'.get? a = some o) (ho : h'.get? a = some o)
    (hd : ∃ xs n, o.data = .seq xs n) : St H₀ env k b σ ((a, o) :: w) r { s with heap := h', toks := tk } := by
  obtain ⟨hk, hb⟩ := H.fresh ha
  exact { H.ext (tk := tk) x with
    own := fun p hp => by
      rcases List.mem_cons.mp hp with rfl | hp
      · exact ⟨ho, hk, hb, hd⟩
      · exact ⟨x _ _ (H.own p hp).1, (H.own p hp).2⟩
    nodup := by
      rw [List.map_cons, List.nodup_cons]
      refine ⟨fun hm => ?_, H.nodup⟩
      obtain ⟨p, hp, e⟩ := List.mem_map.mp hm
      have := (H.own p hp).1
      rw [show p.1 = a from e, ha] at this; cases this }

/-- an own object is frozen -/
theorem St.freeze {a : Addr} {o : Obj} {w₁ w₂ : Own} (H : St H₀ env k b σ (w₁ ++ (a, o) :: w₂) r s) : Gr k b (upd b a o) ∧ St H₀ env k (upd b a o) σ (w₁ ++ w₂) r s := by
  have hm : (a, o) ∈ w₁ ++ (a, o) :: w₂ := List.mem_append_right _ List.mem_cons_self
  obtain ⟨ho, hk, hb, xs, n, hd⟩ := H.own _ hm
  have hsub : ∀ p ∈ w₁ ++ w₂, p ∈ w₁ ++ (a, o) :: w₂ := fun p hp => by
    rcases List.mem_append.mp hp with h | h
    · exact List.mem_append_left _ h
    · exact List.mem_append_right _ (List.mem_cons_of_mem _ h)
  have hnd := H.nodup
  rw [List.map_append, List.map_cons] at hnd
  have hnd' := nodup_mid hnd
  have H' : St H₀ env k b σ (w₁ ++ w₂) r s := { H with own := fun p hp => H.own p (hsub p hp), nodup := by rw [List.map_append]; exact hnd'.2 }
  refine ⟨Gr.upd hk hb, H'.froze hk hb (fun p hp q => ?_) (fun q => ?_) (fun y c hc _ q => ?_) ho⟩
  · refine hnd'.1 ?_
    rw [← List.map_append]
    exact List.mem_map.mpr ⟨p, hp, q⟩
  · obtain ⟨oL, es, ep, hL, hdL⟩ := H.ns_dict
    rw [q] at hL
    exact dat_ne (hL) ho (by rw [hdL, hd]; simp) rfl
  · obtain ⟨v, ⟨oc, hoc, hdc⟩, _⟩ := H.cel y c hc
    rw [q] at hoc
    exact dat_ne hoc ho (by rw [hdc, hd]; simp) rfl
theorem St.freeze0 {a : Addr} {o : Obj} (H : St H₀ env k b σ ((a, o) :: w) r s) : Gr k b (upd b a o) ∧ St H₀ env k (upd b a o) σ w r s := St.freeze (w₁ := []) H
theorem St.freeze1 {a : Addr} {o : Obj} {p : Addr × Obj} (H : St H₀ env k b σ (p :: (a, o) :: w) r s) : Gr k b (upd b a o) ∧ St H₀ env k (upd b a o) σ (p :: w) r s := St.freeze (w₁ := [p]) H

/-- own objects forgotten -/
theorem St.drop (H : St H₀ env k b σ w r s) (hs : w'.Sublist w) : St H₀ env k b σ w' r s :=
  { H with own := fun p hp => H.own p (hs.subset hp), nodup := (hs.map _).nodup H.nodup }
theorem St.weak {k' : WM} (H : St H₀ env k b σ w r s) (hs : Sub k' k) (hb : ∀ a o, H₀.get? a = some o → k' a = some o) : St H₀ env k' b σ w r s :=
  have hn : ∀ a, k a = none → k' a = none := fun a h => by
    cases e : k' a with
    | none => rfl
    | some o => rw [hs a o e] at h; cases h
  { H with bk := hb, keep := fun a o e => H.keep a o (hs a o e), own := fun p hp => ⟨(H.own p hp).1, hn _ (H.own p hp).2.1, (H.own p hp).2.2⟩, lk := hn _ H.lk,
           ck := fun x c h hl => ⟨hn _ (H.ck x c h hl).1, (H.ck x c h hl).2⟩ }
theorem St.vars (H : St H₀ env k b σ w r s) (hm : ∀ x v, (x, some v) ∈ σ' → (x, some v) ∈ σ) (hn : (σ'.map (·.1)).Nodup) (hk : ∀ p ∈ σ', p.1 ∈ σ.map (·.1)) : St H₀ env k b σ' w r s :=
  { H with names := hn, kinds := fun p hp => by obtain ⟨q, hq, e⟩ := List.mem_map.mp (hk p hp); rw [← e]; exact H.kinds q hq,
           loc := let ⟨m, a, c⟩ := H.loc; ⟨m, a, fun x v h => c x v (hm x v h)⟩, cel := fun x c h => let ⟨v, p, q⟩ := H.cel x c h; ⟨v, p, fun u hu => q u (hm x u hu)⟩ }

/-- writing one entry -/
inductive Put {α β : Type} (x : α) (v : β) : List (α × β) → List (α × β) → Prop
  | head {u l} : Put x v ((x, u) :: l) ((x, v) :: l)
  | tail {p l l'} : Put x v l l' → Put x v (p :: l) (p :: l')

theorem Put.split {α β : Type} {x : α} {v : β} {l l' : List (α × β)} (h : Put x v l l') : ∃ l₁ u l₂, l = l₁ ++ (x, u) :: l₂ ∧ l' = l₁ ++ (x, v) :: l₂ := by
  induction h with
  | @head u l => exact ⟨[], u, l, rfl, rfl⟩
  | @tail p l l' _ ih => obtain ⟨l₁, u, l₂, e1, e2⟩ := ih; exact ⟨p :: l₁, u, l₂, by rw [e1]; rfl, by rw [e2]; rfl⟩
theorem Put.names {α β : Type} {x : α} {v : β} {l l' : List (α × β)} (h : Put x v l l') : l'.map (·.1) = l.map (·.1) := by
  induction h with
  | head => rfl
  | tail _ ih => rw [List.map_cons, List.map_cons, ih]
theorem Put.old {α β : Type} {x : α} {v : β} {l l' : List (α × β)} (h : Put x v l l') (hn : (l.map (·.1)).Nodup) {y : α} {u : β} (hm : (y, u) ∈ l') : (y = x ∧ u = v) ∨ (y ≠ x ∧ (y, u) ∈ l) := by
  obtain ⟨l₁, u₀, l₂, rfl, rfl⟩ := h.split
  rw [List.map_append, List.map_cons] at hn
  have hn' := nodup_mid hn
  rw [← List.map_append] at hn'
  rcases List.mem_append.mp hm with h | h
  · right
    exact ⟨fun q => hn'.1 (List.mem_map.mpr ⟨(y, u), List.mem_append_left _ h, q⟩), List.mem_append_left _ h⟩
  · rcases List.mem_cons.mp h with h | h
    · cases h; exact .inl ⟨rfl, rfl⟩
    · right
      exact ⟨fun q => hn'.1 (List.mem_map.mpr ⟨(y, u), List.mem_append_right _ h, q⟩), List.mem_append_right _ (List.mem_cons_of_mem _ h)⟩
theorem Put.mem {α β : Type} {x : α} {v : β} {l l' : List (α × β)} (h : Put x v l l') : x ∈ l.map (·.1) := by
  obtain ⟨l₁, u₀, l₂, rfl, _⟩ := h.split
  simp
theorem Put.refl {α β : Type} {x : α} {v : β} {l : List (α × β)} (h : (x, v) ∈ l) : Put x v l l := by
  induction l with
  | nil => cases h
  | cons p r ih =>
    rcases List.mem_cons.mp h with rfl | h
    · exact .head
    · exact .tail (ih h)
theorem Put.append {α β : Type} {x : α} {v : β} {l l' r : List (α × β)} (h : Put x v l l') : Put x v (l ++ r) (l' ++ r) := by
  induction h with
  | head => exact .head
  | tail _ ih => exact .tail ih
theorem Put.prepend {α β : Type} {x : α} {v : β} {l l' : List (α × β)} (r : List (α × β)) (h : Put x v l l') : Put x v (r ++ l) (r ++ l') := by
  induction r with
  | nil => exact h
  | cons p r ih => exact .tail ih

theorem lookup_inj {x y : Str} {c : Addr} {l : List (Str × Addr)} (hp : l.Pairwise fun x y => x.2 ≠ y.2) (hx : l.lookup x = some c) (hy : l.lookup y = some c) : x = y :=
  name_of_addr hp (PySem.mem_of_lookup hx) (PySem.mem_of_lookup hy)

variable {M : Model} {A : Around} {E : Value → Shared → Prop}

/-- a variable is read -/
theorem nm {x : Str} {pos : Pos} {v : Value} {Q : Value → Shared → Prop} (H : St H₀ env k b σ w r s) (hx : (x, some v) ∈ σ) (h : Q v s) : wpAny M A (eval (.Name x pos) env) Q E s := by
  have hk := H.kinds _ hx
  unfold vark at hk
  simp only [Bool.and_eq_true, bne_iff_ne, ne_eq] at hk
  obtain ⟨⟨hd, hcd⟩, hk⟩ := hk
  have hd' : (x == ("__debug__" : Str)) = false := by simpa using hd
  have hcd' : (x == ("__classdict__" : Str)) = false := by simpa using hcd
  refine wpAny_Name ?_ hd'
  split at hk
  · rename_i hl
    obtain ⟨m, hn, hm⟩ := H.loc
    exact wpAny_loadName_local H.fk hl hn (hm x v hx hl) h
  · rename_i hl
    obtain ⟨c, hc⟩ := Option.isSome_iff_exists.mp hk
    obtain ⟨u, hu, he⟩ := H.cel x c hc
    have := he v hx (by rw [hl]; simp)
    subst this
    exact wpAny_loadName_cell H.fk hl hc hu h
  · rename_i hl
    obtain ⟨c, hc⟩ := Option.isSome_iff_exists.mp hk
    obtain ⟨u, hu, he⟩ := H.cel x c hc
    have := he v hx (by rw [hl]; simp)
    subst this
    exact wpAny_loadName_free H.fk hl hc hu h hcd'
  · cases hk

/-- a variable is stored -/
theorem st {x : Str} {v : Value} {Q : Unit → Shared → Prop} (H : St H₀ env k b σ w r s) (hp : Put x (some v) σ σ') (hkd : env.kindOf x = some .local ∨ (env.kindOf x = some .cell ∧ ∀ c, env.cells.lookup x = some c → @LT.lt Nat _ env.locals c)) (h : ∀ s', St H₀ env k b σ' w r s' → Q () s') : wpAny M A (storeName env x v) Q E s := by
  have hx := hp.mem
  obtain ⟨⟨_, u⟩, hxm, rfl⟩ := List.mem_map.mp hx
  have hk := H.kinds _ hxm
  dsimp only at hp hkd ⊢
  rename_i x
  have hnm : (σ'.map (·.1)).Nodup := by rw [hp.names]; exact H.names
  have hkn : ∀ p ∈ σ', vark env p.1 = true := fun p hp' => by
    have : p.1 ∈ σ.map (·.1) := by rw [← hp.names]; exact List.mem_map_of_mem hp'
    obtain ⟨q, hq, e⟩ := List.mem_map.mp this
    rw [← e]; exact H.kinds q hq
  obtain ⟨m, hn, hm⟩ := H.loc
  rcases hkd with hl | ⟨hl, hf⟩
  · refine wpAny_storeName_local hl hn (fun h' hn' hs' => h _ ?_) (by rw [H.fk]; rfl)
    have keep : ∀ a o, a ≠ env.locals → s.heap.get? a = some o → h'.get? a = some o := fun a o q e => hs'.extBut a o q e
    exact {
      rest := H.rest, bk := H.bk, fk := H.fk, gl := H.gl, lk := H.lk, lb := H.lb, ck := H.ck, apart := H.apart, names := hnm, kinds := hkn, nodup := H.nodup,
      keep := fun a o e => keep a o (fun q => by rw [q, H.lk] at e; cases e) (H.keep a o e),
      froz := fun a o e => keep a o (fun q => by rw [q, H.lb] at e; cases e) (H.froz a o e),
      own := fun p hp' => by
        obtain ⟨ho, hk', hb', xs, n, hd⟩ := H.own p hp'
        refine ⟨keep _ _ (fun q => ?_) ho, hk', hb', xs, n, hd⟩
        obtain ⟨oL, es, ep, hL, hdL⟩ := H.ns_dict
        rw [← q] at hL
        exact dat_ne hL ho (by rw [hdL, hd]; simp) rfl,
      loc := ⟨_, hn', fun y u' hy hly => by
        rcases hp.old H.names hy with ⟨rfl, e⟩ | ⟨hne, hold⟩
        · cases e; simp
        · rw [if_neg hne]; exact hm y u' hold hly⟩,
      cel := fun y c hc => by
        obtain ⟨v', hv', hu'⟩ := H.cel y c hc
        obtain ⟨oc, hoc, hdc⟩ := id hv'
        refine ⟨v', hv'.sameBut hs' (fun q => ?_), fun u' hy hny => ?_⟩
        · obtain ⟨oL, es, ep, hL, hdL⟩ := H.ns_dict
          rw [← q] at hL
          exact dat_ne hL hoc (by rw [hdL, hdc]; simp) rfl
        · rcases hp.old H.names hy with ⟨rfl, e⟩ | ⟨hne, hold⟩
          · exact absurd hl hny
          · exact hu' u' hold hny }
  · have hc : (env.cells.lookup x).isSome = true := by
      unfold vark at hk
      rw [hl] at hk
      simp only [Bool.and_eq_true] at hk
      exact hk.2
    obtain ⟨c, hc⟩ := Option.isSome_iff_exists.mp hc
    have hlt := hf c hc
    obtain ⟨v₀, hv₀, _⟩ := H.cel x c hc
    refine wpAny_storeName_cell H.fk hl hc hv₀ fun h' hv' hs' => h _ ?_
    have keep : ∀ a o, a ≠ c → s.heap.get? a = some o → h'.get? a = some o := fun a o q e => hs'.extBut a o q e
    obtain ⟨oc, hoc, hdc⟩ := hv₀
    exact {
      rest := H.rest, bk := H.bk, fk := H.fk, gl := H.gl, lk := H.lk, lb := H.lb, ck := H.ck, apart := H.apart, names := hnm, kinds := hkn, nodup := H.nodup,
      keep := fun a o e => keep a o (fun q => by rw [q, (H.ck x c hc hlt).1] at e; cases e) (H.keep a o e),
      froz := fun a o e => keep a o (fun q => by rw [q, (H.ck x c hc hlt).2] at e; cases e) (H.froz a o e),
      own := fun p hp' => by
        obtain ⟨ho, hk', hb', xs, n, hd⟩ := H.own p hp'
        refine ⟨keep _ _ (fun q => ?_) ho, hk', hb', xs, n, hd⟩
        rw [← q] at hoc
        exact dat_ne hoc ho (by rw [hdc, hd]; simp) rfl,
      loc := by
        refine ⟨m, hn.sameBut hs' (fun q => ?_), fun y u' hy hly => ?_⟩
        · obtain ⟨oL, es, ep, hL, hdL⟩ := H.ns_dict
          rw [q] at hL
          exact dat_ne hL hoc (by rw [hdL, hdc]; simp) rfl
        · rcases hp.old H.names hy with ⟨rfl, e⟩ | ⟨hne, hold⟩
          · rw [hl] at hly; cases hly
          · exact hm y u' hold hly,
      cel := fun y c' hc' => by
        by_cases q : y = x
        · subst q
          rw [hc] at hc'; cases hc'
          refine ⟨some v, hv', fun u' hy _ => ?_⟩
          rcases hp.old H.names hy with ⟨_, e⟩ | ⟨hne, _⟩
          · exact e.symm
          · exact absurd rfl hne
        · obtain ⟨v', hv'', hu'⟩ := H.cel y c' hc'
          refine ⟨v', hv''.sameBut hs' (fun e => q ?_), fun u' hy hny => ?_⟩
          · exact H.apart y x c (e ▸ hc') hc hlt
          · rcases hp.old H.names hy with ⟨rfl, _⟩ | ⟨_, hold⟩
            · exact absurd rfl q
            · exact hu' u' hold hny }

/-- an own object is changed -/
theorem St.write (H : St H₀ env k b σ w r s) {a : Addr} {o' : Obj} {h' : Heap} {tk : Nat} (hp : Put a o' w w') (ho : h'.get? a = some o') (hd : ∃ xs n, o'.data = .seq xs n) (hs : Heap.SameBut a s.heap h') :
    St H₀ env k b σ w' r { s with heap := h', toks := tk } := by
  obtain ⟨⟨_, o⟩, hm, e⟩ := List.mem_map.mp hp.mem
  dsimp only at e; subst e
  rename_i a
  obtain ⟨hoa, hk, hb, xs, n, hda⟩ := H.own _ hm
  have keep : ∀ c o, c ≠ a → s.heap.get? c = some o → h'.get? c = some o := fun c o q e => hs.extBut c o q e
  exact {
    rest := H.rest, bk := H.bk, fk := H.fk, gl := H.gl, lk := H.lk, lb := H.lb, ck := H.ck, apart := H.apart, names := H.names, kinds := H.kinds,
    nodup := by rw [hp.names]; exact H.nodup,
    keep := fun c o e => keep c o (fun q => by rw [q, hk] at e; cases e) (H.keep c o e),
    froz := fun c o e => keep c o (fun q => by rw [q, hb] at e; cases e) (H.froz c o e),
    own := fun p hp' => by
      obtain ⟨c, oc⟩ := p
      rcases hp.old H.nodup hp' with ⟨rfl, rfl⟩ | ⟨hne, hold⟩
      · exact ⟨ho, hk, hb, hd⟩
      · exact ⟨keep _ _ hne (H.own _ hold).1, (H.own _ hold).2⟩,
    loc := by
      obtain ⟨m, hn, hm⟩ := H.loc
      refine ⟨m, hn.sameBut hs (fun q => ?_), hm⟩
      obtain ⟨oL, es, ep, hL, hdL⟩ := H.ns_dict
      rw [q] at hL
      exact dat_ne hL hoa (by rw [hdL, hda]; simp) rfl,
    cel := fun y c hc => by
      obtain ⟨v, hv, hu⟩ := H.cel y c hc
      obtain ⟨oc, hoc, hdc⟩ := id hv
      refine ⟨v, hv.sameBut hs (fun q => ?_), hu⟩
      rw [q] at hoc
      exact dat_ne hoc hoa (by rw [hdc, hda]; simp) rfl }
end
end Mine
end

section
set_option maxRecDepth 100000
set_option Elab.async false
namespace Mine
open PySem PySem.Calls PySem.W PyProof.Rows

structure GL (K : Frag) (p : Program) (loose : List Str) (mg mb : Str → Option Value) (H₀ : Heap) : Prop where
  X : K.In H₀
  T : TopRead p loose mg mb H₀

structure AOk (n : Nat) (A : Around) : Prop where
  handled : A.handled = none
  depth : A.depth + n < recursionLimit
  units : A.units + 4 * n + 100 < cLine
theorem AOk.mono {n m : Nat} {A : Around} (h : AOk n A) (hm : m ≤ n) : AOk m A := ⟨h.handled, by have := h.depth; lia, by have := h.units; lia⟩
theorem AOk.deeper {n : Nat} {A : Around} (h : AOk (n + 1) A) (env : Env) : AOk n (A.deeper env) :=
  ⟨h.handled, by have := h.depth; show A.depth + 1 + n < _; lia, by have := h.units; show A.units + 3 + 4 * n + 100 < _; lia⟩
theorem AOk.u {n : Nat} {A : Around} (h : AOk n A) : A.units < cLine := by have := h.units; lia

noncomputable def isVarK : NameKind → Bool
  | .local => true
  | .cell => true
  | _ => false
noncomputable def varNames (sc : Scope) : List Str := (sc.names.filter fun p => isVarK p.2).map (·.1)
noncomputable def bnd : List (Str × Value) → (Str → Option Value) → Str → Option Value
  | [], m => m
  | (n, v) :: r, m => bnd r (fun y => if y = n then some v else m y)

theorem bindL_bnd {kindOf : Str → Option NameKind} {x : Str} (hx : kindOf x = some .local) : ∀ (binds : List (Str × Value)) (m m' : Str → Option Value), m x = m' x → bindL kindOf binds m x = bnd binds m' x
  | [], m, m', h => h
  | (n, v) :: r, m, m', h => by
    unfold bindL bnd
    refine bindL_bnd hx r _ _ ?_
    by_cases e : x = n
    · subst e; rw [if_pos hx]; simp
    · by_cases hn : kindOf n = some .local
      · rw [if_pos hn]; simp [e, h]
      · rw [if_neg hn]; simp [e, h]
theorem bindC_bnd {kindOf : Str → Option NameKind} {x : Str} (hx : kindOf x ≠ some .local) : ∀ (binds : List (Str × Value)) (m m' : Str → Option Value), m x = m' x → bindC kindOf binds m x = bnd binds m' x
  | [], m, m', h => h
  | (n, v) :: r, m, m', h => by
    unfold bindC bnd
    refine bindC_bnd hx r _ _ ?_
    by_cases e : x = n
    · subst e; rw [if_neg hx]; simp
    · by_cases hn : kindOf n = some .local
      · rw [if_pos hn]; simp [e, h]
      · rw [if_neg hn]; simp [e, h]

noncomputable def goodScope (sc : Scope) (bn : List Str) : Bool :=
  decide ((varNames sc).Nodup) && (varNames sc).all (fun x => x != ("__debug__" : Str) && x != ("__classdict__" : Str)) &&
  (varNames sc).all (fun x => sc.names.lookup x == some .local || sc.names.lookup x == some .cell) &&
  bn.all (fun x => sc.names.lookup x == some .local || sc.names.lookup x == some .cell) &&
  (sc.kind == .function) && !sc.isGenerator && !sc.isCoroutine

section
variable {prog : Program} {wd : World} {K : Frag} {p : Program} {loose : List Str} {mg mb : Str → Option Value} {H₀ : Heap}
  {env : Env} {k b : WM} {σ σ' : Vars} {w w' : Own} {r : RestT} {s : Shared} {A : Around} {E : Value → Shared → Prop} {n : Nat}

theorem St.kin (H : St H₀ env k b σ w r s) (G : GL K p loose mg mb H₀) : K.In s.heap := G.X.keeps fun a o e => H.keep a o (H.bk a o e)
theorem St.base (H : St H₀ env k b σ w r s) : ∀ a o, H₀.get? a = some o → s.heap.get? a = some o := fun a o e => H.keep a o (H.bk a o e)

/-- a global of the text's own -/
theorem gnm (G : GL K p loose mg mb H₀) {x : Str} {pos : Pos} {v : Value} {Q : Value → Shared → Prop} (H : St H₀ env k b σ w r s) (hx : env.kindOf x = some .globalImplicit) (e : nsIn K mainGlobals x = some (some v)) (h : Q v s)
    (hd : (x == ("__debug__" : Str)) = false := by decide) : wpAny (model prog wd) A (eval (.Name x pos) env) Q E s :=
  Name_function_global H.fk hx (loadGlobal_global (env := env) (by rw [H.gl.1]; exact G.T.g.keeps H.base) (mg_of G.X G.T.g e) h) hd
/-- a built-in name -/
theorem bnm (G : GL K p loose mg mb H₀) {x : Str} {pos : Pos} {v : Value} {Q : Value → Shared → Prop} (H : St H₀ env k b σ w r s) (hx : env.kindOf x = some .globalImplicit) (e : nsIn K mainGlobals x = some none) (hv : bootBuiltins x = some v) (h : Q v s)
    (hn : x ≠ "__name__" := by decide) (hd : (x == ("__debug__" : Str)) = false := by decide) : wpAny (model prog wd) A (eval (.Name x pos) env) Q E s :=
  Name_function_global H.fk hx (loadGlobal_builtin (env := env) (by rw [H.gl.1]; exact G.T.g.keeps H.base) (mg_none_of G.X G.T.g e) (by rw [H.gl.2]; exact G.T.b.keeps H.base) ((G.T.builtins x hn).trans hv) h) hd

noncomputable def retv : Flow → Value
  | .ret v => v
  | _ => .none

/-- what a call's body owes -/
inductive CPost (H₀ : Heap) (env' env : Env) (k k' b : WM) (σ : Vars) (w : Own) (r : RestT) (Q : Value → Shared → Prop) (fl : Flow) (s' : Shared) : Prop
  | mk (b' : WM) (σ' : Vars) (m' : Own) (e : m' = m') (g : Gr k' b b') (h : St H₀ env' k' b' σ' m' r s') (f : ∀ s'', Gr k b b' → St H₀ env k b' σ (m' ++ w) r s'' → Q (retv fl) s'') : CPost H₀ env' env k k' b σ w r Q fl s'

theorem call_fn0 (G : GL K p loose mg mb H₀) (hA : AOk (n + 1) A) {m : Own} (H : St H₀ env k b σ (m ++ w) r s) {f : Addr} {fd : FuncData} {oc : Value} {od : Option Addr} {osl : Array (Option Value)} {body : List Stmt} {vals : List Value}
    (nms : List Str) {σ₀ : Vars} {Q : Value → Shared → Prop}
    (hf : K.lookup f = some ⟨oc, od, .func fd, osl⟩) (hcd : codeIn K fd.code fd.qualname = true) (hbody : fd.body = .stmts body) (hbind : bindArgs fd ⟨vals, []⟩ = pure (nms.zip vals)) (hclo : fd.closure = [])
    (hgl : fd.globals = mainGlobals ∧ fd.builtins = builtinsNs) (hsc : goodScope fd.scope nms = true) (hσ : σ₀ = (varNames fd.scope).map fun x => (x, bnd (nms.zip vals) (fun _ => none) x))
    (h : ∀ L k' s₁, AOk n (A.deeper (callEnvC fd L f)) → St H₀ (callEnvC fd L f) k' b σ₀ m r s₁ →
      wpAny (model prog wd) (A.deeper (callEnvC fd L f)) (execs body (callEnvC fd L f)) (fun fl s' => CPost H₀ (callEnvC fd L f) env k k' b σ w r Q fl s') (fun _ _ => False) s₁) :
    wpAny (model prog wd) A (call (.ref f) vals) Q E s := by
  generalize hbd : nms.zip vals = binds at *
  have hbn : ∀ x ∈ binds, x.1 ∈ nms := fun x hx => by rw [← hbd] at hx; exact (List.of_mem_zip (a := x.1) (b := x.2) hx).1
  have hsc' := hsc
  simp only [goodScope, Bool.and_eq_true, decide_eq_true_eq, List.all_eq_true, Bool.or_eq_true, beq_iff_eq, bne_iff_ne, ne_eq, Bool.not_eq_true'] at hsc'
  obtain ⟨⟨⟨⟨⟨⟨q1, q2⟩, q3⟩, q4⟩, q5⟩, q6⟩, q7⟩ := hsc'
  have cellsome : ∀ x, fd.scope.names.lookup x = some .cell → ((cellsFrom (s.heap.objs.size + 1) fd.scope.names []).lookup x).isSome = true := fun x hx => PySem.W.cellsFrom_some _ _ _ (.inl hx)
  have X := H.kin G
  refine wpAny_call (codeAny_call_cells (A := A) (by have := hA.depth; lia) (X _ _ hf) rfl ((G.T.nolimit).keeps H.base) (codeRec_of X hcd) hbody hbind hclo (fun x hx => ?_) (fun s₁ I => ?_) q7 q6 q5)
  · rcases q4 x.1 (hbn x hx) with e | e
    · exact .inl e
    · exact .inr ⟨e, cellsome _ e⟩
  · have hL : (callEnvC fd s.heap.objs.size f).locals = s.heap.objs.size := rfl
    have hkind : ∀ x, (callEnvC fd s.heap.objs.size f).kindOf x = fd.scope.names.lookup x := fun _ => rfl
    have hmem : ∀ q ∈ m, s.heap.get? q.1 = some q.2 ∧ k q.1 = none ∧ b q.1 = none ∧ ∃ xs nn, q.2.data = .seq xs nn := fun q hq => H.own q (List.mem_append_left _ hq)
    have hnone : s.heap.get? s.heap.objs.size = none := get_size_none _
    have hcn : ∀ x c, (callEnvC fd s.heap.objs.size f).cells.lookup x = some c → s.heap.get? c = none := fun x c hc => by
      have hlt : s.heap.objs.size < c := I.above x c (PySem.mem_of_lookup hc)
      cases e : s.heap.get? c with
      | none => rfl
      | some o => exact absurd (Heap.lt_size e) (Nat.not_lt.mpr (Nat.le_of_lt hlt))
    have hbn : ∀ a, s.heap.get? a = none → b a = none := fun a ha => by
      cases e : b a with
      | none => rfl
      | some o => rw [H.froz a o e] at ha; cases ha
    obtain ⟨hh, tk, hsame⟩ := I.toInCall.same
    have H₁ : St H₀ (callEnvC fd s.heap.objs.size f) (fun a => if a ∈ m.map (·.1) then none else s.heap.get? a) b σ₀ m r s₁ := {
      rest := by rw [hsame]; exact H.rest
      bk := fun a o e => by
        have hk := H.bk a o e
        show (if a ∈ m.map (·.1) then none else s.heap.get? a) = some o
        rw [if_neg (fun hm => ?_)]
        · exact H.keep a o hk
        · obtain ⟨q, hq, rfl⟩ := List.mem_map.mp hm
          rw [(hmem q hq).2.1] at hk; cases hk
      keep := fun a o e => by
        split at e
        · cases e
        · exact I.toInCall.keep a o e
      froz := fun a o e => I.toInCall.keep a o (H.froz a o e)
      own := fun q hq => ⟨I.toInCall.keep _ _ (hmem q hq).1, if_pos (List.mem_map_of_mem hq), (hmem q hq).2.2⟩
      nodup := by have := H.nodup; rw [List.map_append] at this; exact (List.nodup_append.mp this).1
      names := by rw [hσ, List.map_map]; simpa [Function.comp_def] using q1
      kinds := fun q hq => by
        rw [hσ] at hq
        obtain ⟨x, hx, rfl⟩ := List.mem_map.mp hq
        have a1 := q2 x hx
        unfold vark
        rw [hkind]
        dsimp only
        rcases q3 x hx with e | e
        · simp [a1.1, a1.2, e]
        · have := cellsome x e
          simp only [e, Bool.and_eq_true, bne_iff_ne, ne_eq]
          exact ⟨⟨a1.1, a1.2⟩, this⟩
      fk := q5
      gl := hgl
      loc := ⟨_, I.toInCall.ns, fun x v hx hl => by
        rw [hσ] at hx
        obtain ⟨y, hy, e⟩ := List.mem_map.mp hx
        obtain ⟨rfl, e2⟩ := Prod.mk.inj e
        rw [bindL_bnd hl binds _ (fun _ => none) rfl]; exact e2⟩
      cel := fun x c hc => ⟨_, I.cell x c hc, fun u hx hl => by
        rw [hσ] at hx
        obtain ⟨y, hy, e⟩ := List.mem_map.mp hx
        obtain ⟨rfl, e2⟩ := Prod.mk.inj e
        rw [bindC_bnd hl binds _ (fun _ => none) rfl]; exact e2⟩
      lk := by show (if _ then none else s.heap.get? s.heap.objs.size) = none; rw [hnone]; simp
      lb := hbn _ hnone
      ck := fun x c hc _ => ⟨by show (if _ then none else s.heap.get? c) = none; rw [hcn x c hc]; simp, hbn _ (hcn x c hc)⟩
      apart := fun x y c hx hy _ => lookup_inj I.apart hx hy }
    refine wpAny_mono (h _ _ s₁ (hA.deeper _) H₁) (fun fl s' hq => ?_) (fun _ _ hf => hf.elim)
    obtain ⟨b', σ', m', hm', hg, H', hQ⟩ := hq
    have keep' : ∀ a o, a ∉ m.map (·.1) → s.heap.get? a = some o → s'.heap.get? a = some o := fun a o ha e => H'.keep a o ((if_neg ha).trans e)
    have hgk : Gr k b b' := hg.mono fun a ha => by
      cases e : k a with
      | none => exact absurd e ha
      | some o =>
        show (if a ∈ m.map (·.1) then none else s.heap.get? a) ≠ none
        rw [if_neg (fun hm => by obtain ⟨q, hq, rfl⟩ := List.mem_map.mp hm; rw [(hmem q hq).2.1] at e; cases e), H.keep a o e]; simp
    have hb' : ∀ a, s.heap.get? a ≠ none → a ∉ m.map (·.1) → b a = none → b' a = none := fun a h1 h2 h3 => by
      cases e : b' a with
      | none => rfl
      | some o =>
        have : (if a ∈ m.map (·.1) then none else s.heap.get? a) = none := hg.2 a (by rw [e]; simp) h3
        rw [if_neg h2] at this
        exact absurd this h1
    obtain ⟨mL, hnL, hvL⟩ := H.loc
    obtain ⟨oL, esL, epL, hoL, hdL⟩ := H.ns_dict
    have hLm : env.locals ∉ m.map (·.1) := fun hm => by
      obtain ⟨q, hq, e⟩ := List.mem_map.mp hm
      obtain ⟨ho, _, _, xs, nn, hd⟩ := hmem q hq
      rw [← e] at hoL
      exact dat_ne hoL ho (by rw [hdL, hd]; simp) rfl
    have hcm : ∀ c v, s.heap.IsCell c v → c ∉ m.map (·.1) := fun c v hc hm => by
      obtain ⟨q, hq, e⟩ := List.mem_map.mp hm
      obtain ⟨ho, _, _, xs, nn, hd⟩ := hmem q hq
      obtain ⟨oc', hoc, hdc⟩ := hc
      rw [← e] at hoc
      exact dat_ne hoc ho (by rw [hdc, hd]; simp) rfl
    have hwm : ∀ q ∈ w, q.1 ∉ m.map (·.1) := fun q hq hm => by
      have := H.nodup
      rw [List.map_append] at this
      exact (List.nodup_append.mp this).2.2 q.1 hm q.1 (List.mem_map_of_mem hq) rfl
    have Hc : St H₀ env k b' σ (m' ++ w) r s' := {
      rest := H'.rest
      bk := H.bk
      keep := fun a o e => keep' a o (fun hm => by obtain ⟨q, hq, rfl⟩ := List.mem_map.mp hm; rw [(hmem q hq).2.1] at e; cases e) (H.keep a o e)
      froz := H'.froz
      own := fun q hq => by
        rcases List.mem_append.mp hq with hq | hq
        · obtain ⟨a1, a2, a3, a4⟩ := H'.own q hq
          have a2' : (if q.1 ∈ m.map (·.1) then none else s.heap.get? q.1) = none := a2
          refine ⟨a1, ?_, a3, a4⟩
          split at a2'
          · rename_i hqm
            obtain ⟨q₀, hq₀, e⟩ := List.mem_map.mp hqm
            rw [← e]; exact (hmem q₀ hq₀).2.1
          · exact (H.fresh a2').1
        · obtain ⟨a1, a2, a3, a4⟩ := H.own q (List.mem_append_right _ hq)
          refine ⟨keep' _ _ (hwm q hq) a1, a2, hb' _ (by rw [a1]; simp) (hwm q hq) a3, a4⟩
      nodup := by
        have := H.nodup
        rw [List.map_append] at this ⊢
        refine List.nodup_append.mpr ⟨H'.nodup, (List.nodup_append.mp this).2.1, fun x hx y hy e => ?_⟩
        subst e
        obtain ⟨q, hq, rfl⟩ := List.mem_map.mp hx
        have a2' : (if q.1 ∈ m.map (·.1) then none else s.heap.get? q.1) = none := (H'.own q hq).2.1
        split at a2'
        · rename_i hqm
          exact (List.nodup_append.mp this).2.2 q.1 hqm q.1 hy rfl
        · obtain ⟨q₂, hq₂, e⟩ := List.mem_map.mp hy
          have := (H.own q₂ (List.mem_append_right _ hq₂)).1
          rw [e, a2'] at this; cases this
      names := H.names
      kinds := H.kinds
      fk := H.fk
      gl := H.gl
      loc := ⟨mL, hnL.at' fun o e => keep' _ o hLm e, hvL⟩
      cel := fun x c hc => by
        obtain ⟨v, hv, hu⟩ := H.cel x c hc
        obtain ⟨o, ho, hd⟩ := id hv
        exact ⟨v, ⟨o, keep' c o (hcm c v hv) ho, hd⟩, hu⟩
      lk := H.lk
      lb := hb' _ (by rw [hoL]; simp) hLm H.lb
      ck := fun x c hc hl => by
        obtain ⟨v, hv, hu⟩ := H.cel x c hc
        obtain ⟨o, ho, hd⟩ := id hv
        exact ⟨(H.ck x c hc hl).1, hb' _ (by rw [ho]; simp) (hcm c v hv) (H.ck x c hc hl).2⟩
      apart := H.apart }
    have := hQ s' hgk Hc
    cases fl <;> exact this

/-- the frame of a def of the text -/
noncomputable def mkEnv (sc : Scope) (L f : Addr) (q : Str) (cd : Value) : Env :=
  { scope := sc, locals := L, globals := mainGlobals, cells := cellsFrom (L + 1) sc.names [], qual := q, func := some f, code := cd, frame := some L, builtins := builtinsNs }

theorem call_fn (G : GL K p loose mg mb H₀) (hA : AOk (n + 1) A) {m : Own} (H : St H₀ env k b σ (m ++ w) r s) {f : Addr} {oc : Value} {od : Option Addr} {osl : Array (Option Value)} {body : List Stmt} {vals : List Value}
    (nms : List Str) {σ₀ : Vars} {Q : Value → Shared → Prop} {nm ql : Str} {params : Arguments} {sc : Scope} {dV kV doc pm cdv ct : Value} {an : Option Addr}
    (hf : K.lookup f = some ⟨oc, od, .func ⟨nm, ql, params, .stmts body, sc, mainGlobals, [], dV, kV, doc, pm, an, cdv, ct, builtinsNs⟩, osl⟩) (hcd : codeIn K cdv ql = true)
    (hbind : bindArgs ⟨nm, ql, params, .stmts body, sc, mainGlobals, [], dV, kV, doc, pm, an, cdv, ct, builtinsNs⟩ ⟨vals, []⟩ = pure (nms.zip vals))
    (hsc : goodScope sc nms = true) (hσ : σ₀ = (varNames sc).map fun x => (x, bnd (nms.zip vals) (fun _ => none) x))
    (h : ∀ L k' s₁ q cd A', AOk n A' → St H₀ (mkEnv sc L f q cd) k' b σ₀ m r s₁ →
      wpAny (model prog wd) A' (execs body (mkEnv sc L f q cd)) (fun fl s' => CPost H₀ (mkEnv sc L f q cd) env k k' b σ w r Q fl s') (fun _ _ => False) s₁) :
    wpAny (model prog wd) A (call (.ref f) vals) Q E s :=
  call_fn0 G hA H nms hf hcd rfl hbind rfl ⟨rfl, rfl⟩ hsc hσ fun L k' s₁ a c => h L k' s₁ _ _ _ a c
end
end Mine
end

section
set_option maxRecDepth 100000
set_option Elab.async false
namespace Mine
open PySem PySem.Calls PySem.W PyProof.Rows

noncomputable def Mut (env : Env) (w : Own) (a : Addr) : Prop := a = env.locals ∨ (@LT.lt Nat _ env.locals a ∧ ∃ x, env.cells.lookup x = some a) ∨ a ∈ w.map (·.1)
open Classical in
noncomputable def fullk (env : Env) (w : Own) (h : Heap) : WM := fun a => if Mut env w a then none else h.get? a

noncomputable def Off (env : Env) (k b : WM) (w : Own) (wr : List Addr) : Prop := ∀ a ∈ wr, k a = none ∧ b a = none ∧ a ∉ w.map (·.1) ∧ a ≠ env.locals ∧ ∀ x c, env.cells.lookup x = some c → c ≠ a

section
variable {H₀ : Heap} {env : Env} {k b b' : WM} {σ σ' : Vars} {w w' : Own} {r : RestT} {s : Shared} {wr : List Addr}

theorem fullk_some {h : Heap} {a : Addr} {o : Obj} (e : fullk env w h a = some o) : ¬ Mut env w a ∧ h.get? a = some o := by
  unfold fullk at e
  split at e
  · cases e
  · exact ⟨‹_›, e⟩
theorem fullk_of {h : Heap} {a : Addr} (hm : ¬ Mut env w a) : fullk env w h a = h.get? a := by
  unfold fullk; rw [if_neg hm]
theorem fullk_mut {h : Heap} {a : Addr} (hm : Mut env w a) : fullk env w h a = none := by
  unfold fullk; rw [if_pos hm]
theorem St.notMut (H : St H₀ env k b σ w r s) {a : Addr} {o : Obj} (e : k a = some o) : ¬ Mut env w a := by
  rintro (q | ⟨hf, x, hc⟩ | hm)
  · rw [q, H.lk] at e; cases e
  · rw [(H.ck x a hc hf).1] at e; cases e
  · obtain ⟨p, hp, q⟩ := List.mem_map.mp hm
    rw [← q, (H.own p hp).2.1] at e; cases e
theorem St.subFull (H : St H₀ env k b σ w r s) : Sub k (fullk env w s.heap) := fun a o e => by
  rw [fullk_of (H.notMut e)]; exact H.keep a o e
theorem St.full (H : St H₀ env k b σ w r s) : St H₀ env (fullk env w s.heap) b σ w r s :=
  { H with
    bk := fun a o e => H.subFull a o (H.bk a o e)
    keep := fun a o e => (fullk_some e).2
    own := fun p hp => ⟨(H.own p hp).1, fullk_mut (.inr (.inr (List.mem_map_of_mem hp))), (H.own p hp).2.2⟩
    lk := fullk_mut (.inl rfl)
    ck := fun x c h hl => ⟨fullk_mut (.inr (.inl ⟨hl, x, h⟩)), (H.ck x c h hl).2⟩ }
theorem St.extBut (H : St H₀ env k b σ w r s) (off : Off env k b w wr) {h' : Heap} {tk : Nat} (x : ∀ a o, a ∉ wr → s.heap.get? a = some o → h'.get? a = some o) :
    St H₀ env k b σ w r { s with heap := h', toks := tk } :=
  { H with
    rest := H.rest
    keep := fun a o e => x a o (fun hm => by rw [(off a hm).1] at e; cases e) (H.keep a o e)
    froz := fun a o e => x a o (fun hm => by rw [(off a hm).2.1] at e; cases e) (H.froz a o e)
    own := fun p hp => ⟨x _ _ (fun hm => (off _ hm).2.2.1 (List.mem_map_of_mem hp)) (H.own p hp).1, (H.own p hp).2⟩
    loc := by
      obtain ⟨m, hn, hm⟩ := H.loc
      exact ⟨m, hn.at' fun o e => x _ o (fun hm => (off _ hm).2.2.2.1 rfl) e, hm⟩
    cel := fun y c hc => by
      obtain ⟨v, ⟨o, ho, hd⟩, hu⟩ := H.cel y c hc
      exact ⟨v, ⟨o, x c o (fun hm => (off _ hm).2.2.2.2 y c hc rfl) ho, hd⟩, hu⟩ }
/-- what a turn leaves -/
theorem Off.after (off : Off env k b w wr) (H : St H₀ env k b σ w r s) (hin : ∀ a ∈ wr, s.heap.get? a ≠ none) {s' : Shared} (hg : Gr (fullk env w s.heap) b b') (H' : St H₀ env (fullk env w s.heap) b' σ' w' r s') : Off env k b' w' wr := fun a ha => by
  obtain ⟨h1, h2, h3, h4, h5⟩ := off a ha
  have hm : ¬ Mut env w a := by
    rintro (q | ⟨hf, x, hc⟩ | hm)
    · exact h4 q
    · exact h5 x a hc rfl
    · exact h3 hm
  have hk : fullk env w s.heap a ≠ none := by rw [fullk_of hm]; exact hin a ha
  refine ⟨h1, ?_, fun q => ?_, h4, h5⟩
  · cases e : b' a with
    | none => rfl
    | some o => exact absurd (hg.2 a (by rw [e]; simp) h2) hk
  · obtain ⟨p, hp, e⟩ := List.mem_map.mp q
    exact hk (by rw [← e]; exact (H'.own p hp).2.1)
theorem Off.gr (off : Off env k b w wr) (H : St H₀ env k b' σ w r s) (hb : ∀ a ∈ wr, b' a = none) : Off env k b' w wr := fun a ha => ⟨(off a ha).1, hb a ha, (off a ha).2.2⟩
end

structure Itr (prog : Program) (wd : World) (A : Around) (target : Expr) (I : Addr) (fp wr : List Addr) (n : Nat) (P : Nat → WM → Value → Prop) (Si : Nat → Heap → Prop) : Prop where
  sub : ∀ a ∈ wr, a ∈ fp
  here : ∀ i h, Si i h → ∀ a ∈ wr, h.get? a ≠ none
  frame : ∀ i h h', Si i h → (∀ a ∈ fp, ∀ o, h.get? a = some o → h'.get? a = some o) → Si i h'
  turn : ∀ i (H₀ : Heap) (env : Env) (k b : WM) (σ : Vars) (w : Own) (r : RestT) (s : Shared) (Q : Value → Shared → Prop) (E : Value → Shared → Prop), i < n → Si i s.heap → St H₀ env k b σ w r s → Off env k b w wr →
    (∀ v b' s', Gr k b b' → (∀ a ∈ wr, b' a = none) → P i b' v → Si (i + 1) s'.heap → St H₀ env k b' σ w r s' → Q v s') →
    wpAny (model prog wd) A (pyNext (.ref I)) (fun x s₁ => match x with
      | none => False
      | some v => wpAny (model prog wd) A (letOwnedTupleGo target (.ref I) v) (fun _ s₂ => Q v s₂) E s₁) E s
  done : ∀ (H₀ : Heap) (env : Env) (k b : WM) (σ : Vars) (w : Own) (r : RestT) (s : Shared) (Q : Shared → Prop) (E : Value → Shared → Prop), Si n s.heap → St H₀ env k b σ w r s → Off env k b w wr →
    (∀ s', St H₀ env k b σ w r s' → Q s') → wpAny (model prog wd) A (pyNext (.ref I)) (fun x s₁ => match x with
      | none => Q s₁
      | some _ => False) E s
  self : ∀ i (s : Shared) (Q : Value → Shared → Prop) (E : Value → Shared → Prop), Si i s.heap → Q (.ref I) s → wpAny (model prog wd) A (pyIter (.ref I)) Q E s

section
variable {prog : Program} {wd : World} {H₀ : Heap} {env : Env} {k b : WM} {σ : Vars} {w : Own} {r : RestT} {s : Shared} {A : Around} {E : Value → Shared → Prop}

theorem lget {h : Heap} {ax : Addr} {vs : List Value} {n : Nat} (e : h.get? ax = some (lstO vs n)) : h.IsList ax vs.toArray := ⟨_, e, rfl, n, rfl⟩

theorem itr_list (hh : A.handled = none) {x : Str} {px : Pos} {I ax : Addr} (hne : ax ≠ I) (vs : List Value) (nn : Nat) :
    Itr prog wd A (.Name x px) I [I, ax] [I] vs.length (fun i _ v => vs[i]? = some v) (fun i h => h.IsListIter I ax i ∧ h.get? ax = some (lstO vs nn)) where
  sub := fun a ha => by simp at ha; simp [ha]
  here := fun i h hs a ha => by
    simp at ha; subst ha
    obtain ⟨o, ho, _⟩ := hs.1
    rw [ho]; simp
  frame := fun i h h' hs hk => ⟨hs.1.at fun o e => hk I (by simp) o e, hk ax (by simp) _ hs.2⟩
  turn := fun i H₀ env k b σ w r s Q E hi hs H off hQ => by
    refine wpAny_mono (wpAny_pyNext_list_item hs.1 (lget hs.2) (x := vs[i]) (by simp [hi]) (Q := fun x s₁ => match x with | none => False | some v => Q v s₁) fun h' hit' hs' => ?_) (fun x s₁ h => ?_) fun _ _ e => e
    · have hx : ∀ a o, a ∉ [I] → s.heap.get? a = some o → h'.get? a = some o := fun a o ha e => hs'.extBut a o (fun q => ha (by simp [q])) e
      exact hQ _ b _ (Gr.refl k b) (fun a ha => (off a ha).2.1) (by simp [hi]) ⟨hit', hs'.extBut ax _ hne hs.2⟩ (H.extBut off hx)
    · cases x with
      | none => exact h
      | some v => exact wpAny_of_eq rfl h
  done := fun H₀ env k b σ w r s Q E hs H off hQ => by
    refine wpAny_mono (wpAny_pyNext_list_end hh hs.1 (lget hs.2) (by simp) (Q := fun x s₁ => match x with | none => Q s₁ | some _ => False) fun h' he' => ?_) (fun x s₁ h => h) fun _ _ e => e
    exact hQ _ (H.extBut off fun a o ha e => he' a o (fun q => ha (by simp [q])) e)
  self := fun i s Q E hs hQ => wpAny_pyIter_listiter hs.1 hQ

theorem itr_range (hh : A.handled = none) {x : Str} {px : Pos} {I : Addr} (a : Int) (n : Nat) :
    Itr prog wd A (.Name x px) I [I] [I] n (fun i _ v => ∃ t, v = .int (a + (i : Int)) t) (fun i h => IsRangeIter h I (a + (i : Nat) * 1) ((n : Int) - (i : Nat)) 1) where
  sub := fun a ha => ha
  here := fun i h hs a ha => by simp at ha; subst ha; rw [show h.get? a = _ from hs]; simp
  frame := fun i h h' hs hk => hk I (by simp) _ hs
  turn := fun i H₀ env k b σ w r s Q E hi hs H off hQ => by
    refine wpAny_mono ((Walks.range (prog := prog) (w := wd) hh I a 1 n).item i s (fun x s₁ => match x with | none => False | some v => Q v s₁) E hi hs fun v h' tk hP hs' hk => ?_) (fun x s₁ h => ?_) fun _ _ e => e
    · obtain ⟨t, rfl⟩ := hP
      exact hQ _ b _ (Gr.refl k b) (fun a ha => (off a ha).2.1) ⟨t, by rw [Int.mul_one]⟩ hs' (H.extBut off fun a o ha e => hk a o ha e)
    · cases x with
      | none => exact h
      | some v => exact wpAny_of_eq rfl h
  done := fun H₀ env k b σ w r s Q E hs H off hQ => by
    refine wpAny_mono ((Walks.range (prog := prog) (w := wd) hh I a 1 n).done s (fun x s₁ => match x with | none => Q s₁ | some _ => False) E hs fun h' tk hk => ?_) (fun x s₁ h => h) fun _ _ e => e
    exact hQ _ (H.extBut off fun a o ha e => hk a o ha e)
  self := fun i s Q E hs hQ => wpAny_pyIter_rangeiter hs hQ

/-- what a turn owes -/
inductive LPost (H₀ : Heap) (env : Env) (k b : WM) (r : RestT) (J : WM → Vars → Own → Prop) (s : Shared) : Prop
  | mk (b' : WM) (σ' : Vars) (w' : Own) (g : Gr k b b') (h : St H₀ env k b' σ' w' r s) (j : J b' σ' w') : LPost H₀ env k b r J s
/-- what a turn owes, by the way it ends -/
noncomputable def FPost (H₀ : Heap) (env : Env) (k k' b b' : WM) (r : RestT) (J : WM → Vars → Own → Prop) (Q : Flow → Shared → Prop) (fl : Flow) (s : Shared) : Prop := match fl with
  | .next | .cont => LPost H₀ env k' b' r J s
  | .brk => False
  | .ret v => LPost H₀ env k' b' r (fun b'' σ'' w'' => ∀ s₄, Gr k b b'' → St H₀ env k b'' σ'' w'' r s₄ → Q (.ret v) s₄) s
/-- the loop -/
theorem for_core {target : Expr} {I : Addr} {fp wr : List Addr} {n : Nat} {P : Nat → WM → Value → Prop} {Si : Nat → Heap → Prop} {body : List Stmt} {Q : Flow → Shared → Prop} {EE : Value → Shared → Prop}
    (W : Itr prog wd A target I fp wr n P Si) (H : St H₀ env k b σ w r s) (off : Off env k b w wr) (hs0 : Si 0 s.heap) (hfp : ∀ a ∈ fp, a ∈ wr ∨ ∃ o, b a = some o)
    (Inv : Nat → WM → Vars → Own → Prop) (h0 : Inv 0 b σ w)
    (step : ∀ i v k' b' σ' w' s', i < n → Sub k k' → Gr k b b' → Inv i b' σ' w' → P i b' v → St H₀ env k' b' σ' w' r s' →
      wpAny (model prog wd) A (assign target env v) (fun _ s₂ => wpAny (model prog wd) A (execs body env) (FPost H₀ env k k' b b' r (Inv (i + 1)) Q) (fun _ _ => False) s₂) (fun _ _ => False) s')
    (mono : ∀ i b' b'' σ' w', Sub b' b'' → Inv i b' σ' w' → Inv i b'' σ' w')
    (fin : ∀ b' σ' w' s', Gr k b b' → Inv n b' σ' w' → St H₀ env k b' σ' w' r s' → Q .next s') :
    codeAny (model prog wd) A (.forLoop target (.ref I) body [] env) (fun x s' => match x with | .ok f => Q f s' | .error e => EE e s') s := by
  refine codeAny_forLoop_any (fun m s' => X4_7 (fun i b' σ' w' => m = n + 1 - i) (fun i b' σ' w' => i ≤ n) (fun i b' σ' w' => Gr k b b') (fun i b' σ' w' => St H₀ env k b' σ' w' r s') (fun i b' σ' w' => Off env k b' w' wr) (fun i b' σ' w' => Si i s'.heap) (fun i b' σ' w' => Inv i b' σ' w')) ?_ (n + 1)
    ⟨0, b, σ, w, rfl, Nat.zero_le _, Gr.refl k b, H, off, hs0, h0⟩
  rintro m s' ⟨i, b₁, σ₁, w₁, rfl, hi, hg, H₁, off₁, hsi, hinv⟩
  by_cases hlt : i < n
  · refine wpAny_mono (W.turn i H₀ env k b₁ σ₁ w₁ r s' (fun v s₂ => wpAny (model prog wd) A (assign target env v) (fun _ s₂ => wpAny (model prog wd) A (execs body env) (fun fl s₃ => match fl with
        | .next | .cont => ∃ m, m < n + 1 - i ∧ X4_7 (fun i b' σ' w' => m = n + 1 - i) (fun i b' σ' w' => i ≤ n) (fun i b' σ' w' => Gr k b b') (fun i b' σ' w' => St H₀ env k b' σ' w' r s₃) (fun i b' σ' w' => Off env k b' w' wr) (fun i b' σ' w' => Si i s₃.heap) (fun i b' σ' w' => Inv i b' σ' w')
        | .brk => Q .next s₃
        | .ret v => Q (.ret v) s₃) (fun _ _ => False) s₂) (fun _ _ => False) s₂) (fun _ _ => False) hlt hsi H₁ off₁ (fun v b₂ s₂ hg₂ hwr hP hsi₂ H₂ => ?_)) (fun x s₁ h => ?_) fun _ _ f => f.elim
    · have off₂ : Off env k b₂ w₁ wr := off₁.gr H₂ hwr
      refine wpAny_mono (step i v (fullk env w₁ s₂.heap) b₂ σ₁ w₁ s₂ hlt H₂.subFull (hg.trans hg₂) (mono _ _ _ _ _ hg₂.1 hinv) hP H₂.full) (fun _ s₃ h₃ => ?_) fun _ _ f => f.elim
      refine wpAny_mono h₃ (fun fl s₄ h₄ => ?_) fun _ _ f => f.elim
      have key : LPost H₀ env (fullk env w₁ s₂.heap) b₂ r (Inv (i + 1)) s₄ →
          ∃ m, m < n + 1 - i ∧ X4_7 (fun i b' σ' w' => m = n + 1 - i) (fun i b' σ' w' => i ≤ n) (fun i b' σ' w' => Gr k b b') (fun i b' σ' w' => St H₀ env k b' σ' w' r s₄) (fun i b' σ' w' => Off env k b' w' wr) (fun i b' σ' w' => Si i s₄.heap) (fun i b' σ' w' => Inv i b' σ' w') := by
        rintro ⟨b₃, σ₃, w₃, hg₃, H₃, hinv₃⟩
        refine ⟨n + 1 - (i + 1), by lia, i + 1, b₃, σ₃, w₃, rfl, hlt, hg.trans (hg₂.trans (hg₃.sub H₂.subFull)), H₃.weak H₂.subFull H.bk, off₂.after H₂ (W.here _ _ hsi₂) hg₃ H₃, W.frame _ _ _ hsi₂ fun a ha o e => ?_, hinv₃⟩
        rcases hfp a ha with hw | ⟨o', ho'⟩
        · obtain ⟨_, _, q3, q4, q5⟩ := off₂ a hw
          refine H₃.keep a o ?_
          rw [fullk_of]
          · exact e
          · rintro (q | ⟨hf, x, hc⟩ | hm)
            · exact q4 q
            · exact q5 x a hc rfl
            · exact q3 hm
        · have h1 := (hg.trans hg₂).1 a o' ho'
          have h2 := H₂.froz a o' h1
          rw [e] at h2
          cases h2
          exact H₃.froz a o (hg₃.1 a o h1)
      cases fl with
      | next => exact key h₄
      | cont => exact key h₄
      | brk => exact h₄.elim
      | ret u =>
        obtain ⟨b₃, σ₃, w₃, hg₃, H₃, hq⟩ := h₄
        exact hq s₄ (hg.trans (hg₂.trans (hg₃.sub H₂.subFull))) (H₃.weak H₂.subFull H.bk)
    · cases x with
      | none => exact h.elim
      | some v =>
        refine wpAny_mono h (fun _ s₂ h₂ => ?_) fun _ _ f => f.elim
        refine wpAny_mono h₂ (fun _ s₃ h₃ => ?_) fun _ _ f => f.elim
        exact wpAny_mono h₃ (fun fl s₄ h₄ => by cases fl <;> exact h₄) fun _ _ f => f.elim
  · have hin : i = n := by lia
    subst hin
    refine wpAny_mono (W.done H₀ env k b₁ σ₁ w₁ r s' (fun s₁ => Q .next s₁) (fun _ _ => False) hsi H₁ off₁ fun s₂ H₂ => fin b₁ σ₁ w₁ s₂ hg hinv H₂) (fun x s₁ h => ?_) fun _ _ f => f.elim
    cases x with
    | none => exact wpAny_execs_nil h
    | some v => exact h.elim

/-- an iterator over a list that stands -/
theorem src_list (hh : A.handled = none) {ax : Addr} {vs : List Value} {nn : Nat} {Q : Value → Shared → Prop} (H : St H₀ env k b σ w r s) (hl : b ax = some (lstO vs nn))
    (h : ∀ I s', (∀ x px, Itr prog wd A (.Name x px) I [I, ax] [I] vs.length (fun i _ v => vs[i]? = some v) (fun i h => h.IsListIter I ax i ∧ h.get? ax = some (lstO vs nn))) → St H₀ env k b σ w r s' → Off env k b w [I] →
      (s'.heap.IsListIter I ax 0 ∧ s'.heap.get? ax = some (lstO vs nn)) → (∀ a ∈ [I, ax], a ∈ [I] ∨ ∃ o, b a = some o) → Q (.ref I) s') :
    wpAny (model prog wd) A (pyIter (.ref ax)) Q E s := by
  have hax := H.froz _ _ hl
  refine wpAny_pyIter_list (lget hax) ?_
  have up : ∀ a o, s.heap.get? a = some o → (s.heap.push { cls := .type "list_iterator", data := .fields #[.ref ax, .int 0 0] }).get? a = some o := fun a o e => Heap.get?_push_of_some _ e
  have hn : s.heap.get? s.heap.objs.size = none := get_size_none _
  refine h _ _ (fun _ _ => itr_list hh (Nat.ne_of_lt (Heap.lt_size hax)) vs nn) (H.heap up) (fun a ha => ?_) ⟨⟨_, Heap.get?_push_size _ rfl, rfl, rfl⟩, up _ _ hax⟩ (fun a ha => ?_)
  · simp at ha; subst ha
    obtain ⟨h1, h2⟩ := H.fresh hn
    refine ⟨h1, h2, fun hm => ?_, fun q => ?_, fun y c hc q => ?_⟩
    · obtain ⟨p, hp, e⟩ := List.mem_map.mp hm
      have := (H.own p hp).1; rw [e, hn] at this; cases this
    · obtain ⟨oL, _, _, hL, _⟩ := H.ns_dict; rw [← q, hn] at hL; cases hL
    · obtain ⟨v, ⟨oc, hoc, _⟩, _⟩ := H.cel y c hc; rw [q, hn] at hoc; cases hoc
  · simp at ha
    rcases ha with rfl | rfl
    · left; simp
    · right; exact ⟨_, hl⟩

theorem src_range (hh : A.handled = none) {q : Addr} {a c : Int} {t u v : Tok} {n : Nat} {Q : Value → Shared → Prop} (H : St H₀ env k b σ w r s) (hr : IsRange s.heap q a c 1 t u v) (hsm : Builtin.Range.small a c 1 = true)
    (hn : Builtin.Range.rangeSize a c 1 = ((n : Nat) : Int))
    (h : ∀ I s', (∀ x px, Itr prog wd A (.Name x px) I [I] [I] n (fun i _ v => ∃ t, v = .int (a + (i : Int)) t) (fun i h => IsRangeIter h I (a + (i : Nat) * 1) ((n : Int) - (i : Nat)) 1)) → St H₀ env k b σ w r s' → Off env k b w [I] →
      IsRangeIter s'.heap I (a + ((0 : Nat) : Nat) * 1) ((n : Int) - ((0 : Nat) : Nat)) 1 → (∀ a ∈ [I], a ∈ [I] ∨ ∃ o, b a = some o) → Q (.ref I) s') :
    wpAny (model prog wd) A (pyIter (.ref q)) Q E s := by
  refine wpAny_pyIter_range hr hsm ?_
  have up : ∀ a' o, s.heap.get? a' = some o → (s.heap.push { cls := .type "range_iterator", data := .fields #[rawInt a, rawInt (Builtin.Range.rangeSize a c 1), rawInt 1] }).get? a' = some o := fun a o e => Heap.get?_push_of_some _ e
  have hnn : s.heap.get? s.heap.objs.size = none := get_size_none _
  refine h _ _ (fun _ _ => itr_range hh a n) (H.heap up) (fun a ha => ?_) ?_ (fun a ha => .inl ha)
  · simp at ha; subst ha
    obtain ⟨h1, h2⟩ := H.fresh hnn
    refine ⟨h1, h2, fun hm => ?_, fun q => ?_, fun y c hc q => ?_⟩
    · obtain ⟨p, hp, e⟩ := List.mem_map.mp hm
      have := (H.own p hp).1; rw [e, hnn] at this; cases this
    · obtain ⟨oL, _, _, hL, _⟩ := H.ns_dict; rw [← q, hnn] at hL; cases hL
    · obtain ⟨v, ⟨oc, hoc, _⟩, _⟩ := H.cel y c hc; rw [q, hnn] at hoc; cases hoc
  · show IsRangeIter _ _ _ _ _
    rw [hn]
    simpa using Heap.get?_push_size _ rfl
end
end Mine
end

section
set_option maxRecDepth 100000
set_option Elab.async false
set_option linter.unusedVariables false
namespace Mine
open PySem PySem.Calls PySem.W PyProof.Rows

section
variable {prog : Program} {wd : World} {H₀ : Heap} {env : Env} {k b : WM} {σ σ' : Vars} {w : Own} {r : RestT} {s : Shared} {A : Around} {E : Value → Shared → Prop} {R : Result → Shared → Prop}

noncomputable abbrev testsOf (ifs : List Expr) (env : Env) : Sem Bool := forIn ifs true fun c r => if r = true then do let ok ← isTrue c env (eval c env); pure (ForInStep.yield ok) else pure (ForInStep.yield r)

theorem tests_nil {Q : Bool → Shared → Prop} (h : Q true s) : wpAny (model prog wd) A (testsOf [] env) Q E s := wpAny_pure h
theorem tests_one {c : Expr} {Q : Bool → Shared → Prop} (h : wpAny (model prog wd) A (isTrue c env (eval c env)) Q E s) : wpAny (model prog wd) A (testsOf [c] env) Q E s := wpAny_tests_one h

theorem compLoop1 {elt target iter : Expr} {ifs : List Expr} {scope : Scope} {pos : Pos} {it acc : Value} (I : Nat → Shared → Prop)
    (turn : ∀ n s, I n s → wpAny (model prog wd) A (pyNext it) (fun x s₁ => match x with
      | none => R (.ok .next) s₁
      | some v => wpAny (model prog wd) A (letOwnedTupleGo target it v) (fun _ s₁' => wpAny (model prog wd) A (assign target env v) (fun _ s₂ =>
          wpAny (model prog wd) A (testsOf ifs env) (fun ok s₃ =>
            if ok = true then wpAny (model prog wd) A (eval elt env) (fun x s₄ =>
              wpAny (model prog wd) A (call (.builtin "list.append") [acc, x]) (fun _ s₅ => ∃ m, m < n ∧ I m s₅) (fun _ _ => False) s₄) (fun _ _ => False) s₃
            else ∃ m, m < n ∧ I m s₃) (fun _ _ => False) s₂) (fun _ _ => False) s₁') (fun _ _ => False) s₁) (fun _ _ => False) s)
    (n : Nat) (h : I n s) : codeAny (model prog wd) A (.compLoop (.ListComp elt [⟨target, iter, ifs, 0⟩] scope pos) 0 it acc env) R s := by
  refine codeAny_loop rfl I (fun n s hI => ?_) n h
  show wpAny _ A ((compTurn (.ListComp elt [⟨target, iter, ifs, 0⟩] scope pos) 0 it acc env).onRaise (fun x => do noteFrame x env; theTreesLotGoes x)) _ _ s
  refine wpAny_noted ?_
  rw [compTurn_list]
  refine wpAny_bind (wpAny_standAt (wpAny_bind (wpAny_mono (turn n s hI) (fun x s₁ h₁ => ?_) fun _ _ h' => h'.elim)))
  cases x with
  | none => exact wpAny_pure h₁
  | some v =>
    refine wpAny_bind (wpAny_mono h₁ (fun _ s₁' h₁' => ?_) fun _ _ h' => h'.elim)
    refine wpAny_bind (wpAny_mono h₁' (fun _ s₂ h₂ => wpAny_bind (wpAny_mono h₂ (fun ok s₃ h₃ => ?_) fun _ _ h' => h'.elim)) fun _ _ h' => h'.elim)
    cases ok with
    | false => exact wpAny_pure ⟨rfl, h₃⟩
    | true => exact wpAny_bind (wpAny_bind (wpAny_mono h₃ (fun x s₄ h₄ => wpAny_bind (wpAny_mono h₄ (fun _ s₅ h₅ => wpAny_pure (wpAny_pure ⟨rfl, h₅⟩)) fun _ _ h' => h'.elim)) fun _ _ h' => h'.elim))

theorem append_lst {D : Addr} {ys : List Value} {y : Value} {Q : Value → Shared → Prop} (hD : s.heap.get? D = some (lstO ys ys.length)) (hsz : ys.length ≤ sizeLine)
    (hQ : ∀ h', h'.get? D = some (lstO (ys ++ [y]) (ys ++ [y]).length) → Heap.SameBut D s.heap h' → Q .none { s with heap := h' }) : wpAny (model prog wd) A (call (.builtin "list.append") [.ref D, y]) Q E s := by
  refine append_at (hsz := by show ys.toArray.size ≤ sizeLine; rw [List.size_toArray]; exact hsz) (show s.heap.get? D = some (LCg.lst ys) from hD) fun h₅ hs₅ hD₅ => ?_
  exact hQ h₅ (hD₅.trans (congrArg some (LCg.lst_snoc ys y))) hs₅

theorem St.addK (H : St H₀ env k b σ w r s) {D : Addr} {o : Obj} (hD : s.heap.get? D = some o) (hl : D ≠ env.locals) (hw : D ∉ w.map (·.1)) (hc : ∀ x c, env.cells.lookup x = some c → @LT.lt Nat _ env.locals c → c ≠ D) (hk : k D = none) :
    St H₀ env (upd k D o) b σ w r s ∧ Sub k (upd k D o) :=
  have hs : Sub k (upd k D o) := fun a o' e => by
    unfold upd
    by_cases q : a = D
    · subst q; rw [hk] at e; cases e
    · rw [if_neg q]; exact e
  ⟨{ H with
    bk := fun a o e => hs a o (H.bk a o e)
    keep := fun a o' e => by
      unfold upd at e
      by_cases q : a = D
      · subst q; rw [if_pos rfl] at e; cases e; exact hD
      · rw [if_neg q] at e; exact H.keep a o' e
    own := fun p hp => ⟨(H.own p hp).1, by
      show upd k D o p.1 = none
      unfold upd
      rw [if_neg (fun q => hw (by rw [← q]; exact List.mem_map_of_mem hp))]; exact (H.own p hp).2.1, (H.own p hp).2.2⟩
    lk := by unfold upd; rw [if_neg (Ne.symm hl)]; exact H.lk
    ck := fun x c h hf => ⟨by unfold upd; rw [if_neg (hc x c h hf)]; exact (H.ck x c h hf).1, (H.ck x c h hf).2⟩ }, hs⟩

theorem cellsFrom_app : ∀ (names : List (Str × NameKind)) (n : Nat) (acc : List (Str × Addr)), cellsFrom n names acc = cellsFrom n names [] ++ acc
  | [], _, _ => rfl
  | (x, kd) :: r, n, acc => by
    unfold cellsFrom
    split
    · rw [cellsFrom_app r (n + 1) ((x, n) :: acc), cellsFrom_app r (n + 1) [(x, n)], List.append_assoc]; rfl
    · exact cellsFrom_app r n acc
theorem cellsFrom_mem : ∀ (names : List (Str × NameKind)) (n : Nat) {x : Str} {c : Addr}, (x, c) ∈ cellsFrom n names [] → (x, NameKind.cell) ∈ names
  | [], _, _, _, h => by cases h
  | (y, kd) :: r, n, x, c, h => by
    unfold cellsFrom at h
    split at h
    · rename_i hk
      rw [cellsFrom_app] at h
      rcases List.mem_append.mp h with h | h
      · exact List.mem_cons_of_mem _ (cellsFrom_mem r _ h)
      · cases List.mem_singleton.mp h
        rw [beq_iff_eq.mp hk]; exact List.mem_cons_self
    · exact List.mem_cons_of_mem _ (cellsFrom_mem r _ h)
theorem cellsFrom_lookup {names : List (Str × NameKind)} {n : Nat} {acc : List (Str × Addr)} {x : Str} {c : Addr} (h : (cellsFrom n names acc).lookup x = some c) :
    (cellsFrom n names []).lookup x = some c ∨ acc.lookup x = some c := by
  rw [cellsFrom_app, List.lookup_append] at h
  cases e : (cellsFrom n names []).lookup x with
  | none => rw [e] at h; exact .inr h
  | some d => rw [e] at h; exact .inl h

/-- the block of a comprehension, with cells of its own -/
noncomputable abbrev compEnvX (scope : Scope) (cl : List (Str × Addr)) (C : Addr) (env : Env) : Env :=
  { scope := relabel scope env, locals := C, globals := env.globals, cells := cellsFrom (C + 1) scope.names cl, qual := env.qual, func := none, code := env.code, frame := env.frame, builtins := env.builtins }

theorem newEnvX {scope : Scope} {globals : Addr} {cl : List (Str × Addr)} {qual : Str} {outer : Env} {bi : Addr} {Q : Env → Shared → Prop}
    (h : ∀ h', h'.Ns s.heap.objs.size (fun _ => none) → (∀ a o, s.heap.get? a = some o → h'.get? a = some o) → CellsOk h' (s.heap.objs.size + 1) (cellsFrom (s.heap.objs.size + 1) scope.names []) →
      Q (newEnv scope s.heap.objs.size globals (cellsFrom (s.heap.objs.size + 1) scope.names cl) qual none .none (some outer) bi) { s with heap := h' }) :
    wpAny (model prog wd) A (newFunctionEnv scope globals cl [] qual none .none (some outer) bi) Q E s := by
  simp only [newFunctionEnv, Option.isSome_some, if_true]
  refine wpAny_bind (wpAny_alloc ?_)
  refine wpAny_bind (PySem.wpAny_layCells _ (fun name kind cells => ?_) scope.names cl _ _ ?_)
  · split
    · rfl
    · rfl
  · rw [List.forIn_nil]
    refine wpAny_bind (wpAny_pure (wpAny_pure ?_))
    generalize hH : s.heap.push { cls := .type "dict", data := .dict #[] } = H2
    have hsz : H2.objs.size = s.heap.objs.size + 1 := by rw [← hH]; exact Heap.size_push ..
    have := h (pushCells H2 scope.names) ?_ (fun a o e => pushCells_keeps _ _ _ _ (hH ▸ Heap.get?_push_of_some _ e)) ?_
    · dsimp only
      rw [hsz]; exact this
    · have hn : H2.Ns s.heap.objs.size (fun _ => none) := by rw [← hH]; exact Heap.Ns.new ..
      exact hn.keeps fun a o e => pushCells_keeps _ _ _ _ e
    · have := cellsFrom_ok scope.names H2 (s.heap.objs.size + 1) [] ⟨fun n c hm => (List.not_mem_nil hm).elim, List.Pairwise.nil⟩ (by lia)
      rwa [hsz] at this

/-- what a turn of a comprehension owes -/
inductive SPost (H₀ : Heap) (env : Env) (k b : WM) (r : RestT) (σc : Vars) (J : WM → Own → Prop) (s : Shared) : Prop
  | mk (b' : WM) (σ' : Vars) (w' : Own) (g : Gr k b b') (h : St H₀ env k b' σ' w' r s) (v : ∀ p ∈ σc, p.2 = none ∧ p.1 ∈ σ'.map (·.1) ∨ p ∈ σ') (j : J b' w') : SPost H₀ env k b r σc J s
section
variable {w' : Own}
theorem app_own {l : Addr} {vs : List Value} {nn : Nat} {v : Value} {Q : Value → Shared → Prop} (H : St H₀ env k b σ w r s) (hm : s.heap.get? l = some (lstO vs nn)) (hz : vs.length ≤ sizeLine)
    (hp : Put l (lstO (vs ++ [v]) (nn + 1)) w w') (h : ∀ s', St H₀ env k b σ w' r s' → Q .none s') : wpAny (model prog wd) A (call (.builtin "list.append") [.ref l, v]) Q E s := by
  refine append_at (hsz := by rw [List.size_toArray]; exact hz) hm fun h' hs' hD => ?_
  refine h _ (H.write (tk := s.toks) hp ?_ ⟨_, _, rfl⟩ hs')
  rw [hD]; simp [lstO]
end
/-- one turn of an iterator -/
theorem turn_core {target : Expr} {I : Addr} {fp wr : List Addr} {n : Nat} {P : Nat → WM → Value → Prop} {Si : Nat → Heap → Prop} {Z : Value → Shared → Prop} {DN : Shared → Prop}
    (W : Itr prog wd A target I fp wr n P Si) (hfp : ∀ a ∈ fp, a ∈ wr ∨ ∃ o, b a = some o) (hbk : ∀ a o, H₀.get? a = some o → k a = some o) {i : Nat} {b₁ : WM} {σ₁ : Vars} {w₁ : Own} {s' : Shared}
    (hi : i ≤ n) (hg : Gr k b b₁) (H₁ : St H₀ env k b₁ σ₁ w₁ r s') (off₁ : Off env k b₁ w₁ wr) (hsi : Si i s'.heap)
    (stop : i = n → ∀ s₂, St H₀ env k b₁ σ₁ w₁ r s₂ → DN s₂)
    (go : i < n → ∀ v b₂ k' s₂, Sub k k' → Gr k b₁ b₂ → P i b₂ v → St H₀ env k' b₂ σ₁ w₁ r s₂ →
      (∀ s₃ b₃ σ₃ w₃, Gr k' b₂ b₃ → St H₀ env k' b₃ σ₃ w₃ r s₃ → Gr k b b₃ ∧ St H₀ env k b₃ σ₃ w₃ r s₃ ∧ Off env k b₃ w₃ wr ∧ Si (i + 1) s₃.heap) → Z v s₂) :
    wpAny (model prog wd) A (pyNext (.ref I)) (fun x s₁ => match x with
      | none => DN s₁
      | some v => wpAny (model prog wd) A (letOwnedTupleGo target (.ref I) v) (fun _ s₂ => Z v s₂) (fun _ _ => False) s₁) (fun _ _ => False) s' := by
  by_cases hlt : i < n
  · refine wpAny_mono (W.turn i H₀ env k b₁ σ₁ w₁ r s' Z (fun _ _ => False) hlt hsi H₁ off₁ (fun v b₂ s₂ hg₂ hwr hP hsi₂ H₂ => ?_)) (fun x s₁ h => ?_) fun _ _ f => f.elim
    · have off₂ : Off env k b₂ w₁ wr := off₁.gr H₂ hwr
      refine go hlt v b₂ (fullk env w₁ s₂.heap) s₂ H₂.subFull hg₂ hP H₂.full fun s₃ b₃ σ₃ w₃ hg₃ H₃ => ?_
      refine ⟨hg.trans (hg₂.trans (hg₃.sub H₂.subFull)), H₃.weak H₂.subFull hbk, off₂.after H₂ (W.here _ _ hsi₂) hg₃ H₃, W.frame _ _ _ hsi₂ fun a ha o e => ?_⟩
      rcases hfp a ha with hw | ⟨o', ho'⟩
      · obtain ⟨_, _, q3, q4, q5⟩ := off₂ a hw
        refine H₃.keep a o ?_
        rw [fullk_of]
        · exact e
        · rintro (q | ⟨hf, x, hc⟩ | hm)
          · exact q4 q
          · exact q5 x a hc rfl
          · exact q3 hm
      · have h1 := (hg.trans hg₂).1 a o' ho'
        have h2 := H₂.froz a o' h1
        rw [e] at h2
        cases h2
        exact H₃.froz a o (hg₃.1 a o h1)
    · cases x with
      | none => exact h.elim
      | some v => exact h
  · have hin : i = n := by lia
    refine wpAny_mono (W.done H₀ env k b₁ σ₁ w₁ r s' DN (fun _ _ => False) (hin ▸ hsi) H₁ off₁ fun s₂ H₂ => stop hin s₂ H₂) (fun x s₁ h => ?_) fun _ _ f => f.elim
    cases x with
    | none => exact h
    | some v => exact h.elim

theorem comp_pre {elt target iter : Expr} {ifs : List Expr} {rest : List Comprehension} {scope : Scope} {pos : Pos} {I : Addr} {fp wr : List Addr} {n : Nat} {P : Nat → WM → Value → Prop} {Si : Nat → Heap → Prop} {cl : List (Str × Addr)} {RR : Value → Addr → Result → Shared → Prop}
    (W : Itr prog wd A target I fp wr n P Si) (H : St H₀ env k b σ w r s) (off : Off env k b w wr) (hs0 : Si 0 s.heap)
    (hkind : scope.kind = .function)
    (σc : Vars) (hnd : (σc.map (·.1)).Nodup) (hvk : ∀ C, ∀ p ∈ σc, vark (compEnvX scope cl C env) p.1 = true) (hcl : ∀ p ∈ cl, env.cells.lookup p.1 = some p.2)
    (hcap : ∀ p ∈ σc, p.2 = none ∨ (p ∈ σ ∧ env.kindOf p.1 ≠ some .local ∧ (compEnvX scope cl 0 env).kindOf p.1 ≠ some .local ∧ (p.1, NameKind.cell) ∉ scope.names))
    (h : ∀ C D kc s₁, Sub k kc → St H₀ (compEnvX scope cl C env) kc b σc ((D, lstO [] 0) :: w) r s₁ → Off (compEnvX scope cl C env) kc b ((D, lstO [] 0) :: w) wr → Si 0 s₁.heap →
      (∀ b' σ' w' ys s', Gr kc b b' → St H₀ (compEnvX scope cl C env) kc b' σ' ((D, lstO ys ys.length) :: w') r s' →
        ∃ m, Gr k b b' ∧ St H₀ env k b' σ ((D, lstO ys ys.length) :: w') r s' ∧ s'.heap.Ns C m ∧ Off env k b' ((D, lstO ys ys.length) :: w') [C]) →
      codeAny (model prog wd) A (.compLoop (.ListComp elt (⟨target, iter, ifs, 0⟩ :: rest) scope pos) 0 (.ref I) (.ref D) (compEnvX scope cl C env)) (RR (.ref D) C) s₁) :
    wpAny (model prog wd) A (newList []) (fun acc s₃ => wpAny (model prog wd) A (newFunctionEnv scope env.globals cl [] env.qual none .none (some env)) (fun cenv s₄ =>
      codeAny (model prog wd) A (.compStart (.ListComp elt (⟨target, iter, ifs, 0⟩ :: rest) scope pos) 0 (.ref I) acc { cenv with scope := relabel scope env }) (RR acc cenv.locals) s₄) E s₃) E s := by
  refine wpAny_newObj_type (newEnvX (fun h₁ hns₁ hsb₁ hcells => ?_))
  dsimp only at hns₁ hsb₁ hcells ⊢
  generalize hH2 : s.heap.push { cls := .type "list", dict := none, data := .seq ([] : List Value).toArray } = H2 at hns₁ hsb₁ hcells ⊢
  generalize hD : s.heap.objs.size = D at *
  generalize hC : H2.objs.size = C at *
  have hCD : C = D + 1 := by rw [← hC, ← hH2, Heap.size_push, hD]
  have hDC : D ≠ C := by rw [hCD]; exact Nat.ne_of_lt (Nat.lt_succ_self _)
  have below0 : ∀ a o, s.heap.get? a = some o → @LT.lt Nat _ a D := fun a o e => by
    have := Heap.lt_size e
    rw [hD] at this
    exact this
  have below : ∀ a o, s.heap.get? a = some o → a ≠ C ∧ a ≠ D := fun a o e =>
    ⟨by rw [hCD]; exact Nat.ne_of_lt (Nat.lt_succ_of_lt (below0 a o e)), Nat.ne_of_lt (below0 a o e)⟩
  have below1 : ∀ a o, s.heap.get? a = some o → ¬ @LT.lt Nat _ C a := fun a o e h => by
    rw [hCD] at h
    exact Nat.lt_irrefl _ (Nat.lt_trans (Nat.lt_trans h (below0 a o e)) (Nat.lt_succ_self _))
  have old : ∀ a o, s.heap.get? a = some o → h₁.get? a = some o := fun a o e => hsb₁ a o (hH2 ▸ Heap.get?_push_of_some _ e)
  have hacc : h₁.get? D = some (lstO [] 0) := hsb₁ _ _ (hH2 ▸ hD ▸ Heap.get?_push_size _ rfl)
  have ownc : ∀ x c, (cellsFrom (C + 1) scope.names []).lookup x = some c → h₁.IsCell c none ∧ @LT.lt Nat _ C c ∧ s.heap.get? c = none := fun x c h => by
    obtain ⟨h1, h2⟩ := hcells.empty x c (PySem.mem_of_lookup h)
    refine ⟨h1, h2, ?_⟩
    cases e : s.heap.get? c with
    | none => rfl
    | some o => exact absurd h2 (below1 c o e)
  have clc : ∀ x c, cl.lookup x = some c → env.cells.lookup x = some c ∧ ¬ @LT.lt Nat _ C c := fun x c h => by
    have hce := hcl _ (PySem.mem_of_lookup h)
    obtain ⟨v, ⟨o, ho, _⟩, _⟩ := H.cel x c hce
    exact ⟨hce, below1 c o ho⟩
  have nD : s.heap.get? D = none := by rw [← hD]; exact get_size_none _
  have nC : s.heap.get? C = none := by
    cases e : s.heap.get? C with
    | none => rfl
    | some o => exact absurd rfl (below C o e).1
  have hs1 : Si 0 h₁ := W.frame _ _ _ hs0 fun a _ o e => old a o e
  -- the rest of the heap
  let kc : WM := fun a => if a = C ∨ a = D ∨ a ∈ wr ∨ a ∈ w.map (·.1) ∨ @LT.lt Nat _ C a then none else h₁.get? a
  have kc_of : ∀ a o, s.heap.get? a = some o → a ∉ wr → a ∉ w.map (·.1) → kc a = some o := fun a o e h1 h2 => by
    show (if _ then none else h₁.get? a) = some o
    rw [if_neg (fun hq => ?_)]
    · exact old a o e
    · rcases hq with q | q | q | q | q
      · exact (below a o e).1 q
      · exact (below a o e).2 q
      · exact h1 q
      · exact h2 q
      · exact below1 a o e q
  have ksub : Sub k kc := fun a o e => kc_of a o (H.keep a o e) (fun hm => by rw [(off a hm).1] at e; cases e) (fun hm => by
    obtain ⟨p, hp, q⟩ := List.mem_map.mp hm
    rw [← q, (H.own p hp).2.1] at e; cases e)
  have knone : ∀ a, kc a = none → k a = none := fun a h => by
    cases e : k a with
    | none => rfl
    | some o => rw [ksub a o e] at h; cases h
  have bfresh : ∀ a, s.heap.get? a = none → b a = none := fun a ha => (H.fresh ha).2
  obtain ⟨oL, esL, epL, hoL, hdL⟩ := H.ns_dict
  have hLw : env.locals ∉ w.map (·.1) := fun hm => by
    obtain ⟨q, hq, e⟩ := List.mem_map.mp hm
    obtain ⟨ho, _, _, xs, nn, hd⟩ := H.own q hq
    rw [← e] at hoL
    exact dat_ne hoL ho (by rw [hdL, hd]; simp) rfl
  have hLr : env.locals ∉ wr := fun hm => (off _ hm).2.2.2.1 rfl
  have kL : kc env.locals = some oL := kc_of _ _ hoL hLr hLw
  have kcell : ∀ x c v, env.cells.lookup x = some c → s.heap.IsCell c v → ∃ o, kc c = some o ∧ o.data = .cell v := fun x c v hc hv => by
    obtain ⟨o, ho, hd⟩ := hv
    refine ⟨o, kc_of _ _ ho (fun hm => (off _ hm).2.2.2.2 x c hc rfl) (fun hm => ?_), hd⟩
    obtain ⟨q, hq, e⟩ := List.mem_map.mp hm
    obtain ⟨ho', _, _, xs, nn, hd'⟩ := H.own q hq
    rw [← e] at ho
    exact dat_ne ho ho' (by rw [hd, hd']; simp) rfl
  have hwn : ∀ p ∈ w, p.1 ≠ C ∧ p.1 ≠ D := fun p hp => below _ _ (H.own p hp).1
  have H₁ : St H₀ (compEnvX scope cl C env) kc b σc w r { s with heap := h₁ } := {
    rest := H.rest
    bk := fun a o e => ksub a o (H.bk a o e)
    keep := fun a o e => by
      have e' : (if a = C ∨ a = D ∨ a ∈ wr ∨ a ∈ w.map (·.1) ∨ @LT.lt Nat _ C a then none else h₁.get? a) = some o := e
      split at e'
      · cases e'
      · exact e'
    froz := fun a o e => old a o (H.froz a o e)
    own := fun p hp => ⟨old _ _ (H.own p hp).1, if_pos (.inr (.inr (.inr (.inl (List.mem_map_of_mem hp))))), (H.own p hp).2.2⟩
    nodup := H.nodup
    names := hnd
    kinds := hvk C
    fk := hkind
    gl := H.gl
    loc := ⟨_, hns₁, fun x v hx hl => by
      rcases hcap _ hx with e | ⟨hm, hnl, hnc, _⟩
      · cases e
      · exact absurd hl hnc⟩
    cel := fun x c hc => by
      rcases cellsFrom_lookup hc with hc' | hc'
      · refine ⟨none, (ownc x c hc').1, fun u hu' _ => ?_⟩
        rcases hcap _ hu' with e | ⟨_, _, _, hnc⟩
        · cases e
        · exact absurd (cellsFrom_mem _ _ (PySem.mem_of_lookup hc')) hnc
      · have hce := (clc x c hc').1
        obtain ⟨v, hv, hu⟩ := H.cel x c hce
        refine ⟨v, hv.keeps old, fun u hu' _ => ?_⟩
        rcases hcap _ hu' with e | ⟨hm, hnl, _⟩
        · cases e
        · exact hu u hm hnl
    lk := if_pos (.inl rfl)
    lb := bfresh _ nC
    ck := fun x c hc hlt => by
      rcases cellsFrom_lookup hc with hc' | hc'
      · exact ⟨if_pos (.inr (.inr (.inr (.inr hlt)))), bfresh _ (ownc x c hc').2.2⟩
      · exact absurd hlt (clc x c hc').2
    apart := fun x y c hx hy hlt => by
      rcases cellsFrom_lookup hx with hx' | hx'
      · rcases cellsFrom_lookup hy with hy' | hy'
        · exact lookup_inj hcells.apart hx' hy'
        · exact absurd hlt (clc y c hy').2
      · exact absurd hlt (clc x c hx').2 }
  have off₁ : Off (compEnvX scope cl C env) kc b w (D :: wr) := fun a ha => by
    rcases List.mem_cons.mp ha with rfl | ha
    · refine ⟨if_pos (.inr (.inl rfl)), bfresh _ nD, fun hm => ?_, hDC, fun x c hc q => ?_⟩
      · obtain ⟨p, hp, q⟩ := List.mem_map.mp hm
        exact (hwn p hp).2 q
      · rcases cellsFrom_lookup hc with hc' | hc'
        · have := (ownc x c hc').2.1
          rw [q, hCD] at this
          exact absurd (Nat.lt_trans this (Nat.lt_succ_self _)) (Nat.lt_irrefl _)
        · obtain ⟨v, ⟨o, ho, _⟩, _⟩ := H.cel x c (clc x c hc').1
          exact (below _ _ ho).2 q
    · obtain ⟨q1, q2, q3, q4, q5⟩ := off a ha
      refine ⟨if_pos (.inr (.inr (.inl ha))), q2, q3, fun q => ?_, fun x c hc q => ?_⟩
      · have := W.here _ _ hs0 a ha
        rw [show a = C from q, nC] at this
        exact this rfl
      · rcases cellsFrom_lookup hc with hc' | hc'
        · exact W.here _ _ hs0 a ha (by rw [← q]; exact (ownc x c hc').2.2)
        · exact q5 x c (clc x c hc').1 q
  have H₂ : St H₀ (compEnvX scope cl C env) kc b σc ((D, lstO [] 0) :: w) r { s with heap := h₁ } := { H₁ with
    own := fun p hp => by
      rcases List.mem_cons.mp hp with rfl | hp
      · exact ⟨hacc, if_pos (.inr (.inl rfl)), bfresh _ nD, _, _, rfl⟩
      · exact H₁.own p hp
    nodup := by
      rw [List.map_cons, List.nodup_cons]
      exact ⟨(off₁ D List.mem_cons_self).2.2.1, H₁.nodup⟩ }
  have off₂ : Off (compEnvX scope cl C env) kc b ((D, lstO [] 0) :: w) wr := fun a ha => by
    obtain ⟨q1, q2, q3, q4, q5⟩ := off₁ a (List.mem_cons_of_mem _ ha)
    refine ⟨q1, q2, fun hm => ?_, q4, q5⟩
    rw [List.map_cons] at hm
    rcases List.mem_cons.mp hm with e | hm
    · exact W.here _ _ hs0 a ha (by rw [show a = D from e]; exact nD)
    · exact q3 hm
  have loop := h C D kc { s with heap := h₁ } ksub H₂ off₂ hs1 (by
    intro b' σ' w' ys s' hg H'
    have hgk : Gr k b b' := hg.sub ksub
    obtain ⟨m, hnm, _⟩ := H'.loc
    have hb'n : ∀ a, kc a ≠ none → b a = none → b' a = none := fun a h1 h2 => by
      cases e : b' a with
      | none => rfl
      | some o => exact absurd (hg.2 a (by rw [e]; simp) h2) h1
    have hns : s'.heap.Ns C m := hnm
    obtain ⟨oC, esC, epC, hoC, hdC, _⟩ := id hns
    have nkC : k C = none := knone _ (if_pos (.inl rfl))
    have keep' : ∀ a o, kc a = some o → s'.heap.get? a = some o := H'.keep
    refine ⟨m, hgk, { rest := H'.rest, bk := H.bk, keep := fun a o e => keep' a o (ksub a o e), froz := H'.froz, own := fun p hp => ?_, nodup := ?_, names := H.names, kinds := H.kinds, fk := H.fk, gl := H.gl, loc := ?_, cel := fun x c hc => ?_, lk := H.lk, lb := hb'n _ (by rw [kL]; simp) H.lb, ck := fun x c hc hf => ?_, apart := H.apart }, hns, ?_⟩
    · rcases List.mem_cons.mp hp with rfl | hp
      · obtain ⟨q1, q2, q3, q4⟩ := H'.own _ List.mem_cons_self
        exact ⟨q1, knone _ q2, q3, q4⟩
      · obtain ⟨q1, q2, q3, q4⟩ := H'.own p (List.mem_cons_of_mem _ hp)
        exact ⟨q1, knone _ q2, q3, q4⟩
    · exact H'.nodup
    · obtain ⟨mL, hnL, hvL⟩ := H.loc
      exact ⟨mL, hnL.at' fun o e => by rw [hoL] at e; cases e; exact keep' _ _ kL, hvL⟩
    · obtain ⟨v, hv, hu⟩ := H.cel x c hc
      obtain ⟨o, ho, hd⟩ := kcell x c v hc hv
      exact ⟨v, ⟨o, keep' _ _ ho, hd⟩, hu⟩
    · obtain ⟨v, hv, hu⟩ := H.cel x c hc
      obtain ⟨o, ho, hd⟩ := kcell x c v hc hv
      exact ⟨(H.ck x c hc hf).1, hb'n _ (by rw [ho]; simp) (H.ck x c hc hf).2⟩
    · intro a ha
      rw [List.mem_singleton.mp ha]
      refine ⟨nkC, H'.lb, fun hm => ?_, fun q => ?_, fun x c hc q => ?_⟩
      · rw [List.map_cons] at hm
        rcases List.mem_cons.mp hm with q | hm
        · exact hDC q.symm
        · obtain ⟨p, hp, q⟩ := List.mem_map.mp hm
          obtain ⟨ho, _, _, xs, nn, hd⟩ := H'.own p (List.mem_cons_of_mem _ hp)
          rw [q] at ho
          exact dat_ne hoC ho (by rw [hdC, hd]; simp) rfl
      · rw [← q, nC] at hoL; cases hoL
      · obtain ⟨v, ⟨o, ho, _⟩, _⟩ := H.cel x c hc
        rw [q, nC] at ho; cases ho)
  exact codeAny_compStart_list loop (W.self 0 _ _ _ hs1 loop)

theorem St.hide {D : Addr} {o : Obj} (H : St H₀ env k b σ ((D, o) :: w) r s) : St H₀ env (upd k D o) b σ w r s ∧ Sub k (upd k D o) := by
  obtain ⟨h1, h2, h3, xs, nn, hd⟩ := H.own _ List.mem_cons_self
  have hn := H.nodup
  rw [List.map_cons, List.nodup_cons] at hn
  have H' : St H₀ env k b σ w r s := { H with own := fun p hp => H.own p (List.mem_cons_of_mem _ hp), nodup := hn.2 }
  obtain ⟨oL, es, ep, hL, hdL⟩ := H.ns_dict
  refine H'.addK h1 (fun q => ?_) hn.1 (fun x c hc _ q => ?_) h2
  · rw [← q] at hL
    exact dat_ne hL h1 (by rw [hdL, hd]; simp) rfl
  · obtain ⟨v, ⟨oc, hoc, hdc⟩, _⟩ := H.cel x c hc
    rw [q] at hoc
    exact dat_ne hoc h1 (by rw [hdc, hd]; simp) rfl
theorem St.unhide {D : Addr} {o : Obj} {b' : WM} {w' : Own} {s' : Shared} (H : St H₀ env k b σ ((D, o) :: w) r s) (hg : Gr (upd k D o) b b') (H' : St H₀ env (upd k D o) b' σ' w' r s') : St H₀ env k b' σ' ((D, o) :: w') r s' := by
  obtain ⟨h1, h2, h3, hd⟩ := H.own _ List.mem_cons_self
  have H'' := H'.weak H.hide.2 H.bk
  exact { H'' with
    own := fun p hp => by
      rcases List.mem_cons.mp hp with rfl | hp
      · refine ⟨H'.keep _ _ (upd_self ..), h2, ?_, hd⟩
        cases e : b' D with
        | none => rfl
        | some o' => have := hg.2 D (by rw [e]; simp) h3; rw [upd_self] at this; cases this
      · exact H''.own p hp
    nodup := by
      rw [List.map_cons, List.nodup_cons]
      refine ⟨fun hm => ?_, H'.nodup⟩
      obtain ⟨p, hp, e⟩ := List.mem_map.mp hm
      have := (H'.own p hp).2.1
      rw [show p.1 = D from e, upd_self] at this; cases this }
theorem St.back {σc : Vars} (H : St H₀ env k b σ w r s) (hv : ∀ q ∈ σc, q.2 = none ∧ q.1 ∈ σ.map (·.1) ∨ q ∈ σ) (hnd : (σc.map (·.1)).Nodup) : St H₀ env k b σc w r s := by
  refine H.vars (fun x v hx => ?_) hnd (fun p hp => ?_)
  · rcases hv _ hx with ⟨e, _⟩ | e
    · cases e
    · exact e
  · rcases hv _ hp with ⟨_, e⟩ | e
    · exact e
    · exact List.mem_map_of_mem e

/-- one generator: the block -/
theorem comp_core {elt target iter : Expr} {ifs : List Expr} {scope : Scope} {pos : Pos} {I : Addr} {fp wr : List Addr} {n : Nat} {P : Nat → WM → Value → Prop} {Si : Nat → Heap → Prop} {cl : List (Str × Addr)} {RR : Value → Addr → Result → Shared → Prop}
    (W : Itr prog wd A target I fp wr n P Si) (H : St H₀ env k b σ w r s) (off : Off env k b w wr) (hs0 : Si 0 s.heap) (hfp : ∀ a ∈ fp, a ∈ wr ∨ ∃ o, b a = some o) (hsz : n ≤ sizeLine)
    (hkind : scope.kind = .function)
    (σc : Vars) (hnd : (σc.map (·.1)).Nodup) (hvk : ∀ C, ∀ p ∈ σc, vark (compEnvX scope cl C env) p.1 = true) (hcl : ∀ p ∈ cl, env.cells.lookup p.1 = some p.2)
    (hcap : ∀ p ∈ σc, p.2 = none ∨ (p ∈ σ ∧ env.kindOf p.1 ≠ some .local ∧ (compEnvX scope cl 0 env).kindOf p.1 ≠ some .local ∧ (p.1, NameKind.cell) ∉ scope.names))
    (Inv : Nat → WM → Own → List Value → Prop) (h0 : Inv 0 b w []) (mono : ∀ i b' b'' w' ys, Sub b' b'' → Inv i b' w' ys → Inv i b'' w' ys)
    (step : ∀ i v C k' b' w' ys s', i < n → Sub k k' → Gr k b b' → Inv i b' w' ys → P i b' v → St H₀ (compEnvX scope cl C env) k' b' σc w' r s' →
      wpAny (model prog wd) A (assign target (compEnvX scope cl C env) v) (fun _ s₂ => wpAny (model prog wd) A (testsOf ifs (compEnvX scope cl C env)) (fun ok s₃ => if ok = true
        then wpAny (model prog wd) A (eval elt (compEnvX scope cl C env)) (fun y s₄ => SPost H₀ (compEnvX scope cl C env) k' b' r σc (fun b w => Inv (i + 1) b w (ys ++ [y])) s₄) (fun _ _ => False) s₃
        else SPost H₀ (compEnvX scope cl C env) k' b' r σc (fun b w => Inv (i + 1) b w ys) s₃) (fun _ _ => False) s₂) (fun _ _ => False) s')
    (hRR : ∀ D C b' w' ys s' m, Gr k b b' → Inv n b' w' ys → St H₀ env k b' σ ((D, lstO ys ys.length) :: w') r s' → s'.heap.Ns C m → Off env k b' ((D, lstO ys ys.length) :: w') [C] → RR (.ref D) C (.ok .next) s') :
    wpAny (model prog wd) A (newList []) (fun acc s₃ => wpAny (model prog wd) A (newFunctionEnv scope env.globals cl [] env.qual none .none (some env)) (fun cenv s₄ =>
      codeAny (model prog wd) A (.compStart (.ListComp elt [⟨target, iter, ifs, 0⟩] scope pos) 0 (.ref I) acc { cenv with scope := relabel scope env }) (RR acc cenv.locals) s₄) E s₃) E s := by
  refine comp_pre (rest := []) W H off hs0 hkind σc hnd hvk hcl hcap ?_
  intro C D kc s₁ hkc H₁ off₁ hs1 back0
  refine compLoop1 (fun m s' => X4_8 (fun i b' w' ys => m = n + 1 - i) (fun i b' w' ys => i ≤ n) (fun i b' w' ys => Gr kc b b') (fun i b' w' ys => St H₀ (compEnvX scope cl C env) kc b' σc ((D, lstO ys ys.length) :: w') r s') (fun i b' w' ys => Off (compEnvX scope cl C env) kc b' ((D, lstO ys ys.length) :: w') wr) (fun i b' w' ys => Si i s'.heap) (fun i b' w' ys => ys.length ≤ i) (fun i b' w' ys => Inv i b' w' ys)) ?_ (n + 1)
    ⟨0, b, w, [], rfl, Nat.zero_le _, Gr.refl kc b, H₁, off₁, hs1, Nat.le_refl _, h0⟩
  rintro m s' ⟨i, b₁, w₁, ys, rfl, hi, hg, H₂, off₂, hsi, hyl, hinv⟩
  refine turn_core W hfp H₁.bk hi hg H₂ off₂ hsi (fun e s₂ H₃ => ?_) (fun hlt v b₂ k' s₂ hk hg₂ hP H₃ back => ?_)
  · obtain ⟨mN, r1, r2, r3, r4⟩ := back0 b₁ σc w₁ ys s₂ hg H₃
    exact hRR D C b₁ w₁ ys s₂ mN r1 (e ▸ hinv) r2 r3 r4
  · obtain ⟨Hh, hsub⟩ := H₃.hide
    refine wpAny_mono (step i v C (upd k' D (lstO ys ys.length)) b₂ w₁ ys s₂ hlt (hkc.trans (hk.trans hsub)) ((hg.trans hg₂).sub hkc) (mono _ _ _ _ _ hg₂.1 hinv) hP Hh) (fun _ s₃ h₃ => ?_) fun _ _ f => f.elim
    refine wpAny_mono h₃ (fun ok s₄ h₄ => ?_) fun _ _ f => f.elim
    have key : ∀ (J : WM → Own → Prop) s₅, SPost H₀ (compEnvX scope cl C env) (upd k' D (lstO ys ys.length)) b₂ r σc J s₅ → ∃ b₃ w₃, Gr k' b₂ b₃ ∧ St H₀ (compEnvX scope cl C env) k' b₃ σc ((D, lstO ys ys.length) :: w₃) r s₅ ∧ J b₃ w₃ := by
      rintro J s₅ ⟨b₃, σ₃, w₃, hg₃, H₄, hv, hj⟩
      exact ⟨b₃, w₃, hg₃.sub hsub, (H₃.unhide hg₃ H₄).back hv hnd, hj⟩
    cases ok with
    | false =>
      obtain ⟨b₃, w₃, hg₃, H₅, hj⟩ := key _ _ h₄
      obtain ⟨r1, r2, r3, r4⟩ := back s₄ b₃ σc _ hg₃ H₅
      exact ⟨n + 1 - (i + 1), by lia, i + 1, b₃, w₃, ys, rfl, hlt, r1, r2, r3, r4, by lia, hj⟩
    | true =>
      refine wpAny_mono h₄ (fun y s₅ h₅ => ?_) fun _ _ f => f.elim
      obtain ⟨b₃, w₃, hg₃, H₅, hj⟩ := key _ _ h₅
      refine app_own H₅ (H₅.own _ List.mem_cons_self).1 (by lia) (w' := (D, lstO (ys ++ [y]) (ys.length + 1)) :: w₃) .head fun s₆ H₆ => ?_
      obtain ⟨r1, r2, r3, r4⟩ := back s₆ b₃ σc _ hg₃ H₆
      have e : ys.length + 1 = (ys ++ [y]).length := by rw [List.length_append]; rfl
      rw [e] at r2 r3
      exact ⟨n + 1 - (i + 1), by lia, i + 1, b₃, w₃, ys ++ [y], rfl, hlt, r1, r2, r3, r4, by lia, hj⟩
end
end Mine
end

section
set_option maxRecDepth 100000
set_option Elab.async false
set_option linter.unusedVariables false
namespace Mine
open PySem PySem.Calls PySem.W PyProof.Rows

section
variable {prog : Program} {wd : World} {H₀ : Heap} {env : Env} {k b : WM} {σ σ' : Vars} {w : Own} {r : RestT} {s : Shared} {A : Around} {E : Value → Shared → Prop}

theorem tget {h : Heap} {ax : Addr} {vs : List Value} (e : h.get? ax = some (tupO vs)) : h.IsTuple ax vs.toArray := ⟨_, e, rfl, 0, rfl⟩

theorem off_new (H : St H₀ env k b σ w r s) {a : Addr} (hn : s.heap.get? a = none) : k a = none ∧ b a = none ∧ a ∉ w.map (·.1) ∧ a ≠ env.locals ∧ ∀ x c, env.cells.lookup x = some c → c ≠ a := by
  obtain ⟨h1, h2⟩ := H.fresh hn
  refine ⟨h1, h2, fun hm => ?_, fun q => ?_, fun y c hc q => ?_⟩
  · obtain ⟨p, hp, e⟩ := List.mem_map.mp hm
    have := (H.own p hp).1; rw [e, hn] at this; cases this
  · obtain ⟨oL, _, _, hL, _⟩ := H.ns_dict; rw [← q, hn] at hL; cases hL
  · obtain ⟨v, ⟨oc, hoc, _⟩, _⟩ := H.cel y c hc; rw [q, hn] at hoc; cases hoc
theorem none_of_le {h : Heap} {a : Addr} (ha : h.objs.size ≤ a) : h.get? a = none := by
  cases e : h.get? a with
  | none => rfl
  | some o => exact absurd (Heap.lt_size e) (Nat.not_lt.mpr ha)

theorem itr_tuple (hh : A.handled = none) {x : Str} {px : Pos} {I ax : Addr} (hne : ax ≠ I) (vs : List Value) :
    Itr prog wd A (.Name x px) I [I, ax] [I] vs.length (fun i _ v => vs[i]? = some v) (fun i h => h.IsTupleIter I ax i ∧ h.get? ax = some (tupO vs)) where
  sub := fun a ha => by simp at ha; simp [ha]
  here := fun i h hs a ha => by
    simp at ha; subst ha
    obtain ⟨o, ho, _⟩ := hs.1
    rw [ho]; simp
  frame := fun i h h' hs hk => ⟨hs.1.at fun o e => hk I (by simp) o e, hk ax (by simp) _ hs.2⟩
  turn := fun i H₀ env k b σ w r s Q E hi hs H off hQ => by
    refine wpAny_mono (wpAny_pyNext_tuple_item hs.1 (tget hs.2) (x := vs[i]) (by simp [hi]) (Q := fun x s₁ => match x with | none => False | some v => Q v s₁) fun h' hit' hs' => ?_) (fun x s₁ h => ?_) fun _ _ e => e
    · have hx : ∀ a o, a ∉ [I] → s.heap.get? a = some o → h'.get? a = some o := fun a o ha e => hs'.extBut a o (fun q => ha (by simp [q])) e
      exact hQ _ b _ (Gr.refl k b) (fun a ha => (off a ha).2.1) (by simp [hi]) ⟨hit', hs'.extBut ax _ hne hs.2⟩ (H.extBut off hx)
    · cases x with
      | none => exact h
      | some v => exact wpAny_of_eq rfl h
  done := fun H₀ env k b σ w r s Q E hs H off hQ => by
    refine wpAny_mono (wpAny_pyNext_tuple_end hh hs.1 (tget hs.2) (by simp) (Q := fun x s₁ => match x with | none => Q s₁ | some _ => False) fun h' he' => ?_) (fun x s₁ h => h) fun _ _ e => e
    exact hQ _ (H.extBut off fun a o ha e => he' a o (fun q => ha (by simp [q])) e)
  self := fun i s Q E hs hQ => wpAny_pyIter_tupleiter hs.1 hQ

theorem src_tuple (hh : A.handled = none) {ax : Addr} {vs : List Value} {Q : Value → Shared → Prop} (H : St H₀ env k b σ w r s) (hl : b ax = some (tupO vs))
    (h : ∀ I s', (∀ x px, Itr prog wd A (.Name x px) I [I, ax] [I] vs.length (fun i _ v => vs[i]? = some v) (fun i h => h.IsTupleIter I ax i ∧ h.get? ax = some (tupO vs))) → St H₀ env k b σ w r s' → Off env k b w [I] →
      (s'.heap.IsTupleIter I ax 0 ∧ s'.heap.get? ax = some (tupO vs)) → (∀ a ∈ [I, ax], a ∈ [I] ∨ ∃ o, b a = some o) → Q (.ref I) s') :
    wpAny (model prog wd) A (pyIter (.ref ax)) Q E s := by
  have hax := H.froz _ _ hl
  refine wpAny_pyIter_tuple (tget hax) ?_
  have up : ∀ a o, s.heap.get? a = some o → (s.heap.push { cls := .type "tuple_iterator", data := .fields #[.ref ax, .int 0 0] }).get? a = some o := fun a o e => Heap.get?_push_of_some _ e
  have hn : s.heap.get? s.heap.objs.size = none := get_size_none _
  refine h _ _ (fun _ _ => itr_tuple hh (Nat.ne_of_lt (Heap.lt_size hax)) vs) (H.heap up) (fun a ha => ?_) ⟨⟨_, Heap.get?_push_size _ rfl, rfl, rfl⟩, up _ _ hax⟩ (fun a ha => ?_)
  · simp at ha; subst ha
    exact off_new H hn
  · simp at ha
    rcases ha with rfl | rfl
    · left; simp
    · right; exact ⟨_, hl⟩

noncomputable def enumP (vs : List Value) (i : Nat) (b : WM) (v : Value) : Prop := ∃ tk t x, v = .ref t ∧ b t = some (tupO [.int (i : Int) tk, x]) ∧ vs[i]? = some x
noncomputable def enumS (e it l : Addr) (vs : List Value) (nn : Nat) (i : Nat) (h : Heap) : Prop := (∃ old, IsEnum h e it (i : Int) old) ∧ h.IsListIter it l i ∧ h.get? l = some (lstO vs nn)

theorem itr_enum (hh : A.handled = none) {elts : List Expr} {x1} {tp : Pos} {e it l : Addr} (h1 : e ≠ it) (h2 : l ≠ e) (h3 : l ≠ it) (vs : List Value) (nn : Nat) :
    Itr prog wd A (.Tuple elts x1 tp) e [e, it, l] [e, it] vs.length (enumP vs) (enumS e it l vs nn) where
  sub := fun a ha => by simp at ha ⊢; rcases ha with rfl | rfl <;> simp
  here := fun i h hs a ha => by
    obtain ⟨⟨old, he⟩, ⟨o, ho, _⟩, hl⟩ := hs
    simp at ha
    rcases ha with rfl | rfl
    · rw [show h.get? a = _ from he]; simp
    · rw [ho]; simp
  frame := fun i h h' hs hk => by
    obtain ⟨⟨old, he⟩, hit, hl⟩ := hs
    exact ⟨⟨old, hk e (by simp) _ he⟩, hit.at fun o q => hk it (by simp) o q, hk l (by simp) _ hl⟩
  turn := fun i H₀ env k b σ w r s Q E hi hs H off hQ => by
    obtain ⟨⟨old, he⟩, hit, hl⟩ := hs
    have hx : vs.toArray[i]? = some vs[i] := by simp [hi]
    refine wpAny_mono (wpAny_pyNext_enum_item he hit (lget hl) hx h1 (Q := fun x s₁ => match x with | none => False | some v => wpAny (model prog wd) A (letOwnedTupleGo (.Tuple elts x1 tp) (.ref e) v) (fun _ s₂ => Q v s₂) E s₁) fun h₁ heo hit₁ ht₁ hz₁ hk₁ => ?_) (fun x s₁ h => h) fun _ _ e => e
    refine wpAny_letOwnedTupleGo_enum heo fun h₂ he₂ hs₂ => ?_
    have hs₂' : Heap.SameBut e h₁ h₂ := hs₂
    have nt : s.heap.get? s.heap.objs.size = none := get_size_none _
    have eH : e < s.heap.objs.size := Heap.lt_size he
    have hx2 : ∀ a o, a ∉ [e, it] → s.heap.get? a = some o → h₂.get? a = some o := fun a o ha q => by
      simp at ha
      exact hs₂'.extBut a o ha.1 (hk₁ a o ha.1 ha.2 q)
    have H₂ := H.extBut (tk := s.toks + 1) off hx2
    have ht₂ : h₂.get? s.heap.objs.size = some (tupO [.int (i : Int) s.toks, vs[i]]) := hs₂'.extBut _ _ (Nat.ne_of_gt eH) ht₁
    obtain ⟨o1, o2, o3, o4, o5⟩ := off_new H nt
    have H₃ := H₂.froze (a := s.heap.objs.size) o1 o2 (fun p hp q => o3 (by rw [← q]; exact List.mem_map_of_mem hp)) (Ne.symm o4) (fun x c h _ => o5 x c h) ht₂
    refine hQ (.ref s.heap.objs.size) _ _ (Gr.upd o1 o2) (fun a ha => ?_) ⟨_, _, _, rfl, upd_self .., by simp [hi]⟩ ?_ H₃
    · unfold upd
      rw [if_neg]
      · exact (off a ha).2.1
      · simp at ha
        obtain ⟨o, ho, _⟩ := hit
        rcases ha with rfl | rfl
        · exact Nat.ne_of_lt eH
        · exact Nat.ne_of_lt (Heap.lt_size ho)
    · refine ⟨⟨vs[i], ?_⟩, hit₁.extBut hs₂'.extBut (Ne.symm h1), hx2 l _ (by simp [h2, h3]) hl⟩
      have : ((i + 1 : Nat) : Int) = (i : Int) + 1 := by push_cast; rfl
      rw [this]
      exact he₂
  done := fun H₀ env k b σ w r s Q E hs H off hQ => by
    obtain ⟨⟨old, he⟩, hit, hl⟩ := hs
    refine wpAny_mono (wpAny_pyNext_enum_end hh he hit (lget hl) (by simp) (Q := fun x s₁ => match x with | none => Q s₁ | some _ => False) fun h' he' => ?_) (fun x s₁ h => h) fun _ _ e => e
    exact hQ _ (H.extBut off fun a o ha q => he' a o (fun q' => ha (by simp [q'])) q)
  self := fun i s Q E hs hQ => by
    obtain ⟨⟨old, he⟩, _⟩ := hs
    exact wpAny_pyIter_enum he hQ

/-- enumerate(l), and its iterator -/
theorem src_enum (hh : A.handled = none) {l : Addr} {vs : List Value} {nn : Nat} {Q : Value → Shared → Prop} (H : St H₀ env k b σ w r s) (hl : b l = some (lstO vs nn))
    (h : ∀ e it s', (∀ elts x1 tp, Itr prog wd A (.Tuple elts x1 tp) e [e, it, l] [e, it] vs.length (enumP vs) (enumS e it l vs nn)) → St H₀ env k b σ w r s' → Off env k b w [e, it] →
      enumS e it l vs nn 0 s'.heap → (∀ a ∈ [e, it, l], a ∈ [e, it] ∨ ∃ o, b a = some o) → Q (.ref e) s') :
    wpAny (model prog wd) A (call (.type "enumerate") [.ref l]) (fun x s₁ => wpAny (model prog wd) A (pyIter x) Q E s₁) E s := by
  have hax := H.froz _ _ hl
  refine call_enumerate_1 hax fun h' he hit hz hk => ?_
  refine wpAny_pyIter_enum he ?_
  have n1 : s.heap.get? s.heap.objs.size = none := get_size_none _
  have n2 : s.heap.get? (s.heap.objs.size + 1) = none := none_of_le (Nat.le_succ _)
  have hlt := Heap.lt_size hax
  refine h _ _ _ (fun _ _ _ => itr_enum hh (Nat.succ_ne_self _) (Nat.ne_of_lt (Nat.lt_succ_of_lt hlt)) (Nat.ne_of_lt hlt) vs nn) (H.heap hk) (fun a ha => ?_) ⟨⟨_, he⟩, hit, hk _ _ hax⟩ (fun a ha => ?_)
  · simp at ha
    rcases ha with rfl | rfl
    · exact off_new H n2
    · exact off_new H n1
  · simp at ha
    rcases ha with rfl | rfl | rfl
    · left; simp
    · left; simp
    · right; exact ⟨_, hl⟩

/-- a store's kinds -/
noncomputable def okKind (env : Env) (x : Str) : Prop := env.kindOf x = some .local ∨ (env.kindOf x = some .cell ∧ ∀ c, env.cells.lookup x = some c → @LT.lt Nat _ env.locals c)

noncomputable def notLocal : Option NameKind → Bool
  | some .local => false
  | _ => true
theorem notLocal_ne {o : Option NameKind} (h : notLocal o = true) : o ≠ some .local := by rintro rfl; cases h
noncomputable def noCell (x : Str) (names : List (Str × NameKind)) : Bool := names.all fun q => match q.2 with
  | .cell => q.1 != x
  | _ => true
theorem noCell_not {x : Str} {names : List (Str × NameKind)} (h : noCell x names = true) : (x, NameKind.cell) ∉ names := fun hm => by
  have := List.all_eq_true.mp h _ hm
  simp at this
structure CompSide (env : Env) (scope : Scope) (cl : List (Str × Addr)) (σ σc : Vars) : Prop where
  clos : closureFor scope env = pure cl
  kind : scope.kind = .function
  names : ∀ y ∈ scope.names, y.2 = .local → scope.names.lookup y.1 = some .local
  nd : (σc.map (·.1)).Nodup
  vkB : ∀ C, (σc.all fun p => vark (compEnvX scope cl C env) p.1) = true
  ccl : ∀ p ∈ cl, env.cells.lookup p.1 = some p.2
  capM : ∀ p ∈ σc, p.2 = none ∨ p ∈ σ
  capB : (σc.all fun p => p.2.isNone || (notLocal (env.kindOf p.1) && notLocal ((compEnvX scope cl 0 env).kindOf p.1) && noCell p.1 scope.names)) = true
theorem CompSide.vk {env : Env} {scope : Scope} {cl : List (Str × Addr)} {σ σc : Vars} (S : CompSide env scope cl σ σc) (C : Addr) : ∀ p ∈ σc, vark (compEnvX scope cl C env) p.1 = true := List.all_eq_true.mp (S.vkB C)
theorem CompSide.cap {env : Env} {scope : Scope} {cl : List (Str × Addr)} {σ σc : Vars} (S : CompSide env scope cl σ σc) : ∀ p ∈ σc, p.2 = none ∨ (p ∈ σ ∧ env.kindOf p.1 ≠ some .local ∧ (compEnvX scope cl 0 env).kindOf p.1 ≠ some .local ∧ (p.1, NameKind.cell) ∉ scope.names) := fun p hp => by
  have h := List.all_eq_true.mp S.capB p hp
  rcases S.capM p hp with e | e
  · exact .inl e
  · cases e2 : p.2 with
    | none => exact .inl rfl
    | some v =>
      simp only [e2, Option.isNone_some, Bool.false_or, Bool.and_eq_true] at h
      exact .inr ⟨e, notLocal_ne h.1.1, notLocal_ne h.1.2, noCell_not h.2⟩

noncomputable def stepCore (prog : Program) (wd : World) (A : Around) (H₀ : Heap) (r : RestT) (env : Env) (σc : Vars) (target elt : Expr) (ifs : List Expr) (PInv : WM → Own → List Value → Prop) (ys : List Value) (k' b' : WM) (v : Value) (s' : Shared) : Prop :=
  wpAny (model prog wd) A (assign target env v) (fun _ s₂ => wpAny (model prog wd) A (testsOf ifs env) (fun ok s₃ => if ok = true
        then wpAny (model prog wd) A (eval elt env) (fun y s₄ => SPost H₀ env k' b' r σc (fun b w => PInv b w (ys ++ [y])) s₄) (fun _ _ => False) s₃
        else SPost H₀ env k' b' r σc (fun b w => PInv b w ys) s₃) (fun _ _ => False) s₂) (fun _ _ => False) s'

/-- a comprehension as a value: what is left once the iterator stands -/
noncomputable def CompGoal (prog : Program) (wd : World) (A : Around) (E : Value → Shared → Prop) (env : Env) (scope : Scope) (cl : List (Str × Addr)) (use : Option (Value → Sem Unit)) (Q : Value → Shared → Prop) (e : Expr) (it : Value) (s : Shared) : Prop :=
  wpAny (model prog wd) A (newList []) (fun acc s₃ => wpAny (model prog wd) A (newFunctionEnv scope env.globals cl [] env.qual none .none (some env)) (fun cenv s₄ =>
      codeAny (model prog wd) A (.compStart e 0 it acc { cenv with scope := relabel scope env }) (compPost (model prog wd) A E use Q acc cenv.locals) s₄) E s₃) E s

theorem lcomp {elt target iter : Expr} {ifs : List Expr} {scope : Scope} {pos : Pos} {Q : Value → Shared → Prop} {cl : List (Str × Addr)} {σc : Vars} (S : CompSide env scope cl σ σc)
    (h : wpAny (model prog wd) A (eval iter env) (fun x s₁ => wpAny (model prog wd) A (pyIter x) (fun it s₂ => CompGoal prog wd A E env scope cl none Q (.ListComp elt [⟨target, iter, ifs, 0⟩] scope pos) it s₂) E s₁) E s)
    (hs : ∀ x, foldedSetIterable iter env x = pure x := by intro _; rfl) : wpAny (model prog wd) A (eval (.ListComp elt [⟨target, iter, ifs, 0⟩] scope pos) env) Q E s := by
  rw [eval_ListComp]
  exact wpAny_comprehension_free (use := none) rfl hs S.clos S.kind S.names h
theorem acomp {elt target iter : Expr} {ifs : List Expr} {scope : Scope} {pos spos : Pos} {y : Str} {py : Pos} {Q : Flow → Shared → Prop} {cl : List (Str × Addr)} {σc : Vars} (S : CompSide env scope cl σ σc)
    (h : wpAny (model prog wd) A (eval iter env) (fun x s₁ => wpAny (model prog wd) A (pyIter x) (fun it s₂ => CompGoal prog wd A E env scope cl (some (assign (.Name y py) env)) (fun _ s' => Q .next s') (.ListComp elt [⟨target, iter, ifs, 0⟩] scope pos) it s₂) E s₁) E s)
    (hsw : swapsWith (.ListComp elt [⟨target, iter, ifs, 0⟩] scope pos) (some (.Name y py)) spos.line env = pure true)
    (hs : ∀ x, foldedSetIterable iter env x = pure x := by intro _; rfl) : wpAny (model prog wd) A (exec (.Assign [.Name y py] (.ListComp elt [⟨target, iter, ifs, 0⟩] scope pos) spos) env) Q E s := by
  rw [exec_Assign_Name_used _ _ _ _ hsw]
  refine wpAny_bind (wpAny_standAt (wpAny_bind ?_))
  show wpAny _ A (do let _ ← comprehension (.ListComp elt [⟨target, iter, ifs, 0⟩] scope pos) scope env _ (newList []) false (eval iter env) (some (assign (.Name y py) env))) _ _ s
  exact wpAny_bind (wpAny_mono (wpAny_comprehension_free (use := some (assign (.Name y py) env)) (Q := fun _ s' => Q .next s') rfl hs S.clos S.kind S.names h) (fun _ s' hq => wpAny_pure (wpAny_pure hq)) fun _ _ e => e)

variable {elt target iter : Expr} {ifs : List Expr} {scope : Scope} {pos : Pos} {I : Addr} {fp wr : List Addr} {n : Nat} {P : Nat → WM → Value → Prop} {Si : Nat → Heap → Prop} {cl : List (Str × Addr)} {σc : Vars}

/-- the value stands free (the list is the call's own) -/
theorem goal_eval {Q : Value → Shared → Prop} (S : CompSide env scope cl σ σc) (W : Itr prog wd A target I fp wr n P Si) (H : St H₀ env k b σ w r s) (off : Off env k b w wr) (hs0 : Si 0 s.heap) (hfp : ∀ a ∈ fp, a ∈ wr ∨ ∃ o, b a = some o) (hsz : n ≤ sizeLine)
    (Inv : Nat → WM → Own → List Value → Prop) (h0 : Inv 0 b w []) (mono : ∀ i b' b'' w' ys, Sub b' b'' → Inv i b' w' ys → Inv i b'' w' ys)
    (step : ∀ i v C k' b' w' ys s', i < n → Sub k k' → Gr k b b' → Inv i b' w' ys → P i b' v → St H₀ (compEnvX scope cl C env) k' b' σc w' r s' → stepCore prog wd A H₀ r (compEnvX scope cl C env) σc target elt ifs (Inv (i + 1)) ys k' b' v s')
    (fin : ∀ D b' w' ys s', Gr k b b' → Inv n b' w' ys → St H₀ env k b' σ ((D, lstO ys ys.length) :: w') r s' → Q (.ref D) s') :
    CompGoal prog wd A E env scope cl none Q (.ListComp elt [⟨target, iter, ifs, 0⟩] scope pos) (.ref I) s := by
  refine comp_core (RR := fun acc C => compPost (model prog wd) A E none Q acc C) W H off hs0 hfp hsz S.kind σc S.nd S.vk S.ccl S.cap Inv h0 mono step ?_
  intro D C b' w' ys s' m hg hinv H' hn hoff
  exact ⟨m, hn, fun h' hs' => fin D b' w' ys _ hg hinv (H'.extBut (tk := s'.toks) hoff fun a o ha e => hs'.extBut a o (fun q => ha (by rw [q]; exact List.mem_singleton.mpr rfl)) e)⟩
theorem goal_asg {Q : Value → Shared → Prop} {y : Str} {py : Pos} {σa : Value → Vars} (hput : ∀ v, Put y (some v) σ (σa v)) (hy : okKind env y)
    (S : CompSide env scope cl σ σc) (W : Itr prog wd A target I fp wr n P Si) (H : St H₀ env k b σ w r s) (off : Off env k b w wr) (hs0 : Si 0 s.heap) (hfp : ∀ a ∈ fp, a ∈ wr ∨ ∃ o, b a = some o) (hsz : n ≤ sizeLine)
    (Inv : Nat → WM → Own → List Value → Prop) (h0 : Inv 0 b w []) (mono : ∀ i b' b'' w' ys, Sub b' b'' → Inv i b' w' ys → Inv i b'' w' ys)
    (step : ∀ i v C k' b' w' ys s', i < n → Sub k k' → Gr k b b' → Inv i b' w' ys → P i b' v → St H₀ (compEnvX scope cl C env) k' b' σc w' r s' → stepCore prog wd A H₀ r (compEnvX scope cl C env) σc target elt ifs (Inv (i + 1)) ys k' b' v s')
    (fin : ∀ D b' w' ys s', Gr k b b' → Inv n b' w' ys → St H₀ env k b' (σa (.ref D)) ((D, lstO ys ys.length) :: w') r s' → Q .none s') :
    CompGoal prog wd A E env scope cl (some (assign (.Name y py) env)) Q (.ListComp elt [⟨target, iter, ifs, 0⟩] scope pos) (.ref I) s := by
  refine comp_core (RR := fun acc C => compPost (model prog wd) A E (some (assign (.Name y py) env)) Q acc C) W H off hs0 hfp hsz S.kind σc S.nd S.vk S.ccl S.cap Inv h0 mono step ?_
  intro D C b' w' ys s' m hg hinv H' hn hoff
  show wpAny _ A (assign (.Name y py) env (.ref D)) _ _ _
  obtain ⟨oC, es, ep, hoC, hr⟩ := id hn
  have hC := hoff C (List.mem_singleton.mpr rfl)
  obtain ⟨H'', hsub⟩ := H'.addK hoC hC.2.2.2.1 hC.2.2.1 (fun x c h _ => hC.2.2.2.2 x c h) hC.1
  refine wpAny_assign_Name (st H'' (hput _) hy fun s'' H₃ => ?_)
  refine ⟨m, ⟨oC, es, ep, H₃.keep C _ (upd_self ..), hr⟩, fun h' hs' => ?_⟩
  have H₄ := H₃.weak hsub H.bk
  refine fin D b' w' ys _ hg hinv (H₄.extBut (wr := [C]) (tk := s''.toks) (fun a ha => ?_) fun a o ha e => hs'.extBut a o (fun q => ha (by rw [q]; exact List.mem_singleton.mpr rfl)) e)
  rw [List.mem_singleton.mp ha]; exact hC
end
end Mine
end

section
set_option maxRecDepth 100000
set_option Elab.async false
set_option linter.unusedVariables false
namespace Mine
open PySem PySem.Calls PySem.W PyProof.Rows

/-! what a value holds -/
noncomputable abbrev TP (α : Type) := WM → Value → α → Prop
noncomputable def TInt : TP Int := fun _ v i => ∃ t, v = .int i t
noncomputable def TPair : TP (Int × Int) := fun b v p => ∃ a t u, v = .ref a ∧ b a = some (tupO [.int p.1 t, .int p.2 u])
inductive All2 {α β : Type} (R : α → β → Prop) : List α → List β → Prop
  | nil : All2 R [] []
  | cons {a b l m} : R a b → All2 R l m → All2 R (a :: l) (b :: m)
inductive TList {α : Type} (P : TP α) (b : WM) (v : Value) (xs : List α) : Prop
  | mk (a : Addr) (vs : List Value) (n : Nat) (e : v = .ref a) (h : b a = some (lstO vs n)) (al : All2 (P b) vs xs) : TList P b v xs
noncomputable def MonoT {α : Type} (P : TP α) : Prop := ∀ b b' v x, Sub b b' → P b v x → P b' v x

theorem All2.imp {α β : Type} {R S : α → β → Prop} (h : ∀ a b, R a b → S a b) {l : List α} {m : List β} (H : All2 R l m) : All2 S l m := by
  induction H with
  | nil => exact .nil
  | cons x _ ih => exact .cons (h _ _ x) ih
theorem All2.length {α β : Type} {R : α → β → Prop} {l : List α} {m : List β} (H : All2 R l m) : l.length = m.length := by
  induction H with
  | nil => rfl
  | cons _ _ ih => exact congrArg Nat.succ ih
theorem All2.append {α β : Type} {R : α → β → Prop} {l l' : List α} {m m' : List β} (H : All2 R l m) (h : All2 R l' m') : All2 R (l ++ l') (m ++ m') := by
  induction H with
  | nil => exact h
  | cons x _ ih => exact .cons x ih
theorem All2.swap {α β : Type} {R : α → β → Prop} {l : List α} {m : List β} (H : All2 R l m) : All2 (fun b a => R a b) m l := by
  induction H with
  | nil => exact .nil
  | cons x _ ih => exact .cons x ih
theorem All2.get' {α β : Type} {R : α → β → Prop} {l : List α} {m : List β} (H : All2 R l m) : ∀ {i : Nat} {a}, l[i]? = some a → ∃ b, m[i]? = some b ∧ R a b := by
  induction H with
  | nil => intro i a h; exact absurd h (by rw [List.getElem?_nil]; exact nofun)
  | cons x _ ih =>
    intro i a h
    cases i with
    | zero => exact ⟨_, rfl, Option.some.inj h ▸ x⟩
    | succ i => exact ih h
theorem All2.get {α β : Type} {R : α → β → Prop} {l : List α} {m : List β} (H : All2 R l m) {i : Nat} {b : β} (h : m[i]? = some b) : ∃ a, l[i]? = some a ∧ R a b := H.swap.get' h
theorem All2.at' {α β : Type} {R : α → β → Prop} {l : List α} {m : List β} (h : All2 R l m) {i : Nat} {a : α} {x : β} (h1 : l[i]? = some a) (h2 : m[i]? = some x) : R a x := by
  obtain ⟨y, hy, hr⟩ := h.get' h1
  rw [h2] at hy; cases hy; exact hr
theorem fa_cons {α : Type} {p : α → Prop} {a : α} {l : List α} (h1 : p a) (h2 : ∀ x ∈ l, p x) : ∀ x ∈ a :: l, p x := List.forall_mem_cons.mpr ⟨h1, h2⟩
theorem All2.take {α β : Type} {R : α → β → Prop} {l : List α} {m : List β} (H : All2 R l m) : ∀ k, All2 R (l.take k) (m.take k) := by
  induction H with
  | nil => intro k; rw [List.take_nil, List.take_nil]; exact .nil
  | cons x _ ih =>
    intro k
    cases k with
    | zero => exact .nil
    | succ k => exact .cons x (ih k)
theorem All2.drop {α β : Type} {R : α → β → Prop} {l : List α} {m : List β} (H : All2 R l m) : ∀ k, All2 R (l.drop k) (m.drop k) := by
  induction H with
  | nil => intro k; rw [List.drop_nil, List.drop_nil]; exact .nil
  | cons x h ih =>
    intro k
    cases k with
    | zero => exact .cons x h
    | succ k => exact ih k
theorem All2.replicate {α β : Type} {R : α → β → Prop} {a : α} {b : β} (h : R a b) : ∀ k, All2 R (List.replicate k a) (List.replicate k b)
  | 0 => .nil
  | k + 1 => .cons h (All2.replicate h k)
theorem All2.set {α β : Type} {R : α → β → Prop} {a : α} {b : β} (h : R a b) {l : List α} {m : List β} (H : All2 R l m) : ∀ k, All2 R (l.set k a) (m.set k b) := by
  induction H with
  | nil => intro k; exact .nil
  | cons x y ih =>
    intro k
    cases k with
    | zero => exact .cons h y
    | succ k => exact .cons x (ih k)

theorem mono_int : MonoT TInt := fun _ _ _ _ _ h => h
theorem mono_pair : MonoT TPair := fun b b' v x hs ⟨a, t, u, e, h⟩ => ⟨a, t, u, e, hs _ _ h⟩
theorem mono_list {α : Type} {P : TP α} (m : MonoT P) : MonoT (TList P) := fun b b' v x hs ⟨a, vs, n, e, h, al⟩ => ⟨a, vs, n, e, hs _ _ h, al.imp fun v x => m b b' v x hs⟩
noncomputable abbrev TRow := TList TInt
noncomputable abbrev TMat := TList TRow
noncomputable abbrev TRrow := TList TPair
noncomputable abbrev TRmat := TList TRrow
theorem mono_row : MonoT TRow := mono_list mono_int
theorem mono_mat : MonoT TMat := mono_list mono_row
theorem mono_rrow : MonoT TRrow := mono_list mono_pair
theorem mono_rmat : MonoT TRmat := mono_list mono_rrow

section
variable {prog : Program} {wd : World} {K : Frag} {p : Program} {loose : List Str} {mg mb : Str → Option Value} {H₀ : Heap}
  {env : Env} {k b : WM} {σ σ' : Vars} {w w' : Own} {r : RestT} {s : Shared} {A : Around} {E : Value → Shared → Prop} {n : Nat}

/-! plain values -/
theorem cint {i : Int} {kd : Nat} {pos : Pos} {Q : Value → Shared → Prop} (H : St H₀ env k b σ w r s) (h : ∀ s' t, St H₀ env k b σ w r s' → Q (.int i t) s') : wpAny (model prog wd) A (eval (.Constant (.int i) kd pos) env) Q E s :=
  wpAny_Constant_int (h _ _ H.tok)
theorem iadd {x y : Int} {t u : Tok} {Q : Value → Shared → Prop} (H : St H₀ env k b σ w r s) (h : ∀ s' t, St H₀ env k b σ w r s' → Q (.int (x + y) t) s') : wpAny (model prog wd) A (binaryOp .Add (.int x t) (.int y u)) Q E s := PySem.P.add_int (h _ _ H.tok)
theorem isub {x y : Int} {t u : Tok} {Q : Value → Shared → Prop} (H : St H₀ env k b σ w r s) (h : ∀ s' t, St H₀ env k b σ w r s' → Q (.int (x - y) t) s') : wpAny (model prog wd) A (binaryOp .Sub (.int x t) (.int y u)) Q E s := PySem.P.sub_int (h _ _ H.tok)
theorem imul {x y : Int} {t u : Tok} {Q : Value → Shared → Prop} (H : St H₀ env k b σ w r s) (hm : IntMulOk x y) (h : ∀ s' t, St H₀ env k b σ w r s' → Q (.int (x * y) t) s') : wpAny (model prog wd) A (binaryOp .Mult (.int x t) (.int y u)) Q E s := PySem.P.mul_int (h _ _ H.tok) hm
theorem ineg {x : Int} {t : Tok} {Q : Value → Shared → Prop} (H : St H₀ env k b σ w r s) (h : ∀ s' t, St H₀ env k b σ w r s' → Q (.int (-x) t) s') : wpAny (model prog wd) A (unaryOp .USub (.int x t)) Q E s := PySem.P.neg_int (h _ _ H.tok)

/-- bounds -/
noncomputable def Bd (β : Nat) (x : Int) : Prop := x.natAbs < 2 ^ β
theorem Bd.log {β : Nat} {x : Int} (h : Bd β x) (hβ : β ≤ 9000) : x.natAbs.log2 < 9000 := by
  by_cases h0 : x.natAbs = 0
  · rw [h0]; decide +kernel
  · exact Nat.lt_of_lt_of_le ((Nat.log2_lt h0).mpr h) hβ
theorem Bd.mono {β γ : Nat} {x : Int} (h : Bd β x) (hb : β ≤ γ) : Bd γ x := Nat.lt_of_lt_of_le h (Nat.pow_le_pow_right (by decide) hb)
theorem Bd.mul {β γ : Nat} {x y : Int} (h : Bd β x) (h' : Bd γ y) : Bd (β + γ) (x * y) := by
  unfold Bd at *
  rw [Int.natAbs_mul, Nat.pow_add]
  exact Nat.mul_lt_mul'' h h'
theorem Bd.sub {β : Nat} {x y : Int} (h : Bd β x) (h' : Bd β y) : Bd (β + 1) (x - y) := by
  unfold Bd at *
  have := Int.natAbs_sub_le x y
  rw [Nat.pow_succ]; lia
theorem Bd.add {β : Nat} {x y : Int} (h : Bd β x) (h' : Bd β y) : Bd (β + 1) (x + y) := by
  unfold Bd at *
  have := Int.natAbs_add_le x y
  rw [Nat.pow_succ]; lia
theorem Bd.mulOk {β γ : Nat} {x y : Int} (h : Bd β x) (h' : Bd γ y) (hb : β + γ ≤ 100000) : IntMulOk x y := by
  have key : ∀ {δ : Nat} {z : Int}, Bd δ z → Builtin.Int.intBits z ≤ δ + 1 := fun {δ z} hz => by
    unfold Builtin.Int.intBits
    split
    · exact Nat.zero_le _
    · by_cases h0 : z.natAbs = 0
      · have : z.natAbs.log2 = 0 := by rw [h0]; decide +kernel
        lia
      · have := (Nat.log2_lt h0).mpr hz
        lia
  unfold IntMulOk
  have h1 := key h
  have h2 := key h'
  have : Builtin.Int.intTooBig (Builtin.Int.intBits x + Builtin.Int.intBits y) = false := by
    unfold Builtin.Int.intTooBig
    refine decide_eq_false ?_
    have : bitsLine = 134217728 := by decide +kernel
    lia
  rw [this]; simp

theorem idiv {x y : Int} {t u : Tok} {Q : Value → Shared → Prop} (H : St H₀ env k b σ w r s) (hy : y ≠ 0) {β : Nat} (hb : Bd β y) (hβ : β ≤ 9000) (h : ∀ s' t, St H₀ env k b σ w r s' → Q (.int (x.fdiv y) t) s') : wpAny (model prog wd) A (binaryOp .FloorDiv (.int x t) (.int y u)) Q E s :=
  PyProof.Rows.floordiv_int hy (h _ _ H.tok) (.inl (PyProof.noPylong_of_log2 (hb.log hβ)))
theorem imod {x y : Int} {t u : Tok} {Q : Value → Shared → Prop} (H : St H₀ env k b σ w r s) (hy : y ≠ 0) (h : ∀ s' t, St H₀ env k b σ w r s' → Q (.int (x.fmod y) t) s') : wpAny (model prog wd) A (binaryOp .Mod (.int x t) (.int y u)) Q E s :=
  PyProof.Rows.mod_int' hy (h _ _ H.tok)

/-! the built-ins -/
theorem c_abs {x : Int} {t : Tok} {Q : Value → Shared → Prop} (H : St H₀ env k b σ w r s) (h : ∀ s' t, St H₀ env k b σ w r s' → Q (.int (x.natAbs : Int) t) s') : wpAny (model prog wd) A (call (.builtin "abs") [.int x t]) Q E s :=
  PyProof.Rows.call_abs_int fun u tk => by
    have e : (if x < 0 then -x else x) = (x.natAbs : Int) := by split <;> lia
    rw [e]; exact h _ _ H.tok
theorem c_len {l : Addr} {vs : List Value} {nn : Nat} {Q : Value → Shared → Prop} (H : St H₀ env k b σ w r s) (hl : s.heap.get? l = some (lstO vs nn)) (hz : vs.length ≤ sizeLine) (h : ∀ s' t, St H₀ env k b σ w r s' → Q (.int (vs.length : Int) t) s') :
    wpAny (model prog wd) A (call (.builtin "len") [.ref l]) Q E s :=
  PyProof.Rows.len_list (lget hl) (by rw [List.size_toArray]; have := PySem.sizeLine_eq; lia) (by rw [List.size_toArray]; exact h _ _ H.tok)
theorem c_int {x : Int} {t : Tok} {Q : Value → Shared → Prop} (h : Q (.int x t) s) : wpAny (model prog wd) A (call (.type "int") [.int x t]) Q E s := call_int_int h
theorem c_min {x y : Int} {t u : Tok} {Q : Value → Shared → Prop} (hh : A.handled = none) (H : St H₀ env k b σ w r s) (h : ∀ s' t, St H₀ env k b σ w r s' → Q (.int (if y < x then y else x) t) s') :
    wpAny (model prog wd) A (call (.builtin "min") [.int x t, .int y u]) Q E s :=
  min_two_ints hh fun h' tk hk => by
    by_cases hc : y < x
    · rw [if_pos hc]; have := h _ u (H.ext (tk := tk) hk); rwa [if_pos hc] at this
    · rw [if_neg hc]; have := h _ t (H.ext (tk := tk) hk); rwa [if_neg hc] at this
/-- range(n), and its iterator -/
theorem c_range1 (hh : A.handled = none) {n : Nat} {t : Tok} {Q : Value → Shared → Prop} (H : St H₀ env k b σ w r s) (hn : n ≤ 1000)
    (h : ∀ I s', (∀ x px, Itr prog wd A (.Name x px) I [I] [I] n (fun i _ v => ∃ t, v = .int (0 + (i : Int)) t) (fun i h => IsRangeIter h I (0 + (i : Nat) * 1) ((n : Int) - (i : Nat)) 1)) → St H₀ env k b σ w r s' → Off env k b w [I] →
      IsRangeIter s'.heap I (0 + ((0 : Nat) : Nat) * 1) ((n : Int) - ((0 : Nat) : Nat)) 1 → (∀ a ∈ [I], a ∈ [I] ∨ ∃ o, b a = some o) → Q (.ref I) s') :
    wpAny (model prog wd) A (call (.type "range") [.int (n : Int) t]) (fun x s₁ => wpAny (model prog wd) A (pyIter x) Q E s₁) E s := by
  have hrs : Builtin.Range.rangeSize 0 (n : Int) 1 = ((n : Nat) : Int) := by rw [rangeSize_one]; split <;> lia
  refine call_range_1 ?_
  refine src_range hh (H.ext (tk := s.toks + 1 + 1) fun a o e => Heap.get?_push_of_some _ e) (IsRange.new ..) ?_ hrs h
  exact small_one (by decide) (by decide) (by lia) (by lia)
theorem c_range2 (hh : A.handled = none) {a : Int} {n : Nat} {c : Int} {t u : Tok} {Q : Value → Shared → Prop} (H : St H₀ env k b σ w r s) (hn : n ≤ 1000) (ha : 0 ≤ a) (ha' : a ≤ 1000) (hc : c = a + n)
    (h : ∀ I s', (∀ x px, Itr prog wd A (.Name x px) I [I] [I] n (fun i _ v => ∃ t, v = .int (a + (i : Int)) t) (fun i h => IsRangeIter h I (a + (i : Nat) * 1) ((n : Int) - (i : Nat)) 1)) → St H₀ env k b σ w r s' → Off env k b w [I] →
      IsRangeIter s'.heap I (a + ((0 : Nat) : Nat) * 1) ((n : Int) - ((0 : Nat) : Nat)) 1 → (∀ a ∈ [I], a ∈ [I] ∨ ∃ o, b a = some o) → Q (.ref I) s') :
    wpAny (model prog wd) A (call (.type "range") [.int a t, .int c u]) (fun x s₁ => wpAny (model prog wd) A (pyIter x) Q E s₁) E s := by
  subst hc
  have hrs : Builtin.Range.rangeSize a (a + n) 1 = ((n : Nat) : Int) := by rw [rangeSize_one]; split <;> lia
  refine call_range_2 ?_
  refine src_range hh (H.ext (tk := s.toks + 1) fun a o e => Heap.get?_push_of_some _ e) (IsRange.new ..) ?_ hrs h
  exact small_one (by lia) (by lia) (by lia) (by lia)

/-- list(l): a copy -/
theorem c_list {l : Addr} {vs : List Value} {nn : Nat} {Q : Value → Shared → Prop} (H : St H₀ env k b σ w r s) (hl : s.heap.get? l = some (lstO vs nn)) (hz : vs.length ≤ sizeLine)
    (h : ∀ D c s', Gr k b (upd b D (lstO vs c)) → St H₀ env k (upd b D (lstO vs c)) σ w r s' → St H₀ env k b σ ((D, lstO vs c) :: w) r s' → Q (.ref D) s') :
    wpAny (model prog wd) A (call (.type "list") [.ref l]) Q E s :=
  call_list_seq (hsz := by rw [List.size_toArray]; exact hz) l (.inl rfl) hl rfl rfl fun h' c' hk hD => by
    have q := H.allocB (tk := s.toks) (get_size_none _) hk hD
    exact h _ c' _ q.1 q.2 (H.allocW (tk := s.toks) (get_size_none _) hk hD ⟨_, _, rfl⟩)
theorem n_list {vs : List Value} {Q : Value → Shared → Prop} (H : St H₀ env k b σ w r s) (hz : vs.length ≤ sizeLine)
    (h : ∀ D s', Gr k b (upd b D (lstO vs 0)) → St H₀ env k (upd b D (lstO vs 0)) σ w r s' → St H₀ env k b σ ((D, lstO vs 0) :: w) r s' → Q (.ref D) s') : wpAny (model prog wd) A (newList vs) Q E s :=
  wpAny_newObj_type (by
    have up : ∀ a o, s.heap.get? a = some o → (s.heap.push (lstO vs 0)).get? a = some o := fun a o e => Heap.get?_push_of_some _ e
    have hD : (s.heap.push (lstO vs 0)).get? s.heap.objs.size = some (lstO vs 0) := Heap.get?_push_size _ rfl
    have q := H.allocB (tk := s.toks) (get_size_none _) up hD
    exact h _ _ q.1 q.2 (H.allocW (tk := s.toks) (get_size_none _) up hD ⟨_, _, rfl⟩)) (by show vs.toArray.size ≤ sizeLine; rw [List.size_toArray]; exact hz)
theorem n_tup {vs : List Value} {Q : Value → Shared → Prop} (H : St H₀ env k b σ w r s) (hz : vs.length ≤ sizeLine)
    (h : ∀ D s', Gr k b (upd b D (tupO vs)) → St H₀ env k (upd b D (tupO vs)) σ w r s' → Q (.ref D) s') : wpAny (model prog wd) A (newTuple vs) Q E s :=
  wpAny_newObj_type (by
    have up : ∀ a o, s.heap.get? a = some o → (s.heap.push (tupO vs)).get? a = some o := fun a o e => Heap.get?_push_of_some _ e
    have hD : (s.heap.push (tupO vs)).get? s.heap.objs.size = some (tupO vs) := Heap.get?_push_size _ rfl
    have q := H.allocB (tk := s.toks) (get_size_none _) up hD
    exact h _ _ q.1 q.2) (by show vs.toArray.size ≤ sizeLine; rw [List.size_toArray]; exact hz)

/-! items -/
theorem sub_tail {value slice : Expr} {o i : Value} {T id : String} {ops : List Value} {Q : Value → Shared → Prop} (hT : s.TypeIs o T) (hl : typeLookup (.type T) "__getitem__" = pure (some (.builtin id)))
    (h : wpAny (model prog wd) A (getItem o i) Q E s) (hs : subscripted slice false o i = operate ops (getItem o i)) : wpAny (model prog wd) A (subscriptTail value slice o i) Q E s := by
  unfold subscriptTail
  refine wpAny_bind ?_
  rw [getitemInPython_of_ne hT.not_modules]
  refine wpAny_bind (wpAny_specialOf hT hl ?_)
  have fin : wpAny (model prog wd) A (subscripted slice false o i) (fun r s₃ => wpAny (model prog wd) A (letTemporaryGo value o r >>= fun _ => pure r) Q E s₃) E s := by
    rw [hs]
    exact wpAny_operating (wpAny_mono h (fun r s₃ h₃ => wpAny_bind (PySem.wpAny_letTemporaryGo (wpAny_pure h₃))) fun _ _ x => x)
  first
    | exact wpAny_pure (wpAny_bind fin)
    | exact wpAny_bind (wpAny_pure (wpAny_bind fin))
    | exact wpAny_bind fin
theorem g_list {value slice : Expr} {l : Addr} {vs : List Value} {nn : Nat} {i : Nat} {u : Tok} {v : Value} {Q : Value → Shared → Prop} (hl : s.heap.get? l = some (lstO vs nn)) (hi : (i : Int) < 2 ^ 63) (hx : vs[i]? = some v) (h : Q v s)
    (hs : subscripted slice false (.ref l) (.int (i : Int) u) = operate [.ref l, .int (i : Int) u] (getItem (.ref l) (.int (i : Int) u)) := by with_unfolding_all rfl) : wpAny (model prog wd) A (subscriptTail value slice (.ref l) (.int (i : Int) u)) Q E s :=
  sub_tail (lget hl).typeIs slot_list_getitem.lookup (wpAny_getItem_list (lget hl) (by lia) hi (by simpa using hx) h) hs
theorem g_tup {value slice : Expr} {l : Addr} {vs : List Value} {i : Nat} {u : Tok} {v : Value} {Q : Value → Shared → Prop} (hl : s.heap.get? l = some (tupO vs)) (hi : (i : Int) < 2 ^ 63) (hx : vs[i]? = some v) (h : Q v s)
    (hs : subscripted slice false (.ref l) (.int (i : Int) u) = operate [.ref l, .int (i : Int) u] (getItem (.ref l) (.int (i : Int) u)) := by with_unfolding_all rfl) : wpAny (model prog wd) A (subscriptTail value slice (.ref l) (.int (i : Int) u)) Q E s := by
  have ht : IsTup s.heap l vs.toArray := ⟨_, hl, rfl, 0, rfl⟩
  have hlt : i < vs.length := (List.getElem?_eq_some_iff.mp hx).1
  refine sub_tail ht.typeIs slot_tuple_getitem.lookup (getItem_tuple ht (Int.le_trans (by decide) (Int.natCast_nonneg i)) hi (j := i) ?_ (by simpa using hx) h) hs
  unfold seqIndex?
  simp only [List.size_toArray]
  have h0 : ¬ ((i : Int) < 0) := by lia
  simp [h0, hlt]
theorem g_tlist {α : Type} {P : TP α} {xs : List α} {x : α} {value slice : Expr} {o : Value} {i : Nat} {u : Tok} {Q : Value → Shared → Prop} (H : St H₀ env k b σ w r s) (ho : TList P b o xs) (hx : xs[i]? = some x) (hi : (i : Int) < 2 ^ 63) (h : ∀ v, P b v x → Q v s)
    (hs : ∀ a, subscripted slice false (.ref a) (.int (i : Int) u) = operate [.ref a, .int (i : Int) u] (getItem (.ref a) (.int (i : Int) u)) := by intro a; with_unfolding_all rfl) : wpAny (model prog wd) A (subscriptTail value slice o (.int (i : Int) u)) Q E s := by
  obtain ⟨a, vs, n, rfl, ha, al⟩ := ho
  obtain ⟨v, hv, hp⟩ := al.get hx
  exact g_list (H.froz _ _ ha) hi hv (h v hp) (hs a)

/-- a part of a list -/
theorem g_slice {α : Type} {P : TP α} {xs : List α} {value slice : Expr} {o : Value} {vl vu : Value} {lo hi : Option Int} {Q : Value → Shared → Prop} {t : Nat} (H : St H₀ env k b σ w r s) (ho : TList P b o xs) (pl : IsPart vl lo) (pu : IsPart vu hi) (m : MonoT P)
    (hz : xs.length ≤ sizeLine) (ys : List α) (hy : ∀ vs : List Value, vs.length = xs.length → ∀ R : Value → α → Prop, All2 R vs xs → All2 R (slicePick vs.toArray lo hi none).toList ys)
    (h : ∀ D b' s', Gr k b b' → St H₀ env k b' σ w r s' → TList P b' D ys → Q D s')
    (hs : ∀ a c, subscripted slice false (.ref a) (.ref c) = operate [.ref c, .ref a] (getItem (.ref a) (.ref c)) := by intro a c; with_unfolding_all rfl) :
    wpAny (model prog wd) A (subscriptTail value slice o (.ref s.heap.objs.size)) Q E { s with heap := s.heap.push { cls := .type "slice", data := .fields #[vl, vu, .none] } } := by
  obtain ⟨a, vs, n, rfl, ha, al⟩ := ho
  have hl := lget (H.froz _ _ ha)
  refine sub_tail (Heap.IsList.typeIs (s := { s with heap := s.heap.push { cls := .type "slice", data := .fields #[vl, vu, .none] } }) (hl.push _)) list_getitem_lookup
    (wpAny_getItem_list_slice (hl.push _) (Heap.IsSliceOf.new ..) pl pu .none (by simp) ?_ (by rw [List.size_toArray, al.length]; exact hz)) (hs a _)
  have H1 := H.heap (h' := s.heap.push { cls := .type "slice", data := .fields #[vl, vu, .none] }) fun a o e => Heap.get?_push_of_some _ e
  have up : ∀ a o, (s.heap.push { cls := .type "slice", data := .fields #[vl, vu, .none] }).get? a = some o → ((s.heap.push { cls := .type "slice", data := .fields #[vl, vu, .none] }).push (lstO (slicePick vs.toArray lo hi none).toList 0)).get? a = some o := fun a o e => Heap.get?_push_of_some _ e
  have q := H1.allocB (tk := s.toks) (get_size_none _) up (Heap.get?_push_size _ rfl)
  have e : (lstO (slicePick vs.toArray lo hi none).toList 0) = { cls := .type "list", data := .seq (slicePick vs.toArray lo hi none) } := by simp [lstO]
  rw [← e]
  exact h _ _ _ q.1 q.2 ⟨_, _, 0, rfl, upd_self .., (hy vs al.length _ al).imp fun v x => m _ _ _ _ q.1.1⟩

/-- an item is stored -/
theorem set_own {l : Addr} {vs : List Value} {nn : Nat} {i : Nat} {u : Tok} {v : Value} {Q : Unit → Shared → Prop} (H : St H₀ env k b σ w r s) (hm : s.heap.get? l = some (lstO vs nn)) (hi : i < vs.length) (hi' : (i : Int) < 2 ^ 63)
    (hp : Put l (lstO (vs.set i v) nn) w w') (h : ∀ s', St H₀ env k b σ w' r s' → Q () s') : wpAny (model prog wd) A (setItem (.ref l) (.int (i : Int) u) v) Q E s := by
  refine ki_setAt hm (by lia) hi' (by simpa using hi) ?_
  have e : (Obj.mapSeq (·.setIfInBounds (i : Int).toNat v)) (lstO vs nn) = lstO (vs.set i v) nn := by
    simp [Obj.mapSeq, lstO]
  refine h _ (H.write (tk := s.toks) hp ?_ ⟨_, _, rfl⟩ (Heap.SameBut.update ..))
  rw [← e]
  exact Heap.get?_update_self _ hm (by rw [e]; rfl)
/-- list.pop(0) on a list of one's own -/
theorem pop_own {l : Addr} {vs : List Value} {nn : Nat} {v : Value} {u : Tok} {Q : Value → Shared → Prop} (H : St H₀ env k b σ w r s) (hm : s.heap.get? l = some (lstO (v :: vs) nn)) (hz : vs.length + 1 ≤ sizeLine)
    (hp : Put l (lstO vs (nn + 1)) w w') (h : ∀ s', St H₀ env k b σ w' r s' → Q v s') : wpAny (model prog wd) A (call (.builtin "list.pop") [.ref l, .int 0 u]) Q E s := by
  refine call_meets PySem.F.slot_list_pop ⟨_, hm, rfl⟩ PySem.F.entry_list_pop (PySem.F.args_list_pop_2 _ _) (PySem.MeetsSeq.list_pop_at l _ nn 0 u 0 v (by decide) ?_ (by simp) (by simpa using hz)) ⟨hm, h _ (H.write (tk := s.toks) hp ?_ ⟨_, _, rfl⟩ (Heap.SameBut.update ..))⟩
  · simp [seqIndex?]
  · have e : (Obj.mapSeq fun xs => xs.eraseIdxIfInBounds 0) (lstO (v :: vs) nn) = lstO vs (nn + 1) := by
      have := kl_erase [] vs v
      simp only [List.nil_append, List.length_nil] at this
      simp [Obj.mapSeq, lstO, this]
    rw [← e]
    exact Heap.get?_update_self _ hm (by rw [e]; rfl)
/-- two lists, one after the other -/
theorem l_add {α : Type} {P : TP α} {xs ys : List α} {v₁ v₂ : Value} {Q : Value → Shared → Prop} (m : MonoT P) (H : St H₀ env k b σ w r s) (h1 : TList P b v₁ xs) (h2 : TList P b v₂ ys) (hz : xs.length + ys.length ≤ sizeLine)
    (h : ∀ v b' s', Gr k b b' → St H₀ env k b' σ w r s' → TList P b' v (xs ++ ys) → Q v s') : wpAny (model prog wd) A (binaryOp .Add v₁ v₂) Q E s := by
  obtain ⟨a, vs, n, rfl, ha, al⟩ := h1
  obtain ⟨c, ws, n', rfl, hc, al'⟩ := h2
  refine PySem.P.add_list (H.froz _ _ ha) (H.froz _ _ hc) ?_ (by rw [List.size_toArray, List.size_toArray, al.length, al'.length]; exact hz)
  have up : ∀ a o, s.heap.get? a = some o → (s.heap.push (lstO (vs ++ ws) 0)).get? a = some o := fun a o e => Heap.get?_push_of_some _ e
  have q := H.allocB (tk := s.toks) (get_size_none _) up (Heap.get?_push_size _ rfl)
  have e : (lstO (vs ++ ws) 0) = { cls := .type "list", data := .seq (vs.toArray ++ ws.toArray) } := by simp [lstO]
  rw [← e]
  exact h _ _ _ q.1 q.2 ⟨_, _, 0, rfl, upd_self .., (al.append al').imp fun v x => m _ _ _ _ q.1.1⟩
theorem replicate_foldl (v : Value) : ∀ (m : Nat) (acc : Array Value), List.foldl (fun x1 x2 => x1 ++ x2) acc (List.replicate m #[v]) = acc ++ (List.replicate m v).toArray
  | 0, acc => by simp
  | m + 1, acc => by
    rw [List.replicate_succ, List.foldl_cons, replicate_foldl v m]
    apply Array.toList_inj.mp
    simp [List.replicate_succ]
/-- [x] * n -/
theorem l_rep {i : Int} {m : Nat} {v : Value} {u : Tok} {Q : Value → Shared → Prop} (H : St H₀ env k b σ w r s) (h1 : TRow b v [i]) (hm : m ≤ 1000)
    (h : ∀ v b' s', Gr k b b' → St H₀ env k b' σ w r s' → TRow b' v (List.replicate m i) → Q v s') : wpAny (model prog wd) A (binaryOp .Mult v (.int (m : Int) u)) Q E s := by
  obtain ⟨a, vs, n, rfl, ha, al⟩ := h1
  cases al with
  | @cons x _ l _ hx al =>
  cases al
  have hl := H.froz _ _ ha
  obtain ⟨its, hits⟩ : ∃ its : Array Value, its = #[x] := ⟨_, rfl⟩
  have hl' : s.heap.get? a = some { cls := .type "list", dict := none, data := .seq its n, slots := #[] } := by rw [hits]; exact hl
  have c1 : its.size = 1 := by rw [hits]; rfl
  obtain ⟨X, hX⟩ : ∃ X : Int, X = (m : Int) := ⟨_, rfl⟩
  have hXn : X.toNat = m := by lia
  rw [← hX]
  have d0 : ¬(!Builtin.List.listFitsIndex X) = true := by simp [Builtin.List.listFitsIndex]; lia
  have d1 : ¬its.size * X.toNat > (2 ^ 63 - 1) / 8 := by rw [c1, hXn]; lia
  have d2 : ¬Builtin.List.listTooLong (its.size * X.toNat) = true := by
    rw [c1, hXn]; unfold Builtin.List.listTooLong; rw [PySem.sizeLine_eq, decide_eq_true_eq]; lia
  refine wpAny_binaryOp_repeat_ref (T := "list") (U := "int") (by decide) ⟨_, hl', rfl⟩ (fun s' => typeIs_int s' _ u) noFill_list_mul PySem.F.fills_int_mul PySem.F.slot_int_rmul repeat_list PySem.F.slot_int_index.lookup
    (call_meets PySem.F.slot_int_rmul (typeIs_int s _ u) PySem.F.entry_int_rmul (PySem.F.args_int_rmul_2 _ _) (int___rmul___int_list _ u a its n)
      ⟨hl', rfl, ⟨_, hl', rfl⟩, call_meets PySem.F.slot_list_mul ⟨_, hl', rfl⟩ PySem.F.entry_list_mul (PySem.F.args_list_mul_2 _ _)
        (AutoListH.list___mul___list_int_3 a its n X u d0 d1 d2)
        ⟨hl', ?_⟩⟩)
  rw [hits, hXn]
  have e : (lstO (List.replicate m x) 0) = { cls := .type "list", data := .seq (List.foldl (fun x1 x2 => x1 ++ x2) #[] (List.replicate (if (#[x] : Array Value).isEmpty = true then 0 else m) #[x])) } := by
    have : ((#[x] : Array Value).isEmpty = true) = False := by simp
    simp only [this, if_false]
    rw [replicate_foldl]
    simp [lstO]
  have up : ∀ a o, s.heap.get? a = some o → (s.heap.push (lstO (List.replicate m x) 0)).get? a = some o := fun a o e => Heap.get?_push_of_some _ e
  have q := H.allocB (tk := s.toks) (get_size_none _) up (Heap.get?_push_size _ rfl)
  rw [← e]
  exact h _ _ _ q.1 q.2 ⟨_, _, 0, rfl, upd_self .., (All2.replicate hx m).imp fun v x => mono_int _ _ _ _ q.1.1⟩

/-! comparisons of data -/
noncomputable def encP (q : Int × Int) : PyData := .tuple [.int q.1, .int q.2]
theorem reads_all {α : Type} {P : TP α} {enc : α → PyData} {h : Heap} (hp : ∀ v x, P b v x → ∃ as, Reads h v (enc x) as) : ∀ {vs : List Value} {xs : List α}, All2 (P b) vs xs → ∃ as, ReadsAll h vs (xs.map enc) as
  | _, _, .nil => ⟨[], .nil⟩
  | _, _, .cons x y => by
    obtain ⟨as, ha⟩ := hp _ _ x
    obtain ⟨bs, hb⟩ := reads_all hp y
    exact ⟨_, .cons ha hb⟩
theorem reads_list {α : Type} {P : TP α} {enc : α → PyData} {h : Heap} (hf : ∀ a o, b a = some o → h.get? a = some o) (hp : ∀ v x, P b v x → ∃ as, Reads h v (enc x) as) {v : Value} {xs : List α} (hv : TList P b v xs) : ∃ as, Reads h v (.list (xs.map enc)) as := by
  obtain ⟨a, vs, n, rfl, ha, al⟩ := hv
  obtain ⟨as, hr⟩ := reads_all hp al
  exact ⟨_, .list (hf _ _ ha) rfl rfl (by simpa using hr)⟩
theorem reads_int {h : Heap} {v : Value} {x : Int} (hv : TInt b v x) : ∃ as, Reads h v (.int x) as := by
  obtain ⟨t, rfl⟩ := hv; exact ⟨_, .int x t⟩
theorem reads_pair {h : Heap} (hf : ∀ a o, b a = some o → h.get? a = some o) {v : Value} {q : Int × Int} (hv : TPair b v q) : ∃ as, Reads h v (encP q) as := by
  obtain ⟨a, t, u, rfl, ha⟩ := hv
  exact ⟨_, .tuple (hf _ _ ha) rfl rfl (.cons (.int _ _) (.cons (.int _ _) .nil))⟩
noncomputable def encRow (xs : List Int) : PyData := .list (xs.map .int)
noncomputable def encMat (m : List (List Int)) : PyData := .list (m.map encRow)
noncomputable def encRrow (xs : List (Int × Int)) : PyData := .list (xs.map encP)
noncomputable def encRmat (m : List (List (Int × Int))) : PyData := .list (m.map encRrow)

theorem shaped_list {α : Type} {enc : α → PyData} {d : Nat} (h : ∀ x, (enc x).canLay0 = true ∧ (enc x).depth ≤ d) (xs : List α) : (PyData.list (xs.map enc)).canLay0 = true ∧ (PyData.list (xs.map enc)).depth ≤ d + 1 := by
  have key : ∀ xs : List α, PyData.canLayAll0 (xs.map enc) = true ∧ PyData.depthAll (xs.map enc) ≤ d := by
    intro xs
    induction xs with
    | nil => simp [PyData.canLayAll0, PyData.depthAll]
    | cons x r ih => exact ⟨by simp [PyData.canLayAll0, h x, ih], by show PyData.depthAll (enc x :: r.map enc) ≤ d; rw [PyData.depthAll]; exact Nat.max_le.mpr ⟨(h x).2, ih.2⟩⟩
  exact ⟨by simp [PyData.canLay0, key xs], by rw [PyData.depth]; exact Nat.succ_le_succ (key xs).2⟩
end
end Mine
end

section
set_option maxRecDepth 100000
set_option Elab.async false
set_option linter.unusedVariables false
namespace Mine
open PySem PySem.Calls PySem.W PyProof.Rows

section
variable {prog : Program} {wd : World} {K : Frag} {p : Program} {loose : List Str} {mg mb : Str → Option Value} {H₀ : Heap}
  {env : Env} {k b : WM} {σ σ' σm : Vars} {w w' : Own} {r : RestT} {s : Shared} {A : Around} {E : Value → Shared → Prop} {n : Nat}

theorem St.lessB {b' : WM} (H : St H₀ env k b' σ w r s) (hs : Sub b b') : St H₀ env k b σ w r s :=
  have hn : ∀ a, b' a = none → b a = none := fun a h => by
    cases e : b a with
    | none => rfl
    | some o => rw [hs a o e] at h; cases h
  { H with froz := fun a o e => H.froz a o (hs a o e), own := fun p hp => ⟨(H.own p hp).1, (H.own p hp).2.1, hn _ (H.own p hp).2.2.1, (H.own p hp).2.2.2⟩, lb := hn _ H.lb,
           ck := fun x c h hl => ⟨(H.ck x c h hl).1, hn _ (H.ck x c h hl).2⟩ }


theorem unp {t : Addr} {vs : List Value} {Q : List Value → Shared → Prop} (hh : A.handled = none) (H : St H₀ env k b σ w r s) (ht : b t = some (tupO vs)) (n : Nat) (hn : n = vs.length) (h : ∀ s', St H₀ env k b σ w r s' → Q vs s') :
    wpAny (model prog wd) A (unpackItems (.ref t) n none) Q E s := by
  subst hn
  have := wpAny_unpackItems_tuple (prog := prog) (w := wd) (A := A) (E := E) (Q := Q) hh (tget (H.froz _ _ ht)) fun h' he => by
    have := h _ (H.heap (h' := h') fun a o e => he a o (Nat.ne_of_lt (Heap.lt_size e)) e)
    simpa using this
  rwa [List.size_toArray] at this

theorem a_name {x : Str} {px pos : Pos} {value : Expr} {Q : Flow → Shared → Prop} (h : wpAny (model prog wd) A (eval value env) (fun v s₁ => wpAny (model prog wd) A (storeName env x v) (fun _ => Q .next) E s₁) E s)
    (hs : swapsWith value (some (.Name x px)) pos.line env = pure false := by rfl) : wpAny (model prog wd) A (exec (.Assign [.Name x px] value pos) env) Q E s := wpAny_Assign_Name h hs

/-- x, y = (e, f), two locals: stored from the right -/
theorem swp2 {elts : List Expr} {kd : Nat} {tp pos : Pos} {value : Expr} {x y : Str} {Q : Flow → Shared → Prop}
    (h : wpAny (model prog wd) A (eval value env) (fun v s₁ => wpAny (model prog wd) A (unpackItems v 2 none) (fun items s₂ => wpAny (model prog wd) A (assignInOrder [bindName env y, bindName env x] items.reverse) (fun _ => Q .next) E s₂) E s₁) E s)
    (hs : swapsWithSole [.Tuple elts kd tp] value pos.line env = pure false := by rfl)
    (hw : swappedStores [.Tuple elts kd tp] value env = pure (some [x, y]) := by rfl) : wpAny (model prog wd) A (exec (.Assign [.Tuple elts kd tp] value pos) env) Q E s := Assign_Tuple_swapped (names := [x, y]) h hs hw
theorem swp3 {elts : List Expr} {kd : Nat} {tp pos : Pos} {value : Expr} {x y z : Str} {Q : Flow → Shared → Prop}
    (h : wpAny (model prog wd) A (eval value env) (fun v s₁ => wpAny (model prog wd) A (unpackItems v 3 none) (fun items s₂ => wpAny (model prog wd) A (assignInOrder [bindName env z, bindName env y, bindName env x] items.reverse) (fun _ => Q .next) E s₂) E s₁) E s)
    (hs : swapsWithSole [.Tuple elts kd tp] value pos.line env = pure false := by rfl)
    (hw : swappedStores [.Tuple elts kd tp] value env = pure (some [x, y, z]) := by rfl) : wpAny (model prog wd) A (exec (.Assign [.Tuple elts kd tp] value pos) env) Q E s := Assign_Tuple_swapped (names := [x, y, z]) h hs hw
theorem aio_nil {xs : List Value} {Q : Unit → Shared → Prop} (h : Q () s) : wpAny (model prog wd) A (assignInOrder [] xs) Q E s := wpAny_pure h
theorem aio {t : Value → Sem Unit} {ts : List (Value → Sem Unit)} {x : Value} {xs : List Value} {Q : Unit → Shared → Prop} (h : wpAny (model prog wd) A (t x) (fun _ s₁ => wpAny (model prog wd) A (assignInOrder ts xs) Q E s₁) E s) :
    wpAny (model prog wd) A (assignInOrder (t :: ts) (x :: xs)) Q E s := by
  show wpAny _ A (do holding xs (t x); assignInOrder ts xs) Q E s
  exact wpAny_bind (wpAny_holding h)
theorem bst {x : Str} {v : Value} {Q : Unit → Shared → Prop} (H : St H₀ env k b σ w r s) (hp : Put x (some v) σ σ') (hk : okKind env x) (h : ∀ s', St H₀ env k b σ' w r s' → Q () s') : wpAny (model prog wd) A (bindName env x v) Q E s :=
  wpAny_bindName (st H hp hk h)
theorem nst {x : Str} {px : Pos} {v : Value} {Q : Unit → Shared → Prop} (H : St H₀ env k b σ w r s) (hp : Put x (some v) σ σ') (hk : okKind env x) (h : ∀ s', St H₀ env k b σ' w r s' → Q () s') : wpAny (model prog wd) A (assign (.Name x px) env v) Q E s :=
  wpAny_assign_Name (st H hp hk h)
/-- targets in a tuple -/
theorem tst {elts : List Expr} {kd : Nat} {tp : Pos} {t : Addr} {vs : List Value} {Q : Unit → Shared → Prop} (hh : A.handled = none) (H : St H₀ env k b σ w r s) (ht : b t = some (tupO vs))
    (hn : (assignEach elts env).length = vs.length) (hstar : (assignEach elts env).findIdx? (·.1) = none)
    (h : ∀ s', St H₀ env k b σ w r s' → wpAny (model prog wd) A (assignInOrder ((assignEach elts env).map (·.2)) vs) Q E s') : wpAny (model prog wd) A (assign (.Tuple elts kd tp) env (.ref t)) Q E s := by
  refine wpAny_assign_Tuple hh (tget (H.froz _ _ ht)) (by simpa using hn) hstar fun h' he => ?_
  exact h _ (H.heap fun a o e => he a o (Nat.ne_of_lt (Heap.lt_size e)) e)
/-- x, y = v, not turned round -/
theorem a_tup {elts : List Expr} {kd : Nat} {tp pos : Pos} {value : Expr} {Q : Flow → Shared → Prop}
    (h : wpAny (model prog wd) A (eval value env) (fun v s₁ => wpAny (model prog wd) A (assign (.Tuple elts kd tp) env v) (fun _ => Q .next) E s₁) E s)
    (hs : swapsWithSole [.Tuple elts kd tp] value pos.line env = pure false := by rfl)
    (hw : swappedStores [.Tuple elts kd tp] value env = pure none := by rfl) : wpAny (model prog wd) A (exec (.Assign [.Tuple elts kd tp] value pos) env) Q E s := Assign_Tuple h hs hw
/-- o[i] = v, as a target -/
theorem sst {o i : Expr} {ps : Pos} {v : Value} {Q : Unit → Shared → Prop} (h : wpAny (model prog wd) A (eval o env) (fun ov s₁ => wpAny (model prog wd) A (eval i env) (fun iv s₂ => wpAny (model prog wd) A (setItem ov iv v) Q E s₂) E s₁) E s) :
    wpAny (model prog wd) A (assign (.Subscript o i ps) env v) Q E s := by
  rw [assign_Subscript]
  refine wpAny_bind (wpAny_holding (wpAny_mono h (fun ov s₁ h₁ => wpAny_bind (wpAny_holding (wpAny_mono h₁ (fun iv s₂ h₂ => wpAny_bind (wpAny_standAt (wpAny_bind (wpAny_holding (wpAny_mono h₂ (fun _ s₃ h₃ => ?_) fun _ _ e => e))))) fun _ _ e => e))) fun _ _ e => e))
  intro Γ q hΓ
  simp only [Sem.wp_release]
  exact h₃
/-- a method of a list, one argument -/
theorem meth1 {o e : Expr} {name : Str} {id : String} {apos pos : Pos} {pl : Sem Bool} {Q : Value → Shared → Prop} (slot : Slot "list" name id) (hty : typeOf (.builtin id) = pure (.type "method_descriptor"))
    (h : wpAny (model prog wd) A (eval o env) (fun ov s₁ => ∃ l vs nn, ov = .ref l ∧ s₁.heap.get? l = some (lstO vs nn) ∧ wpAny (model prog wd) A (eval e env) (fun v s₂ => wpAny (model prog wd) A (call (.builtin id) [.ref l, v]) Q E s₂) E s₁) E s)
    (he : eval (.Call (.Attribute o name apos) [e] [] pos) env = (do
      let ov ← eval o env
      standAt apos.atName
      let (f, first) ← holding [ov] (getMethod ov name pl)
      callWith pos f first (backTo pos (starEach [e] env)) []) := by rfl)
    (hs : starEach [e] env = (false, eval e env) :: starEach [] env := by rfl) :
    wpAny (model prog wd) A (eval (.Call (.Attribute o name apos) [e] [] pos) env) Q E s := by
  refine MethodCall_ (pl := pl) (wpAny_mono h (fun ov s₁ h₁ => ?_) fun _ _ x => x) he
  obtain ⟨l, vs, nn, rfl, hl, h₁⟩ := h₁
  refine PySem.getMethod_builtin (lget hl).typeIs PySem.F.plainAttrs_list slot hty (fun a e => by cases e; exact ⟨_, hl, rfl⟩) ?_
  refine callWith_method1 (spliced_more (wpAny_mono h₁ (fun v s₂ h₂ => spliced_none h₂) fun _ _ x => x) hs) hs rfl

/-- an expression as a statement -/
theorem e_any {e : Expr} {pos : Pos} {Q : Flow → Shared → Prop} (h : wpAny (model prog wd) A (eval e env) (fun _ => Q .next) E s) (hi : interactive env = false := by rfl) (hs : swapsWith e none pos.line env = pure false := by rfl) :
    wpAny (model prog wd) A (exec (.Expr e pos) env) Q E s := wpAny_Expr_any h hi hs

/-- some state stands -/
inductive Has (H₀ : Heap) (r : RestT) (s : Shared) : Prop
  | mk (env : Env) (k b : WM) (σ : Vars) (w : Own) (h : St H₀ env k b σ w r s) : Has H₀ r s
theorem Has.elim {C : Prop} (h : Has H₀ r s) (f : ∀ env k b σ w, St H₀ env k b σ w r s → C) : C := by
  obtain ⟨_, _, _, _, _, H⟩ := h
  exact f _ _ _ _ _ H
/-- a call of one of the text's defs -/
theorem cf {f : Addr} {e : Expr} {rest : List Expr} {pos : Pos} {Q : Value → Shared → Prop} (G : GL K p loose mg mb H₀) (hk : keepIn K (.ref f) = true)
    (h : wpAny (model prog wd) A (spliced (backTo pos (starEach (e :: rest) env))) (fun vs s₁ => Has H₀ r s₁ ∧ wpAny (model prog wd) A (call (.ref f) vs) Q E s₁) E s)
    (he : starEach (e :: rest) env = (false, eval e env) :: starEach rest env := by rfl) (hplain : (backTo pos (starEach rest env)).any (·.1) = false := by rfl) :
    wpAny (model prog wd) A (callWith pos (.ref f) [] (backTo pos (starEach (e :: rest) env)) []) Q E s := by
  rw [he] at h ⊢
  exact callWith_of (P := K.In) (by show ((false || (backTo pos (starEach rest env)).any (·.1)) || false) = false; rw [hplain]; rfl) (keeps_K hk)
    (evalArgs_plain (wpAny_mono h (fun vs s₁ h₁ => by obtain ⟨⟨_, _, _, _, _, H⟩, h₂⟩ := h₁; exact ⟨H.kin G, h₂⟩) fun _ _ e => e))
end

section
variable {prog : Program} {wd : World} {H₀ : Heap} {env : Env} {k b : WM} {σ : Vars} {w : Own} {r : RestT} {s : Shared} {A : Around} {E : Value → Shared → Prop}
theorem whl {test : Expr} {body : List Stmt} {pos : Pos} {Q : Flow → Shared → Prop} (H : St H₀ env k b σ w r s) (Inv : Nat → WM → Vars → Own → Prop) (m : Nat) (h0 : Inv m b σ w)
    (turn : ∀ m b' σ' w' s', Gr k b b' → Inv m b' σ' w' → St H₀ env k b' σ' w' r s' → wpAny (model prog wd) A (isTrue test env (eval test env)) (fun c s₂ => if c = true
      then wpAny (model prog wd) A (execs body env) (fun fl s₃ => match fl with
        | .next | .cont => ∃ m' b'' σ'' w'', m' < m ∧ Gr k b' b'' ∧ St H₀ env k b'' σ'' w'' r s₃ ∧ Inv m' b'' σ'' w''
        | .brk => False
        | .ret v => Q (.ret v) s₃) (fun _ _ => False) s₂
      else Q .next s₂) (fun _ _ => False) s') : wpAny (model prog wd) A (exec (.While test body [] pos) env) Q E s := by
  refine wpAny_While ?_
  refine codeAny_whileLoop (fun m s' => X3_3 (fun b' σ' w' => Gr k b b') (fun b' σ' w' => St H₀ env k b' σ' w' r s') (fun b' σ' w' => Inv m b' σ' w')) ?_ m ⟨b, σ, w, Gr.refl _ _, H, h0⟩
  rintro m s' ⟨b', σ', w', hg, H', hi⟩
  refine wpAny_mono (turn m b' σ' w' s' hg hi H') (fun c s₂ h₂ => ?_) fun _ _ f => f.elim
  cases c with
  | false => exact wpAny_execs_nil h₂
  | true =>
    refine wpAny_mono h₂ (fun fl s₃ h₃ => ?_) fun _ _ f => f.elim
    cases fl with
    | next => obtain ⟨m', b'', σ'', w'', hlt, hg', H'', hi'⟩ := h₃; exact ⟨m', hlt, b'', σ'', w'', hg.trans hg', H'', hi'⟩
    | cont => obtain ⟨m', b'', σ'', w'', hlt, hg', H'', hi'⟩ := h₃; exact ⟨m', hlt, b'', σ'', w'', hg.trans hg', H'', hi'⟩
    | brk => exact h₃.elim
    | ret v => exact h₃
end

/-! comprehensions whose elements change nothing -/
noncomputable def PInv {α β : Type} (xs : List α) (keep : α → Bool) (f : α → β) (PY : TP β) (w : Own) (i : Nat) (b : WM) (w' : Own) (ys : List Value) : Prop := w' = w ∧ All2 (PY b) ys (((xs.take i).filter keep).map f)

section
variable {prog : Program} {wd : World} {H₀ : Heap} {env : Env} {k b : WM} {σ : Vars} {w : Own} {r : RestT} {s : Shared} {A : Around} {E : Value → Shared → Prop}
variable {α β : Type} {xs : List α} {keep : α → Bool} {f : α → β} {PY : TP β}

theorem PInv.zero {b : WM} : PInv xs keep f PY w 0 b w [] := ⟨rfl, by simp; exact .nil⟩
theorem PInv.mono (m : MonoT PY) {i : Nat} {b b' : WM} {w' : Own} {ys : List Value} (hs : Sub b b') (h : PInv xs keep f PY w i b w' ys) : PInv xs keep f PY w i b' w' ys := ⟨h.1, h.2.imp fun v x => m _ _ _ _ hs⟩
theorem PInv.skip {i : Nat} {b : WM} {ys : List Value} {x : α} (h : All2 (PY b) ys (((xs.take i).filter keep).map f)) (hx : xs[i]? = some x) (hk : keep x = false) : PInv xs keep f PY w (i + 1) b w ys := ⟨rfl, by
  rw [List.take_add_one, hx, List.filter_append]; simpa [hk] using h⟩
theorem PInv.step {i : Nat} {b : WM} {ys : List Value} {x : α} {y : Value} (h : All2 (PY b) ys (((xs.take i).filter keep).map f)) (hx : xs[i]? = some x) (hk : keep x = true) (hy : PY b y (f x)) : PInv xs keep f PY w (i + 1) b w (ys ++ [y]) := ⟨rfl, by
  rw [List.take_add_one, hx, List.filter_append, List.map_append]
  refine h.append ?_
  simp [hk]
  exact .cons hy .nil⟩

/-- what an element owes -/
inductive TPost (H₀ : Heap) (env : Env) (k b : WM) (σ : Vars) (w : Own) (r : RestT) (PY : WM → Value → Prop) (y : Value) (s : Shared) : Prop
  | mk (b' : WM) (g : Gr k b b') (h : St H₀ env k b' σ w r s) (p : PY b' y) : TPost H₀ env k b σ w r PY y s
/-- what one turn owes -/
noncomputable def Turn (prog : Program) (wd : World) (A : Around) (H₀ : Heap) (r : RestT) (env : Env) (k b : WM) (σ : Vars) (w : Own) (elt : Expr) (ifs : List Expr) (c : Bool) (PY : WM → Value → Prop) (s : Shared) : Prop :=
  wpAny (model prog wd) A (testsOf ifs env) (fun ok s₃ => ok = c ∧ ∃ b3, Gr k b b3 ∧ St H₀ env k b3 σ w r s₃ ∧
    (c = true → wpAny (model prog wd) A (eval elt env) (fun y s₄ => TPost H₀ env k b3 σ w r PY y s₄) (fun _ _ => False) s₃)) (fun _ _ => False) s
theorem Turn.plain {elt : Expr} {PY : WM → Value → Prop} (H : St H₀ env k b σ w r s) (h : wpAny (model prog wd) A (eval elt env) (fun y s₄ => TPost H₀ env k b σ w r PY y s₄) (fun _ _ => False) s) : Turn prog wd A H₀ r env k b σ w elt [] true PY s :=
  tests_nil ⟨rfl, b, Gr.refl _ _, H, fun _ => h⟩

theorem keepc {x : Str} {v : Value} {σc σ1 : Vars} (hp : Put x (some v) σc σ1) (hnd : (σc.map (·.1)).Nodup) (hx : (x, none) ∈ σc) : ∀ q ∈ σc, q.2 = none ∧ q.1 ∈ σ1.map (·.1) ∨ q ∈ σ1 := by
  intro q hq
  by_cases e : q.1 = x
  · left
    refine ⟨?_, by rw [hp.names]; exact List.mem_map_of_mem hq⟩
    have : q = (x, none) := by
      have key : ∀ {l : Vars}, (l.map (·.1)).Nodup → q ∈ l → (x, none) ∈ l → q = (x, none) := by
        intro l
        induction l with
        | nil => intro _ h; cases h
        | cons a r ih =>
          intro hn h1 h2
          rw [List.map_cons, List.nodup_cons] at hn
          rcases List.mem_cons.mp h1 with h1 | h1 <;> rcases List.mem_cons.mp h2 with h2 | h2
          · rw [h1, h2]
          · exact absurd (by rw [← h1, e]; exact List.mem_map_of_mem h2) hn.1
          · exact absurd (by rw [← h2, show (x, (none : Option Value)).1 = q.1 from e.symm]; exact List.mem_map_of_mem h1) hn.1
          · exact ih hn.2 h1 h2
      exact key hnd hq hx
    rw [this]
  · right
    obtain ⟨l₁, u, l₂, rfl, rfl⟩ := hp.split
    rcases List.mem_append.mp hq with h | h
    · exact List.mem_append_left _ h
    · rcases List.mem_cons.mp h with h | h
      · exact absurd (by rw [h]) e
      · exact List.mem_append_right _ (List.mem_cons_of_mem _ h)

variable {elt iter : Expr} {ifs : List Expr} {scope : Scope} {pos : Pos} {I : Addr} {fp wr : List Addr} {n : Nat} {P : Nat → WM → Value → Prop} {Si : Nat → Heap → Prop} {cl : List (Str × Addr)} {σc : Vars} {x : Str} {px : Pos}

theorem pstep {k' b' : WM} {w' : Own} {ys : List Value} {s' : Shared} {v : Value} {C : Addr} {i : Nat} {x₀ : α} (m : MonoT PY) (S : CompSide env scope cl σ σc) {σ1 : Value → Vars} (hput : ∀ v, Put x (some v) σc (σ1 v)) (hxn : (x, none) ∈ σc) (hxk : okKind (compEnvX scope cl C env) x)
    (hinv : PInv xs keep f PY w i b' w' ys) (hx : xs[i]? = some x₀) (H : St H₀ (compEnvX scope cl C env) k' b' σc w' r s')
    (step : ∀ s'', St H₀ (compEnvX scope cl C env) k' b' (σ1 v) w r s'' → Turn prog wd A H₀ r (compEnvX scope cl C env) k' b' (σ1 v) w elt ifs (keep x₀) (fun b y => PY b y (f x₀)) s'') :
    stepCore prog wd A H₀ r (compEnvX scope cl C env) σc (.Name x px) elt ifs (PInv xs keep f PY w (i + 1)) ys k' b' v s' := by
  obtain ⟨rfl, hal⟩ := hinv
  refine nst H (hput v) hxk fun s₂ H₂ => ?_
  refine wpAny_mono (step s₂ H₂) (fun ok s₃ h₃ => ?_) fun _ _ f => f.elim
  obtain ⟨rfl, b3, hg3, H₃, h₃⟩ := h₃
  have hk := keepc (hput v) S.nd hxn
  cases hc : keep x₀ with
  | false =>
    refine ⟨b3, σ1 v, w', hg3, H₃, hk, PInv.skip (hal.imp fun v x => m _ _ _ _ hg3.1) hx hc⟩
  | true =>
    refine wpAny_mono (h₃ hc) (fun y s₄ h₄ => ?_) fun _ _ f => f.elim
    obtain ⟨b4, hg4, H₄, hy⟩ := h₄
    exact ⟨b4, σ1 v, w', hg3.trans hg4, H₄, hk, PInv.step (hal.imp fun v x => m _ _ _ _ (hg3.1.trans hg4.1)) hx hc hy⟩

/-- a comprehension as a value, its target one name -/
theorem map_eval {Q : Value → Shared → Prop} (m : MonoT PY) (S : CompSide env scope cl σ σc) (σ1 : Value → Vars) (hput : ∀ v, Put x (some v) σc (σ1 v)) (hxn : (x, none) ∈ σc) (hxk : ∀ C, okKind (compEnvX scope cl C env) x)
    (W : Itr prog wd A (.Name x px) I fp wr n P Si) (H : St H₀ env k b σ w r s) (off : Off env k b w wr) (hs0 : Si 0 s.heap) (hfp : ∀ a ∈ fp, a ∈ wr ∨ ∃ o, b a = some o) (hn : n = xs.length) (hsz : xs.length ≤ sizeLine)
    (step : ∀ i x₀ v C k' b' s'', xs[i]? = some x₀ → Sub k k' → Gr k b b' → P i b' v → St H₀ (compEnvX scope cl C env) k' b' (σ1 v) w r s'' → Turn prog wd A H₀ r (compEnvX scope cl C env) k' b' (σ1 v) w elt ifs (keep x₀) (fun b y => PY b y (f x₀)) s'')
    (fin : ∀ D b' s', Gr k b b' → TList PY b' (.ref D) ((xs.filter keep).map f) → St H₀ env k b' σ w r s' → Q (.ref D) s') :
    CompGoal prog wd A E env scope cl none Q (.ListComp elt [⟨.Name x px, iter, ifs, 0⟩] scope pos) (.ref I) s := by
  subst hn
  refine goal_eval S W H off hs0 hfp hsz (PInv xs keep f PY w) PInv.zero (fun i b' b'' w' ys hs h => PInv.mono m hs h) (fun i v C k' b' w' ys s' hi hk hg hinv hP H' => ?_) (fun D b' w' ys s' hg hinv H' => ?_)
  · have hx : xs[i]? = some xs[i] := by simp [hi]
    exact pstep m S hput hxn (hxk C) hinv hx H' fun s'' H'' => step i _ v C k' b' s'' hx hk hg hP H''
  · obtain ⟨rfl, hal⟩ := hinv
    rw [List.take_length] at hal
    have q := H'.freeze0
    exact fin D _ s' (hg.trans q.1) ⟨D, ys, _, rfl, upd_self .., hal.imp fun v x => m _ _ _ _ q.1.1⟩ q.2
/-- .. stored into a local at once -/
theorem map_asg {Q : Value → Shared → Prop} {y : Str} {py : Pos} {σa : Value → Vars} (hpa : ∀ v, Put y (some v) σ (σa v)) (hy : okKind env y) (m : MonoT PY) (S : CompSide env scope cl σ σc) (σ1 : Value → Vars) (hput : ∀ v, Put x (some v) σc (σ1 v)) (hxn : (x, none) ∈ σc) (hxk : ∀ C, okKind (compEnvX scope cl C env) x)
    (W : Itr prog wd A (.Name x px) I fp wr n P Si) (H : St H₀ env k b σ w r s) (off : Off env k b w wr) (hs0 : Si 0 s.heap) (hfp : ∀ a ∈ fp, a ∈ wr ∨ ∃ o, b a = some o) (hn : n = xs.length) (hsz : xs.length ≤ sizeLine)
    (step : ∀ i x₀ v C k' b' s'', xs[i]? = some x₀ → Sub k k' → Gr k b b' → P i b' v → St H₀ (compEnvX scope cl C env) k' b' (σ1 v) w r s'' → Turn prog wd A H₀ r (compEnvX scope cl C env) k' b' (σ1 v) w elt ifs (keep x₀) (fun b y => PY b y (f x₀)) s'')
    (fin : ∀ D b' s', Gr k b b' → TList PY b' (.ref D) ((xs.filter keep).map f) → St H₀ env k b' (σa (.ref D)) w r s' → Q .none s') :
    CompGoal prog wd A E env scope cl (some (assign (.Name y py) env)) Q (.ListComp elt [⟨.Name x px, iter, ifs, 0⟩] scope pos) (.ref I) s := by
  subst hn
  refine goal_asg hpa hy S W H off hs0 hfp hsz (PInv xs keep f PY w) PInv.zero (fun i b' b'' w' ys hs h => PInv.mono m hs h) (fun i v C k' b' w' ys s' hi hk hg hinv hP H' => ?_) (fun D b' w' ys s' hg hinv H' => ?_)
  · have hx : xs[i]? = some xs[i] := by simp [hi]
    exact pstep m S hput hxn (hxk C) hinv hx H' fun s'' H'' => step i _ v C k' b' s'' hx hk hg hP H''
  · obtain ⟨rfl, hal⟩ := hinv
    rw [List.take_length] at hal
    have q := H'.freeze0
    exact fin D _ s' (hg.trans q.1) ⟨D, ys, _, rfl, upd_self .., hal.imp fun v x => m _ _ _ _ q.1.1⟩ q.2

/-! two names, from enumerate -/
variable {y : Str} {py tp : Pos} {kd : Nat}
theorem keepc2 {u v : Value} {σc σm σ1 : Vars} (hp : Put x (some u) σc σm) (hp2 : Put y (some v) σm σ1) (hnd : (σc.map (·.1)).Nodup) (hx : (x, none) ∈ σc) (hy : (y, none) ∈ σc) : ∀ q ∈ σc, q.2 = none ∧ q.1 ∈ σ1.map (·.1) ∨ q ∈ σ1 := by
  intro q hq
  have h1 := keepc hp hnd hx q hq
  by_cases e : q.2 = none
  · left
    refine ⟨e, ?_⟩
    rw [hp2.names, hp.names]; exact List.mem_map_of_mem hq
  · right
    rcases h1 with ⟨h1, _⟩ | h1
    · exact absurd h1 e
    · obtain ⟨l₁, u', l₂, rfl, rfl⟩ := hp2.split
      rcases List.mem_append.mp h1 with h | h
      · exact List.mem_append_left _ h
      · rcases List.mem_cons.mp h with h | h
        · exfalso
          obtain ⟨q1, q2⟩ := q
          obtain ⟨rfl, rfl⟩ := Prod.mk.inj h
          refine e ?_
          have key : ∀ {l : Vars} {z : Str} {o : Option Value}, (l.map (·.1)).Nodup → (z, none) ∈ l → (z, o) ∈ l → o = none := by
            intro l z o
            induction l with
            | nil => intro _ h; cases h
            | cons a r ih =>
              intro hn h1 h2
              rw [List.map_cons, List.nodup_cons] at hn
              rcases List.mem_cons.mp h1 with h1 | h1 <;> rcases List.mem_cons.mp h2 with h2 | h2
              · rw [← h1] at h2; exact (Prod.mk.inj h2).2
              · exact absurd (by rw [← h1]; exact List.mem_map_of_mem (f := (·.1)) h2) hn.1
              · exact absurd (by rw [← h2]; exact List.mem_map_of_mem (f := (·.1)) h1) hn.1
              · exact ih hn.2 h1 h2
          exact key hnd hy hq
        · exact List.mem_append_right _ (List.mem_cons_of_mem _ h)

/-- a pair of names is stored -/
theorem nst2 {t : Addr} {u v : Value} {Q : Unit → Shared → Prop} {σ1 : Vars} (hh : A.handled = none) (H : St H₀ env k b σ w r s) (ht : b t = some (tupO [u, v])) (hp : Put x (some u) σ σ') (hp2 : Put y (some v) σ' σ1) (hk : okKind env x) (hk2 : okKind env y)
    (h : ∀ s', St H₀ env k b σ1 w r s' → Q () s') : wpAny (model prog wd) A (assign (.Tuple [.Name x px, .Name y py] kd tp) env (.ref t)) Q E s := by
  refine tst hh H ht rfl rfl fun s₁ H₁ => ?_
  refine aio (nst H₁ hp hk fun s₂ H₂ => ?_)
  refine aio (nst H₂ hp2 hk2 fun s₃ H₃ => ?_)
  exact aio_nil (h _ H₃)

theorem map2_eval {Q : Value → Shared → Prop} {vs : List Value} {fp wr : List Addr} (hh : A.handled = none) (m : MonoT PY) (S : CompSide env scope cl σ σc) (σm : Value → Vars) (σ1 : Value → Value → Vars) (hput : ∀ v, Put x (some v) σc (σm v)) (hput2 : ∀ u v, Put y (some v) (σm u) (σ1 u v)) (hxn : (x, none) ∈ σc) (hyn : (y, none) ∈ σc)
    (hxk : ∀ C, okKind (compEnvX scope cl C env) x) (hyk : ∀ C, okKind (compEnvX scope cl C env) y)
    (W : Itr prog wd A (.Tuple [.Name x px, .Name y py] kd tp) I fp wr vs.length (enumP vs) Si) (H : St H₀ env k b σ w r s) (off : Off env k b w wr) (hs0 : Si 0 s.heap) (hfp : ∀ a ∈ fp, a ∈ wr ∨ ∃ o, b a = some o) (hn : vs.length = xs.length) (hsz : xs.length ≤ sizeLine)
    (step : ∀ (i : Nat) x₀ v tk C k' b' s'', xs[i]? = some x₀ → vs[i]? = some v → Sub k k' → Gr k b b' → St H₀ (compEnvX scope cl C env) k' b' (σ1 (.int (i : Int) tk) v) w r s'' → Turn prog wd A H₀ r (compEnvX scope cl C env) k' b' (σ1 (.int (i : Int) tk) v) w elt ifs (keep x₀) (fun b y => PY b y (f x₀)) s'')
    (fin : ∀ D b' s', Gr k b b' → TList PY b' (.ref D) ((xs.filter keep).map f) → St H₀ env k b' σ w r s' → Q (.ref D) s') :
    CompGoal prog wd A E env scope cl none Q (.ListComp elt [⟨.Tuple [.Name x px, .Name y py] kd tp, iter, ifs, 0⟩] scope pos) (.ref I) s := by
  refine goal_eval S W H off hs0 hfp (by lia) (PInv xs keep f PY w) PInv.zero (fun i b' b'' w' ys hs h => PInv.mono m hs h) (fun i v C k' b' w' ys s' hi hk hg hinv hP H' => ?_) (fun D b' w' ys s' hg hinv H' => ?_)
  · have hx : xs[i]? = some (xs[i]'(by lia)) := List.getElem?_eq_getElem (by lia)
    obtain ⟨tk, t, xv, rfl, ht, hxv⟩ := hP
    obtain ⟨rfl, hal⟩ := hinv
    refine nst2 hh H' ht (hput _) (hput2 _ _) (hxk C) (hyk C) fun s₂ H₂ => ?_
    refine wpAny_mono (step i _ xv tk C k' b' s₂ hx hxv hk hg H₂) (fun ok s₃ h₃ => ?_) fun _ _ f => f.elim
    obtain ⟨rfl, b3, hg3, H₃, h₃⟩ := h₃
    have hk := keepc2 (hput (.int (i : Int) tk)) (hput2 (.int (i : Int) tk) xv) S.nd hxn hyn
    cases hc : keep (xs[i]'(by lia)) with
    | false =>
      refine ⟨b3, σ1 _ _, w', hg3, H₃, hk, PInv.skip (hal.imp fun v x => m _ _ _ _ hg3.1) hx hc⟩
    | true =>
      refine wpAny_mono (h₃ hc) (fun y s₄ h₄ => ?_) fun _ _ f => f.elim
      obtain ⟨b4, hg4, H₄, hy⟩ := h₄
      exact ⟨b4, σ1 _ _, w', hg3.trans hg4, H₄, hk, PInv.step (hal.imp fun v x => m _ _ _ _ (hg3.1.trans hg4.1)) hx hc hy⟩
  · obtain ⟨rfl, hal⟩ := hinv
    rw [hn, List.take_length] at hal
    have q := H'.freeze0
    exact fin D _ s' (hg.trans q.1) ⟨D, ys, _, rfl, upd_self .., hal.imp fun v x => m _ _ _ _ q.1.1⟩ q.2
end
end Mine
end

section
set_option maxRecDepth 100000
set_option Elab.async false
set_option linter.unusedVariables false
namespace Mine
theorem filter_tt {α : Type} : ∀ xs : List α, xs.filter (fun _ => true) = xs
  | [] => rfl
  | x :: r => by rw [List.filter_cons_of_pos (by rfl), filter_tt r]
open PySem PySem.Calls PySem.W PyProof.Rows

section
variable {prog : Program} {wd : World} {K : Frag} {p : Program} {loose : List Str} {mg mb : Str → Option Value} {H₀ : Heap}
  {env : Env} {k b : WM} {σ σ' σm : Vars} {w w' : Own} {r : RestT} {s : Shared} {A : Around} {E : Value → Shared → Prop} {n : Nat}

noncomputable def Seq (prog : Program) (wd : World) (A : Around) (rest : List Stmt) (env : Env) (Q : Flow → Shared → Prop) (E : Value → Shared → Prop) (f : Flow) (s : Shared) : Prop :=
  match f with
  | .next => wpAny (model prog wd) A (execs rest env) Q E s
  | f => Q f s
theorem x_cons {stm : Stmt} {rest : List Stmt} {Q : Flow → Shared → Prop} (h : wpAny (model prog wd) A (exec stm env) (fun f s' => Seq prog wd A rest env Q E f s') E s) : wpAny (model prog wd) A (execs (stm :: rest) env) Q E s :=
  wpAny_execs_cons (wpAny_mono h (fun f s' h => by cases f <;> exact h) fun _ _ e => e)
theorem x_nil {Q : Flow → Shared → Prop} (h : Q .next s) : wpAny (model prog wd) A (execs [] env) Q E s := wpAny_execs_nil h
theorem q_next {rest : List Stmt} {Q : Flow → Shared → Prop} (h : wpAny (model prog wd) A (execs rest env) Q E s) : Seq prog wd A rest env Q E .next s := h
theorem q_ret {rest : List Stmt} {Q : Flow → Shared → Prop} {v : Value} (h : Q (.ret v) s) : Seq prog wd A rest env Q E (.ret v) s := h
theorem q_cont {rest : List Stmt} {Q : Flow → Shared → Prop} (h : Q .cont s) : Seq prog wd A rest env Q E .cont s := h
theorem e_sp0 {pos : Pos} {Q : List Value → Shared → Prop} (h : Q [] s) : wpAny (model prog wd) A (spliced (backTo pos (starEach [] env))) Q E s := spliced_none h
theorem e_sp1 {e : Expr} {rest : List Expr} {pos : Pos} {Q : List Value → Shared → Prop}
    (h : wpAny (model prog wd) A (eval e env) (fun v s₁ => wpAny (model prog wd) A (spliced (backTo pos (starEach rest env))) (fun vs s₂ => Q (v :: vs) s₂) E s₁) E s)
    (he : starEach (e :: rest) env = (false, eval e env) :: starEach rest env := by with_unfolding_all rfl) : wpAny (model prog wd) A (spliced (backTo pos (starEach (e :: rest) env))) Q E s := spliced_more h he
theorem e_call {x : Str} {px pos : Pos} {args : List Expr} {Q : Value → Shared → Prop}
    (h : wpAny (model prog wd) A (eval (.Name x px) env) (fun f s₁ => wpAny (model prog wd) A (callWith pos f [] (backTo pos (starEach args env)) []) Q E s₁) E s) :
    wpAny (model prog wd) A (eval (.Call (.Name x px) args [] pos) env) Q E s := Call_Name rfl h
theorem e_cb {pos : Pos} {id : String} {e : Expr} {rest : List Expr} {Q : Value → Shared → Prop}
    (h : wpAny (model prog wd) A (spliced (backTo pos (starEach (e :: rest) env))) (fun vs s₁ => wpAny (model prog wd) A (call (.builtin id) vs) Q E s₁) E s)
    (he : starEach (e :: rest) env = (false, eval e env) :: starEach rest env := by with_unfolding_all rfl) (hplain : (backTo pos (starEach rest env)).any (·.1) = false := by with_unfolding_all rfl) :
    wpAny (model prog wd) A (callWith pos (.builtin id) [] (backTo pos (starEach (e :: rest) env)) []) Q E s := PyProof.Rows.callWith_builtin1 h he hplain
theorem e_ct {pos : Pos} {T : String} {e : Expr} {rest : List Expr} {Q : Value → Shared → Prop}
    (h : wpAny (model prog wd) A (spliced (backTo pos (starEach (e :: rest) env))) (fun vs s₁ => wpAny (model prog wd) A (call (.type T) vs) Q E s₁) E s)
    (he : starEach (e :: rest) env = (false, eval e env) :: starEach rest env := by with_unfolding_all rfl) (hplain : (backTo pos (starEach rest env)).any (·.1) = false := by with_unfolding_all rfl) :
    wpAny (model prog wd) A (callWith pos (.type T) [] (backTo pos (starEach (e :: rest) env)) []) Q E s := PyProof.Rows.callWith_type1 h he hplain
theorem e_cf {f : Addr} {e : Expr} {rest : List Expr} {pos : Pos} {Q : Value → Shared → Prop} (G : GL K p loose mg mb H₀) (H : St H₀ env k b σ w r s) (hk : keepIn K (.ref f) = true)
    (h : wpAny (model prog wd) A (spliced (backTo pos (starEach (e :: rest) env))) (fun vs s₁ => Has H₀ r s₁ ∧ wpAny (model prog wd) A (call (.ref f) vs) Q E s₁) E s)
    (he : starEach (e :: rest) env = (false, eval e env) :: starEach rest env := by with_unfolding_all rfl) (hplain : (backTo pos (starEach rest env)).any (·.1) = false := by with_unfolding_all rfl) :
    wpAny (model prog wd) A (callWith pos (.ref f) [] (backTo pos (starEach (e :: rest) env)) []) Q E s := cf G hk h he hplain
theorem e_gnm (G : GL K p loose mg mb H₀) {x : Str} {pos : Pos} {v : Value} {Q : Value → Shared → Prop} (H : St H₀ env k b σ w r s) (e : nsIn K mainGlobals x = some (some v)) (hd : (x == ("__debug__" : Str)) = false) (h : Q v s) (hx : env.kindOf x = some .globalImplicit := by with_unfolding_all rfl)
    : wpAny (model prog wd) A (eval (.Name x pos) env) Q E s := gnm G H hx e h hd
theorem e_bnm (G : GL K p loose mg mb H₀) {x : Str} {pos : Pos} {v : Value} {Q : Value → Shared → Prop} (H : St H₀ env k b σ w r s) (e : nsIn K mainGlobals x = some none ∧ bootBuiltins x = some v ∧ x ≠ "__name__" ∧ (x == ("__debug__" : Str)) = false) (h : Q v s) (hx : env.kindOf x = some .globalImplicit := by with_unfolding_all rfl)
    : wpAny (model prog wd) A (eval (.Name x pos) env) Q E s := bnm G H hx e.1 e.2.1 h e.2.2.1 e.2.2.2
theorem e_bin {l r' : Expr} {op : Operator} {pos : Pos} {Q : Value → Shared → Prop} (h : wpAny (model prog wd) A (eval l env) (fun a s₁ => wpAny (model prog wd) A (eval r' env) (fun b s₂ => wpAny (model prog wd) A (binaryOp op a b) Q E s₂) E s₁) E s) :
    wpAny (model prog wd) A (eval (.BinOp l op r' pos) env) Q E s := wpAny_BinOp h
theorem c_lenT {α : Type} {P : TP α} {xs : List α} {v : Value} {Q : Value → Shared → Prop} (H : St H₀ env k b σ w r s) (ho : TList P b v xs) (hz : xs.length ≤ 1000) (h : ∀ s' t, St H₀ env k b σ w r s' → Q (.int (xs.length : Int) t) s') :
    wpAny (model prog wd) A (call (.builtin "len") [v]) Q E s := by
  obtain ⟨a, vs, n, rfl, ha, al⟩ := ho
  refine c_len H (H.froz _ _ ha) (by rw [al.length, PySem.sizeLine_eq]; with_reducible exact Mine.m22) fun s' t H' => ?_
  rw [al.length]; exact h s' t H'
theorem g_tl {α : Type} {P : TP α} {xs : List α} {x : α} {value slice : Expr} {o : Value} {i : Int} {u : Tok} {Q : Value → Shared → Prop} (H : St H₀ env k b σ w r s) (ho : TList P b o xs) (j : Nat) (hj : i = (j : Int)) (hx : xs[j]? = some x) (hz : xs.length ≤ 1000) (h : ∀ v, P b v x → Q v s)
    (hs : ∀ a, subscripted slice false (.ref a) (.int i u) = operate [.ref a, .int i u] (getItem (.ref a) (.int i u)) := by intro a; with_unfolding_all rfl) : wpAny (model prog wd) A (subscriptTail value slice o (.int i u)) Q E s := by
  subst hj
  have := (List.getElem?_eq_some_iff.mp hx).1
  exact g_tlist H ho hx (by with_reducible exact Mine.m23) h hs
/-- an item of an own list -/
theorem g_ow {l : Addr} {vs : List Value} {nn : Nat} {v : Value} {value slice : Expr} {i : Int} {u : Tok} {Q : Value → Shared → Prop} (H : St H₀ env k b σ w r s) (hm : (l, lstO vs nn) ∈ w) (j : Nat) (hj : i = (j : Int)) (hx : vs[j]? = some v) (hz : vs.length ≤ 1000) (h : Q v s)
    (hs : ∀ a, subscripted slice false (.ref a) (.int i u) = operate [.ref a, .int i u] (getItem (.ref a) (.int i u)) := by intro a; with_unfolding_all rfl) : wpAny (model prog wd) A (subscriptTail value slice (.ref l) (.int i u)) Q E s := by
  subst hj
  have := (List.getElem?_eq_some_iff.mp hx).1
  exact g_list (H.own _ hm).1 (by with_reducible exact Mine.m23) hx h (hs l)
theorem TList.up {α : Type} {P : TP α} (m : MonoT P) {b b' k : WM} {v : Value} {xs : List α} (h : TList P b v xs) (g : Gr k b b') : TList P b' v xs := mono_list m _ _ _ _ g.1 h
theorem g_p0 {value slice : Expr} {v : Value} {q : Int × Int} {u : Tok} {Q : Value → Shared → Prop} (H : St H₀ env k b σ w r s) (hv : TPair b v q) (h : ∀ t, Q (.int q.1 t) s)
    (hs : ∀ a, subscripted slice false (.ref a) (.int 0 u) = operate [.ref a, .int 0 u] (getItem (.ref a) (.int 0 u)) := by intro a; with_unfolding_all rfl) : wpAny (model prog wd) A (subscriptTail value slice v (.int 0 u)) Q E s := by
  obtain ⟨a, t, u', rfl, ha⟩ := hv
  exact g_tup (i := 0) (H.froz _ _ ha) (by decide) rfl (h t) (hs a)
theorem g_p1 {value slice : Expr} {v : Value} {q : Int × Int} {u : Tok} {Q : Value → Shared → Prop} (H : St H₀ env k b σ w r s) (hv : TPair b v q) (h : ∀ t, Q (.int q.2 t) s)
    (hs : ∀ a, subscripted slice false (.ref a) (.int 1 u) = operate [.ref a, .int 1 u] (getItem (.ref a) (.int 1 u)) := by intro a; with_unfolding_all rfl) : wpAny (model prog wd) A (subscriptTail value slice v (.int 1 u)) Q E s := by
  obtain ⟨a, t, u', rfl, ha⟩ := hv
  exact g_tup (i := 1) (H.froz _ _ ha) (by decide) rfl (h u') (hs a)
/-- ways that meet -/
theorem jn {t : Sem Value} {Q : Value → Shared → Prop} (H : St H₀ env k b σ w r s) (P : Value → Prop) (h1 : wpAny (model prog wd) A t (fun v s' => P v ∧ St H₀ env k b σ w r s') E s) (h2 : ∀ v s', P v → St H₀ env k b σ w r s' → Q v s') : wpAny (model prog wd) A t Q E s :=
  wpAny_mono h1 (fun v s' h => h2 v s' h.1 h.2) fun _ _ e => e
theorem jnb {t : Sem Value} {Q : Value → Shared → Prop} (H : St H₀ env k b σ w r s) (P : Value → WM → Prop) (h1 : wpAny (model prog wd) A t (fun v s' => ∃ b', Gr k b b' ∧ P v b' ∧ St H₀ env k b' σ w r s') E s)
    (h2 : ∀ v b' s', Gr k b b' → P v b' → St H₀ env k b' σ w r s' → Q v s') : wpAny (model prog wd) A t Q E s :=
  wpAny_mono h1 (fun v s' ⟨b', g, p, h⟩ => h2 v b' s' g p h) fun _ _ e => e
theorem b_tt {P R : Prop} (h : P) : if (true : Bool) = true then P else R := by simpa using h
theorem b_ff {P R : Prop} (h : R) : if (false : Bool) = true then P else R := by simpa using h
end

theorem cellsFrom_ge : ∀ (names : List (Str × NameKind)) (n : Nat) {x : Str} {c : Addr}, (x, c) ∈ cellsFrom n names [] → @LE.le Nat _ n c
  | [], _, _, _, h => by cases h
  | (y, kd) :: r, n, x, c, h => by
    unfold cellsFrom at h
    split at h
    · rw [cellsFrom_app] at h
      rcases List.mem_append.mp h with h | h
      · exact Nat.le_of_succ_le (cellsFrom_ge r _ h)
      · cases List.mem_singleton.mp h; exact Nat.le_refl _
    · exact cellsFrom_ge r _ h
theorem cellsFrom_own {names : List (Str × NameKind)} {n : Nat} {acc : List (Str × Addr)} {x : Str} {c : Addr} (hx : names.lookup x = some .cell) (h : (cellsFrom n names acc).lookup x = some c) : @LE.le Nat _ n c := by
  have hs := PySem.W.cellsFrom_some names n [] (x := x) (.inl hx)
  obtain ⟨d, hd⟩ := Option.isSome_iff_exists.mp hs
  rw [cellsFrom_app, List.lookup_append, hd] at h
  cases h
  exact cellsFrom_ge _ _ (PySem.mem_of_lookup hd)
theorem okX {scope : Scope} {cl : List (Str × Addr)} {C : Addr} {env : Env} {x : Str} (h1 : (compEnvX scope cl C env).kindOf x = some .cell) (h2 : scope.names.lookup x = some .cell) : okKind (compEnvX scope cl C env) x :=
  .inr ⟨h1, fun c h => cellsFrom_own h2 h⟩
theorem okF {sc : Scope} {L f : Addr} {q : Str} {cd : Value} {x : Str} (h2 : sc.names.lookup x = some .cell) : okKind (mkEnv sc L f q cd) x :=
  .inr ⟨h2, fun c h => cellsFrom_own h2 h⟩

section
variable {prog : Program} {wd : World} {K : Frag} {p : Program} {loose : List Str} {mg mb : Str → Option Value} {H₀ : Heap}
  {env : Env} {k b : WM} {σ σ' σm : Vars} {w w' : Own} {r : RestT} {s : Shared} {A : Around} {E : Value → Shared → Prop} {n : Nat}
theorem e_str {x : Str} {kd : Nat} {pos : Pos} {Q : Value → Shared → Prop} (H : St H₀ env k b σ w r s) (h : ∀ s' t, St H₀ env k b σ w r s' → Q (.str x t) s') : wpAny (model prog wd) A (eval (.Constant (.str x) kd pos) env) Q E s :=
  wpAny_Constant_str (h _ _ H.tok)
theorem e_tn {x : Str} {px : Pos} {whole : Sem Value} {Q : Bool → Shared → Prop} (h : wpAny (model prog wd) A whole (fun v s₁ => wpAny (model prog wd) A (truthy v) Q E s₁) E s) :
    wpAny (model prog wd) A (isTrue (.Name x px) env whole) Q E s := wpAny_isTrue_value h
/-- ways of a test that meet -/
theorem jt {t : Sem Bool} {Q : Bool → Shared → Prop} (H : St H₀ env k b σ w r s) (c : Bool) (h1 : wpAny (model prog wd) A t (fun v s' => v = c ∧ St H₀ env k b σ w r s') E s) (h2 : ∀ s', St H₀ env k b σ w r s' → Q c s') : wpAny (model prog wd) A t Q E s :=
  wpAny_mono h1 (fun v s' ⟨e, h⟩ => by subst e; exact h2 s' h) fun _ _ e => e
theorem jtb {t : Sem Bool} {Q : Bool → Shared → Prop} (H : St H₀ env k b σ w r s) (c : Bool) (h1 : wpAny (model prog wd) A t (fun v s' => ∃ b', Gr k b b' ∧ v = c ∧ St H₀ env k b' σ w r s') E s) (h2 : ∀ b' s', Gr k b b' → St H₀ env k b' σ w r s' → Q c s') : wpAny (model prog wd) A t Q E s :=
  wpAny_mono h1 (fun v s' ⟨b', g, e, h⟩ => by subst e; exact h2 b' s' g h) fun _ _ e => e
end
end Mine
end

section
set_option maxRecDepth 100000
set_option Elab.async false
set_option linter.unusedVariables false
namespace Mine
open PySem PySem.Calls PySem.W PyProof.Rows
noncomputable abbrev KK (wd : World) : Frag := hd.heap_39 wd.params
noncomputable abbrev GG (wd : World) (mg mb : Str → Option Value) (H₀ : Heap) : Prop := GL (KK wd) vw (looseW vw []) mg mb H₀
theorem gi_gcd (wd : World) : nsIn (KK wd) mainGlobals ("gcd" : Str) = some (some (.ref 41)) := by with_unfolding_all rfl
theorem gi_R0 (wd : World) : nsIn (KK wd) mainGlobals ("R0" : Str) = some (some (.ref 42)) := by with_unfolding_all rfl
theorem gi_rat (wd : World) : nsIn (KK wd) mainGlobals ("rat" : Str) = some (some (.ref 49)) := by with_unfolding_all rfl
theorem gi_radd (wd : World) : nsIn (KK wd) mainGlobals ("radd" : Str) = some (some (.ref 56)) := by with_unfolding_all rfl
theorem gi_rsub (wd : World) : nsIn (KK wd) mainGlobals ("rsub" : Str) = some (some (.ref 63)) := by with_unfolding_all rfl
theorem gi_rmul (wd : World) : nsIn (KK wd) mainGlobals ("rmul" : Str) = some (some (.ref 70)) := by with_unfolding_all rfl
theorem gi_rdiv (wd : World) : nsIn (KK wd) mainGlobals ("rdiv" : Str) = some (some (.ref 77)) := by with_unfolding_all rfl
theorem gi_shape (wd : World) : nsIn (KK wd) mainGlobals ("shape" : Str) = some (some (.ref 84)) := by with_unfolding_all rfl
theorem gi_need_shape (wd : World) : nsIn (KK wd) mainGlobals ("need_shape" : Str) = some (some (.ref 91)) := by with_unfolding_all rfl
theorem gi_copied (wd : World) : nsIn (KK wd) mainGlobals ("copied" : Str) = some (some (.ref 96)) := by with_unfolding_all rfl
theorem gi_transposed (wd : World) : nsIn (KK wd) mainGlobals ("transposed" : Str) = some (some (.ref 101)) := by with_unfolding_all rfl
theorem gi_dot (wd : World) : nsIn (KK wd) mainGlobals ("dot" : Str) = some (some (.ref 108)) := by with_unfolding_all rfl
theorem gi_mat_mul (wd : World) : nsIn (KK wd) mainGlobals ("mat_mul" : Str) = some (some (.ref 113)) := by with_unfolding_all rfl
theorem gi_swap_rows (wd : World) : nsIn (KK wd) mainGlobals ("swap_rows" : Str) = some (some (.ref 120)) := by with_unfolding_all rfl
theorem gi_take_off (wd : World) : nsIn (KK wd) mainGlobals ("take_off" : Str) = some (some (.ref 125)) := by with_unfolding_all rfl
theorem gi_echelon (wd : World) : nsIn (KK wd) mainGlobals ("echelon" : Str) = some (some (.ref 130)) := by with_unfolding_all rfl
theorem gi_rank (wd : World) : nsIn (KK wd) mainGlobals ("rank" : Str) = some (some (.ref 137)) := by with_unfolding_all rfl
theorem gi_pivot_row (wd : World) : nsIn (KK wd) mainGlobals ("pivot_row" : Str) = some (some (.ref 144)) := by with_unfolding_all rfl
theorem gi_bareiss_step (wd : World) : nsIn (KK wd) mainGlobals ("bareiss_step" : Str) = some (some (.ref 151)) := by with_unfolding_all rfl
theorem gi_determinant (wd : World) : nsIn (KK wd) mainGlobals ("determinant" : Str) = some (some (.ref 156)) := by with_unfolding_all rfl
theorem gi_minor (wd : World) : nsIn (KK wd) mainGlobals ("minor" : Str) = some (some (.ref 161)) := by with_unfolding_all rfl
theorem gi_adjugate (wd : World) : nsIn (KK wd) mainGlobals ("adjugate" : Str) = some (some (.ref 166)) := by with_unfolding_all rfl
theorem gi_leading_minors (wd : World) : nsIn (KK wd) mainGlobals ("leading_minors" : Str) = some (some (.ref 171)) := by with_unfolding_all rfl
theorem gi_law_take (wd : World) : nsIn (KK wd) mainGlobals ("_law_take" : Str) = some (some (.ref 178)) := by with_unfolding_all rfl
theorem gi_law_ratios (wd : World) : nsIn (KK wd) mainGlobals ("_law_ratios" : Str) = some (some (.ref 183)) := by with_unfolding_all rfl
theorem gi_law_beside (wd : World) : nsIn (KK wd) mainGlobals ("_law_beside" : Str) = some (some (.ref 188)) := by with_unfolding_all rfl
theorem gi_law_within (wd : World) : nsIn (KK wd) mainGlobals ("_law_within" : Str) = some (some (.ref 193)) := by with_unfolding_all rfl
theorem gi_law_beside_right (wd : World) : nsIn (KK wd) mainGlobals ("_law_beside_right" : Str) = some (some (.ref 198)) := by with_unfolding_all rfl
theorem bi_abs (wd : World) : nsIn (KK wd) mainGlobals ("abs" : Str) = some none ∧ bootBuiltins ("abs" : Str) = some (.builtin "abs") ∧ ("abs" : Str) ≠ "__name__" ∧ (("abs" : Str) == ("__debug__" : Str)) = false := ⟨by with_unfolding_all rfl, by decide +kernel, by decide +kernel, by decide +kernel⟩
theorem bi_len (wd : World) : nsIn (KK wd) mainGlobals ("len" : Str) = some none ∧ bootBuiltins ("len" : Str) = some (.builtin "len") ∧ ("len" : Str) ≠ "__name__" ∧ (("len" : Str) == ("__debug__" : Str)) = false := ⟨by with_unfolding_all rfl, by decide +kernel, by decide +kernel, by decide +kernel⟩
theorem bi_min (wd : World) : nsIn (KK wd) mainGlobals ("min" : Str) = some none ∧ bootBuiltins ("min" : Str) = some (.builtin "min") ∧ ("min" : Str) ≠ "__name__" ∧ (("min" : Str) == ("__debug__" : Str)) = false := ⟨by with_unfolding_all rfl, by decide +kernel, by decide +kernel, by decide +kernel⟩
theorem bi_range (wd : World) : nsIn (KK wd) mainGlobals ("range" : Str) = some none ∧ bootBuiltins ("range" : Str) = some (.type "range") ∧ ("range" : Str) ≠ "__name__" ∧ (("range" : Str) == ("__debug__" : Str)) = false := ⟨by with_unfolding_all rfl, by decide +kernel, by decide +kernel, by decide +kernel⟩
theorem bi_list (wd : World) : nsIn (KK wd) mainGlobals ("list" : Str) = some none ∧ bootBuiltins ("list" : Str) = some (.type "list") ∧ ("list" : Str) ≠ "__name__" ∧ (("list" : Str) == ("__debug__" : Str)) = false := ⟨by with_unfolding_all rfl, by decide +kernel, by decide +kernel, by decide +kernel⟩
theorem bi_int (wd : World) : nsIn (KK wd) mainGlobals ("int" : Str) = some none ∧ bootBuiltins ("int" : Str) = some (.type "int") ∧ ("int" : Str) ≠ "__name__" ∧ (("int" : Str) == ("__debug__" : Str)) = false := ⟨by with_unfolding_all rfl, by decide +kernel, by decide +kernel, by decide +kernel⟩
theorem bi_enumerate (wd : World) : nsIn (KK wd) mainGlobals ("enumerate" : Str) = some none ∧ bootBuiltins ("enumerate" : Str) = some (.type "enumerate") ∧ ("enumerate" : Str) ≠ "__name__" ∧ (("enumerate" : Str) == ("__debug__" : Str)) = false := ⟨by with_unfolding_all rfl, by decide +kernel, by decide +kernel, by decide +kernel⟩
noncomputable def gtab : List (Str × Value) := [("gcd", .ref 41), ("R0", .ref 42), ("rat", .ref 49), ("radd", .ref 56), ("rsub", .ref 63), ("rmul", .ref 70), ("rdiv", .ref 77), ("shape", .ref 84), ("need_shape", .ref 91), ("copied", .ref 96), ("transposed", .ref 101), ("dot", .ref 108), ("mat_mul", .ref 113), ("swap_rows", .ref 120), ("take_off", .ref 125), ("echelon", .ref 130), ("rank", .ref 137), ("pivot_row", .ref 144), ("bareiss_step", .ref 151), ("determinant", .ref 156), ("minor", .ref 161), ("adjugate", .ref 166), ("leading_minors", .ref 171), ("_law_take", .ref 178), ("_law_ratios", .ref 183), ("_law_beside", .ref 188), ("_law_within", .ref 193), ("_law_beside_right", .ref 198)]
theorem gtab_ok (wd : World) : ∀ p ∈ gtab, nsIn (KK wd) mainGlobals p.1 = some (some p.2) := fa_cons (gi_gcd wd) (fa_cons (gi_R0 wd) (fa_cons (gi_rat wd) (fa_cons (gi_radd wd) (fa_cons (gi_rsub wd) (fa_cons (gi_rmul wd) (fa_cons (gi_rdiv wd) (fa_cons (gi_shape wd) (fa_cons (gi_need_shape wd) (fa_cons (gi_copied wd) (fa_cons (gi_transposed wd) (fa_cons (gi_dot wd) (fa_cons (gi_mat_mul wd) (fa_cons (gi_swap_rows wd) (fa_cons (gi_take_off wd) (fa_cons (gi_echelon wd) (fa_cons (gi_rank wd) (fa_cons (gi_pivot_row wd) (fa_cons (gi_bareiss_step wd) (fa_cons (gi_determinant wd) (fa_cons (gi_minor wd) (fa_cons (gi_adjugate wd) (fa_cons (gi_leading_minors wd) (fa_cons (gi_law_take wd) (fa_cons (gi_law_ratios wd) (fa_cons (gi_law_beside wd) (fa_cons (gi_law_within wd) (fa_cons (gi_law_beside_right wd) (fun _ h => nomatch h))))))))))))))))))))))))))))
theorem gi_tab {wd : World} {x : Str} {v : Value} (h : (x, v) ∈ ([("gcd", .ref 41), ("R0", .ref 42), ("rat", .ref 49), ("radd", .ref 56), ("rsub", .ref 63), ("rmul", .ref 70), ("rdiv", .ref 77), ("shape", .ref 84), ("need_shape", .ref 91), ("copied", .ref 96), ("transposed", .ref 101), ("dot", .ref 108), ("mat_mul", .ref 113), ("swap_rows", .ref 120), ("take_off", .ref 125), ("echelon", .ref 130), ("rank", .ref 137), ("pivot_row", .ref 144), ("bareiss_step", .ref 151), ("determinant", .ref 156), ("minor", .ref 161), ("adjugate", .ref 166), ("leading_minors", .ref 171), ("_law_take", .ref 178), ("_law_ratios", .ref 183), ("_law_beside", .ref 188), ("_law_within", .ref 193), ("_law_beside_right", .ref 198)] : List (Str × Value))) : nsIn (KK wd) mainGlobals x = some (some v) := gtab_ok wd _ h
noncomputable def btab : List (Str × Value) := [("abs", (.builtin "abs")), ("len", (.builtin "len")), ("min", (.builtin "min")), ("range", (.type "range")), ("list", (.type "list")), ("int", (.type "int")), ("enumerate", (.type "enumerate"))]
theorem btab_ok (wd : World) : ∀ p ∈ btab, nsIn (KK wd) mainGlobals p.1 = some none ∧ bootBuiltins p.1 = some p.2 ∧ p.1 ≠ "__name__" ∧ (p.1 == ("__debug__" : Str)) = false := fa_cons (bi_abs wd) (fa_cons (bi_len wd) (fa_cons (bi_min wd) (fa_cons (bi_range wd) (fa_cons (bi_list wd) (fa_cons (bi_int wd) (fa_cons (bi_enumerate wd) (fun _ h => nomatch h)))))))
theorem bi_tab {wd : World} {x : Str} {v : Value} (h : (x, v) ∈ ([("abs", (.builtin "abs")), ("len", (.builtin "len")), ("min", (.builtin "min")), ("range", (.type "range")), ("list", (.type "list")), ("int", (.type "int")), ("enumerate", (.type "enumerate"))] : List (Str × Value))) : nsIn (KK wd) mainGlobals x = some none ∧ bootBuiltins x = some v ∧ x ≠ "__name__" ∧ (x == ("__debug__" : Str)) = false := btab_ok wd _ h
end Mine
end

section
set_option maxRecDepth 100000
set_option Elab.async false
set_option linter.unusedVariables false
namespace Mine
open PySem PySem.Calls PySem.W PyProof.Rows

section
variable {prog : Program} {wd : World} {H₀ : Heap} {env : Env} {k b : WM} {σ σ' : Vars} {w : Own} {r : RestT} {s : Shared} {A : Around} {E : Value → Shared → Prop} {R : Result → Shared → Prop}

/-! two generators -/
theorem compTurn_two0 (elt t0 i0 t1 i1 : Expr) (scope : Scope) (pos : Pos) (it acc : Value) (env : Env) :
    compTurn (.ListComp elt [⟨t0, i0, [], 0⟩, ⟨t1, i1, [], 0⟩] scope pos) 0 it acc env = (do
      standAt i0.pos
      match ← pyNext it with
      | none => pure (.done .next)
      | some v =>
        letOwnedTupleGo t0 it v
        assign t0 env v
        let x ← eval i1 env
        standAt i1.pos
        let x ← foldedSetIterable i1 env x
        let it1 ← holding [x] (pyIter x)
        let _ ← runOwn (.compStart (.ListComp elt [⟨t0, i0, [], 0⟩, ⟨t1, i1, [], 0⟩] scope pos) 1 it1 acc env) env
        again (.compLoop (.ListComp elt [⟨t0, i0, [], 0⟩, ⟨t1, i1, [], 0⟩] scope pos) 0 it acc env)) := by rfl
theorem compTurn_two1 (elt t0 i0 t1 i1 : Expr) (scope : Scope) (pos : Pos) (it acc : Value) (env : Env) :
    compTurn (.ListComp elt [⟨t0, i0, [], 0⟩, ⟨t1, i1, [], 0⟩] scope pos) 1 it acc env = (do
      standAt i1.pos
      match ← pyNext it with
      | none => pure (.done .next)
      | some v =>
        letOwnedTupleGo t1 it v
        assign t1 env v
        (do let _ ← call (.builtin "list.append") [acc, ← eval elt env])
        again (.compLoop (.ListComp elt [⟨t0, i0, [], 0⟩, ⟨t1, i1, [], 0⟩] scope pos) 1 it acc env)) := by rfl

theorem codeAny_compStart_1 {elt t0 i0 t1 i1 : Expr} {scope : Scope} {pos : Pos} {it acc : Value}
    (h0 : codeAny (model prog wd) A (.compLoop (.ListComp elt [⟨t0, i0, [], 0⟩, ⟨t1, i1, [], 0⟩] scope pos) 1 it acc env) R s)
    (h : wpAny (model prog wd) A (pyIter it) (fun it' s' => codeAny (model prog wd) A (.compLoop (.ListComp elt [⟨t0, i0, [], 0⟩, ⟨t1, i1, [], 0⟩] scope pos) 1 it' acc env) R s')
      (notedBy (model prog wd) A env fun x s' => R (.error x) s') s) :
    codeAny (model prog wd) A (.compStart (.ListComp elt [⟨t0, i0, [], 0⟩, ⟨t1, i1, [], 0⟩] scope pos) 1 it acc env) R s := by
  refine codeAny_of_tree ?_
  show wpAny _ _ ((compStart (.ListComp elt [⟨t0, i0, [], 0⟩, ⟨t1, i1, [], 0⟩] scope pos) 1 it acc env).onRaise (fun x => do noteFrame x env; standAt theWindowsPlace)) _ _ s
  refine wpAny_notedAt ?_
  unfold compStart
  show wpAny _ _ (ask >>= _) _ _ s
  refine wpAny_bind (wpAny_askSetting (wpAny_ite ?_))
  split
  · first
      | exact wpAny_bind (wpAny_pure (wpAny_pure (And.intro rfl h0)))
      | exact wpAny_pure (And.intro rfl h0)
  · first
      | exact wpAny_bind (wpAny_rule (wpAny_bind (wpAny_standAt (wpAny_bind (wpAny_mono h (fun it' s' h' => wpAny_pure (And.intro rfl h')) fun _ _ x => x)))))
      | (refine wpAny_bind (wpAny_rule ?_); show wpAny _ _ (standAt i1.pos >>= _) _ _ s; exact wpAny_bind (wpAny_standAt (wpAny_bind (wpAny_mono h (fun it' s' h' => wpAny_pure (And.intro rfl h')) fun _ _ x => x))))

/-- the inner loop -/
theorem loop1 {elt t0 i0 i1 : Expr} {scope : Scope} {pos py : Pos} {y : Str} {D I : Addr} {fp wr : List Addr} {m : Nat} {P : Nat → WM → Value → Prop} {Si : Nat → Heap → Prop} {σ1 : Vars} {β : Type} {PY : TP β} {g : Nat → β} {vs0 : List Value}
    (W : Itr prog wd A (.Name y py) I fp wr m P Si) (mono : MonoT PY) (H : St H₀ env k b σ1 ((D, lstO vs0 vs0.length) :: w) r s) (off : Off env k b ((D, lstO vs0 vs0.length) :: w) wr) (hs0 : Si 0 s.heap) (hfp : ∀ a ∈ fp, a ∈ wr ∨ ∃ o, b a = some o)
    (hsz : vs0.length + m ≤ 1000)
    (σ2 : Value → Vars) (hput : ∀ v, Put y (some v) σ1 (σ2 v)) (hyn : (y, none) ∈ σ1) (hyk : okKind env y)
    (step : ∀ j v k' b' s'', j < m → Sub k k' → Gr k b b' → P j b' v → St H₀ env k' b' (σ2 v) w r s'' → wpAny (model prog wd) A (eval elt env) (fun z s₄ => TPost H₀ env k' b' (σ2 v) w r (fun b z => PY b z (g j)) z s₄) (fun _ _ => False) s'')
    (fin : ∀ b' ys s', Gr k b b' → All2 (PY b') ys ((List.range m).map g) → St H₀ env k b' σ1 ((D, lstO (vs0 ++ ys) (vs0 ++ ys).length) :: w) r s' → R (.ok .next) s') :
    codeAny (model prog wd) A (.compLoop (.ListComp elt [⟨t0, i0, [], 0⟩, ⟨.Name y py, i1, [], 0⟩] scope pos) 1 (.ref I) (.ref D) env) R s := by
  refine codeAny_loop rfl (fun mm s' => X3_7 (fun j b' ys => mm = m + 1 - j) (fun j b' ys => j ≤ m) (fun j b' ys => Gr k b b') (fun j b' ys => St H₀ env k b' σ1 ((D, lstO (vs0 ++ ys) (vs0 ++ ys).length) :: w) r s') (fun j b' ys => Off env k b' ((D, lstO (vs0 ++ ys) (vs0 ++ ys).length) :: w) wr) (fun j b' ys => Si j s'.heap) (fun j b' ys => All2 (PY b') ys ((List.range j).map g)))
    (fun mm s' hI => ?_) (m + 1) ⟨0, b, [], rfl, Nat.zero_le _, Gr.refl _ _, by simpa using H, by simpa using off, hs0, .nil⟩
  obtain ⟨j, b₁, ys, rfl, hj, hg, H₁, off₁, hsi, hal⟩ := hI
  show wpAny _ A ((compTurn (.ListComp elt [⟨t0, i0, [], 0⟩, ⟨.Name y py, i1, [], 0⟩] scope pos) 1 (.ref I) (.ref D) env).onRaise (fun x => do noteFrame x env; theTreesLotGoes x)) _ _ s'
  refine wpAny_noted ?_
  rw [compTurn_two1]
  have hyl : ys.length = j := by rw [hal.length]; simp
  refine wpAny_bind (wpAny_standAt (wpAny_bind (wpAny_mono (turn_core (Z := fun v s₂ => wpAny (model prog wd) A (assign (.Name y py) env v) (fun _ s₃ => wpAny (model prog wd) A (eval elt env) (fun z s₄ => wpAny (model prog wd) A (call (.builtin "list.append") [.ref D, z]) (fun _ s₅ => ∃ mm, mm < m + 1 - j ∧ X3_7 (fun j b' ys => mm = m + 1 - j) (fun j b' ys => j ≤ m) (fun j b' ys => Gr k b b') (fun j b' ys => St H₀ env k b' σ1 ((D, lstO (vs0 ++ ys) (vs0 ++ ys).length) :: w) r s₅) (fun j b' ys => Off env k b' ((D, lstO (vs0 ++ ys) (vs0 ++ ys).length) :: w) wr) (fun j b' ys => Si j s₅.heap) (fun j b' ys => All2 (PY b') ys ((List.range j).map g))) (fun _ _ => False) s₄) (fun _ _ => False) s₃) (fun _ _ => False) s₂)
    (DN := fun s₂ => R (.ok .next) s₂) W hfp H.bk hj hg H₁ off₁ hsi (fun e s₂ H₂ => fin b₁ ys s₂ hg (by rw [← e]; exact hal) H₂) (fun hlt v b₂ k' s₂ hk hg₂ hP H₂ back => ?_)) (fun x s₁ h => ?_) fun _ _ f => f.elim)))
  · refine nst H₂ (hput v) hyk fun s₃ H₃ => ?_
    obtain ⟨Hh, hsub⟩ := H₃.hide
    refine wpAny_mono (step j v _ b₂ s₃ hlt (hk.trans hsub) (hg.trans hg₂) hP Hh) (fun z s₄ h₄ => ?_) fun _ _ f => f.elim
    obtain ⟨b₄, hg₄, H₄, hz⟩ := h₄
    have H₅ := (H₃.unhide hg₄ H₄).back (keepc (hput v) H.names hyn) H.names
    have hg₄' : Gr k' b₂ b₄ := hg₄.sub hsub
    refine app_own H₅ (H₅.own _ List.mem_cons_self).1 (by rw [PySem.sizeLine_eq, List.length_append]; lia) (w' := (D, lstO (vs0 ++ ys ++ [z]) ((vs0 ++ ys).length + 1)) :: w) .head fun s₆ H₆ => ?_
    obtain ⟨r1, r2, r3, r4⟩ := back s₆ b₄ σ1 _ hg₄' H₆
    have e : lstO (vs0 ++ ys ++ [z]) ((vs0 ++ ys).length + 1) = lstO (vs0 ++ (ys ++ [z])) (vs0 ++ (ys ++ [z])).length := by
      have e2 : (vs0 ++ ys ++ [z]).length = (vs0 ++ ys).length + 1 := by rw [List.length_append]; rfl
      rw [← List.append_assoc, e2]
    rw [e] at r2 r3
    refine ⟨m + 1 - (j + 1), by lia, j + 1, b₄, ys ++ [z], rfl, hlt, r1, r2, r3, r4, ?_⟩
    rw [List.range_succ, List.map_append]
    exact (hal.imp fun v x => mono _ _ _ _ (hg₂.1.trans hg₄.1)).append (.cons hz .nil)
  · cases x with
    | none => exact wpAny_pure h
    | some v =>
      refine wpAny_bind (wpAny_mono h (fun _ s₂ h₂ => wpAny_bind (wpAny_mono h₂ (fun _ s₃ h₃ => ?_) fun _ _ f => f.elim)) fun _ _ f => f.elim)
      refine wpAny_bind (wpAny_bind (wpAny_mono h₃ (fun z s₄ h₄ => wpAny_bind (wpAny_mono h₄ (fun _ s₅ h₅ => wpAny_pure (wpAny_pure ⟨rfl, h₅⟩)) fun _ _ f => f.elim)) fun _ _ f => f.elim))

theorem flat_succ {β : Type} {n m : Nat} {f : Nat → Nat → β} : ((List.range (n + 1)).flatMap fun i => (List.range m).map (f i)) = ((List.range n).flatMap fun i => (List.range m).map (f i)) ++ (List.range m).map (f n) := by
  rw [List.range_succ, List.flatMap_append]; simp
theorem flat_len {β : Type} {m : Nat} {f : Nat → Nat → β} : ∀ {n : Nat}, ((List.range n).flatMap fun i => (List.range m).map (f i)).length = n * m
  | 0 => by simp
  | n + 1 => by rw [flat_succ, List.length_append, flat_len]; simp [Nat.succ_mul]

/-- two lists, one inside the other -/
theorem comp2 {elt i0 : Expr} {scope : Scope} {pos px py pz : Pos} {x y z : Str} {I a1 : Addr} {fp wr : List Addr} {n m : Nat} {P : Nat → WM → Value → Prop} {Si : Nat → Heap → Prop} {cl : List (Str × Addr)} {σc : Vars} {β : Type} {PY : TP β} {f : Nat → Nat → β} {Q : Value → Shared → Prop}
    (hh : A.handled = none) (mono : MonoT PY) (S : CompSide env scope cl σ σc) (W : Itr prog wd A (.Name x px) I fp wr n P Si) (H : St H₀ env k b σ w r s) (off : Off env k b w wr) (hs0 : Si 0 s.heap) (hfp : ∀ a ∈ fp, a ∈ wr ∨ ∃ o, b a = some o)
    (hsz : n * m ≤ 1000) (hm1 : m ≤ 1000)
    (σ1 : Value → Vars) (hput : ∀ v, Put x (some v) σc (σ1 v)) (hxn : (x, none) ∈ σc) (hxk : ∀ C, okKind (compEnvX scope cl C env) x)
    (σ2 : Value → Value → Vars) (hput2 : ∀ u v, Put y (some v) (σ1 u) (σ2 u v)) (hyn : (y, none) ∈ σc) (hyn1 : ∀ u, (y, none) ∈ σ1 u) (hyk : ∀ C, okKind (compEnvX scope cl C env) y)
    (hz : ∀ u, (z, some (.ref a1)) ∈ σ1 u) {ws : List Value} {nw : Nat} (hb1 : b a1 = some (lstO ws nw)) (hm : ws.length = m)
    (step : ∀ i j u v C k' b' s'', i < n → j < m → Sub k k' → Gr k b b' → (∃ b₀, Sub b₀ b' ∧ Gr k b b₀ ∧ P i b₀ u) → ws[j]? = some v → St H₀ (compEnvX scope cl C env) k' b' (σ2 u v) w r s'' →
      wpAny (model prog wd) A (eval elt (compEnvX scope cl C env)) (fun z s₄ => TPost H₀ (compEnvX scope cl C env) k' b' (σ2 u v) w r (fun b z => PY b z (f i j)) z s₄) (fun _ _ => False) s'')
    (fin : ∀ D b' s', Gr k b b' → TList PY b' (.ref D) ((List.range n).flatMap fun i => (List.range m).map (f i)) → St H₀ env k b' σ w r s' → Q (.ref D) s') :
    CompGoal prog wd A E env scope cl none Q (.ListComp elt [⟨.Name x px, i0, [], 0⟩, ⟨.Name y py, .Name z pz, [], 0⟩] scope pos) (.ref I) s := by
  refine comp_pre (RR := fun acc C => compPost (model prog wd) A E none Q acc C) W H off hs0 S.kind σc S.nd S.vk S.ccl S.cap ?_
  intro C D kc s₁ hkc H₁ off₁ hs1 back0
  have hfp₁ := hfp
  refine codeAny_loop rfl (fun mm s' => X3_7 (fun i b' ys => mm = n + 1 - i) (fun i b' ys => i ≤ n) (fun i b' ys => Gr kc b b') (fun i b' ys => St H₀ (compEnvX scope cl C env) kc b' σc ((D, lstO ys ys.length) :: w) r s') (fun i b' ys => Off (compEnvX scope cl C env) kc b' ((D, lstO ys ys.length) :: w) wr) (fun i b' ys => Si i s'.heap) (fun i b' ys => All2 (PY b') ys ((List.range i).flatMap fun i => (List.range m).map (f i))))
    (fun mm s' hI => ?_) (n + 1) ⟨0, b, [], rfl, Nat.zero_le _, Gr.refl _ _, H₁, off₁, hs1, by simp; exact .nil⟩
  obtain ⟨i, b₁, ys, rfl, hi, hg, H₂, off₂, hsi, hal⟩ := hI
  show wpAny _ A ((compTurn (.ListComp elt [⟨.Name x px, i0, [], 0⟩, ⟨.Name y py, .Name z pz, [], 0⟩] scope pos) 0 (.ref I) (.ref D) (compEnvX scope cl C env)).onRaise (fun x => do noteFrame x (compEnvX scope cl C env); theTreesLotGoes x)) _ _ s'
  refine wpAny_noted ?_
  rw [compTurn_two0]
  refine wpAny_bind (wpAny_standAt (wpAny_bind (wpAny_mono (turn_core (Z := fun v s₂ => wpAny (model prog wd) A (assign (.Name x px) (compEnvX scope cl C env) v) (fun _ s₃ => wpAny (model prog wd) A (eval (.Name z pz) (compEnvX scope cl C env)) (fun xv s₄ => wpAny (model prog wd) A (pyIter xv) (fun it s₅ =>
      codeAny (model prog wd) A (.compStart (.ListComp elt [⟨.Name x px, i0, [], 0⟩, ⟨.Name y py, .Name z pz, [], 0⟩] scope pos) 1 it (.ref D) (compEnvX scope cl C env)) (fun rr s₆ => match rr with
        | .ok _ => ∃ mm, mm < n + 1 - i ∧ X3_7 (fun i b' ys => mm = n + 1 - i) (fun i b' ys => i ≤ n) (fun i b' ys => Gr kc b b') (fun i b' ys => St H₀ (compEnvX scope cl C env) kc b' σc ((D, lstO ys ys.length) :: w) r s₆) (fun i b' ys => Off (compEnvX scope cl C env) kc b' ((D, lstO ys ys.length) :: w) wr) (fun i b' ys => Si i s₆.heap) (fun i b' ys => All2 (PY b') ys ((List.range i).flatMap fun i => (List.range m).map (f i)))
        | .error e => False) s₅) (fun _ _ => False) s₄) (fun _ _ => False) s₃) (fun _ _ => False) s₂)
    (DN := fun s₂ => compPost (model prog wd) A E none Q (.ref D) C (.ok .next) s₂) W hfp H₁.bk hi hg H₂ off₂ hsi (fun e s₂ H₃ => ?_) (fun hlt v b₂ k' s₂ hk hg₂ hP H₃ back => ?_)) (fun x s₁ h => ?_) fun _ _ f => f.elim)))
  · obtain ⟨mN, r1, r2, r3, r4⟩ := back0 b₁ σc w ys s₂ hg H₃
    refine ⟨mN, r3, fun h' hs' => ?_⟩
    have q := (r2.extBut (tk := s₂.toks) (h' := h') r4 fun a o ha e => hs'.extBut a o (fun q => ha (by rw [q]; exact List.mem_singleton.mpr rfl)) e).freeze0
    exact fin D _ _ (r1.trans q.1) ⟨D, ys, _, rfl, upd_self .., by rw [← e]; exact hal.imp fun v x => mono _ _ _ _ q.1.1⟩ q.2
  · refine nst H₃ (hput v) (hxk C) fun s₃ H₄ => ?_
    refine nm H₄ (hz v) ?_
    have hyl : ys.length = i * m := by rw [hal.length, flat_len]
    refine src_list hh H₄ (hg₂.1 _ _ (hg.1 _ _ hb1)) fun J s₅ W₁ H₅ offJ h0J hfpJ => ?_
    have hsz' : ys.length + m ≤ 1000 := by
      have : (i + 1) * m ≤ n * m := Nat.mul_le_mul_right m hlt
      rw [Nat.succ_mul] at this; lia
    have loop := loop1 (elt := elt) (t0 := .Name x px) (i0 := i0) (i1 := .Name z pz) (scope := scope) (pos := pos) (R := fun rr s₆ => match rr with
        | .ok _ => ∃ mm, mm < n + 1 - i ∧ X3_7 (fun i b' ys => mm = n + 1 - i) (fun i b' ys => i ≤ n) (fun i b' ys => Gr kc b b') (fun i b' ys => St H₀ (compEnvX scope cl C env) kc b' σc ((D, lstO ys ys.length) :: w) r s₆) (fun i b' ys => Off (compEnvX scope cl C env) kc b' ((D, lstO ys ys.length) :: w) wr) (fun i b' ys => Si i s₆.heap) (fun i b' ys => All2 (PY b') ys ((List.range i).flatMap fun i => (List.range m).map (f i)))
        | .error e => False) (g := f i) (W₁ y py) mono H₅ offJ h0J hfpJ (by rw [hm]; exact hsz') (σ2 v) (hput2 v) (hyn1 v) (hyk C)
      (fun j u k₂ b₃ s'' hj hk₂ hg₃ hPu H₆ => step i j v u C k₂ b₃ s'' hlt (by lia) (hkc.trans (hk.trans hk₂)) (((hg.trans hg₂).sub hkc).trans (hg₃.sub (hkc.trans hk))) ⟨b₂, hg₃.1, (hg.trans hg₂).sub hkc, hP⟩ hPu H₆)
      (fun b₃ zs s₆ hg₃ hzs H₆ => by
        have H₇ := H₆.back (keepc (hput v) S.nd hxn) S.nd
        obtain ⟨r1, r2, r3, r4⟩ := back s₆ b₃ σc _ hg₃ H₇
        refine ⟨n + 1 - (i + 1), by lia, i + 1, b₃, ys ++ zs, rfl, hlt, r1, r2, r3, r4, ?_⟩
        rw [flat_succ]
        rw [hm] at hzs
        exact (hal.imp fun v x => mono _ _ _ _ (hg₂.1.trans hg₃.1)).append hzs)
    exact codeAny_compStart_1 loop ((W₁ y py).self 0 _ _ _ h0J loop)
  · cases x with
    | none => exact wpAny_pure h
    | some v =>
      refine wpAny_bind (wpAny_mono h (fun _ s₂ h₂ => wpAny_bind (wpAny_mono h₂ (fun _ s₃ h₃ => ?_) fun _ _ f => f.elim)) fun _ _ f => f.elim)
      refine wpAny_bind (wpAny_mono h₃ (fun xv s₄ h₄ => wpAny_bind (wpAny_standAt (wpAny_bind (wpAny_of_eq (a := xv) (by rfl) (wpAny_bind (wpAny_holding (wpAny_mono h₄ (fun it s₅ h₅ => wpAny_bind (wpAny_runOwn ?_)) fun _ _ f => f.elim)))))))  fun _ _ f => f.elim)
      refine codeAny_mono h₅ fun rr s₆ h₆ => ?_
      cases rr with
      | ok _ => exact wpAny_pure ⟨rfl, h₆⟩
      | error e => exact h₆.elim

theorem lcomp2 {elt target iter t1 i1 : Expr} {scope : Scope} {pos : Pos} {Q : Value → Shared → Prop} {cl : List (Str × Addr)} {σc : Vars} (S : CompSide env scope cl σ σc)
    (h : wpAny (model prog wd) A (eval iter env) (fun x s₁ => wpAny (model prog wd) A (pyIter x) (fun it s₂ => CompGoal prog wd A E env scope cl none Q (.ListComp elt [⟨target, iter, [], 0⟩, ⟨t1, i1, [], 0⟩] scope pos) it s₂) E s₁) E s)
    (hs : ∀ x, foldedSetIterable iter env x = pure x := by intro _; rfl) : wpAny (model prog wd) A (eval (.ListComp elt [⟨target, iter, [], 0⟩, ⟨t1, i1, [], 0⟩] scope pos) env) Q E s := by
  rw [eval_ListComp]
  exact wpAny_comprehension_free (use := none) rfl hs S.clos S.kind S.names h
end
end Mine
end

section
set_option maxRecDepth 100000
set_option Elab.async false
set_option linter.unusedVariables false
namespace Mine
open PySem PySem.Calls PySem.W PyProof.Rows

section
variable {prog : Program} {wd : World} {H₀ : Heap} {env : Env} {k b : WM} {σ σ' : Vars} {w w' : Own} {r : RestT} {s : Shared} {A : Around} {E : Value → Shared → Prop} {n : Nat}

theorem draw_list {it l : Addr} {items : Array Value} (hne : l ≠ it) : ∀ (n i : Nat) (s : Shared) (Q : List Value → Shared → Prop), s.heap.IsListIter it l i → s.heap.IsList l items → i + n ≤ items.size →
    (∀ h', h'.IsListIter it l (i + n) → Heap.SameBut it s.heap h' → Q ((items.toList.drop i).take n) { s with heap := h' }) → wpAny (model prog wd) A (draw (.ref it) n) Q E s
  | 0, i, s, Q, hit, _, _, hQ => by
    show wpAny _ _ (pure []) Q E s
    exact wpAny_pure (by simpa using hQ s.heap hit (Heap.SameBut.refl ..))
  | n + 1, i, s, Q, hit, ht, hle, hQ => by
    have hlt : i < items.size := by lia
    show wpAny _ _ (pyNext (.ref it) >>= _) Q E s
    refine wpAny_bind (wpAny_pyNext_list_item hit ht (x := items[i]) (by simp [hlt]) fun h₁ hit₁ hs₁ => ?_)
    refine wpAny_bind (wpAny_holding (draw_list hne n (i + 1) _ _ hit₁ (ht.extBut hs₁.extBut hne) (by lia) fun h₂ hit₂ hs₂ => wpAny_pure ?_))
    have hd : items.toList.drop i = items[i] :: items.toList.drop (i + 1) := by simp [List.drop_eq_getElem_cons, hlt]
    have := hQ h₂ (by rw [show i + (n + 1) = i + 1 + n by lia]; exact hit₂) (hs₁.trans hs₂)
    rw [hd, List.take_succ_cons] at this
    exact this

theorem unpackItems_list {t : Addr} {items : Array Value} {Q : List Value → Shared → Prop} (hh : A.handled = none) (ht : s.heap.IsList t items)
    (hQ : ∀ h', Heap.ExtBut s.heap.objs.size s.heap h' → Q items.toList { s with heap := h' }) : wpAny (model prog wd) A (unpackItems (.ref t) items.size none) Q E s := by
  have hlt : t ≠ s.heap.objs.size := by obtain ⟨o, ho, _⟩ := ht; exact Nat.ne_of_lt (Heap.lt_size ho)
  unfold unpackItems
  refine wpAny_bind ?_
  · unfold notIterableAtAll
    refine wpAny_bind (wpAny_specialOf ht.typeIs F.slot_list_iter.lookup ?_)
    refine wpAny_pure ?_
    simp only [Bool.false_eq_true, if_false]
    refine wpAny_bind (wpAny_holding (wpAny_pyIter_list ht ?_))
    refine wpAny_bind (wpAny_holding (draw_list hlt items.size 0 _ _ ⟨_, Heap.get?_push_size _ rfl, rfl, rfl⟩ (ht.push _) (by lia) fun h₁ hit₁ hs₁ => ?_))
    have hall : List.take items.size (List.drop 0 items.toList) = items.toList := by
      rw [List.drop_zero]; exact List.take_of_length_le (by simp)
    rw [hall]
    rw [if_neg (by simp)]
    have ht₁ : h₁.IsList t items := (ht.push _).extBut hs₁.extBut hlt
    refine wpAny_bind (wpAny_holding (wpAny_pyNext_list_end hh hit₁ ht₁ (by simp) fun h₂ he₂ => ?_))
    simp only [Option.isSome_none, Bool.false_eq_true, if_false]
    refine wpAny_pure (hQ h₂ fun b o hb e => he₂ b o hb (hs₁.extBut b o hb (Heap.get?_push_of_some _ e)))

theorem assign_Tuple_list {elts : List Expr} {x1} {pos : Pos} {t : Addr} {items : Array Value} {Q : Unit → Shared → Prop} (hh : A.handled = none) (ht : s.heap.IsList t items)
    (hn : (assignEach elts env).length = items.size) (hstar : (assignEach elts env).findIdx? (·.1) = none)
    (h : ∀ h', Heap.ExtBut s.heap.objs.size s.heap h' → wpAny (model prog wd) A (assignInOrder ((assignEach elts env).map (·.2)) items.toList) Q E { s with heap := h' }) :
    wpAny (model prog wd) A (assign (.Tuple elts x1 pos) env (.ref t)) Q E s := by
  rw [arm_assign_Tuple]
  refine wpAny_bind (wpAny_standAt ?_)
  unfold unpack
  rw [hn, hstar]
  exact wpAny_bind (wpAny_holding (unpackItems_list hh ht h))
/-- targets in a tuple, a list laid out -/
theorem tstL {elts : List Expr} {kd : Nat} {tp : Pos} {t : Addr} {vs : List Value} {nn : Nat} {Q : Unit → Shared → Prop} (hh : A.handled = none) (H : St H₀ env k b σ w r s) (ht : b t = some (lstO vs nn))
    (hn : (assignEach elts env).length = vs.length) (hstar : (assignEach elts env).findIdx? (·.1) = none)
    (h : ∀ s', St H₀ env k b σ w r s' → wpAny (model prog wd) A (assignInOrder ((assignEach elts env).map (·.2)) vs) Q E s') : wpAny (model prog wd) A (assign (.Tuple elts kd tp) env (.ref t)) Q E s := by
  refine assign_Tuple_list hh (lget (H.froz _ _ ht)) (by simpa using hn) hstar fun h' he => ?_
  exact h _ (H.heap fun a o e => he a o (Nat.ne_of_lt (Heap.lt_size e)) e)

/-- the start of a list that is given -/
theorem e_uptoL {a : Addr} {o : Obj} {vs : List Value} {nn : Nat} {xs : List Int} {value e : Expr} {p : Pos} {Q : Value → Shared → Prop} (H : St H₀ env k b σ w r s) (ha : b a = some o) (hc : o.cls = .type "list") (hd : o.data = .seq vs.toArray nn) (al : All2 (fun v i => ∃ t, v = Value.int i t) vs xs) (j : Nat) (hz : xs.length ≤ 1000)
    (h : wpAny (model prog wd) A (eval e env) (fun v s₁ => ∃ t, v = .int (j : Int) t ∧ St H₀ env k b σ w r s₁ ∧ ∀ D b' s', Gr k b b' → St H₀ env k b' σ w r s' → TRow b' D (xs.take j) → Q D s') E s)
    (hs : ∀ a c, subscripted (.Slice none (some e) none p) false (.ref a) (.ref c) = operate [.ref c, .ref a] (getItem (.ref a) (.ref c)) := by intro a c; with_unfolding_all rfl) :
    wpAny (model prog wd) A (eval (.Slice none (some e) none p) env) (fun i s₂ => wpAny (model prog wd) A (subscriptTail value (.Slice none (some e) none p) (.ref a) i) Q E s₂) E s := by
  refine wpAny_Slice ?_
  rw [PySem.evalPart_none, PySem.evalPart_some]
  refine wpAny_pure (wpAny_mono h (fun v s₁ h₁ => wpAny_pure ?_) fun _ _ x => x)
  obtain ⟨t, rfl, H', hq⟩ := h₁
  have hl : s₁.heap.IsList a vs.toArray := ⟨o, H'.froz _ _ ha, hc, nn, hd⟩
  refine sub_tail (Heap.IsList.typeIs (s := { s₁ with heap := s₁.heap.push { cls := .type "slice", data := .fields #[.none, .int (j : Int) t, .none] } }) (hl.push _)) list_getitem_lookup
    (wpAny_getItem_list_slice (hl.push _) (Heap.IsSliceOf.new ..) .none (.int _ _) .none (by simp) ?_ (by rw [List.size_toArray, al.length, PySem.sizeLine_eq]; with_reducible exact Mine.m22)) (hs a _)
  have H1 := H'.heap (h' := s₁.heap.push { cls := .type "slice", data := .fields #[.none, .int (j : Int) t, .none] }) fun a o e => Heap.get?_push_of_some _ e
  have up : ∀ a o, (s₁.heap.push { cls := .type "slice", data := .fields #[.none, .int (j : Int) t, .none] }).get? a = some o → ((s₁.heap.push { cls := .type "slice", data := .fields #[.none, .int (j : Int) t, .none] }).push (lstO (slicePick vs.toArray none (some (j : Int)) none).toList 0)).get? a = some o := fun a o e => Heap.get?_push_of_some _ e
  have q := H1.allocB (tk := s₁.toks) (get_size_none _) up (Heap.get?_push_size _ rfl)
  have e : (lstO (slicePick vs.toArray none (some (j : Int)) none).toList 0) = { cls := .type "list", data := .seq (slicePick vs.toArray none (some (j : Int)) none) } := by simp [lstO]
  rw [← e]
  refine hq _ _ _ q.1 q.2 ⟨_, _, 0, rfl, upd_self .., ?_⟩
  rw [slicePick_upto']
  have := (al.take j).imp (S := TInt (upd b (s₁.heap.objs.size + 1) (lstO (List.take j vs) 0))) fun v i h => h
  simpa using this
end
end Mine
end

section
set_option maxRecDepth 100000
set_option Elab.async false
set_option linter.unusedVariables false
namespace Mine
open PySem PySem.Calls PySem.W PyProof.Rows
/-! what is to hold at the end stands behind one letter: short proofs -/
section
variable {A : Around} {E : Value → Shared → Prop} {s : Shared}
theorem genQ {α : Type} {M : Model} {t : Sem α} {Q : α → Shared → Prop} (h : ∀ Q' : α → Shared → Prop, (∀ v s, Q v s → Q' v s) → wpAny M A t Q' E s) : wpAny M A t Q E s := h Q fun _ _ h => h
theorem genA {α β : Type} {M : Model} {t : Sem α} {t' : Sem β} {Q : β → Shared → Prop} {E' : Value → Shared → Prop} (h : ∀ Q' : β → Shared → Prop, (∀ v s, Q v s → Q' v s) → wpAny M A t (fun _ s₂ => wpAny M A t' Q' E' s₂) E s) : wpAny M A t (fun _ s₂ => wpAny M A t' Q E' s₂) E s := h Q fun _ _ h => h
theorem unQ {α : Type} {Q Q' : α → Shared → Prop} {v : α} {s : Shared} (g : Q v s) (h : ∀ v s, Q v s → Q' v s := by assumption) : Q' v s := h _ _ g
end
/-! several steps at once -/
section
variable {prog : Program} {wd : World} {mg mb : Str → Option Value} {H₀ : Heap}
  {env : Env} {k b : WM} {σ : Vars} {w : Own} {r : RestT} {s : Shared} {A : Around} {E : Value → Shared → Prop}
  {x y z f : Str} {px py pz pf pos : Pos} {v v' v'' : Value} {op : Operator} {slice e : Expr} {rest : List Expr} {F : Addr} {id T : String}
theorem sp1 {Q : List Value → Shared → Prop} (h : Q [v] s) (H : St H₀ env k b σ w r s := by assumption) (hx : (x, some v) ∈ σ := by walk_at "mem") : wpAny (model prog wd) A (spliced (backTo pos (starEach [.Name x px] env))) Q E s :=
  e_sp1 (nm H hx (e_sp0 h))
theorem sp2 {Q : List Value → Shared → Prop} (h : Q [v, v'] s) (H : St H₀ env k b σ w r s := by assumption) (hx : (x, some v) ∈ σ := by walk_at "mem") (hy : (y, some v') ∈ σ := by walk_at "mem") : wpAny (model prog wd) A (spliced (backTo pos (starEach [.Name x px, .Name y py] env))) Q E s :=
  e_sp1 (nm H hx (sp1 h H hy))
theorem spn {Q : List Value → Shared → Prop} (h : wpAny (model prog wd) A (spliced (backTo pos (starEach (e :: rest) env))) (fun vs s₂ => Q (v :: vs) s₂) E s) (H : St H₀ env k b σ w r s := by assumption) (hx : (x, some v) ∈ σ := by walk_at "mem") : wpAny (model prog wd) A (spliced (backTo pos (starEach (.Name x px :: e :: rest) env))) Q E s :=
  e_sp1 (nm H hx h)
theorem bin2 {Q : Value → Shared → Prop} (h : wpAny (model prog wd) A (binaryOp op v v') Q E s) (H : St H₀ env k b σ w r s := by assumption) (hx : (x, some v) ∈ σ := by walk_at "mem") (hy : (y, some v') ∈ σ := by walk_at "mem") : wpAny (model prog wd) A (eval (.BinOp (.Name x px) op (.Name y py) pos) env) Q E s :=
  e_bin (nm H hx (nm H hy h))
theorem sub2 {Q : Value → Shared → Prop} (h : wpAny (model prog wd) A (subscriptTail (.Name x px) (.Name y py) v v') Q E s) (H : St H₀ env k b σ w r s := by assumption) (hx : (x, some v) ∈ σ := by walk_at "mem") (hy : (y, some v') ∈ σ := by walk_at "mem") : wpAny (model prog wd) A (eval (.Subscript (.Name x px) (.Name y py) pos) env) Q E s :=
  Subscript_ (nm H hx (nm H hy h))
theorem sub1 {Q : Value → Shared → Prop} (h : wpAny (model prog wd) A (eval slice env) (fun i s₂ => wpAny (model prog wd) A (subscriptTail (.Name x px) slice v i) Q E s₂) E s) (H : St H₀ env k b σ w r s := by assumption) (hx : (x, some v) ∈ σ := by walk_at "mem") : wpAny (model prog wd) A (eval (.Subscript (.Name x px) slice pos) env) Q E s :=
  Subscript_ (nm H hx h)
theorem cfg {Q : Value → Shared → Prop} (h : wpAny (model prog wd) A (spliced (backTo pos (starEach (e :: rest) env))) (fun vs s₁ => Has H₀ r s₁ ∧ wpAny (model prog wd) A (call (.ref F) vs) Q E s₁) E s)
    (G : GG wd mg mb H₀ := by assumption) (H : St H₀ env k b σ w r s := by assumption) (hf : nsIn (KK wd) mainGlobals f = some (some (.ref F)) := by walk_at "gi") (hk : keepIn (KK wd) (.ref F) = true := by with_unfolding_all rfl) (hd : (f == ("__debug__" : Str)) = false := by with_unfolding_all rfl)
    (hx : env.kindOf f = some .globalImplicit := by with_unfolding_all rfl) (he : starEach (e :: rest) env = (false, eval e env) :: starEach rest env := by with_unfolding_all rfl) (hplain : (backTo pos (starEach rest env)).any (·.1) = false := by with_unfolding_all rfl) :
    wpAny (model prog wd) A (eval (.Call (.Name f pf) (e :: rest) [] pos) env) Q E s :=
  e_call (e_gnm G H hf hd (e_cf G H hk h he hplain) hx)
theorem cf1 {Q : Value → Shared → Prop} (h : Has H₀ r s ∧ wpAny (model prog wd) A (call (.ref F) [v]) Q E s)
    (G : GG wd mg mb H₀ := by assumption) (H : St H₀ env k b σ w r s := by assumption) (hf : nsIn (KK wd) mainGlobals f = some (some (.ref F)) := by walk_at "gi") (hk : keepIn (KK wd) (.ref F) = true := by with_unfolding_all rfl) (hd : (f == ("__debug__" : Str)) = false := by with_unfolding_all rfl)
    (hx : env.kindOf f = some .globalImplicit := by with_unfolding_all rfl) (hv : (x, some v) ∈ σ := by walk_at "mem") :
    wpAny (model prog wd) A (eval (.Call (.Name f pf) [.Name x px] [] pos) env) Q E s :=
  cfg (sp1 h H hv) G H hf hk hd hx
theorem cf2 {Q : Value → Shared → Prop} (h : Has H₀ r s ∧ wpAny (model prog wd) A (call (.ref F) [v, v']) Q E s)
    (G : GG wd mg mb H₀ := by assumption) (H : St H₀ env k b σ w r s := by assumption) (hf : nsIn (KK wd) mainGlobals f = some (some (.ref F)) := by walk_at "gi") (hk : keepIn (KK wd) (.ref F) = true := by with_unfolding_all rfl) (hd : (f == ("__debug__" : Str)) = false := by with_unfolding_all rfl)
    (hx : env.kindOf f = some .globalImplicit := by with_unfolding_all rfl) (hv : (x, some v) ∈ σ := by walk_at "mem") (hv' : (y, some v') ∈ σ := by walk_at "mem") :
    wpAny (model prog wd) A (eval (.Call (.Name f pf) [.Name x px, .Name y py] [] pos) env) Q E s :=
  cfg (sp2 h H hv hv') G H hf hk hd hx
theorem cbg {Q : Value → Shared → Prop} (h : wpAny (model prog wd) A (spliced (backTo pos (starEach (e :: rest) env))) (fun vs s₁ => wpAny (model prog wd) A (call (.builtin id) vs) Q E s₁) E s)
    (G : GG wd mg mb H₀ := by assumption) (H : St H₀ env k b σ w r s := by assumption) (hf : nsIn (KK wd) mainGlobals f = some none ∧ bootBuiltins f = some (.builtin id) ∧ f ≠ "__name__" ∧ (f == ("__debug__" : Str)) = false := by walk_at "bi")
    (hx : env.kindOf f = some .globalImplicit := by with_unfolding_all rfl) (he : starEach (e :: rest) env = (false, eval e env) :: starEach rest env := by with_unfolding_all rfl) (hplain : (backTo pos (starEach rest env)).any (·.1) = false := by with_unfolding_all rfl) :
    wpAny (model prog wd) A (eval (.Call (.Name f pf) (e :: rest) [] pos) env) Q E s :=
  e_call (e_bnm G H hf (e_cb h he hplain) hx)
theorem cb1 {Q : Value → Shared → Prop} (h : wpAny (model prog wd) A (call (.builtin id) [v]) Q E s)
    (G : GG wd mg mb H₀ := by assumption) (H : St H₀ env k b σ w r s := by assumption) (hf : nsIn (KK wd) mainGlobals f = some none ∧ bootBuiltins f = some (.builtin id) ∧ f ≠ "__name__" ∧ (f == ("__debug__" : Str)) = false := by walk_at "bi")
    (hx : env.kindOf f = some .globalImplicit := by with_unfolding_all rfl) (hv : (x, some v) ∈ σ := by walk_at "mem") :
    wpAny (model prog wd) A (eval (.Call (.Name f pf) [.Name x px] [] pos) env) Q E s :=
  cbg (sp1 h H hv) G H hf hx
theorem ctg {Q : Value → Shared → Prop} (h : wpAny (model prog wd) A (spliced (backTo pos (starEach (e :: rest) env))) (fun vs s₁ => wpAny (model prog wd) A (call (.type T) vs) Q E s₁) E s)
    (G : GG wd mg mb H₀ := by assumption) (H : St H₀ env k b σ w r s := by assumption) (hf : nsIn (KK wd) mainGlobals f = some none ∧ bootBuiltins f = some (.type T) ∧ f ≠ "__name__" ∧ (f == ("__debug__" : Str)) = false := by walk_at "bi")
    (hx : env.kindOf f = some .globalImplicit := by with_unfolding_all rfl) (he : starEach (e :: rest) env = (false, eval e env) :: starEach rest env := by with_unfolding_all rfl) (hplain : (backTo pos (starEach rest env)).any (·.1) = false := by with_unfolding_all rfl) :
    wpAny (model prog wd) A (eval (.Call (.Name f pf) (e :: rest) [] pos) env) Q E s :=
  e_call (e_bnm G H hf (e_ct h he hplain) hx)
theorem ct1 {Q : Value → Shared → Prop} (h : wpAny (model prog wd) A (call (.type T) [v]) Q E s)
    (G : GG wd mg mb H₀ := by assumption) (H : St H₀ env k b σ w r s := by assumption) (hf : nsIn (KK wd) mainGlobals f = some none ∧ bootBuiltins f = some (.type T) ∧ f ≠ "__name__" ∧ (f == ("__debug__" : Str)) = false := by walk_at "bi")
    (hx : env.kindOf f = some .globalImplicit := by with_unfolding_all rfl) (hv : (x, some v) ∈ σ := by walk_at "mem") :
    wpAny (model prog wd) A (eval (.Call (.Name f pf) [.Name x px] [] pos) env) Q E s :=
  ctg (sp1 h H hv) G H hf hx
theorem nm0 {Q : Value → Shared → Prop} (h : Q v s) (H : St H₀ env k b σ w r s := by assumption) (hx : (x, some v) ∈ σ := by walk_at "mem") : wpAny (model prog wd) A (eval (.Name x px) env) Q E s := nm H hx h
end
end Mine
end

section
set_option maxHeartbeats 8000000
namespace Mine
open PySem PySem.Calls PySem.W PyProof.Rows
local macro_rules | `(tactic| walk_at "gi") => `(tactic| exact gi_tab (by walk_at "mem"))
local macro_rules | `(tactic| walk_at "bi") => `(tactic| exact bi_tab (by walk_at "mem"))
local macro_rules | `(tactic| walk_at "mem") => `(tactic| with_reducible first | exact List.mem_cons_self | ((show _ ∈ _ :: _); exact List.mem_cons_of_mem _ (by walk_at "mem")))
local macro_rules | `(tactic| walk_at "put") => `(tactic| with_reducible first | exact Put.head | ((show Put _ _ (_ :: _) _); exact Put.tail (by walk_at "put")))
local macro_rules | `(tactic| walk_at "all") => `(tactic| first | exact List.forall_mem_nil _ | exact fa_cons (by with_unfolding_all rfl) (by walk_at "all"))
local macro_rules | `(tactic| walk_at "cap") => `(tactic| first | exact List.forall_mem_nil _ | exact fa_cons (by first | exact Or.inl rfl | exact Or.inr (by walk_at "mem")) (by walk_at "cap"))
local macro_rules | `(tactic| walk_at "side") => `(tactic| exact ⟨by with_unfolding_all rfl, rfl, by decide +kernel, by dsimp only [List.map]; decide +kernel, fun _ => by with_unfolding_all rfl, by walk_at "all", by walk_at "cap", by with_unfolding_all rfl⟩)
local macro_rules | `(tactic| walk_at "ok") => `(tactic| first | exact Or.inl (by with_unfolding_all rfl) | exact okX (by with_unfolding_all rfl) (by with_unfolding_all rfl) | exact okF (by with_unfolding_all rfl))

section
variable {prog : Program} {wd : World} {mg mb : Str → Option Value} {H₀ : Heap}
  {env : Env} {k b : WM} {σ σ' σm : Vars} {w w' : Own} {r : RestT} {s : Shared} {A : Around} {E : Value → Shared → Prop} {n : Nat}
theorem gcd_ok (G : GG wd mg mb H₀) (hA : AOk 1 A) (H : St H₀ env k b σ w r s) {x y : Int} {t u : Tok} {Q : Value → Shared → Prop}
    (h : ∀ s' t', St H₀ env k b σ w r s' → Q (.int (Int.gcd x y : Int) t') s') : wpAny (model prog wd) A (call (.ref 41) [.int x t, .int y u]) Q E s := by
  refine call_fn (m := []) (n := 0) (nms := ["a", "b"]) (σ₀ := [("a", some (.int x t)), ("b", some (.int y u))]) G hA H (f := 41) rfl rfl rfl (by decide +kernel) rfl fun L k' s₁ q cd A' hA' H₁ => ?_
  refine genQ fun _ _ => ?_
  with_reducible (refine x_cons ?_)
  refine swp2 ?_
  with_reducible (refine Tuple_ ?_; refine e_sp1 ?_; refine cb1 ?_)
  refine c_abs (by assumption) fun s₂ t₂ H₂ => ?_
  with_reducible (refine e_sp1 ?_; refine cb1 ?_)
  refine c_abs (by assumption) fun s₃ t₃ H₃ => ?_
  with_reducible (refine e_sp0 ?_)
  refine n_tup H₃ (by size_fits) fun D s₄ hg H₄ => ?_
  refine unp hA'.handled H₄ (upd_self ..) 2 rfl fun s₅ H₅ => ?_
  refine aio (bst H₅ (by walk_at "put") (.inl rfl) fun s₆ H₆ => ?_)
  refine aio (bst H₆ (by walk_at "put") (.inl rfl) fun s₇ H₇ => ?_)
  refine aio_nil ?_
  with_reducible (refine q_next ?_; refine x_cons ?_)
  refine whl H₇ (fun m b' σ' w' => X4_4 (fun (a : Nat) (c : Nat) (t : CbTok) (u : CbTok) => m = c) (fun (a : Nat) (c : Nat) (t : CbTok) (u : CbTok) => Nat.gcd a c = Int.gcd x y) (fun (a : Nat) (c : Nat) (t : CbTok) (u : CbTok) => σ' = ([("a", some (.int (a : Int) t)), ("b", some (.int (c : Int) u))] : Vars)) (fun (a : Nat) (c : Nat) (t : CbTok) (u : CbTok) => w' = [])) y.natAbs ⟨x.natAbs, y.natAbs, t₂, t₃, rfl, rfl, rfl, rfl⟩ ?_
  rintro m b' σ' w' s' hg' ⟨a, c, t₁, u₁, rfl, hgc, rfl, rfl⟩ H'
  with_reducible (refine wpAny_isTrue_Compare1 ?_; refine nm0 ?_; refine cint (by assumption) fun _ _ _ => ?_; refine PySem.P.ne_int ?_; refine wpAny_truthy_bool ?_)
  by_cases hc : m = 0
  · subst hc
    rw [if_neg (by simp)]
    with_reducible (refine q_next ?_; refine x_cons ?_; refine wpAny_Return_some ?_; refine nm0 ?_; refine q_ret ?_; refine unQ ?_)
    refine ⟨b', _, [], rfl, hg.trans hg', by assumption, fun s'' g H'' => ?_⟩
    have := h s'' t₁ (H''.lessB g.1)
    rw [← hgc, Nat.gcd_zero_right] at this
    exact this
  · rw [if_pos (by simpa using hc)]
    with_reducible (refine x_cons ?_)
    refine swp2 ?_
    with_reducible (refine Tuple_ ?_; refine spn ?_; refine e_sp1 ?_; refine bin2 ?_)
    refine imod (by assumption) (by lia) fun s₈ t₈ H₈ => ?_
    with_reducible (refine e_sp0 ?_)
    refine n_tup H₈ (by size_fits) fun D s₉ hg₉ H₉ => ?_
    refine unp hA'.handled H₉ (upd_self ..) 2 rfl fun s₁₀ H₁₀ => ?_
    refine aio (bst H₁₀ (by walk_at "put") (.inl rfl) fun s₁₁ H₁₁ => ?_)
    refine aio (bst H₁₁ (by walk_at "put") (.inl rfl) fun s₁₂ H₁₂ => ?_)
    refine aio_nil ?_
    with_reducible (refine q_next ?_; refine x_nil ?_)
    refine ⟨_, _, _, _, Nat.mod_lt a (Nat.pos_of_ne_zero hc), hg₉, H₁₂, m, a % m, u₁, t₈, rfl, ?_, ?_, rfl⟩
    · rw [← hgc, Nat.gcd_comm a m, Nat.gcd_rec m a, Nat.gcd_comm]
    · rw [show (a : Int).fmod (m : Int) = ((a % m : Nat) : Int) from by rw [Int.fmod_eq_emod_of_nonneg _ (by lia)]; rfl]
end

section
variable {prog : Program} {wd : World} {mg mb : Str → Option Value} {H₀ : Heap}
  {env : Env} {k b : WM} {σ σ' σm : Vars} {w w' : Own} {r : RestT} {s : Shared} {A : Around} {E : Value → Shared → Prop} {n : Nat}
noncomputable def ratF (t b : Int) : Int × Int := (t.fdiv (if b > 0 then (Int.gcd t b : Int) else 0 - (Int.gcd t b : Int)), b.fdiv (if b > 0 then (Int.gcd t b : Int) else 0 - (Int.gcd t b : Int)))
theorem gcd_bd {x y : Int} {β : Nat} (hy : y ≠ 0) (h : Bd β y) : Bd β (Int.gcd x y : Int) := by
  unfold Bd at *
  have h1 : Int.gcd x y ≤ y.natAbs := Nat.le_of_dvd (Int.natAbs_pos.mpr hy) (Nat.gcd_dvd_right _ _)
  lia
theorem rat_ok (G : GG wd mg mb H₀) (hA : AOk 2 A) (H : St H₀ env k b σ w r s) {x y : Int} {t u : Tok} {β : Nat} (hy : y ≠ 0) (hb : Bd β y) (hβ : β ≤ 9000) {Q : Value → Shared → Prop}
    (h : ∀ v b' s', Gr k b b' → St H₀ env k b' σ w r s' → TPair b' v (ratF x y) → Q v s') : wpAny (model prog wd) A (call (.ref 49) [.int x t, .int y u]) Q E s := by
  refine call_fn (m := []) (n := 1) (nms := ["top", "bottom"]) (σ₀ := [("top", some (.int x t)), ("bottom", some (.int y u)), ("g", none)]) G hA H (f := 49) rfl rfl rfl (by decide +kernel) rfl fun L k' s₁ q cd A' hA' H₁ => ?_
  refine genQ fun _ _ => ?_
  have hg0 : (Int.gcd x y : Int) ≠ 0 := by
    have := Int.gcd_pos_of_ne_zero_right x hy
    lia
  have hgb := gcd_bd (x := x) hy hb
  with_reducible (refine x_cons ?_; refine wpAny_If ?_; refine wpAny_isTrue_Compare1 ?_; refine nm0 ?_; refine cint (by assumption) fun _ _ _ => ?_; refine PySem.P.eq_int ?_; refine wpAny_truthy_bool ?_)
  rw [if_neg (by simpa using hy)]
  with_reducible (refine x_nil ?_; refine q_next ?_; refine x_cons ?_)
  refine a_name ?_
  refine jn (by assumption) (fun v => ∃ t, v = .int (if y > 0 then (Int.gcd x y : Int) else 0 - (Int.gcd x y : Int)) t) ?_ ?_
  · with_reducible (refine wpAny_IfExp ?_; refine wpAny_isTrue_Compare1 ?_; refine nm0 ?_; refine cint (by assumption) fun _ _ _ => ?_; refine PySem.P.gt_int ?_; refine wpAny_truthy_bool ?_)
    by_cases hp : y > 0
    · rw [if_pos (by simpa using hp), if_pos hp]
      with_reducible (refine cf2 ?_)
      refine ⟨⟨_, _, _, _, _, by assumption⟩, ?_⟩
      refine gcd_ok G hA' (by assumption) fun s₃ t₃ H₃ => ?_
      exact ⟨⟨_, rfl⟩, H₃⟩
    · rw [if_neg (by simpa using hp), if_neg hp]
      with_reducible (refine e_bin ?_; refine cint (by assumption) fun _ _ _ => ?_; refine cf2 ?_)
      refine ⟨⟨_, _, _, _, _, by assumption⟩, ?_⟩
      refine gcd_ok G hA' (by assumption) fun s₃ t₃ H₃ => ?_
      with_reducible (refine isub (by assumption) fun _ _ _ => ?_)
      exact ⟨⟨_, rfl⟩, by assumption⟩
  rintro v s₂ ⟨t₂, rfl⟩ H₂
  generalize hg : (if y > 0 then (Int.gcd x y : Int) else 0 - (Int.gcd x y : Int)) = g at *
  have hgn : g ≠ 0 := by rw [← hg]; split <;> (first | with_reducible assumption | lia)
  have hgb' : Bd β g := by rw [← hg]; unfold Bd at *; split <;> (first | with_reducible assumption | lia)
  refine st H₂ (by walk_at "put") (.inl rfl) fun s₃ H₃ => ?_
  with_reducible (refine q_next ?_; refine x_cons ?_; refine wpAny_Return_some ?_; refine Tuple_ ?_; refine e_sp1 ?_; refine bin2 ?_)
  refine idiv (by assumption) hgn hgb' hβ fun s₄ t₄ H₄ => ?_
  with_reducible (refine e_sp1 ?_; refine bin2 ?_)
  refine idiv (by assumption) hgn hgb' hβ fun s₅ t₅ H₅ => ?_
  with_reducible (refine e_sp0 ?_)
  refine n_tup H₅ (by size_fits) fun D s₆ hg₆ H₆ => ?_
  with_reducible (refine q_ret ?_; refine unQ ?_)
  refine ⟨_, _, [], rfl, hg₆, H₆, fun s'' g' H'' => h _ _ s'' g' H'' ⟨D, t₄, t₅, rfl, ?_⟩⟩
  rw [upd_self, ← hg]; rfl
end

section
variable {prog : Program} {wd : World} {mg mb : Str → Option Value} {H₀ : Heap}
  {env : Env} {k b : WM} {σ σ' σm : Vars} {w w' : Own} {r : RestT} {s : Shared} {A : Around} {E : Value → Shared → Prop} {n : Nat}
noncomputable def raddF (p q : Int × Int) : Int × Int := ratF (p.1 * q.2 + q.1 * p.2) (p.2 * q.2)
theorem radd_ok (G : GG wd mg mb H₀) (hA : AOk 3 A) (H : St H₀ env k b σ w r s) {v₁ v₂ : Value} {p q : Int × Int} {β γ : Nat} (h₁ : TPair b v₁ p) (h₂ : TPair b v₂ q) (hp0 : p.2 ≠ 0) (hq0 : q.2 ≠ 0)
    (hb1 : Bd β p.1) (hb2 : Bd β p.2) (hb3 : Bd γ q.1) (hb4 : Bd γ q.2) (hβ : β + γ ≤ 9000) {Q : Value → Shared → Prop}
    (h : ∀ v b' s', Gr k b b' → St H₀ env k b' σ w r s' → TPair b' v (raddF p q) → Q v s') : wpAny (model prog wd) A (call (.ref 56) [v₁, v₂]) Q E s := by
  refine call_fn (m := []) (n := 2) (nms := ["a", "b"]) (σ₀ := [("a", some v₁), ("b", some v₂)]) G hA H (f := 56) rfl rfl rfl (by decide +kernel) rfl fun L k' s₁ q' cd A' hA' H₁ => ?_
  refine genQ fun _ _ => ?_
  with_reducible (refine x_cons ?_; refine wpAny_Return_some ?_; refine cfg ?_; refine e_sp1 ?_; refine e_bin ?_; refine e_bin ?_; refine sub1 ?_; refine cint (by assumption) fun _ _ _ => ?_; refine g_p0 (by assumption) (by assumption) fun _ => ?_; refine sub1 ?_; refine cint (by assumption) fun _ _ _ => ?_; refine g_p1 (by assumption) (by assumption) fun _ => ?_)
  refine imul (by assumption) (hb1.mulOk hb4 (by lia)) fun _ _ _ => ?_
  with_reducible (refine e_bin ?_; refine sub1 ?_; refine cint (by assumption) fun _ _ _ => ?_; refine g_p0 (by assumption) (by assumption) fun _ => ?_; refine sub1 ?_; refine cint (by assumption) fun _ _ _ => ?_; refine g_p1 (by assumption) (by assumption) fun _ => ?_)
  refine imul (by assumption) (hb3.mulOk hb2 (by lia)) fun _ _ _ => ?_
  with_reducible (refine iadd (by assumption) fun _ _ _ => ?_; refine e_sp1 ?_; refine e_bin ?_; refine sub1 ?_; refine cint (by assumption) fun _ _ _ => ?_; refine g_p1 (by assumption) (by assumption) fun _ => ?_; refine sub1 ?_; refine cint (by assumption) fun _ _ _ => ?_; refine g_p1 (by assumption) (by assumption) fun _ => ?_)
  refine imul (by assumption) (hb2.mulOk hb4 (by lia)) fun _ _ _ => ?_
  with_reducible (refine e_sp0 ?_)
  refine ⟨⟨_, _, _, _, _, by assumption⟩, ?_⟩
  refine rat_ok G hA' (by assumption) (Int.mul_ne_zero hp0 hq0) (hb2.mul hb4) hβ fun v b' s₅ hg H₅ hv => ?_
  with_reducible (refine q_ret ?_; refine unQ ?_)
  exact ⟨_, _, [], rfl, hg, H₅, fun s'' g' H'' => h _ _ s'' g' H'' hv⟩

noncomputable def rsubF (p q : Int × Int) : Int × Int := ratF (p.1 * q.2 - q.1 * p.2) (p.2 * q.2)
theorem rsub_ok (G : GG wd mg mb H₀) (hA : AOk 3 A) (H : St H₀ env k b σ w r s) {v₁ v₂ : Value} {p q : Int × Int} {β γ : Nat} (h₁ : TPair b v₁ p) (h₂ : TPair b v₂ q) (hp0 : p.2 ≠ 0) (hq0 : q.2 ≠ 0)
    (hb1 : Bd β p.1) (hb2 : Bd β p.2) (hb3 : Bd γ q.1) (hb4 : Bd γ q.2) (hβ : β + γ ≤ 9000) {Q : Value → Shared → Prop}
    (h : ∀ v b' s', Gr k b b' → St H₀ env k b' σ w r s' → TPair b' v (rsubF p q) → Q v s') : wpAny (model prog wd) A (call (.ref 63) [v₁, v₂]) Q E s := by
  refine call_fn (m := []) (n := 2) (nms := ["a", "b"]) (σ₀ := [("a", some v₁), ("b", some v₂)]) G hA H (f := 63) rfl rfl rfl (by decide +kernel) rfl fun L k' s₁ q' cd A' hA' H₁ => ?_
  refine genQ fun _ _ => ?_
  with_reducible (refine x_cons ?_; refine wpAny_Return_some ?_; refine cfg ?_; refine e_sp1 ?_; refine e_bin ?_; refine e_bin ?_; refine sub1 ?_; refine cint (by assumption) fun _ _ _ => ?_; refine g_p0 (by assumption) (by assumption) fun _ => ?_; refine sub1 ?_; refine cint (by assumption) fun _ _ _ => ?_; refine g_p1 (by assumption) (by assumption) fun _ => ?_)
  refine imul (by assumption) (hb1.mulOk hb4 (by lia)) fun _ _ _ => ?_
  with_reducible (refine e_bin ?_; refine sub1 ?_; refine cint (by assumption) fun _ _ _ => ?_; refine g_p0 (by assumption) (by assumption) fun _ => ?_; refine sub1 ?_; refine cint (by assumption) fun _ _ _ => ?_; refine g_p1 (by assumption) (by assumption) fun _ => ?_)
  refine imul (by assumption) (hb3.mulOk hb2 (by lia)) fun _ _ _ => ?_
  with_reducible (refine isub (by assumption) fun _ _ _ => ?_; refine e_sp1 ?_; refine e_bin ?_; refine sub1 ?_; refine cint (by assumption) fun _ _ _ => ?_; refine g_p1 (by assumption) (by assumption) fun _ => ?_; refine sub1 ?_; refine cint (by assumption) fun _ _ _ => ?_; refine g_p1 (by assumption) (by assumption) fun _ => ?_)
  refine imul (by assumption) (hb2.mulOk hb4 (by lia)) fun _ _ _ => ?_
  with_reducible (refine e_sp0 ?_)
  refine ⟨⟨_, _, _, _, _, by assumption⟩, ?_⟩
  refine rat_ok G hA' (by assumption) (Int.mul_ne_zero hp0 hq0) (hb2.mul hb4) hβ fun v b' s₅ hg H₅ hv => ?_
  with_reducible (refine q_ret ?_; refine unQ ?_)
  exact ⟨_, _, [], rfl, hg, H₅, fun s'' g' H'' => h _ _ s'' g' H'' hv⟩

noncomputable def rmulF (p q : Int × Int) : Int × Int := ratF (p.1 * q.1) (p.2 * q.2)
theorem rmul_ok (G : GG wd mg mb H₀) (hA : AOk 3 A) (H : St H₀ env k b σ w r s) {v₁ v₂ : Value} {p q : Int × Int} {β γ : Nat} (h₁ : TPair b v₁ p) (h₂ : TPair b v₂ q) (hp0 : p.2 ≠ 0) (hq0 : q.2 ≠ 0)
    (hb1 : Bd β p.1) (hb2 : Bd β p.2) (hb3 : Bd γ q.1) (hb4 : Bd γ q.2) (hβ : β + γ ≤ 9000) {Q : Value → Shared → Prop}
    (h : ∀ v b' s', Gr k b b' → St H₀ env k b' σ w r s' → TPair b' v (rmulF p q) → Q v s') : wpAny (model prog wd) A (call (.ref 70) [v₁, v₂]) Q E s := by
  refine call_fn (m := []) (n := 2) (nms := ["a", "b"]) (σ₀ := [("a", some v₁), ("b", some v₂)]) G hA H (f := 70) rfl rfl rfl (by decide +kernel) rfl fun L k' s₁ q' cd A' hA' H₁ => ?_
  refine genQ fun _ _ => ?_
  with_reducible (refine x_cons ?_; refine wpAny_Return_some ?_; refine cfg ?_; refine e_sp1 ?_; refine e_bin ?_; refine sub1 ?_; refine cint (by assumption) fun _ _ _ => ?_; refine g_p0 (by assumption) (by assumption) fun _ => ?_; refine sub1 ?_; refine cint (by assumption) fun _ _ _ => ?_; refine g_p0 (by assumption) (by assumption) fun _ => ?_)
  refine imul (by assumption) (hb1.mulOk hb3 (by lia)) fun _ _ _ => ?_
  with_reducible (refine e_sp1 ?_; refine e_bin ?_; refine sub1 ?_; refine cint (by assumption) fun _ _ _ => ?_; refine g_p1 (by assumption) (by assumption) fun _ => ?_; refine sub1 ?_; refine cint (by assumption) fun _ _ _ => ?_; refine g_p1 (by assumption) (by assumption) fun _ => ?_)
  refine imul (by assumption) (hb2.mulOk hb4 (by lia)) fun _ _ _ => ?_
  with_reducible (refine e_sp0 ?_)
  refine ⟨⟨_, _, _, _, _, by assumption⟩, ?_⟩
  refine rat_ok G hA' (by assumption) (Int.mul_ne_zero hp0 hq0) (hb2.mul hb4) hβ fun v b' s₅ hg H₅ hv => ?_
  with_reducible (refine q_ret ?_; refine unQ ?_)
  exact ⟨_, _, [], rfl, hg, H₅, fun s'' g' H'' => h _ _ s'' g' H'' hv⟩

noncomputable def rdivF (p q : Int × Int) : Int × Int := ratF (p.1 * q.2) (p.2 * q.1)
theorem rdiv_ok (G : GG wd mg mb H₀) (hA : AOk 3 A) (H : St H₀ env k b σ w r s) {v₁ v₂ : Value} {p q : Int × Int} {β γ : Nat} (h₁ : TPair b v₁ p) (h₂ : TPair b v₂ q) (hp0 : p.2 ≠ 0) (hq0 : q.1 ≠ 0)
    (hb1 : Bd β p.1) (hb2 : Bd β p.2) (hb3 : Bd γ q.1) (hb4 : Bd γ q.2) (hβ : β + γ ≤ 9000) {Q : Value → Shared → Prop}
    (h : ∀ v b' s', Gr k b b' → St H₀ env k b' σ w r s' → TPair b' v (rdivF p q) → Q v s') : wpAny (model prog wd) A (call (.ref 77) [v₁, v₂]) Q E s := by
  refine call_fn (m := []) (n := 2) (nms := ["a", "b"]) (σ₀ := [("a", some v₁), ("b", some v₂)]) G hA H (f := 77) rfl rfl rfl (by decide +kernel) rfl fun L k' s₁ q' cd A' hA' H₁ => ?_
  refine genQ fun _ _ => ?_
  with_reducible (refine x_cons ?_; refine wpAny_Return_some ?_; refine cfg ?_; refine e_sp1 ?_; refine e_bin ?_; refine sub1 ?_; refine cint (by assumption) fun _ _ _ => ?_; refine g_p0 (by assumption) (by assumption) fun _ => ?_; refine sub1 ?_; refine cint (by assumption) fun _ _ _ => ?_; refine g_p1 (by assumption) (by assumption) fun _ => ?_)
  refine imul (by assumption) (hb1.mulOk hb4 (by lia)) fun _ _ _ => ?_
  with_reducible (refine e_sp1 ?_; refine e_bin ?_; refine sub1 ?_; refine cint (by assumption) fun _ _ _ => ?_; refine g_p1 (by assumption) (by assumption) fun _ => ?_; refine sub1 ?_; refine cint (by assumption) fun _ _ _ => ?_; refine g_p0 (by assumption) (by assumption) fun _ => ?_)
  refine imul (by assumption) (hb2.mulOk hb3 (by lia)) fun _ _ _ => ?_
  with_reducible (refine e_sp0 ?_)
  refine ⟨⟨_, _, _, _, _, by assumption⟩, ?_⟩
  refine rat_ok G hA' (by assumption) (Int.mul_ne_zero hp0 hq0) (hb2.mul hb3) hβ fun v b' s₅ hg H₅ hv => ?_
  with_reducible (refine q_ret ?_; refine unQ ?_)
  exact ⟨_, _, [], rfl, hg, H₅, fun s'' g' H'' => h _ _ s'' g' H'' hv⟩
end

section
variable {prog : Program} {wd : World} {mg mb : Str → Option Value} {H₀ : Heap}
  {env : Env} {k b : WM} {σ σ' σm : Vars} {w w' : Own} {r : RestT} {s : Shared} {A : Around} {E : Value → Shared → Prop} {n : Nat}
-- (nothing: the list of rows is copied in F10)
end

section
variable {prog : Program} {wd : World} {mg mb : Str → Option Value} {H₀ : Heap}
  {env : Env} {k b : WM} {σ σ' σm : Vars} {w w' : Own} {r : RestT} {s : Shared} {A : Around} {E : Value → Shared → Prop} {n : Nat}
noncomputable def ncols {α : Type} : List (List α) → Nat
  | [] => 0
  | r :: _ => r.length
theorem shape_ok {α : Type} {P : TP α} (m : MonoT P) (G : GG wd mg mb H₀) (hA : AOk 1 A) (H : St H₀ env k b σ w r s) {v : Value} {M : List (List α)} (hv : TList (TList P) b v M) (hM : M.length ≤ 1000) (hM' : ∀ x ∈ M, x.length ≤ 1000) {Q : Value → Shared → Prop}
    (h : ∀ v b' s', Gr k b b' → St H₀ env k b' σ w r s' → TPair b' v ((M.length : Int), (ncols M : Int)) → Q v s') : wpAny (model prog wd) A (call (.ref 84) [v]) Q E s := by
  refine call_fn (m := []) (n := 0) (nms := ["a"]) (σ₀ := [("a", some v)]) G hA H (f := 84) rfl rfl rfl (by decide +kernel) rfl fun L k' s₁ q cd A' hA' H₁ => ?_
  refine genQ fun _ _ => ?_
  with_reducible (refine x_cons ?_; refine wpAny_Return_some ?_; refine Tuple_ ?_; refine e_sp1 ?_; refine cb1 ?_)
  refine c_lenT (by assumption) hv hM fun s₂ t₂ H₂ => ?_
  with_reducible (refine e_sp1 ?_)
  refine jn (by assumption) (fun v => ∃ t, v = .int (ncols M : Int) t) ?_ ?_
  · with_reducible (refine wpAny_IfExp ?_; refine wpAny_isTrue_Compare1 ?_; refine cb1 ?_)
    refine c_lenT (by assumption) hv hM fun s₃ t₃ H₃ => ?_
    with_reducible (refine cint (by assumption) fun _ _ _ => ?_; refine PySem.P.gt_int ?_; refine wpAny_truthy_bool ?_)
    cases M with
    | nil =>
      rw [if_neg (by simp)]
      with_reducible (refine cint (by assumption) fun _ _ _ => ?_)
      exact ⟨⟨_, rfl⟩, by assumption⟩
    | cons x rest =>
      rw [if_pos (by simp)]
      with_reducible (refine cbg ?_; refine e_sp1 ?_; refine sub1 ?_; refine cint (by assumption) fun _ _ _ => ?_)
      refine g_tl (by assumption) hv 0 rfl rfl hM fun v₂ h₂ => ?_
      with_reducible (refine e_sp0 ?_)
      refine c_lenT (by assumption) h₂ (hM' _ (by simp)) fun s₃ t₃ H₃ => ?_
      exact ⟨⟨_, rfl⟩, by assumption⟩
  rintro v₂ s₃ ⟨t₃, rfl⟩ H₃
  with_reducible (refine e_sp0 ?_)
  refine n_tup H₃ (by size_fits) fun D s₄ hg₄ H₄ => ?_
  with_reducible (refine q_ret ?_; refine unQ ?_)
  exact ⟨_, _, [], rfl, hg₄, H₄, fun s'' g' H'' => h _ _ s'' g' H'' ⟨D, t₂, t₃, rfl, upd_self ..⟩⟩

noncomputable def colOf {α : Type} (M : List (List α)) (d : α) (c : Nat) : List α := M.map fun r => r.getD c d
noncomputable def transF {α : Type} (M : List (List α)) (d : α) : List (List α) := (List.range (ncols M)).map (colOf M d)
theorem transposed_ok {α : Type} {P : TP α} (m : MonoT P) (d : α) (G : GG wd mg mb H₀) (hA : AOk 2 A) (H : St H₀ env k b σ w r s) {v : Value} {M : List (List α)} (hv : TList (TList P) b v M) (hM : M.length ≤ 1000) (hM' : ∀ x ∈ M, x.length ≤ 1000) (hq : ∀ x ∈ M, x.length = ncols M) {Q : Value → Shared → Prop}
    (h : ∀ v b' s', Gr k b b' → St H₀ env k b' σ w r s' → TList (TList P) b' v (transF M d) → Q v s') : wpAny (model prog wd) A (call (.ref 101) [v]) Q E s := by
  refine call_fn (m := []) (n := 1) (nms := ["a"]) (σ₀ := [("a", some v)]) G hA H (f := 101) rfl rfl rfl (by decide +kernel) rfl fun L k' s₁ q cd A' hA' H₁ => ?_
  refine genQ fun _ _ => ?_
  with_reducible (refine x_cons ?_; refine wpAny_Return_some ?_)
  refine lcomp (σ := [("a", some v)]) (σc := [("column", none), ("a", some v)]) (by walk_at "side") ?_
  with_reducible (refine ctg ?_; refine e_sp1 ?_; refine Subscript_ ?_; refine cf1 ?_)
  refine ⟨⟨_, _, _, _, _, by assumption⟩, ?_⟩
  refine shape_ok m G hA' (by assumption) hv hM hM' fun v₂ b₂ s₂ hg₂ H₂ hv₂ => ?_
  with_reducible (refine cint (by assumption) fun _ _ _ => ?_; refine g_p1 (by assumption) (by assumption) fun _ => ?_; refine e_sp0 ?_)
  have hc : ncols M ≤ 1000 := by
    cases M with
    | nil => exact Nat.zero_le _
    | cons x r => exact hM' x (by simp)
  refine c_range1 hA'.handled (by assumption) hc fun I s₃ W H₃ off h0 hfp => ?_
  refine map_eval (xs := List.range (ncols M)) (keep := fun _ => true) (f := colOf M d) (PY := TList P) (mono_list m) (σ := [("a", some v)]) (σc := [("column", none), ("a", some v)]) (by walk_at "side") (fun u => [("column", some u), ("a", some v)]) (fun _ => .head) (by simp) (fun _ => by walk_at "ok") (W _ _) H₃ off h0 hfp (by simp) (by rw [PySem.sizeLine_eq]; simp; with_reducible exact Mine.m22) (fun i x₀ v' C k'' b' s'' hx hk hg hP H₄ => ?_) (fun D b' s' hg hD H₄ => ?_)
  · refine Turn.plain H₄ ?_
    refine genQ fun _ _ => ?_
    obtain rfl : i = x₀ := by
      have := List.getElem?_eq_some_iff.mp hx
      obtain ⟨h1, h2⟩ := this
      simpa using h2
    have hi : i < ncols M := by have := (List.getElem?_eq_some_iff.mp hx).1; simpa using this
    refine lcomp (σ := [("column", some _), ("a", some v)]) (σc := [("row", none), ("column", some v')]) (by walk_at "side") ?_
    with_reducible (refine nm0 ?_)
    obtain ⟨a, vs, nn, rfl, ha, al⟩ := hv
    have ha' := hg.1 _ _ (hg₂.1 _ _ ha)
    refine src_list hA'.handled H₄ ha' fun I s₅ W' H₅ off' h0' hfp' => ?_
    refine map_eval (xs := M) (keep := fun _ => true) (f := fun r => r.getD i d) (PY := P) m (σc := [("row", none), ("column", some v')]) (by walk_at "side") (fun u => [("row", some u), ("column", some v')]) (fun _ => .head) (by simp) (fun _ => by walk_at "ok") (W' _ _) H₅ off' h0' hfp' al.length (by rw [PySem.sizeLine_eq]; with_reducible exact Mine.m22) (fun i' x₁ v₁ C' k₁ b₁ s₁ hx₁ hk₁ hg₁ hP₁ H₆ => ?_) (fun D b' s' hg hD H₆ => ?_)
    · refine Turn.plain H₆ ?_
      refine genQ fun _ _ => ?_
      obtain ⟨t, rfl⟩ := hP
      with_reducible (refine sub2 ?_)
      have hyx := al.at' hP₁ hx₁
      have hl : x₁.length = ncols M := hq _ (List.mem_of_getElem? hx₁)
      refine g_tl (by assumption) (mono_list m _ _ _ _ ((hg₂.1.trans hg.1).trans hg₁.1) hyx) i (by simp) (List.getElem?_eq_getElem (by lia)) (hM' _ (List.mem_of_getElem? hx₁)) fun v₂ h₂ => ?_
      refine unQ ?_
      refine ⟨b₁, Gr.refl _ _, H₆, ?_⟩
      rw [List.getD_eq_getElem?_getD, List.getElem?_eq_getElem (by lia)]
      exact h₂
    · refine unQ ?_
      exact ⟨b', hg, H₆, by simpa [filter_tt, colOf] using hD⟩
  · with_reducible (refine q_ret ?_; refine unQ ?_)
    exact ⟨_, _, [], rfl, hg₂.trans hg, H₄, fun s'' g' H'' => h _ _ s'' g' H'' (by simpa [filter_tt, retv, transF] using hD)⟩
end

section
variable {prog : Program} {wd : World} {mg mb : Str → Option Value} {H₀ : Heap}
  {env : Env} {k b : WM} {σ σ' σm : Vars} {w w' : Own} {r : RestT} {s : Shared} {A : Around} {E : Value → Shared → Prop} {n : Nat}
/-! ratios with the bottom 1 -/
noncomputable def TR1 : TP Int := fun b v x => TPair b v (x, 1)
theorem mono_r1 : MonoT TR1 := fun b b' v x hs h => mono_pair b b' v _ hs h
theorem ratF_one (t : Int) : ratF t 1 = (t, 1) := by
  unfold ratF
  have : Int.gcd t 1 = 1 := by simp [Int.gcd]
  rw [this]
  simp
theorem raddF_one (x y : Int) : raddF (x, 1) (y, 1) = (x + y, 1) := by unfold raddF; simp [ratF_one]
theorem rmulF_one (x y : Int) : rmulF (x, 1) (y, 1) = (x * y, 1) := by unfold rmulF; simp [ratF_one]
noncomputable def sumN : Nat → (Nat → Int) → Int
  | 0, _ => 0
  | n + 1, f => sumN n f + f n
theorem sumN_bd {β : Nat} {f : Nat → Int} : ∀ {n : Nat}, (∀ i < n, Bd β (f i)) → (sumN n f).natAbs ≤ n * 2 ^ β
  | 0, _ => by simp [sumN]
  | n + 1, h => by
    have h1 := sumN_bd fun i hi => h i (Nat.lt_succ_of_lt hi)
    have h2 := h n (Nat.lt_succ_self n)
    unfold Bd at h2
    have := Int.natAbs_add_le (sumN n f) (f n)
    rw [Nat.succ_mul]
    unfold sumN
    lia
theorem Bd.sumN {β : Nat} {f : Nat → Int} {n : Nat} (hn : n ≤ 16) (h : ∀ i < n, Bd β (f i)) : Bd (β + 5) (sumN n f) := by
  have h1 := sumN_bd h
  unfold Bd
  have h2 : n * 2 ^ β ≤ 16 * 2 ^ β := Nat.mul_le_mul_right _ hn
  have h3 : 0 < 2 ^ β := Nat.pow_pos (by decide)
  rw [Nat.pow_add]; lia
noncomputable def dotI (xs ys : List Int) : Int := sumN xs.length fun i => xs.getD i 0 * ys.getD i 0

theorem one_ne {x : Int} : ((x, (1 : Int)) : Int × Int).2 ≠ 0 := Int.one_ne_zero
theorem Bd.one {β : Nat} : Bd (β + 1) 1 := by
  unfold Bd
  have : 0 < 2 ^ β := Nat.pow_pos (by decide)
  rw [Nat.pow_succ]; simp; lia

noncomputable def DoI (a₁ : Addr) (v₂ : Value) (xs ys : List Int) (i : Nat) (b' : WM) (σ' : Vars) (w' : Own) : Prop := X3_3 (fun vf o1 o2 => σ' = ([("one", some (.ref a₁)), ("other", some v₂), ("found", some vf), ("at", o1), ("left", o2)] : Vars)) (fun vf o1 o2 => w' = []) (fun vf o1 o2 => TR1 b' vf (sumN i fun i => xs.getD i 0 * ys.getD i 0))
theorem dot_ok (G : GG wd mg mb H₀) (hA : AOk 4 A) (H : St H₀ env k b σ w r s) (hR : TPair b (.ref 42) (0, 1)) {v₁ v₂ : Value} {xs ys : List Int} {β : Nat} (h₁ : TList TR1 b v₁ xs) (h₂ : TList TR1 b v₂ ys) (hl : xs.length = ys.length) (hz : xs.length ≤ 16)
    (hb1 : ∀ x ∈ xs, Bd β x) (hb2 : ∀ x ∈ ys, Bd β x) (hβ : β ≤ 1000) {Q : Value → Shared → Prop}
    (h : ∀ v b' s', Gr k b b' → St H₀ env k b' σ w r s' → TR1 b' v (dotI xs ys) → Q v s') : wpAny (model prog wd) A (call (.ref 108) [v₁, v₂]) Q E s := by
  refine call_fn (m := []) (n := 3) (nms := ["one", "other"]) (σ₀ := [("one", some v₁), ("other", some v₂), ("found", none), ("at", none), ("left", none)]) G hA H (f := 108) rfl rfl rfl (by decide +kernel) rfl fun L k' s₁ q' cd A' hA' H₁ => ?_
  refine genQ fun _ _ => ?_
  with_reducible (refine x_cons ?_)
  refine a_name ?_
  with_reducible (refine e_gnm (by assumption) (by assumption) (by walk_at "gi") (by decide) ?_)
  refine st (by assumption) (by walk_at "put") (by walk_at "ok") fun s₂ H₂ => ?_
  with_reducible (refine q_next ?_; refine x_cons ?_)
  refine wpAny_For ?_
  with_reducible (refine ct1 ?_)
  obtain ⟨a₁, vs, nn, rfl, ha, al⟩ := h₁
  refine src_enum hA'.handled (by assumption) ha fun e it s₃ W H₃ off h0 hfp => ?_
  refine for_core (W _ _ _) H₃ off h0 hfp (DoI a₁ v₂ xs ys)
    ⟨_, _, _, rfl, rfl, hR⟩ ?_ ?_ ?_
  · intro i v k'' b' σ' w' s₄ hi hk hg hI_ hP_ H₄
    refine genA fun _ _ => ?_
    obtain ⟨vf, o1, o2, rfl, rfl, hvf⟩ := hI_
    obtain ⟨tk, t, xv, rfl, ht, hx⟩ := hP_
    have hi' : i < xs.length := by rw [← al.length]; exact hi
    have hx0 : xs[i]? = some xs[i] := by simp [hi']
    have hy0 : ys[i]? = some (ys[i]'(by lia)) := by simp
    refine nst2 hA'.handled H₄ ht (by walk_at "put") (by walk_at "put") (by walk_at "ok") (by walk_at "ok") fun s₅ H₅ => ?_
    with_reducible (refine x_cons ?_)
    refine a_name ?_
    with_reducible (refine cfg ?_; refine spn ?_; refine e_sp1 ?_; refine cfg ?_; refine spn ?_; refine e_sp1 ?_; refine sub2 ?_)
    refine g_tl (by assumption) (mono_list mono_r1 _ _ _ _ hg.1 h₂) i rfl hy0 (by lia) fun v₃ h₃ => ?_
    with_reducible (refine e_sp0 ?_)
    refine ⟨⟨_, _, _, _, _, by assumption⟩, ?_⟩
    have hyx := al.at' hx hx0
    have hbx := hb1 _ (List.mem_of_getElem? hx0)
    have hby := hb2 _ (List.mem_of_getElem? hy0)
    refine rmul_ok G hA' (by assumption) (mono_r1 _ _ _ _ hg.1 hyx) h₃ one_ne one_ne (hbx.mono (Nat.le_succ β)) Bd.one (hby.mono (Nat.le_succ β)) Bd.one (by lia) fun v₄ b₄ s₆ hg₄ H₆ h₄ => ?_
    rw [rmulF_one] at h₄
    with_reducible (refine e_sp0 ?_)
    refine ⟨⟨_, _, _, _, _, by assumption⟩, ?_⟩
    have hsb : ∀ j < xs.length, Bd (β + β) (xs.getD j 0 * ys.getD j 0) := fun j hj => by
      rw [List.getD_eq_getElem?_getD, List.getD_eq_getElem?_getD, List.getElem?_eq_getElem hj, List.getElem?_eq_getElem (by lia)]
      exact (hb1 _ (List.getElem_mem _)).mul (hb2 _ (List.getElem_mem _))
    refine radd_ok (β := β + β + 5) (γ := β + β + 5) G hA' (by assumption) (mono_r1 _ _ _ _ hg₄.1 hvf) h₄ one_ne one_ne (Bd.sumN (by lia) fun j hj => hsb j (by lia)) Bd.one ((hbx.mul hby).mono (by with_reducible exact Mine.m30)) Bd.one (by lia) fun v₅ b₅ s₇ hg₅ H₇ h₅ => ?_
    rw [raddF_one] at h₅
    skip
    refine st (by assumption) (by walk_at "put") (by walk_at "ok") fun s₈ H₈ => ?_
    with_reducible (refine q_next ?_; refine x_nil ?_; refine unQ ?_)
    refine ⟨_, _, _, hg₄.trans hg₅, H₈, _, _, _, rfl, rfl, ?_⟩
    unfold TR1 sumN
    dsimp only
    rw [List.getD_eq_getElem?_getD, List.getD_eq_getElem?_getD, hx0, hy0]
    exact h₅
  · rintro i b' b'' σ' w' hs ⟨vf, o1, o2, rfl, rfl, hvf⟩
    exact ⟨vf, o1, o2, rfl, rfl, mono_r1 _ _ _ _ hs hvf⟩
  · rintro b' σ' w' s₄ hg ⟨vf, o1, o2, rfl, rfl, hvf⟩ H₄
    with_reducible (refine q_next ?_; refine x_cons ?_; refine wpAny_Return_some ?_; refine nm0 ?_; refine q_ret ?_; refine unQ ?_)
    exact ⟨_, _, [], rfl, hg, H₄, fun s'' g' H'' => h _ _ s'' g' H'' (by unfold dotI; rw [← al.length]; exact hvf)⟩
end

section
variable {prog : Program} {wd : World} {mg mb : Str → Option Value} {H₀ : Heap}
  {env : Env} {k b : WM} {σ σ' σm : Vars} {w w' : Own} {r : RestT} {s : Shared} {A : Around} {E : Value → Shared → Prop} {n : Nat}
theorem need_ok (G : GG wd mg mb H₀) (hA : AOk 1 A) (H : St H₀ env k b σ w r s) {v : Value} {Q : Value → Shared → Prop}
    (h : ∀ b' s', Gr k b b' → St H₀ env k b' σ w r s' → Q .none s') : wpAny (model prog wd) A (call (.ref 91) [.bool true, v]) Q E s := by
  refine call_fn (m := []) (n := 0) (nms := ["is_right", "text"]) (σ₀ := [("is_right", some (.bool true)), ("text", some v)]) G hA H (f := 91) rfl rfl rfl (by decide +kernel) rfl fun L k' s₁ q cd A' hA' H₁ => ?_
  refine genQ fun _ _ => ?_
  with_reducible (refine x_cons ?_; refine wpAny_If ?_; refine wpAny_isTrue_Not ?_; refine e_tn ?_; refine nm0 ?_; refine wpAny_truthy_bool ?_)
  rw [if_neg (by simp)]
  with_reducible (refine x_nil ?_; refine q_next ?_; refine x_nil ?_; refine unQ ?_)
  exact ⟨_, _, [], rfl, Gr.refl _ _, H₁, fun s'' g' H'' => h _ s'' g' H''⟩
noncomputable def mulI (M N : List (List Int)) : List (List Int) := M.map fun row => (transF N 0).map fun col => dotI row col
theorem mat_mul_ok (G : GG wd mg mb H₀) (hA : AOk 5 A) (H : St H₀ env k b σ w r s) (hR : TPair b (.ref 42) (0, 1)) {v₁ v₂ : Value} {M N : List (List Int)} {β : Nat} (h₁ : TList (TList TR1) b v₁ M) (h₂ : TList (TList TR1) b v₂ N)
    (hl : ncols M = N.length) (hM : M.length ≤ 16) (hM' : ∀ x ∈ M, x.length = N.length) (hN : N.length ≤ 16) (hN' : ∀ x ∈ N, x.length = ncols N) (hc : ncols N ≤ 16)
    (hb1 : ∀ x ∈ M, ∀ y ∈ x, Bd β y) (hb2 : ∀ x ∈ N, ∀ y ∈ x, Bd β y) (hβ : β ≤ 900) {Q : Value → Shared → Prop}
    (h : ∀ v b' s', Gr k b b' → St H₀ env k b' σ w r s' → TList (TList TR1) b' v (mulI M N) → Q v s') : wpAny (model prog wd) A (call (.ref 113) [v₁, v₂]) Q E s := by
  refine call_fn (m := []) (n := 4) (nms := ["a", "b"]) (σ₀ := [("a", some v₁), ("b", some v₂), ("columns", none)]) G hA H (f := 113) rfl rfl rfl (by decide +kernel) rfl fun L k' s₁ q' cd A' hA' H₁ => ?_
  refine genQ fun _ _ => ?_
  with_reducible (refine x_cons ?_)
  refine e_any ?_
  with_reducible (refine cfg ?_; refine e_sp1 ?_; refine wpAny_Compare1 ?_; refine Subscript_ ?_; refine cf1 ?_)
  refine ⟨⟨_, _, _, _, _, by assumption⟩, ?_⟩
  refine shape_ok mono_r1 G (hA'.mono (by decide)) (by assumption) h₁ (by lia) (fun x hx => by rw [hM' x hx]; lia) fun v₃ b₃ s₃ hg₃ H₃ h₃ => ?_
  with_reducible (refine cint (by assumption) fun _ _ _ => ?_; refine g_p1 (by assumption) (by assumption) fun _ => ?_; refine cb1 ?_)
  refine c_lenT (by assumption) (mono_list (mono_list mono_r1) _ _ _ _ hg₃.1 h₂) (by lia) fun s₄ t₄ H₄ => ?_
  with_reducible (refine PySem.P.eq_int ?_; refine e_sp1 ?_; refine e_str (by assumption) fun _ _ _ => ?_; refine e_sp0 ?_)
  refine ⟨⟨_, _, _, _, _, by assumption⟩, ?_⟩
  rw [show (((M.length : Int), (ncols M : Int)).2 == (N.length : Int)) = true from by simp [hl]]
  refine need_ok G (hA'.mono (by decide)) (by assumption) fun b₅ s₅ hg₅ H₅ => ?_
  have hs₂ : Sub b b₅ := hg₃.1.trans hg₅.1
  with_reducible (refine q_next ?_; refine x_cons ?_)
  refine a_name ?_
  with_reducible (refine cf1 ?_)
  refine ⟨⟨_, _, _, _, _, by assumption⟩, ?_⟩
  refine transposed_ok mono_r1 0 G (hA'.mono (by decide)) (by assumption) (mono_list (mono_list mono_r1) _ _ _ _ hs₂ h₂) (by lia) (fun x hx => by rw [hN' x hx]; lia) hN' fun v₆ b₆ s₆ hg₆ H₆ h₆ => ?_
  skip
  refine st (by assumption) (by walk_at "put") (by walk_at "ok") fun s₇ H₇ => ?_
  with_reducible (refine q_next ?_; refine x_cons ?_; refine wpAny_Return_some ?_)
  refine lcomp (σ := [("a", some v₁), ("b", some v₂), ("columns", some v₆)]) (σc := [("row", none), ("columns", some v₆)]) (by walk_at "side") ?_
  with_reducible (refine nm0 ?_)
  obtain ⟨a₁, vs, nn, rfl, ha, al⟩ := h₁
  refine src_list hA'.handled (by assumption) (hg₆.1 _ _ (hs₂ _ _ ha)) fun I s₈ W H₈ off h0 hfp => ?_
  refine map_eval (xs := M) (keep := fun _ => true) (f := fun row => (transF N 0).map fun col => dotI row col) (PY := TList TR1) (mono_list mono_r1) (σ := [("a", some (.ref a₁)), ("b", some v₂), ("columns", some v₆)]) (σc := [("row", none), ("columns", some v₆)]) (by walk_at "side") (fun u => [("row", some u), ("columns", some v₆)]) (fun _ => .head) (by simp) (fun _ => by walk_at "ok") (W _ _) H₈ off h0 hfp al.length (by rw [PySem.sizeLine_eq]; lia) (fun i x₀ v' C k'' b' s'' hx hk hg hP H₉ => ?_) (fun D b' s' hg hD H₉ => ?_)
  · refine Turn.plain H₉ ?_
    refine genQ fun _ _ => ?_
    have hyx := al.at' hP hx
    have hxm := List.mem_of_getElem? hx
    have hs₃ : Sub b b' := (hs₂.trans hg₆.1).trans hg.1
    refine lcomp (σ := [("row", some v'), ("columns", some v₆)]) (σc := [("column", none), ("row", some v')]) (by walk_at "side") ?_
    with_reducible (refine nm0 ?_)
    obtain ⟨a₂, vs₂, nn₂, rfl, ha₂, al₂⟩ := h₆
    refine src_list hA'.handled H₉ (hg.1 _ _ ha₂) fun I₂ s₁₀ W₂ H₁₀ off₂ h0₂ hfp₂ => ?_
    have hlen : (transF N 0).length = ncols N := by simp [transF]
    refine map_eval (xs := transF N 0) (keep := fun _ => true) (f := fun col => dotI x₀ col) (PY := TR1) mono_r1 (σc := [("column", none), ("row", some v')]) (by walk_at "side") (fun u => [("column", some u), ("row", some v')]) (fun _ => .head) (by simp) (fun _ => by walk_at "ok") (W₂ _ _) H₁₀ off₂ h0₂ hfp₂ al₂.length (by rw [PySem.sizeLine_eq, hlen]; lia) (fun i₂ x₂ v₂ C₂ k₂ b₂ s₂ hx₂ hk₂ hg₂ hP₂ H₁₁ => ?_) (fun D b' s' hg hD H₁₁ => ?_)
    · refine Turn.plain H₁₁ ?_
      refine genQ fun _ _ => ?_
      have hyx₂ := al₂.at' hP₂ hx₂
      obtain ⟨j, hj, rfl⟩ := List.mem_map.mp (List.mem_of_getElem? hx₂)
      with_reducible (refine cf2 ?_)
      refine ⟨⟨_, _, _, _, _, by assumption⟩, ?_⟩
      refine dot_ok (β := β + 1) G hA' (by assumption) (mono_pair _ _ _ _ (hs₃.trans hg₂.1) hR) (mono_list mono_r1 _ _ _ _ (hs₃.trans hg₂.1) hyx) (mono_list mono_r1 _ _ _ _ (hg.1.trans hg₂.1) hyx₂) (by rw [hM' _ hxm]; simp [colOf]) (by rw [hM' _ hxm]; with_reducible assumption) (fun x hx => (hb1 _ hxm x hx).mono (by with_reducible exact Mine.m30)) (fun x hx => ?_) (by lia) fun v₁₂ b₁₂ s₁₂ hg₁₂ H₁₂ h₁₂ => ?_
      · obtain ⟨rw', hrw, rfl⟩ := List.mem_map.mp hx
        have hj' : j < rw'.length := by rw [hN' _ hrw]; simpa using hj
        rw [List.getD_eq_getElem?_getD, List.getElem?_eq_getElem hj']
        exact (hb2 _ hrw _ (List.getElem_mem _)).mono (by with_reducible exact Mine.m30)
      · refine unQ ?_
        exact ⟨_, hg₁₂, H₁₂, h₁₂⟩
    · refine unQ ?_
      exact ⟨b', hg, H₁₁, by simpa [filter_tt] using hD⟩
  · with_reducible (refine q_ret ?_; refine unQ ?_)
    exact ⟨_, _, [], rfl, hg₃.trans (hg₅.trans (hg₆.trans hg)), H₉, fun s'' g' H'' => h _ _ s'' g' H'' (by simpa [filter_tt, retv, mulI] using hD)⟩
end

section
variable {prog : Program} {wd : World} {mg mb : Str → Option Value} {H₀ : Heap}
  {env : Env} {k b : WM} {σ σ' σm : Vars} {w w' : Own} {r : RestT} {s : Shared} {A : Around} {E : Value → Shared → Prop} {n : Nat}
/-! rows and matrices as functions -/
noncomputable def rowN {α : Type} (m : Nat) (f : Nat → α) : List α := (List.range m).map f
noncomputable def mk {α : Type} (n m : Nat) (f : Nat → Nat → α) : List (List α) := rowN n fun i => rowN m (f i)
theorem rowN_len {α : Type} (m : Nat) (f : Nat → α) : (rowN m f).length = m := by simp [rowN]
theorem rowN_get {α : Type} {m : Nat} {f : Nat → α} {i : Nat} (h : i < m) : (rowN m f)[i]? = some (f i) := by simp [rowN, h]
theorem rowN_mem {α : Type} {m : Nat} {f : Nat → α} {x : α} (h : x ∈ rowN m f) : ∃ i, i < m ∧ x = f i := by
  obtain ⟨i, hi, rfl⟩ := List.mem_map.mp h
  exact ⟨i, by simpa using hi, rfl⟩
theorem rowN_congr {α : Type} {m : Nat} {f g : Nat → α} (h : ∀ i < m, f i = g i) : rowN m f = rowN m g := by
  unfold rowN
  refine List.map_congr_left fun i hi => h i (by simpa using hi)
theorem rowN_set {α : Type} {m : Nat} {f : Nat → α} (i : Nat) (x : α) : (rowN m f).set i x = rowN m fun j => if j = i then x else f j := by
  apply List.ext_getElem?
  intro j
  rw [List.getElem?_set]
  by_cases hj : j < m
  · rw [rowN_get hj, rowN_len]
    by_cases e : i = j
    · subst e; rw [rowN_get hj]; simp [hj]
    · rw [if_neg e, rowN_get hj, if_neg (fun q => e q.symm)]
  · have h1 : ∀ g : Nat → α, (rowN m g)[j]? = none := fun g => by rw [List.getElem?_eq_none]; rw [rowN_len]; lia
    rw [h1, h1, rowN_len]
    split
    · rw [if_neg (by lia)]
    · rfl
theorem mk_ncols {α : Type} {n m : Nat} {f : Nat → Nat → α} (h : 0 < n) : ncols (mk n m f) = m := by
  cases n with
  | zero => with_reducible exact Mine.m31
  | succ n =>
    unfold mk rowN
    rw [List.range_succ_eq_map]
    simp [ncols]

/-! sizes of ratios -/
noncomputable def Good (β : Nat) (q : Int × Int) : Prop := q.2 ≠ 0 ∧ Bd β q.1 ∧ Bd β q.2
theorem Good.mono {β γ : Nat} {q : Int × Int} (h : Good β q) (hb : β ≤ γ) : Good γ q := ⟨h.1, h.2.1.mono hb, h.2.2.mono hb⟩
theorem natAbs_fdiv_le (x y : Int) : (x.fdiv y).natAbs ≤ x.natAbs := by
  by_cases hy : y = 0
  · subst hy; simp
  by_cases h1 : 0 ≤ x
  · by_cases h2 : 0 < y
    · have a := Int.fdiv_nonneg h1 (by lia : 0 ≤ y)
      have c : x.fdiv y ≤ x := by
        rw [Int.fdiv_eq_ediv_of_nonneg _ (by lia)]
        exact Int.ediv_le_self _ h1
      lia
    · have e : x.fdiv y = (-x).fdiv (-y) := by rw [Int.neg_fdiv_neg]
      have h3 : 0 < -y := by lia
      rw [e, Int.fdiv_eq_ediv_of_nonneg _ (by lia)]
      have a : (-x) / (-y) ≤ 0 := by
        have := Int.ediv_le_ediv h3 (show -x ≤ 0 by lia)
        rwa [Int.zero_ediv] at this
      have c : -x ≤ (-x) / (-y) := by
        rw [Int.le_ediv_iff_mul_le h3]
        have : x * 1 ≤ x * (-y) := Int.mul_le_mul_of_nonneg_left (by lia) h1
        have e2 : -x * -y = -(x * (-y)) := by rw [Int.neg_mul]
        lia
      lia
  · by_cases h2 : 0 < y
    · rw [Int.fdiv_eq_ediv_of_nonneg _ (by lia)]
      have a : x / y ≤ 0 := by
        have := Int.ediv_le_ediv h2 (show x ≤ 0 by lia)
        rwa [Int.zero_ediv] at this
      have c : x ≤ x / y := by
        rw [Int.le_ediv_iff_mul_le h2]
        have : (-x) * 1 ≤ (-x) * y := Int.mul_le_mul_of_nonneg_left (by lia) (by lia)
        have e2 : (-x) * y = -(x * y) := by rw [Int.neg_mul]
        lia
      lia
    · have e : x.fdiv y = (-x).fdiv (-y) := by rw [Int.neg_fdiv_neg]
      have h3 : 0 < -y := by lia
      rw [e, Int.fdiv_eq_ediv_of_nonneg _ (by lia)]
      have a : 0 ≤ (-x) / (-y) := Int.ediv_nonneg (by lia) (by lia)
      have c : (-x) / (-y) ≤ -x := Int.ediv_le_self _ (by lia)
      lia
theorem Bd.fdiv {β : Nat} {x : Int} (y : Int) (h : Bd β x) : Bd β (x.fdiv y) := Nat.lt_of_le_of_lt (natAbs_fdiv_le x y) h
theorem Bd.neg {β : Nat} {x : Int} (h : Bd β x) : Bd β (-x) := by unfold Bd at *; rwa [Int.natAbs_neg]
theorem ratF_good {β : Nat} {t b : Int} (h0 : b ≠ 0) (ht : Bd β t) (hb : Bd β b) : Good β (ratF t b) := by
  unfold ratF
  refine ⟨?_, ht.fdiv _, hb.fdiv _⟩
  dsimp only
  intro e
  have hd : (Int.gcd t b : Int) ∣ b := Int.gcd_dvd_right ..
  have hd' : (if b > 0 then (Int.gcd t b : Int) else 0 - (Int.gcd t b : Int)) ∣ b := by
    split
    · exact hd
    · obtain ⟨c, hc⟩ := hd
      exact ⟨-c, by rw [Int.zero_sub, Int.neg_mul_neg]; exact hc⟩
  obtain ⟨c, hc⟩ := hd'
  have := Int.fdiv_mul_cancel (a := b) ⟨c, hc⟩
  rw [e, Int.zero_mul] at this
  exact h0 this.symm
theorem rmulF_good {β γ : Nat} {p q : Int × Int} (hp : Good β p) (hq : Good γ q) : Good (β + γ) (rmulF p q) := ratF_good (Int.mul_ne_zero hp.1 hq.1) (hp.2.1.mul hq.2.1) (hp.2.2.mul hq.2.2)
theorem rdivF_good {β γ : Nat} {p q : Int × Int} (hp : Good β p) (hq : Good γ q) (h0 : q.1 ≠ 0) : Good (β + γ) (rdivF p q) := ratF_good (Int.mul_ne_zero hp.1 h0) (hp.2.1.mul hq.2.2) (hp.2.2.mul hq.2.1)
theorem rsubF_good {β γ : Nat} {p q : Int × Int} (hp : Good β p) (hq : Good γ q) : Good (β + γ + 1) (rsubF p q) :=
  ratF_good (Int.mul_ne_zero hp.1 hq.1) ((hp.2.1.mul hq.2.2).sub (by rw [Nat.add_comm β γ]; exact hq.2.1.mul hp.2.2)) ((hp.2.2.mul hq.2.2).mono (by with_reducible exact Mine.m30))

noncomputable def swF {α : Type} (a b : Nat) (f : Nat → α) : Nat → α := fun i => if i = b then f a else if i = a then f b else f i
theorem swap_ok (G : GG wd mg mb H₀) (hA : AOk 1 A) {l : Addr} {vs : List Value} {nn : Nat} (H : St H₀ env k b σ ((l, lstO vs nn) :: w) r s) {i j : Nat} {t u : Tok} {vi vj : Value} (hi : vs[i]? = some vi) (hj : vs[j]? = some vj) (hz : vs.length ≤ 1000) {Q : Value → Shared → Prop}
    (h : ∀ b' s', Gr k b b' → St H₀ env k b' σ ((l, lstO ((vs.set i vj).set j vi) nn) :: w) r s' → Q .none s') : wpAny (model prog wd) A (call (.ref 120) [.ref l, .int (i : Int) t, .int (j : Int) u]) Q E s := by
  have hi' := (List.getElem?_eq_some_iff.mp hi).1
  have hj' := (List.getElem?_eq_some_iff.mp hj).1
  refine call_fn (m := [(l, lstO vs nn)]) (n := 0) (nms := ["a", "one", "other"]) (σ₀ := [("a", some (.ref l)), ("one", some (.int (i : Int) t)), ("other", some (.int (j : Int) u))]) G hA H (f := 120) rfl rfl rfl (by decide +kernel) rfl fun L k' s₁ q cd A' hA' H₁ => ?_
  refine genQ fun _ _ => ?_
  with_reducible (refine x_cons ?_)
  refine a_tup ?_
  with_reducible (refine Tuple_ ?_; refine e_sp1 ?_; refine sub2 ?_)
  refine g_ow (by assumption) (List.mem_singleton.mpr rfl) j rfl hj hz ?_
  with_reducible (refine e_sp1 ?_; refine sub2 ?_)
  refine g_ow (by assumption) (List.mem_singleton.mpr rfl) i rfl hi hz ?_
  with_reducible (refine e_sp0 ?_)
  refine n_tup (by assumption) (by size_fits) fun D s₄ hg₄ H₄ => ?_
  refine tst hA'.handled H₄ (upd_self ..) rfl rfl fun s₅ H₅ => ?_
  refine aio (sst ?_)
  with_reducible (refine nm0 ?_; refine nm0 ?_)
  refine set_own H₅ (H₅.own _ (List.mem_singleton.mpr rfl)).1 hi' (by with_reducible exact Mine.m23) .head fun s₆ H₆ => ?_
  refine aio (sst ?_)
  with_reducible (refine nm0 ?_; refine nm0 ?_)
  refine set_own H₆ (H₆.own _ (List.mem_singleton.mpr rfl)).1 (by simpa using hj') (by with_reducible exact Mine.m23) .head fun s₇ H₇ => ?_
  refine aio_nil ?_
  with_reducible (refine q_next ?_; refine x_nil ?_; refine unQ ?_)
  exact ⟨_, _, _, rfl, hg₄, H₇, fun s'' g' H'' => h _ s'' g' H''⟩

theorem take_ok (G : GG wd mg mb H₀) (hA : AOk 4 A) {l : Addr} {vs : List Value} {nn : Nat} (H : St H₀ env k b σ ((l, lstO vs nn) :: w) r s) {i j m : Nat} {t u : Tok} {vi vj vq : Value} {fi fj : Nat → Int × Int} {q : Int × Int} {β γ : Nat} (hi : vs[i]? = some vi) (hj : vs[j]? = some vj) (hz : vs.length ≤ 1000)
    (hvi : TList TPair b vi (rowN m fi)) (hvj : TList TPair b vj (rowN m fj)) (hvq : TPair b vq q) (hm : m ≤ 1000) (hgi : ∀ c < m, Good β (fi c)) (hgj : ∀ c < m, Good γ (fj c)) (hgq : Good β q) (hβ : β + (β + γ) ≤ 9000) {Q : Value → Shared → Prop}
    (h : ∀ v b' s', Gr k b b' → TList TPair b' v (rowN m fun c => rsubF (fi c) (rmulF q (fj c))) → St H₀ env k b' σ ((l, lstO (vs.set i v) nn) :: w) r s' → Q .none s') : wpAny (model prog wd) A (call (.ref 125) [.ref l, .int (i : Int) t, .int (j : Int) u, vq]) Q E s := by
  have hi' := (List.getElem?_eq_some_iff.mp hi).1
  refine call_fn (m := [(l, lstO vs nn)]) (n := 3) (nms := ["a", "row", "source", "number"]) (σ₀ := [("a", some (.ref l)), ("row", some (.int (i : Int) t)), ("source", some (.int (j : Int) u)), ("number", some vq)]) G hA H (f := 125) rfl rfl rfl (by decide +kernel) rfl fun L k' s₁ q' cd A' hA' H₁ => ?_
  refine genQ fun _ _ => ?_
  with_reducible (refine x_cons ?_)
  refine wpAny_Assign_Subscript ?_
  refine lcomp (σ := [("a", some (.ref l)), ("row", some (.int (i : Int) t)), ("source", some (.int (j : Int) u)), ("number", some vq)]) (σc := [("at", none), ("one", none), ("a", some (.ref l)), ("number", some vq), ("source", some (.int (j : Int) u))]) (by walk_at "side") ?_
  with_reducible (refine ctg ?_; refine e_sp1 ?_; refine sub2 ?_)
  refine g_ow (by assumption) (List.mem_singleton.mpr rfl) i rfl hi hz ?_
  with_reducible (refine e_sp0 ?_)
  obtain ⟨a₁, vs₁, n₁, rfl, ha₁, al₁⟩ := hvi
  refine src_enum hA'.handled (by assumption) ha₁ fun e it s₂ W H₂ off h0 hfp => ?_
  have hl₁ : vs₁.length = m := by rw [al₁.length, rowN_len]
  refine map2_eval (xs := List.range m) (keep := fun _ => true) (f := fun c => rsubF (fi c) (rmulF q (fj c))) (PY := TPair) hA'.handled mono_pair (σ := [("a", some (.ref l)), ("row", some (.int (i : Int) t)), ("source", some (.int (j : Int) u)), ("number", some vq)]) (σc := [("at", none), ("one", none), ("a", some (.ref l)), ("number", some vq), ("source", some (.int (j : Int) u))]) (by walk_at "side")
    (fun x => [("at", some x), ("one", none), ("a", some (.ref l)), ("number", some vq), ("source", some (.int (j : Int) u))]) (fun x y => [("at", some x), ("one", some y), ("a", some (.ref l)), ("number", some vq), ("source", some (.int (j : Int) u))]) (fun _ => .head) (fun _ _ => .tail .head) (by simp) (by simp) (fun _ => by walk_at "ok") (fun _ => by walk_at "ok")
    (W _ _ _) H₂ off h0 hfp (by simpa using hl₁) (by rw [PySem.sizeLine_eq]; simp; with_reducible exact Mine.m22) (fun c x₀ v tk C k'' b' s'' hx hv hk hg H₃ => ?_) (fun D b' s' hg hD H₃ => ?_)
  · refine Turn.plain H₃ ?_
    obtain ⟨hc, rfl⟩ := List.getElem?_eq_some_iff.mp hx
    have hc' : c < m := by simpa using hc
    rw [List.getElem_range]
    refine genQ fun _ _ => ?_
    have hyx := al₁.at' hv (rowN_get hc')
    with_reducible (refine cfg ?_; refine spn ?_; refine e_sp1 ?_; refine cfg ?_; refine spn ?_; refine e_sp1 ?_; refine Subscript_ ?_; refine sub2 ?_)
    refine g_ow (by assumption) (List.mem_singleton.mpr rfl) j rfl hj hz ?_
    with_reducible (refine nm0 ?_)
    refine g_tl (by assumption) (mono_rrow _ _ _ _ hg.1 hvj) c rfl (rowN_get hc') (by rw [rowN_len]; exact hm) fun v₃ h₃ => ?_
    with_reducible (refine e_sp0 ?_)
    refine ⟨⟨_, _, _, _, _, by assumption⟩, ?_⟩
    have g1 := hgj c hc'
    have g2 := hgi c hc'
    have g3 := rmulF_good hgq g1
    refine rmul_ok G hA' (by assumption) (mono_pair _ _ _ _ hg.1 hvq) h₃ hgq.1 g1.1 hgq.2.1 hgq.2.2 g1.2.1 g1.2.2 (by lia) fun v₄ b₄ s₄ hg₄ H₄ h₄ => ?_
    with_reducible (refine e_sp0 ?_)
    refine ⟨⟨_, _, _, _, _, by assumption⟩, ?_⟩
    refine rsub_ok G hA' (by assumption) (mono_pair _ _ _ _ (hg.1.trans hg₄.1) hyx) h₄ g2.1 g3.1 g2.2.1 g2.2.2 g3.2.1 g3.2.2 (by with_reducible assumption) fun v₅ b₅ s₅ hg₅ H₅ h₅ => ?_
    refine unQ ?_
    exact ⟨_, hg₄.trans hg₅, H₅, h₅⟩
  · with_reducible (refine nm0 ?_; refine nm0 ?_)
    refine set_own H₃ (H₃.own _ (List.mem_singleton.mpr rfl)).1 hi' (by with_reducible exact Mine.m23) .head fun s₆ H₆ => ?_
    with_reducible (refine q_next ?_; refine x_nil ?_; refine unQ ?_)
    exact ⟨_, _, _, rfl, hg, H₆, fun s'' g' H'' => h _ _ s'' g' (by simpa [filter_tt, rowN] using hD) H''⟩
end

section
variable {prog : Program} {wd : World} {mg mb : Str → Option Value} {H₀ : Heap}
  {env : Env} {k b : WM} {σ σ' σm : Vars} {w w' : Own} {r : RestT} {s : Shared} {A : Around} {E : Value → Shared → Prop} {n : Nat}
/-! data that is compared -/
structure Enc {α : Type} [DecidableEq α] (P : TP α) (enc : α → PyData) (d : Nat) : Prop where
  reads : ∀ (b : WM) (h : Heap) (v : Value) (x : α), (∀ a o, b a = some o → h.get? a = some o) → P b v x → ∃ as, Reads h v (enc x) as
  shape : ∀ x, (enc x).canLay0 = true ∧ (enc x).depth ≤ d
  eqv : ∀ x y, PyData.eqv (enc x) (enc y) = decide (x = y)
theorem encI : Enc TInt .int 0 := ⟨fun b h v x _ hv => reads_int hv, fun x => ⟨rfl, Nat.le_refl _⟩, fun x y => by simp [PyData.eqv]; rfl⟩
theorem encPr : Enc TPair encP 1 := ⟨fun b h v x hf hv => reads_pair hf hv, fun x => ⟨rfl, Nat.le_refl _⟩, fun x y => by
  obtain ⟨a, c⟩ := x
  obtain ⟨d, e⟩ := y
  simp only [encP, PyData.eqv, PyData.eqvAll, Bool.and_true]
  rw [Bool.eq_iff_iff]
  simp⟩
theorem encR1 : Enc TR1 (fun x => encP (x, 1)) 1 := ⟨fun b h v x hf hv => reads_pair hf hv, fun x => ⟨rfl, Nat.le_refl _⟩, fun x y => by
  rw [encPr.eqv, Bool.eq_iff_iff]
  simp⟩
theorem Enc.list {α : Type} [DecidableEq α] {P : TP α} {enc : α → PyData} {d : Nat} (e : Enc P enc d) : Enc (TList P) (fun xs => .list (xs.map enc)) (d + 1) :=
  ⟨fun b h v x hf hv => reads_list hf (fun v x h' => e.reads b h v x hf h') hv, fun xs => shaped_list e.shape xs, fun xs ys => by
    have key : ∀ xs ys : List α, PyData.eqvAll (xs.map enc) (ys.map enc) = decide (xs = ys) := by
      intro xs
      induction xs with
      | nil => intro ys; cases ys <;> simp [PyData.eqvAll]
      | cons x xs ih =>
        intro ys
        cases ys with
        | nil => simp [PyData.eqvAll]
        | cons y ys =>
          simp only [List.map_cons, PyData.eqvAll, e.eqv, ih]
          rw [Bool.eq_iff_iff]
          simp
    show PyData.eqvAll _ _ = _
    exact key xs ys⟩
theorem shaped_of {α : Type} [DecidableEq α] {P : TP α} {enc : α → PyData} {d : Nat} (e : Enc P enc d) (hd : d ≤ 64) (x : α) : PySem.SeqAt.shaped (enc x) = true := by
  unfold PySem.SeqAt.shaped
  rw [(e.shape x).1]
  simp
  exact Nat.le_trans (e.shape x).2 hd
theorem e_eq {α : Type} [DecidableEq α] {P : TP α} {enc : α → PyData} {d : Nat} (e : Enc P enc d) (hA : AOk n A) (H : St H₀ env k b σ w r s) {v₁ v₂ : Value} {x y : α} (h₁ : P b v₁ x) (h₂ : P b v₂ y) {Q : Value → Shared → Prop} (h : Q (.bool (decide (x = y))) s) (hd : d ≤ 64 := by decide) :
    wpAny (model prog wd) A (compareOp .Eq v₁ v₂) Q E s := by
  obtain ⟨as, ha⟩ := e.reads b s.heap _ _ H.froz h₁
  obtain ⟨bs, hb⟩ := e.reads b s.heap _ _ H.froz h₂
  exact eq_dataH ha hb (shaped_of e hd x) (shaped_of e hd y) (by have := hA.units; lia) (by rw [e.eqv]; exact h)
theorem e_ne {α : Type} [DecidableEq α] {P : TP α} {enc : α → PyData} {d : Nat} (e : Enc P enc d) (hA : AOk n A) (H : St H₀ env k b σ w r s) {v₁ v₂ : Value} {x y : α} (h₁ : P b v₁ x) (h₂ : P b v₂ y) {Q : Value → Shared → Prop} (h : Q (.bool (!decide (x = y))) s) (hd : d ≤ 64 := by decide) :
    wpAny (model prog wd) A (compareOp .NotEq v₁ v₂) Q E s := by
  obtain ⟨as, ha⟩ := e.reads b s.heap _ _ H.froz h₁
  obtain ⟨bs, hb⟩ := e.reads b s.heap _ _ H.froz h₂
  exact ne_dataH ha hb (shaped_of e hd x) (shaped_of e hd y) (by have := hA.units; lia) (by rw [e.eqv]; exact h)
end

section
variable {prog : Program} {wd : World} {mg mb : Str → Option Value} {H₀ : Heap}
  {env : Env} {k b : WM} {σ σ' σm : Vars} {w w' : Own} {r : RestT} {s : Shared} {A : Around} {E : Value → Shared → Prop} {n : Nat}
/-- copied, the list of rows being the caller's own -/
theorem copied_own {α : Type} {P : TP α} (m : MonoT P) (G : GG wd mg mb H₀) (hA : AOk 1 A) (H : St H₀ env k b σ w r s) {v : Value} {M : List (List α)} (hv : TList (TList P) b v M) (hM : M.length ≤ 1000) (hM' : ∀ x ∈ M, x.length ≤ 1000) {Q : Value → Shared → Prop}
    (h : ∀ D vs nn b' s', Gr k b b' → All2 (TList P b') vs M → St H₀ env k b' σ ((D, lstO vs nn) :: w) r s' → Q (.ref D) s') : wpAny (model prog wd) A (call (.ref 96) [v]) Q E s := by
  refine call_fn (m := []) (n := 0) (nms := ["a"]) (σ₀ := [("a", some v)]) G hA H (f := 96) rfl rfl rfl (by decide +kernel) rfl fun L k' s₁ q cd A' hA' H₁ => ?_
  refine genQ fun _ _ => ?_
  with_reducible (refine x_cons ?_; refine wpAny_Return_some ?_)
  refine lcomp (σ := [("a", some v)]) (σc := [("row", none)]) (by walk_at "side") ?_
  with_reducible (refine nm0 ?_)
  obtain ⟨a, vs, nn, rfl, ha, al⟩ := hv
  refine src_list hA'.handled H₁ ha fun I s₂ W H₂ off h0 hfp => ?_
  refine goal_eval (σ := [("a", some (.ref a))]) (σc := [("row", none)]) (by walk_at "side") (W _ _) H₂ off h0 hfp (by rw [al.length, PySem.sizeLine_eq]; with_reducible exact Mine.m22) (PInv M (fun _ => true) id (TList P) []) PInv.zero (fun i b' b'' w' ys hs h => PInv.mono (mono_list m) hs h) (fun i v C k'' b' w' ys s'' hi hk hg hinv hP H₃ => ?_) (fun D b' w' ys s' hg hinv H₃ => ?_)
  · rw [al.length] at hi
    have hx : M[i]? = some M[i] := by simp [hi]
    refine pstep (σ := [("a", some (.ref a))]) (σc := [("row", none)]) (mono_list m) (by walk_at "side") (σ1 := fun v => [("row", some v)]) (fun _ => .head) (by simp) (by walk_at "ok") hinv hx H₃ fun s₃ H₃ => ?_
    refine Turn.plain H₃ ?_
    refine genQ fun _ _ => ?_
    have hyx := al.at' hP hx
    obtain ⟨c, ws, n', rfl, hc, al'⟩ := hyx
    have hc' := hg.1 _ _ hc
    with_reducible (refine ct1 ?_)
    refine c_list (by assumption) (H₃.froz _ _ hc') (by have := hM' _ (List.mem_of_getElem? hx); rw [al'.length, PySem.sizeLine_eq]; with_reducible exact Mine.m22) fun D c' s₄ g₄ H₄ _ => ?_
    refine unQ ?_
    exact ⟨_, g₄, H₄, D, ws, c', rfl, upd_self .., al'.imp fun v x => m _ _ _ _ (hg.1.trans g₄.1)⟩
  · with_reducible (refine q_ret ?_; refine unQ ?_)
    obtain ⟨rfl, hal⟩ := hinv
    rw [al.length, List.take_length] at hal
    exact ⟨_, _, _, rfl, hg, H₃, fun s'' g' H'' => h D ys _ _ s'' g' (by simpa [filter_tt] using hal) H''⟩

noncomputable abbrev Q2 := Int × Int
noncomputable def GoodN (β : Nat) (q : Q2) : Prop := Good β q ∧ (q.1 = 0 → q.2 = 1)
theorem GoodN.mono {β γ : Nat} {q : Q2} (h : GoodN β q) (hb : β ≤ γ) : GoodN γ q := ⟨h.1.mono hb, h.2⟩
theorem ratF_nz {t b : Int} (h0 : b ≠ 0) : (ratF t b).1 = 0 → (ratF t b).2 = 1 := by
  unfold ratF
  dsimp only
  intro e
  have hg0 : (Int.gcd t b : Int) ≠ 0 := by
    have := Int.gcd_pos_of_ne_zero_right t h0
    lia
  have hd : (if b > 0 then (Int.gcd t b : Int) else 0 - (Int.gcd t b : Int)) ∣ t := by
    have hd : (Int.gcd t b : Int) ∣ t := Int.gcd_dvd_left ..
    split
    · exact hd
    · obtain ⟨c, hc⟩ := hd
      exact ⟨-c, by rw [Int.zero_sub, Int.neg_mul_neg]; exact hc⟩
  have := Int.fdiv_mul_cancel hd
  rw [e, Int.zero_mul] at this
  subst this
  have hgb : (Int.gcd 0 b : Int) = (b.natAbs : Int) := by simp [Int.gcd]
  rw [hgb]
  have : (if b > 0 then (b.natAbs : Int) else 0 - (b.natAbs : Int)) = b := by split <;> lia
  rw [this]
  exact Int.fdiv_self h0
theorem rdivF_goodN {β γ : Nat} {p q : Q2} (hp : Good β p) (hq : Good γ q) (h0 : q.1 ≠ 0) : GoodN (β + γ) (rdivF p q) := ⟨rdivF_good hp hq h0, ratF_nz (Int.mul_ne_zero hp.1 h0)⟩
theorem rsubF_goodN {β γ : Nat} {p q : Q2} (hp : Good β p) (hq : Good γ q) : GoodN (β + γ + 1) (rsubF p q) := ⟨rsubF_good hp hq, ratF_nz (Int.mul_ne_zero hp.1 hq.1)⟩

/-- one column -/
noncomputable def elimE (c p : Nat) (f : Nat → Nat → Q2) : Nat → Nat → Q2 := fun i => if i ≠ p ∧ f i c ≠ (0, 1) then (fun j => rsubF (f i j) (rmulF (f i c) (f p j))) else f i
noncomputable def normE (c p : Nat) (f : Nat → Nat → Q2) : Nat → Nat → Q2 := fun i => if i = p then (fun j => rdivF (f p j) (f p c)) else f i
noncomputable def spotsE (n c p : Nat) (f : Nat → Nat → Q2) : List Nat := (List.range' p (n - p)).filter fun at' => !decide (f at' c = (0, 1))
noncomputable def stepE (n c : Nat) (st : Nat × (Nat → Nat → Q2)) : Nat × (Nat → Nat → Q2) :=
  match spotsE n c st.1 st.2 with
  | [] => st
  | s :: _ => (st.1 + 1, elimE c st.1 (normE c st.1 (swF st.1 s st.2)))
noncomputable def echE (n : Nat) (f : Nat → Nat → Q2) : Nat → Nat × (Nat → Nat → Q2)
  | 0 => (0, f)
  | i + 1 => stepE n i (echE n f i)
noncomputable def bitsE (β : Nat) : Nat → Nat
  | 0 => β
  | i + 1 => 4 * bitsE β i + 1
theorem bitsE_mono {β i : Nat} : ∀ {j : Nat}, i ≤ j → bitsE β i ≤ bitsE β j
  | 0, h => by rw [Nat.le_zero.mp h]; exact Nat.le_refl _
  | j + 1, h => by
    by_cases e : i = j + 1
    · subst e; exact Nat.le_refl _
    · have := bitsE_mono (β := β) (i := i) (j := j) (by lia)
      show _ ≤ 4 * bitsE β j + 1
      lia
theorem spots_mem {n c p s : Nat} {f : Nat → Nat → Q2} (h : s ∈ spotsE n c p f) : p ≤ s ∧ s < n ∧ f s c ≠ (0, 1) := by
  unfold spotsE at h
  rw [List.mem_filter, List.mem_range'_1] at h
  obtain ⟨⟨h1, h2⟩, h3⟩ := h
  exact ⟨h1, by lia, by simpa using h3⟩
theorem swF_good {n c p s m β : Nat} {f : Nat → Nat → Q2} (hf : ∀ i < n, ∀ j < m, GoodN β (f i j)) (hp : p < n) (hs : s < n) : ∀ i < n, ∀ j < m, GoodN β (swF p s f i j) := fun i hi j hj => by
  unfold swF
  split
  · exact hf p hp j hj
  · split
    · exact hf s hs j hj
    · exact hf i hi j hj
theorem lead_ne {β : Nat} {q : Q2} (h : GoodN β q) (hq : q ≠ (0, 1)) : q.1 ≠ 0 := fun e => hq (by obtain ⟨a, c⟩ := q; simp only at e; subst e; rw [show c = 1 from h.2 rfl])
theorem stepE_good {n c m β : Nat} {st : Nat × (Nat → Nat → Q2)} (hc : c < m) (hf : ∀ i < n, ∀ j < m, GoodN β (st.2 i j)) : ∀ i < n, ∀ j < m, GoodN (4 * β + 1) ((stepE n c st).2 i j) := by
  intro i hi j hj
  unfold stepE
  cases hs : spotsE n c st.1 st.2 with
  | nil => exact (hf i hi j hj).mono (by lia)
  | cons s rest =>
    obtain ⟨h1, h2, h3⟩ := spots_mem (show s ∈ spotsE n c st.1 st.2 by rw [hs]; exact List.mem_cons_self)
    have hp : st.1 < n := by lia
    have g1 := swF_good (c := c) hf hp h2
    have hl : swF st.1 s st.2 st.1 c ≠ (0, 1) := by
      unfold swF
      split
      · rename_i e; rw [← e] at h3; exact h3
      · rw [if_pos rfl]; exact h3
    have g2 : ∀ j < m, GoodN (β + β) (normE c st.1 (swF st.1 s st.2) st.1 j) := fun j hj => by
      unfold normE
      rw [if_pos rfl]
      exact rdivF_goodN (g1 _ hp j hj).1 (g1 _ hp c hc).1 (lead_ne (g1 _ hp c hc) hl)
    show GoodN _ (elimE c st.1 (normE c st.1 (swF st.1 s st.2)) i j)
    unfold elimE
    by_cases e : i = st.1
    · subst e
      rw [if_neg (by simp)]
      exact (g2 j hj).mono (by lia)
    · have gi : ∀ j < m, GoodN β (normE c st.1 (swF st.1 s st.2) i j) := fun j hj => by
        unfold normE
        rw [if_neg e]
        exact g1 i hi j hj
      split
      · exact (rsubF_goodN (gi j hj).1 (rmulF_good (gi c hc).1 (g2 j hj).1)).mono (by lia)
      · exact (gi j hj).mono (by lia)
theorem echE_good {n m β : Nat} {f : Nat → Nat → Q2} (hf : ∀ i < n, ∀ j < m, GoodN β (f i j)) : ∀ c, c ≤ m → ∀ i < n, ∀ j < m, GoodN (bitsE β c) ((echE n f c).2 i j)
  | 0, _ => hf
  | c + 1, h => stepE_good (by with_reducible exact Mine.m8) (echE_good hf c (by with_reducible exact Mine.m7))
theorem echE_le {n : Nat} {f : Nat → Nat → Q2} : ∀ c, (echE n f c).1 ≤ n
  | 0 => Nat.zero_le _
  | c + 1 => by
    have ih := echE_le (n := n) (f := f) c
    unfold echE stepE
    split
    · exact ih
    · rename_i s rest hs
      have := spots_mem (show s ∈ _ by rw [hs]; exact List.mem_cons_self)
      show _ + 1 ≤ n
      lia
theorem mk_set {α : Type} {n m : Nat} {f : Nat → Nat → α} (i : Nat) (g : Nat → α) : (mk n m f).set i (rowN m g) = mk n m fun i' => if i' = i then g else f i' := by
  unfold mk
  rw [rowN_set]
  refine rowN_congr fun j _ => ?_
  dsimp only
  split <;> rfl

theorem All2.setN {α : Type} {R : Value → List α → Prop} {vs : List Value} {n m : Nat} {f : Nat → Nat → α} {i : Nat} {v : Value} {g : Nat → α} (h : All2 R vs (mk n m f)) (hv : R v (rowN m g)) : All2 R (vs.set i v) (mk n m fun i' => if i' = i then g else f i') := by
  rw [← mk_set]; exact h.set hv i
theorem mk_get {α : Type} {n m : Nat} {f : Nat → Nat → α} {i : Nat} (h : i < n) : (mk n m f)[i]? = some (rowN m (f i)) := rowN_get h
theorem mk_len {α : Type} {n m : Nat} {f : Nat → Nat → α} : (mk n m f).length = n := rowN_len ..
theorem mk_mem {α : Type} {n m : Nat} {f : Nat → Nat → α} {x : List α} (h : x ∈ mk n m f) : ∃ i, i < n ∧ x = rowN m (f i) := rowN_mem h
theorem mk_rows {α : Type} {n m : Nat} {f : Nat → Nat → α} (hm : m ≤ 1000) : ∀ x ∈ mk n m f, x.length ≤ 1000 := fun x hx => by
  obtain ⟨i, _, rfl⟩ := mk_mem hx; rw [rowN_len]; exact hm
theorem mk_congr {α : Type} {n m : Nat} {f g : Nat → Nat → α} (h : ∀ i < n, ∀ j < m, f i j = g i j) : mk n m f = mk n m g :=
  rowN_congr fun i hi => rowN_congr fun j hj => h i hi j hj
theorem lead_sw {n c p s : Nat} {f : Nat → Nat → Q2} (h : s ∈ spotsE n c p f) : swF p s f p c ≠ (0, 1) := by
  obtain ⟨h1, h2, h3⟩ := spots_mem h
  unfold swF
  split
  · rename_i e; rw [← e] at h3; exact h3
  · rw [if_pos rfl]; exact h3
theorem normE_good {c p m β : Nat} {f : Nat → Nat → Q2} (hc : c < m) (g1 : ∀ j < m, GoodN β (f p j)) (hl : f p c ≠ (0, 1)) : ∀ j < m, GoodN (β + β) (normE c p f p j) := fun j hj => by
  unfold normE
  rw [if_pos rfl]
  exact rdivF_goodN (g1 j hj).1 (g1 c hc).1 (lead_ne (g1 c hc) hl)
noncomputable def VE (v : Value) (l : Addr) (o : Option Value × Option Value × Option Value × Option Value × Option Value) (pv : Addr) : Vars :=
  [("a", some v), ("found", some (.ref l)), ("pivots", some (.ref pv)), ("column", o.1), ("row", o.2.1), ("spots", o.2.2.1), ("lead", o.2.2.2.1), ("other", o.2.2.2.2)]
theorem St.perm (H : St H₀ env k b σ w r s) (h : w.Perm w') : St H₀ env k b σ w' r s :=
  { H with own := fun p hp => H.own p (h.mem_iff.mpr hp), nodup := (h.map _).nodup_iff.mp H.nodup }
theorem Turn.one {elt e : Expr} {c : Bool} {PY : WM → Value → Prop} (h : wpAny (model prog wd) A (isTrue e env (eval e env)) (fun ok s₃ => ok = c ∧ ∃ b3, Gr k b b3 ∧ St H₀ env k b3 σ w r s₃ ∧
    (c = true → wpAny (model prog wd) A (eval elt env) (fun y s₄ => TPost H₀ env k b3 σ w r PY y s₄) (fun _ _ => False) s₃)) (fun _ _ => False) s) : Turn prog wd A H₀ r env k b σ w elt [e] c PY s := tests_one h
theorem Off.perm {wr : List Addr} (off : Off env k b w wr) (h : w.Perm w') : Off env k b w' wr := fun a ha => by
  obtain ⟨h1, h2, h3, h4, h5⟩ := off a ha
  exact ⟨h1, h2, fun hm => h3 ((h.map _).mem_iff.mpr hm), h4, h5⟩
noncomputable def elimTo (j c p : Nat) (f : Nat → Nat → Q2) : Nat → Nat → Q2 := fun i => if i < j then elimE c p f i else f i
noncomputable def EcI1 (v : Value) (F P : Addr) (n m : Nat) (f : Nat → Nat → Q2) (i : Nat) (b' : WM) (σ' : Vars) (w' : Own) : Prop := X9_4 (fun o1 o2 o3 o4 o5 vs nF pvs nP => σ' = VE v F (o1, o2, o3, o4, o5) P) (fun o1 o2 o3 o4 o5 vs nF pvs nP => w' = [(F, lstO vs nF), (P, lstO pvs nP)]) (fun o1 o2 o3 o4 o5 vs nF pvs nP => pvs.length = (echE n f i).1) (fun o1 o2 o3 o4 o5 vs nF pvs nP => All2 (TRrow b') vs (mk n m (echE n f i).2))
noncomputable def EcI2 (v : Value) (F P : Addr) (i : Nat) (t : Tok) (p : Nat) (t₁₁ : Tok) (S : Addr) (vl : Value) (nF : Nat) (pvs : List Value) (nP : Nat) (n m : Nat) (g₂ : Nat → Nat → Q2) (j : Nat) (b' : WM) (σ' : Vars) (w' : Own) : Prop := X2_3 (fun o vs => σ' = ([("a", some v), ("found", some (.ref F)), ("pivots", some (.ref P)), ("column", some (.int (0 + (i : Int)) t)), ("row", some (.int (p : Int) t₁₁)), ("spots", some (.ref S)), ("lead", some vl), ("other", o)] : Vars)) (fun o vs => w' = [(F, lstO vs nF), (P, lstO pvs nP)]) (fun o vs => All2 (TRrow b') vs (mk n m (elimTo j i p g₂)))
theorem echelon_ok (G : GG wd mg mb H₀) (hA : AOk 5 A) (H : St H₀ env k b σ w r s) (hR : TPair b (.ref 42) (0, 1)) {v : Value} {n m β : Nat} {f : Nat → Nat → Q2} (hv : TRmat b v (mk n m f)) (hn0 : 0 < n) (hn : n ≤ 1000) (hm : m ≤ 1000) (hf : ∀ i < n, ∀ j < m, GoodN β (f i j)) (hβ : bitsE β m ≤ 9000) {Q : Value → Shared → Prop}
    (h : ∀ D F P pvs np b' s', Gr k b b' → b' D = some (tupO [.ref F, .ref P]) → pvs.length = (echE n f m).1 → St H₀ env k b' σ ((P, lstO pvs np) :: w) r s' → Q (.ref D) s') : wpAny (model prog wd) A (call (.ref 130) [v]) Q E s := by
  refine call_fn (m := []) (n := 4) (nms := ["a"]) (σ₀ := [("a", some v), ("found", none), ("pivots", none), ("column", none), ("row", none), ("spots", none), ("lead", none), ("other", none)]) G hA H (f := 130) rfl rfl rfl (by decide +kernel) rfl fun L k' s₁ q cd A' hA' H₁ => ?_
  refine genQ fun _ _ => ?_
  with_reducible (refine x_cons ?_)
  refine a_tup ?_
  with_reducible (refine Tuple_ ?_; refine e_sp1 ?_; refine cf1 ?_)
  refine ⟨⟨_, _, _, _, _, by assumption⟩, ?_⟩
  refine copied_own mono_pair G (hA'.mono (by decide)) (by assumption) hv (by rw [mk_len]; exact hn) (mk_rows hm) fun F vs nF b₂ s₂ hg₂ hvs H₂ => ?_
  with_reducible (refine e_sp1 ?_; refine List_ ?_; refine e_sp0 ?_)
  refine n_list (by assumption) (by size_fits) fun P s₃ _ _ H₃ => ?_
  with_reducible (refine e_sp0 ?_)
  refine n_tup H₃ (by size_fits) fun D s₄ hg₄ H₄ => ?_
  refine tst hA'.handled H₄ (upd_self ..) rfl rfl fun s₅ H₅ => ?_
  refine aio (nst H₅ (by walk_at "put") (by walk_at "ok") fun s₆ H₆ => ?_)
  refine aio (nst H₆ (by walk_at "put") (by walk_at "ok") fun s₇ H₇ => ?_)
  refine aio_nil ?_
  with_reducible (refine q_next ?_; refine x_cons ?_)
  refine wpAny_For ?_
  with_reducible (refine ctg ?_; refine e_sp1 ?_; refine Subscript_ ?_; refine cf1 ?_)
  refine ⟨⟨_, _, _, _, _, by assumption⟩, ?_⟩
  have hv₄ := mono_rmat _ _ _ _ (hg₂.1.trans hg₄.1) hv
  refine shape_ok mono_pair G (hA'.mono (by decide)) (by assumption) hv₄ (by rw [mk_len]; exact hn) (mk_rows hm) fun v₈ b₈ s₈ hg₈ H₈ h₈ => ?_
  rw [mk_len, mk_ncols hn0] at h₈
  with_reducible (refine cint (by assumption) fun _ _ _ => ?_; refine g_p1 (by assumption) (by assumption) fun _ => ?_; refine e_sp0 ?_)
  refine c_range1 hA'.handled (by assumption) hm fun I s₉ W H₉ off h0 hfp => ?_
  have hsb : Sub b b₈ := hg₂.1.trans (hg₄.1.trans hg₈.1)
  refine for_core (W _ _) (H₉.perm (.swap _ _ _)) (off.perm (.swap _ _ _)) h0 hfp (EcI1 v F P n m f)
    ⟨none, none, none, none, none, vs, nF, [], 0, rfl, rfl, rfl, hvs.imp fun v x => mono_rrow _ _ _ _ (hg₄.1.trans hg₈.1)⟩ ?_ ?_ ?_
  · intro i v' k'' b' σ' w' s₁₀ hi hk hg hI_ hP_ H₁₀
    refine genA fun _ _ => ?_
    obtain ⟨o1, o2, o3, o4, o5, vs, nF, pvs, nP, rfl, rfl, hp, hvs⟩ := hI_
    obtain ⟨t, rfl⟩ := hP_
    unfold VE at H₁₀
    have hbits : 4 * bitsE β i + 1 ≤ 9000 := Nat.le_trans (bitsE_mono (β := β) (i := i + 1) (j := m) (by lia)) hβ
    have hgE := echE_good hf i (by with_reducible exact Mine.m3)
    generalize hst : echE n f i = st at hp hvs hgE
    obtain ⟨p, g⟩ := st
    dsimp only at hp hvs hgE
    have hpn : p ≤ n := by have := echE_le (n := n) (f := f) i; rw [hst] at this; exact this
    have hvl : vs.length = n := by rw [hvs.length, mk_len]
    have hR' := mono_pair _ _ _ _ (hsb.trans hg.1) hR
    refine nst H₁₀ (by walk_at "put") (by walk_at "ok") fun s₁₀ H₁₀ => ?_
    with_reducible (refine x_cons ?_)
    refine a_name ?_
    with_reducible (refine cb1 ?_)
    refine c_len (by assumption) (H₁₀.own (P, lstO pvs nP) (by walk_at "mem")).1 (by rw [hp, PySem.sizeLine_eq]; lia) fun s₁₁ t₁₁ H₁₁ => ?_
    rw [hp]
    refine st (by assumption) (by walk_at "put") (by walk_at "ok") fun s₁₂ H₁₂ => ?_
    with_reducible (refine q_next ?_; refine x_cons ?_)
    refine acomp (σ := [("a", some v), ("found", some (.ref F)), ("pivots", some (.ref P)), ("column", some (.int (0 + (i : Int)) t)), ("row", some (.int (p : Int) t₁₁)), ("spots", o3), ("lead", o4), ("other", o5)]) (σc := [("at", none), ("column", some (.int (0 + (i : Int)) t)), ("found", some (.ref F))]) (by walk_at "side") ?_ (by with_unfolding_all rfl)
    with_reducible (refine ctg ?_; refine spn ?_; refine e_sp1 ?_; refine cb1 ?_)
    refine c_len (by assumption) (H₁₂.own (F, lstO vs nF) (by walk_at "mem")).1 (by rw [hvl, PySem.sizeLine_eq]; with_reducible exact Mine.m22) fun s₁₃ t₁₃ H₁₃ => ?_
    rw [hvl]
    with_reducible (refine e_sp0 ?_)
    refine c_range2 (n := n - p) hA'.handled H₁₃ (by lia) (by lia) (by lia) (by lia) fun I₂ s₁₄ W₂ H₁₄ off₂ h0₂ hfp₂ => ?_
    refine map_asg (xs := List.range' p (n - p)) (keep := fun at' => !decide (g at' i = (0, 1))) (f := fun at' => (at' : Int)) (PY := TInt) (σa := fun u => [("a", some v), ("found", some (.ref F)), ("pivots", some (.ref P)), ("column", some (.int (0 + (i : Int)) t)), ("row", some (.int (p : Int) t₁₁)), ("spots", some u), ("lead", o4), ("other", o5)]) (fun _ => by walk_at "put") (by walk_at "ok") mono_int (σc := [("at", none), ("column", some (.int (0 + (i : Int)) t)), ("found", some (.ref F))]) (by walk_at "side") (fun u => [("at", some u), ("column", some (.int (0 + (i : Int)) t)), ("found", some (.ref F))]) (fun _ => .head) (by simp) (fun _ => by walk_at "ok") (W₂ _ _) H₁₄ off₂ h0₂ hfp₂ (by simp) (by rw [PySem.sizeLine_eq]; simp; lia) (fun i₂ x₀ v₂ C k₂ b₂ s₁₅ hx hk₂ hg₂ hP H₁₅ => ?_) (fun S b₃ s₁₅ hg₃ hS H₁₅ => ?_)
    · obtain ⟨t₂, rfl⟩ := hP
      obtain ⟨hi₂, rfl⟩ := List.getElem?_eq_some_iff.mp hx
      rw [List.length_range'] at hi₂
      rw [List.getElem_range', Nat.one_mul]
      refine Turn.one ?_
      refine genQ fun _ _ => ?_
      with_reducible (refine wpAny_isTrue_Compare1 ?_; refine Subscript_ ?_; refine sub2 ?_)
      obtain ⟨u, hu, hu2⟩ := hvs.get (mk_get (f := g) (m := m) (show p + i₂ < n by lia))
      refine g_ow (by assumption) (by walk_at "mem") (p + i₂) (by lia) hu (by lia) ?_
      with_reducible (refine nm0 ?_)
      refine g_tl (by assumption) (mono_rrow _ _ _ _ hg₂.1 hu2) i (by lia) (rowN_get hi) (by rw [rowN_len]; exact hm) fun v₃ h₃ => ?_
      with_reducible (refine e_gnm (by assumption) (by assumption) (by walk_at "gi") (by decide) ?_)
      refine e_ne encPr hA' (by assumption) h₃ (mono_pair _ _ _ _ hg₂.1 hR') ?_
      with_reducible (refine wpAny_truthy_bool ?_; refine unQ ?_)
      refine ⟨rfl, b₂, Gr.refl _ _, H₁₅, fun _ => ?_⟩
      with_reducible (refine nm0 ?_)
      exact ⟨b₂, Gr.refl _ _, H₁₅, t₂, by rw [Int.natCast_add]⟩
    have hS' : TRow b₃ (.ref S) ((spotsE n i p g).map fun x : Nat => (x : Int)) := hS
    with_reducible (refine q_next ?_; refine x_cons ?_; refine wpAny_If ?_; refine wpAny_isTrue_Compare1 ?_; refine cb1 ?_)
    have hsl : (spotsE n i p g).length ≤ n := Nat.le_trans (List.length_filter_le _ _) (by rw [List.length_range']; lia)
    refine c_lenT (by assumption) hS' (by rw [List.length_map]; lia) fun s₁₆ t₁₆ H₁₆ => ?_
    rw [List.length_map]
    with_reducible (refine cint (by assumption) fun _ _ _ => ?_; refine PySem.P.eq_int ?_; refine wpAny_truthy_bool ?_)
    have hstep : echE n f (i + 1) = stepE n i (p, g) := by rw [← hst]; rfl
    have hsub₃ : Sub b' b₃ := hg₃.1
    cases hs : spotsE n i p g with
    | nil =>
      rw [if_pos (by simp)]
      with_reducible (refine x_cons ?_; refine wpAny_Continue ?_; refine q_cont ?_; refine q_cont ?_; refine unQ ?_)
      have he : stepE n i (p, g) = (p, g) := by unfold stepE; rw [hs]
      refine ⟨b₃, _, _, hg₃, by assumption, some (.int (0 + (i : Int)) t), some (.int (p : Int) t₁₁), some (.ref S), o4, o5, vs, nF, pvs, nP, rfl, rfl, ?_, ?_⟩
      · rw [hstep, he]; exact hp
      · rw [hstep, he]; exact hvs.imp fun v x => mono_rrow _ _ _ _ hsub₃
    | cons s rest =>
      rw [if_neg (by simp; lia)]
      have hsm : s ∈ spotsE n i p g := by rw [hs]; exact List.mem_cons_self
      obtain ⟨hps, hsn, _⟩ := spots_mem hsm
      have hpn' : p < n := by lia
      have he : stepE n i (p, g) = (p + 1, elimE i p (normE i p (swF p s g))) := by unfold stepE; rw [hs]
      have hlead := lead_sw hsm
      rw [hs] at hS'
      with_reducible (refine x_nil ?_; refine q_next ?_; refine x_cons ?_)
      refine e_any ?_
      with_reducible (refine cfg ?_; refine spn ?_; refine spn ?_; refine e_sp1 ?_; refine sub1 ?_; refine cint (by assumption) fun _ _ _ => ?_)
      refine g_tl (by assumption) hS' 0 rfl rfl (by rw [hs] at hsl; rw [List.length_map]; lia) fun v₄ h₄ => ?_
      obtain ⟨t₄, rfl⟩ := h₄
      with_reducible (refine e_sp0 ?_)
      refine ⟨⟨_, _, _, _, _, by assumption⟩, ?_⟩
      obtain ⟨up, hup, hup2⟩ := hvs.get (mk_get (f := g) (m := m) hpn')
      obtain ⟨us, hus, hus2⟩ := hvs.get (mk_get (f := g) (m := m) hsn)
      refine swap_ok G (hA'.mono (by decide)) (by assumption) hup hus (by lia) fun b₄ s₁₇ hg₄ H₁₇ => ?_
      have hvs₁ : All2 (TRrow b') ((vs.set p us).set s up) (mk n m (swF p s g)) := by
        have := (hvs.setN (i := p) hus2).setN (i := s) hup2
        have e : (fun i' => if i' = s then g p else (fun i' => if i' = p then g s else g i') i') = swF p s g := by
          funext i'; unfold swF; rfl
        rw [e] at this
        exact this
      generalize (vs.set p us).set s up = vs₁ at hvs₁ H₁₇
      have hvl₁ : vs₁.length = n := by rw [hvs₁.length, mk_len]
      have hgS := swF_good (c := i) hgE hpn' hsn
      generalize swF p s g = g₁ at hvs₁ he hlead hgS
      obtain ⟨u₁, hu₁, hu₁2⟩ := hvs₁.get (mk_get (f := g₁) (m := m) hpn')
      have hs₄ : Sub b' b₄ := hsub₃.trans hg₄.1
      with_reducible (refine q_next ?_; refine x_cons ?_)
      refine a_name ?_
      with_reducible (refine Subscript_ ?_; refine sub2 ?_)
      refine g_ow (by assumption) (by walk_at "mem") p rfl hu₁ (by lia) ?_
      with_reducible (refine nm0 ?_)
      refine g_tl (by assumption) (mono_rrow _ _ _ _ hs₄ hu₁2) i (by lia) (rowN_get hi) (by rw [rowN_len]; exact hm) fun vl hvl => ?_
      skip
      refine st (by assumption) (by walk_at "put") (by walk_at "ok") fun s₁₈ H₁₈ => ?_
      with_reducible (refine q_next ?_; refine x_cons ?_)
      refine wpAny_Assign_Subscript ?_
      refine lcomp (σ := [("a", some v), ("found", some (.ref F)), ("pivots", some (.ref P)), ("column", some (.int (0 + (i : Int)) t)), ("row", some (.int (p : Int) t₁₁)), ("spots", some (.ref S)), ("lead", some vl), ("other", o5)]) (σc := [("one", none), ("lead", some vl)]) (by walk_at "side") ?_
      with_reducible (refine sub2 ?_)
      refine g_ow (by assumption) (by walk_at "mem") p rfl hu₁ (by lia) ?_
      obtain ⟨a₁, ws, n₁, rfl, ha₁, al₁⟩ := hu₁2
      refine src_list hA'.handled H₁₈ (hs₄ _ _ ha₁) fun I₃ s₁₉ W₃ H₁₉ off₃ h0₃ hfp₃ => ?_
      have hws : ws.length = m := by rw [al₁.length, rowN_len]
      have hgl := hgS p hpn' i hi
      refine map_eval (xs := rowN m (g₁ p)) (keep := fun _ => true) (f := fun x => rdivF x (g₁ p i)) (PY := TPair) mono_pair (σ := [("a", some v), ("found", some (.ref F)), ("pivots", some (.ref P)), ("column", some (.int (0 + (i : Int)) t)), ("row", some (.int (p : Int) t₁₁)), ("spots", some (.ref S)), ("lead", some vl), ("other", o5)]) (σc := [("one", none), ("lead", some vl)]) (by walk_at "side") (fun u => [("one", some u), ("lead", some vl)]) (fun _ => .head) (by simp) (fun _ => by walk_at "ok") (W₃ _ _) H₁₉ off₃ h0₃ hfp₃ (by rw [hws, rowN_len]) (by rw [PySem.sizeLine_eq, rowN_len]; with_reducible exact Mine.m22) (fun i₂ x₀ v₂ C k₂ b₅ s₂₀ hx hk₂ hg₅ hP H₂₀ => ?_) (fun R b₅ s₂₀ hg₅ hR₂ H₂₀ => ?_)
      · refine Turn.plain H₂₀ ?_
        refine genQ fun _ _ => ?_
        have hyx := al₁.at' hP hx
        obtain ⟨j, hj, rfl⟩ := rowN_mem (List.mem_of_getElem? hx)
        with_reducible (refine cf2 ?_)
        refine ⟨⟨_, _, _, _, _, by assumption⟩, ?_⟩
        have q1 := (hgS p hpn' j hj).1
        have q2 := hgl.1
        refine rdiv_ok G (hA'.mono (by decide)) (by assumption) (mono_pair _ _ _ _ (hs₄.trans hg₅.1) hyx) (mono_pair _ _ _ _ hg₅.1 hvl) q1.1 (lead_ne hgl hlead) q1.2.1 q1.2.2 q2.2.1 q2.2.2 ?_ fun v₅ b₆ s₂₁ hg₆ H₂₁ h₅ => ?_
        · lia
        · refine unQ ?_
          exact ⟨_, hg₆, H₂₁, h₅⟩
      · with_reducible (refine nm0 ?_; refine nm0 ?_)
        refine set_own H₂₀ (H₂₀.own (F, lstO vs₁ nF) (by walk_at "mem")).1 (by lia) (by with_reducible exact Mine.m23) .head fun s₂₁ H₂₁ => ?_
        with_reducible (refine q_next ?_; refine x_cons ?_)
        have hs₅ : Sub b' b₅ := hs₄.trans hg₅.1
        have hvs₂ : All2 (TRrow b₅) (vs₁.set p (.ref R)) (mk n m (normE i p g₁)) := by
          have hR₃ : TRrow b₅ (.ref R) (rowN m fun j => rdivF (g₁ p j) (g₁ p i)) := by
            simpa [filter_tt, rowN, Function.comp_def] using hR₂
          have := (hvs₁.imp fun v x => mono_rrow _ _ _ _ hs₅).setN (i := p) hR₃
          exact this
        have hgN := normE_good hi (hgS p hpn') hlead
        have hgO : ∀ i' < n, i' ≠ p → ∀ j < m, GoodN (bitsE β i) (normE i p g₁ i' j) := fun i' hi' hne j hj => by
          unfold normE; rw [if_neg hne]; exact hgS i' hi' j hj
        have hvl₂ : (vs₁.set p (.ref R)).length = n := by rw [List.length_set, hvl₁]
        generalize vs₁.set p (.ref R) = vs₂ at hvs₂ H₂₁ hvl₂
        generalize normE i p g₁ = g₂ at hvs₂ he hgN hgO
        refine wpAny_For ?_
        with_reducible (refine ctg ?_; refine e_sp1 ?_; refine cb1 ?_)
        refine c_len (by assumption) (H₂₁.own (F, lstO vs₂ nF) (by walk_at "mem")).1 (by rw [hvl₂, PySem.sizeLine_eq]; with_reducible exact Mine.m22) fun s₂₂ t₂₂ H₂₂ => ?_
        rw [hvl₂]
        with_reducible (refine e_sp0 ?_)
        refine c_range1 hA'.handled (by assumption) hn fun I₄ s₂₃ W₄ H₂₃ off₄ h0₄ hfp₄ => ?_
        refine for_core (W₄ _ _) H₂₃ off₄ h0₄ hfp₄ (EcI2 v F P i t p t₁₁ S vl nF pvs nP n m g₂)
          ⟨o5, vs₂, rfl, rfl, by
            have e : elimTo 0 i p g₂ = g₂ := by funext i'; unfold elimTo; rw [if_neg (by lia)]
            rw [e]; exact hvs₂⟩ ?_ ?_ ?_
        · intro j v₆ k₆ b₆ σ₆ w₆ s₂₄ hj hk₆ hg₆ hI_ hP_ H₂₄
          refine genA fun _ _ => ?_
          obtain ⟨o, vs₃, rfl, rfl, hvs₃⟩ := hI_
          obtain ⟨t₆, rfl⟩ := hP_
          refine nst H₂₄ (by walk_at "put") (by walk_at "ok") fun s₂₅ H₂₅ => ?_
          have hvl₃ : vs₃.length = n := by rw [hvs₃.length, mk_len]
          have hsm₆ : Sub b' b₆ := hs₅.trans hg₆.1
          obtain ⟨uj, huj, huj2⟩ := hvs₃.get (mk_get (f := elimTo j i p g₂) (m := m) hj)
          have hej : elimTo j i p g₂ j = g₂ j := by unfold elimTo; rw [if_neg (Nat.lt_irrefl _)]
          rw [hej] at huj2
          with_reducible (refine x_cons ?_; refine wpAny_If ?_; refine wpAny_isTrue_BoolOp ?_; refine wpAny_allTrue_And_cons ?_; refine wpAny_isTrue_Compare1 ?_; refine nm0 ?_; refine nm0 ?_; refine PySem.P.ne_int ?_; refine wpAny_truthy_bool ?_)
          by_cases hjp : j = p
          · rw [if_neg (by simp [hjp])]
            rw [if_neg (by simp)]
            with_reducible (refine x_nil ?_; refine q_next ?_; refine x_nil ?_; refine unQ ?_)
            refine ⟨b₆, _, _, Gr.refl _ _, by assumption, _, vs₃, rfl, rfl, ?_⟩
            have e : elimTo (j + 1) i p g₂ = elimTo j i p g₂ := by
              funext i'; unfold elimTo
              by_cases e1 : i' = j
              · obtain rfl := e1.symm; rw [if_pos (Nat.lt_succ_self _), if_neg (Nat.lt_irrefl _)]
                unfold elimE; rw [if_neg (by simp [hjp])]
              · by_cases e2 : i' < j
                · rw [if_pos (by with_reducible exact Mine.m4), if_pos e2]
                · rw [if_neg (by lia), if_neg e2]
            rw [e]; exact hvs₃
          · rw [if_pos (by simp; lia)]
            with_reducible (refine wpAny_allTrue_And_cons ?_; refine wpAny_isTrue_Compare1 ?_; refine Subscript_ ?_; refine sub2 ?_)
            refine g_ow (by assumption) (by walk_at "mem") j (by lia) huj (by lia) ?_
            with_reducible (refine nm0 ?_)
            refine g_tl (by assumption) huj2 i (by lia) (rowN_get hi) (by rw [rowN_len]; exact hm) fun vq hvq => ?_
            with_reducible (refine e_gnm (by assumption) (by assumption) (by walk_at "gi") (by decide) ?_)
            refine e_ne encPr hA' (by assumption) hvq (mono_pair _ _ _ _ hsm₆ hR') ?_
            with_reducible (refine wpAny_truthy_bool ?_)
            by_cases hq0 : g₂ j i = (0, 1)
            · rw [if_neg (by simp [hq0])]
              rw [if_neg (by simp)]
              with_reducible (refine x_nil ?_; refine q_next ?_; refine x_nil ?_; refine unQ ?_)
              refine ⟨b₆, _, _, Gr.refl _ _, by assumption, _, vs₃, rfl, rfl, ?_⟩
              have e : elimTo (j + 1) i p g₂ = elimTo j i p g₂ := by
                funext i'; unfold elimTo
                by_cases e1 : i' = j
                · obtain rfl := e1.symm; rw [if_pos (Nat.lt_succ_self _), if_neg (Nat.lt_irrefl _)]
                  unfold elimE; rw [if_neg (by simp [hq0])]
                · by_cases e2 : i' < j
                  · rw [if_pos (by with_reducible exact Mine.m4), if_pos e2]
                  · rw [if_neg (by lia), if_neg e2]
              rw [e]; exact hvs₃
            · rw [if_pos (by simp [hq0])]
              with_reducible (refine wpAny_allTrue_And_nil ?_; refine b_tt ?_; refine x_cons ?_)
              refine e_any ?_
              with_reducible (refine cfg ?_; refine spn ?_; refine spn ?_; refine spn ?_; refine e_sp1 ?_; refine Subscript_ ?_; refine sub2 ?_)
              refine g_ow (by assumption) (by walk_at "mem") j (by lia) huj (by lia) ?_
              with_reducible (refine nm0 ?_)
              refine g_tl (by assumption) huj2 i (by lia) (rowN_get hi) (by rw [rowN_len]; exact hm) fun vq' hvq' => ?_
              with_reducible (refine e_sp0 ?_)
              refine ⟨⟨_, _, _, _, _, by assumption⟩, ?_⟩
              obtain ⟨uq, huq, huq2⟩ := hvs₃.get (mk_get (f := elimTo j i p g₂) (m := m) hpn')
              have hep : elimTo j i p g₂ p = g₂ p := by
                unfold elimTo elimE
                split
                · rw [if_neg (by simp)]
                · rfl
              rw [hep] at huq2
              rw [show (0 + (j : Int)) = (j : Int) from Int.zero_add _]
              refine take_ok (β := bitsE β i) (γ := bitsE β i + bitsE β i) G hA' (by assumption) huj huq (by lia) huj2 huq2 hvq' hm (fun c hc => (hgO j hj hjp c hc).1) (fun c hc => (hgN c hc).1) (hgO j hj hjp i hi).1 (by lia) fun vn b₇ s₂₆ hg₇ hvn H₂₆ => ?_
              with_reducible (refine q_next ?_; refine x_nil ?_; refine q_next ?_; refine x_nil ?_; refine unQ ?_)
              refine ⟨b₇, _, _, hg₇, H₂₆, _, _, rfl, rfl, ?_⟩
              have := (hvs₃.imp fun v x => mono_rrow _ _ _ _ hg₇.1).setN (i := j) hvn
              have e : (fun i' => if i' = j then (fun c => rsubF (g₂ j c) (rmulF (g₂ j i) (g₂ p c))) else elimTo j i p g₂ i') = elimTo (j + 1) i p g₂ := by
                funext i'; unfold elimTo
                by_cases e1 : i' = j
                · obtain rfl := e1.symm; rw [if_pos rfl, if_pos (Nat.lt_succ_self _)]
                  unfold elimE; rw [if_pos ⟨hjp, hq0⟩]
                · rw [if_neg e1]
                  by_cases e2 : i' < j
                  · rw [if_pos e2, if_pos (by with_reducible exact Mine.m4)]
                  · rw [if_neg e2, if_neg (by lia)]
              rw [e] at this
              exact this
        · rintro j b₆ b₇ σ₆ w₆ hs₆ ⟨o, vs₃, rfl, rfl, hvs₃⟩
          exact ⟨o, vs₃, rfl, rfl, hvs₃.imp fun v x => mono_rrow _ _ _ _ hs₆⟩
        · rintro b₆ σ₆ w₆ s₂₄ hg₆ ⟨o, vs₃, rfl, rfl, hvs₃⟩ H₂₄
          with_reducible (refine q_next ?_; refine x_cons ?_)
          refine e_any ?_
          refine meth1 PySem.F.slot_list_append PySem.F.type_list_append ?_
          with_reducible (refine nm0 ?_)
          refine ⟨P, pvs, nP, rfl, ((by assumption : St H₀ _ _ _ _ _ _ _).own (P, lstO pvs nP) (by walk_at "mem")).1, ?_⟩
          with_reducible (refine nm0 ?_)
          refine app_own (by assumption) ((by assumption : St H₀ _ _ _ _ _ _ _).own (P, lstO pvs nP) (by walk_at "mem")).1 (by rw [hp, PySem.sizeLine_eq]; lia) (by walk_at "put") fun s₂₅ H₂₅ => ?_
          with_reducible (refine q_next ?_; refine x_nil ?_; refine unQ ?_)
          refine ⟨b₆, _, _, hg₃.trans (hg₄.trans (hg₅.trans hg₆)), H₂₅, some (.int (0 + (i : Int)) t), some (.int (p : Int) t₁₁), some (.ref S), some vl, o, vs₃, nF, _, _, rfl, rfl, ?_, ?_⟩
          · rw [hstep, he, List.length_append, hp]; rfl
          · rw [hstep, he]
            rw [show mk n m (p + 1, elimE i p g₂).2 = mk n m (elimTo n i p g₂) from mk_congr fun i' hi' j' _ => by unfold elimTo; rw [if_pos hi']]
            exact hvs₃
  · rintro i b' b'' σ' w' hs ⟨o1, o2, o3, o4, o5, vs, nF, pvs, nP, rfl, rfl, hp, hvs⟩
    exact ⟨o1, o2, o3, o4, o5, vs, nF, pvs, nP, rfl, rfl, hp, hvs.imp fun v x => mono_rrow _ _ _ _ hs⟩
  · rintro b' σ' w' s₁₀ hg ⟨o1, o2, o3, o4, o5, vs, nF, pvs, nP, rfl, rfl, hp, hvs⟩ H₁₀
    unfold VE at H₁₀
    with_reducible (refine q_next ?_; refine x_cons ?_; refine wpAny_Return_some ?_; refine Tuple_ ?_; refine sp2 ?_)
    refine n_tup H₁₀ (by size_fits) fun D s₁₁ hg₁₁ H₁₁ => ?_
    with_reducible (refine q_ret ?_; refine unQ ?_)
    exact ⟨_, _, [(P, lstO pvs nP)], rfl, hg₂.trans (hg₄.trans (hg₈.trans (hg.trans hg₁₁))), H₁₁.drop (.cons _ (.cons_cons _ .slnil)), fun s'' g' H'' => h D F P pvs nP _ s'' g' (upd_self ..) hp H''⟩

/-- how many columns lead -/
noncomputable def rankE (n m : Nat) (f : Nat → Nat → Q2) : Nat := (echE n f m).1
theorem rank_ok (G : GG wd mg mb H₀) (hA : AOk 6 A) (H : St H₀ env k b σ w r s) (hR : TPair b (.ref 42) (0, 1)) {v : Value} {n m β : Nat} {f : Nat → Nat → Q2} (hv : TRmat b v (mk n m f)) (hn0 : 0 < n) (hn : n ≤ 1000) (hm : m ≤ 1000) (hf : ∀ i < n, ∀ j < m, GoodN β (f i j)) (hβ : bitsE β m ≤ 9000) {Q : Value → Shared → Prop}
    (h : ∀ b' s' t, Gr k b b' → St H₀ env k b' σ w r s' → Q (.int (rankE n m f : Int) t) s') : wpAny (model prog wd) A (call (.ref 137) [v]) Q E s := by
  refine call_fn (m := []) (n := 5) (nms := ["a"]) (σ₀ := [("a", some v)]) G hA H (f := 137) rfl rfl rfl (by decide +kernel) rfl fun L k' s₁ q cd A' hA' H₁ => ?_
  refine genQ fun _ _ => ?_
  with_reducible (refine x_cons ?_; refine wpAny_Return_some ?_; refine cbg ?_; refine e_sp1 ?_; refine Subscript_ ?_; refine cf1 ?_)
  refine ⟨⟨_, _, _, _, _, by assumption⟩, ?_⟩
  refine echelon_ok G hA' (by assumption) hR hv hn0 hn hm hf hβ fun D F P pvs np b₂ s₂ hg₂ hD hp H₂ => ?_
  with_reducible (refine cint (by assumption) fun _ _ _ => ?_)
  refine g_tup (i := 1) ((by assumption : St H₀ _ _ _ _ _ _ _).froz _ _ hD) (by decide) rfl ?_
  with_reducible (refine e_sp0 ?_)
  refine c_len (by assumption) ((by assumption : St H₀ _ _ _ _ _ _ _).own (P, lstO pvs np) (by walk_at "mem")).1 (by rw [hp, PySem.sizeLine_eq]; have := echE_le (n := n) (f := f) m; lia) fun s₃ t₃ H₃ => ?_
  with_reducible (refine q_ret ?_; refine unQ ?_)
  exact ⟨_, _, [], rfl, hg₂, H₃.drop (.cons _ .slnil), fun s'' g' H'' => by rw [hp]; exact h _ s'' _ g' H''⟩
end

section
variable {prog : Program} {wd : World} {mg mb : Str → Option Value} {H₀ : Heap}
  {env : Env} {k b : WM} {σ σ' σm : Vars} {w w' : Own} {r : RestT} {s : Shared} {A : Around} {E : Value → Shared → Prop} {n : Nat}
/-! matrices of one's own, rows and all -/
noncomputable def IsI (v : Value) (i : Int) : Prop := ∃ t, v = .int i t
structure RowO where
  a : Addr
  vs : List Value
  n : Nat
noncomputable abbrev ro (rs : List RowO) : Own := rs.map fun x => (x.a, lstO x.vs x.n)
noncomputable abbrev refs (rs : List RowO) : List Value := rs.map fun x => Value.ref x.a
noncomputable abbrev OM (F : Addr) (nF : Nat) (rs : List RowO) : Own := (F, lstO (refs rs) nF) :: ro rs
noncomputable def IsM (rs : List RowO) (n m : Nat) (f : Nat → Nat → Int) : Prop := All2 (fun x xs => All2 IsI x.vs xs) rs (mk n m f)
theorem IsM.len {rs : List RowO} {n m : Nat} {f : Nat → Nat → Int} (h : IsM rs n m f) : rs.length = n := by rw [All2.length h, mk_len]
theorem IsM.get {rs : List RowO} {n m : Nat} {f : Nat → Nat → Int} (h : IsM rs n m f) {i : Nat} (hi : i < n) : ∃ x, rs[i]? = some x ∧ All2 IsI x.vs (rowN m (f i)) := All2.get h (mk_get hi)
theorem IsM.congr {rs : List RowO} {n m : Nat} {f g : Nat → Nat → Int} (h : IsM rs n m f) (e : ∀ i < n, ∀ j < m, f i j = g i j) : IsM rs n m g := by unfold IsM at *; rw [← mk_congr e]; exact h
theorem ro_mem {rs : List RowO} {i : Nat} {x : RowO} (h : rs[i]? = some x) : (x.a, lstO x.vs x.n) ∈ ro rs := List.mem_map.mpr ⟨x, List.mem_of_getElem? h, rfl⟩
theorem refs_get {rs : List RowO} {i : Nat} {x : RowO} (h : rs[i]? = some x) : (refs rs)[i]? = some (.ref x.a) := by simp [h]
theorem refs_set {vs' : List Value} : ∀ {rs : List RowO} {i : Nat} {x : RowO}, rs[i]? = some x → refs (rs.set i ⟨x.a, vs', x.n⟩) = refs rs
  | [], _, _, h => by simp at h
  | y :: rs, 0, x, h => by simp at h; subst h; rfl
  | y :: rs, i + 1, x, h => by
    have := refs_set (rs := rs) (i := i) (x := x) (vs' := vs') (by simpa using h)
    simpa [refs] using this
theorem put_ro {vs' : List Value} : ∀ {rs : List RowO} {i : Nat} {x : RowO}, rs[i]? = some x → Put x.a (lstO vs' x.n) (ro rs) (ro (rs.set i ⟨x.a, vs', x.n⟩))
  | [], _, _, h => by simp at h
  | y :: rs, 0, x, h => by simp at h; subst h; exact .head
  | y :: rs, i + 1, x, h => .tail (put_ro (by simpa using h))

/-- a row -/
theorem g_rw {F : Addr} {nF : Nat} {rs : List RowO} {n m : Nat} {f : Nat → Nat → Int} {value slice : Expr} {iv : Int} {u : Tok} {Q : Value → Shared → Prop} (H : St H₀ env k b σ (OM F nF rs) r s) (hM : IsM rs n m f) (i : Nat) (hi : i < n) (hj : iv = (i : Int)) (hn : n ≤ 1000)
    (h : ∀ x, rs[i]? = some x → (x.a, lstO x.vs x.n) ∈ OM F nF rs → All2 IsI x.vs (rowN m (f i)) → Q (.ref x.a) s)
    (hs : ∀ a, subscripted slice false (.ref a) (.int iv u) = operate [.ref a, .int iv u] (getItem (.ref a) (.int iv u)) := by intro a; with_unfolding_all rfl) : wpAny (model prog wd) A (subscriptTail value slice (.ref F) (.int iv u)) Q E s := by
  obtain ⟨x, hx, hv⟩ := hM.get hi
  exact g_ow H List.mem_cons_self i hj (refs_get hx) (by rw [List.length_map, hM.len]; exact hn) (h x hx (List.mem_cons_of_mem _ (ro_mem hx)) hv) hs
/-- an item of it -/
theorem g_it {x : RowO} {m : Nat} {g : Nat → Int} {value slice : Expr} {jv : Int} {u : Tok} {Q : Value → Shared → Prop} (H : St H₀ env k b σ w r s) (hx : (x.a, lstO x.vs x.n) ∈ w) (hv : All2 IsI x.vs (rowN m g)) (j : Nat) (hj : j < m) (hjv : jv = (j : Int)) (hm : m ≤ 1000) (h : ∀ t, Q (.int (g j) t) s)
    (hs : ∀ a, subscripted slice false (.ref a) (.int jv u) = operate [.ref a, .int jv u] (getItem (.ref a) (.int jv u)) := by intro a; with_unfolding_all rfl) : wpAny (model prog wd) A (subscriptTail value slice (.ref x.a) (.int jv u)) Q E s := by
  obtain ⟨v, hvj, t, rfl⟩ := hv.get (rowN_get hj)
  exact g_ow H hx j hjv hvj (by rw [hv.length, rowN_len]; exact hm) (h t) hs
/-- an item is stored -/
theorem s_it {F : Addr} {nF : Nat} {rs : List RowO} {n m : Nat} {f : Nat → Nat → Int} {x : RowO} {i j : Nat} {jv y : Int} {u t : Tok} {Q : Unit → Shared → Prop} (H : St H₀ env k b σ (OM F nF rs) r s) (hM : IsM rs n m f) (hx : rs[i]? = some x) (hi : i < n) (hj : j < m) (hjv : jv = (j : Int)) (hm : m ≤ 1000)
    (h : ∀ s' rs', IsM rs' n m (fun i' j' => if i' = i ∧ j' = j then y else f i' j') → St H₀ env k b σ (OM F nF rs') r s' → Q () s') : wpAny (model prog wd) A (setItem (.ref x.a) (.int jv u) (.int y t)) Q E s := by
  subst hjv
  obtain ⟨x', hx', hv⟩ := hM.get hi
  rw [hx] at hx'; cases hx'
  refine set_own H (H.own (x.a, lstO x.vs x.n) (List.mem_cons_of_mem _ (ro_mem hx))).1 (by rw [hv.length, rowN_len]; exact hj) (by with_reducible exact Mine.m23) (w' := OM F nF (rs.set i ⟨x.a, x.vs.set j (.int y t), x.n⟩)) ?_ fun s' H' => h s' _ ?_ H'
  · unfold OM
    rw [refs_set hx]
    exact .tail (put_ro hx)
  · have h1 : All2 IsI (x.vs.set j (.int y t)) (rowN m fun j' => if j' = j then y else f i j') := by
      rw [← rowN_set]; exact hv.set ⟨t, rfl⟩ j
    have h2 : All2 (fun (x : RowO) xs => All2 IsI x.vs xs) (rs.set i ⟨x.a, x.vs.set j (.int y t), x.n⟩) ((mk n m f).set i (rowN m fun j' => if j' = j then y else f i j')) := All2.set (R := fun (x : RowO) xs => All2 IsI x.vs xs) (a := ⟨x.a, x.vs.set j (.int y t), x.n⟩) h1 hM i
    rw [mk_set] at h2
    unfold IsM
    rw [mk_congr (g := fun i' => if i' = i then (fun j' => if j' = j then y else f i j') else f i') fun i' _ j' _ => ?_]
    · exact h2
    · by_cases e1 : i' = i
      · subst e1
        rw [if_pos rfl]
        by_cases e2 : j' = j
        · rw [if_pos ⟨rfl, e2⟩, if_pos e2]
        · rw [if_neg (fun q => e2 q.2), if_neg e2]
      · rw [if_neg (fun q => e1 q.1), if_neg e1]

noncomputable def piv (n c : Nat) (f : Nat → Nat → Int) : Option Nat := (List.range' c (n - c)).find? fun r => !decide (f r c = 0)
theorem piv_none {n c : Nat} {f : Nat → Nat → Int} : piv n c f = none ↔ ∀ r, c ≤ r → r < n → f r c = 0 := by
  unfold piv
  rw [List.find?_eq_none]
  constructor
  · intro h r h1 h2
    have := h r (by rw [List.mem_range'_1]; lia)
    simpa using this
  · intro h r hr
    rw [List.mem_range'_1] at hr
    simp [h r hr.1 (by lia)]
theorem piv_some {n c r : Nat} {f : Nat → Nat → Int} (h : piv n c f = some r) : c ≤ r ∧ r < n ∧ f r c ≠ 0 := by
  unfold piv at h
  have h1 := List.find?_some h
  have h2 := List.mem_of_find?_eq_some h
  rw [List.mem_range'_1] at h2
  exact ⟨h2.1, by lia, by simpa using h1⟩
theorem piv_first {n c : Nat} {f : Nat → Nat → Int} : ∀ {i : Nat}, c + i < n → (∀ r, c ≤ r → r < c + i → f r c = 0) → f (c + i) c ≠ 0 → piv n c f = some (c + i) := by
  intro i hi h0 h1
  unfold piv
  have e : n - c = i + ((n - c - i - 1) + 1) := by lia
  rw [e, ← List.range'_append_1, List.range'_succ, List.find?_append]
  have : (List.range' c i).find? (fun r => !decide (f r c = 0)) = none := by
    rw [List.find?_eq_none]
    intro r hr
    rw [List.mem_range'_1] at hr
    simp [h0 r hr.1 hr.2]
  rw [this, List.find?_cons_of_pos (by simp [h1])]
  rfl
noncomputable def optV : Option Nat → Value → Prop
  | none, v => v = .none
  | some x, v => ∃ t, v = .int (x : Int) t
noncomputable def PvI (F : Addr) (c : Nat) (t : Tok) (nF : Nat) (rs : List RowO) (f : Nat → Nat → Int) (i : Nat) (b' : WM) (σ' : Vars) (w' : Own) : Prop := X1_3 (fun o => σ' = ([("a", some (.ref F)), ("step", some (.int (c : Int) t)), ("row", o)] : Vars)) (fun o => w' = OM F nF rs) (fun o => ∀ r, c ≤ r → r < c + i → f r c = 0)
theorem pivot_ok (G : GG wd mg mb H₀) (hA : AOk 1 A) {F : Addr} {nF : Nat} {rs : List RowO} (H : St H₀ env k b σ (OM F nF rs ++ w) r s) {n c : Nat} {t : Tok} {f : Nat → Nat → Int} (hM : IsM rs n n f) (hn : n ≤ 1000) (hc : c < n) {Q : Value → Shared → Prop}
    (h : ∀ v b' s', optV (piv n c f) v → Gr k b b' → St H₀ env k b' σ (OM F nF rs ++ w) r s' → Q v s') : wpAny (model prog wd) A (call (.ref 144) [.ref F, .int (c : Int) t]) Q E s := by
  refine call_fn (m := OM F nF rs) (n := 0) (nms := ["a", "step"]) (σ₀ := [("a", some (.ref F)), ("step", some (.int (c : Int) t)), ("row", none)]) G hA H (f := 144) rfl rfl rfl (by decide +kernel) rfl fun L k' s₁ q cd A' hA' H₁ => ?_
  refine genQ fun _ _ => ?_
  with_reducible (refine x_cons ?_)
  refine wpAny_For ?_
  with_reducible (refine ctg ?_; refine spn ?_; refine e_sp1 ?_; refine cb1 ?_)
  refine c_len (by assumption) (H₁.own _ List.mem_cons_self).1 (by rw [List.length_map, hM.len, PySem.sizeLine_eq]; with_reducible exact Mine.m22) fun s₂ t₂ H₂ => ?_
  rw [List.length_map, hM.len]
  with_reducible (refine e_sp0 ?_)
  refine c_range2 (n := n - c) hA'.handled H₂ (by lia) (by lia) (by lia) (by lia) fun I s₃ W H₃ off h0 hfp => ?_
  refine for_core (W _ _) H₃ off h0 hfp (PvI F c t nF rs f)
    ⟨none, rfl, rfl, fun r h1 h2 => by lia⟩ ?_ ?_ ?_
  · intro i v k'' b' σ' w' s₄ hi hk hg hI_ hP_ H₄
    refine genA fun _ _ => ?_
    obtain ⟨o, rfl, rfl, hz⟩ := hI_
    obtain ⟨t₄, rfl⟩ := hP_
    refine nst H₄ (by walk_at "put") (by walk_at "ok") fun s₅ H₅ => ?_
    with_reducible (refine x_cons ?_; refine wpAny_If ?_; refine wpAny_isTrue_Compare1 ?_; refine Subscript_ ?_; refine sub2 ?_)
    refine g_rw (by assumption) hM (c + i) (by lia) (by lia) hn fun x hx hxm hxv => ?_
    with_reducible (refine nm0 ?_)
    refine g_it (by assumption) hxm hxv c hc rfl hn fun t₆ => ?_
    with_reducible (refine cint (by assumption) fun _ _ _ => ?_; refine PySem.P.ne_int ?_; refine wpAny_truthy_bool ?_)
    by_cases hz' : f (c + i) c = 0
    · rw [if_neg (by simp [hz'])]
      with_reducible (refine x_nil ?_; refine q_next ?_; refine x_nil ?_; refine unQ ?_)
      refine ⟨b', _, _, Gr.refl _ _, by assumption, _, rfl, rfl, fun r h1 h2 => ?_⟩
      by_cases e : r = c + i
      · subst e; exact hz'
      · exact hz r h1 (by lia)
    · rw [if_pos (by simp [hz'])]
      with_reducible (refine x_cons ?_; refine wpAny_Return_some ?_; refine nm0 ?_; refine q_ret ?_; refine q_ret ?_; refine unQ ?_)
      refine ⟨b', _, _, Gr.refl _ _, by assumption, fun s₆ g₆ H₆ => ?_⟩
      with_reducible (refine q_ret ?_; refine unQ ?_)
      refine ⟨_, _, _, rfl, g₆, H₆, fun s'' g' H'' => h _ _ s'' ?_ g' H''⟩
      rw [piv_first (by lia) hz hz']
      exact ⟨t₄, by simp [retv]⟩
  · rintro i b' b'' σ' w' hs ⟨o, rfl, rfl, hz⟩
    exact ⟨o, rfl, rfl, hz⟩
  · rintro b' σ' w' s₄ hg ⟨o, rfl, rfl, hz⟩ H₄
    with_reducible (refine q_next ?_; refine x_cons ?_; refine wpAny_Return_some ?_; refine wpAny_Constant_none ?_; refine q_ret ?_; refine unQ ?_)
    refine ⟨_, _, _, rfl, hg, H₄, fun s'' g' H'' => h _ _ s'' ?_ g' H''⟩
    rw [piv_none.mpr fun r h1 h2 => hz r h1 (by lia)]
    rfl
end

section
variable {prog : Program} {wd : World} {mg mb : Str → Option Value} {H₀ : Heap}
  {env : Env} {k b : WM} {σ σ' σm : Vars} {w w' : Own} {r : RestT} {s : Shared} {A : Around} {E : Value → Shared → Prop} {n : Nat}
noncomputable def stB (c : Nat) (ah : Int) (f : Nat → Nat → Int) : Nat → Nat → Int := fun i j => if c < i then (if c < j then (f i j * f c c - f i c * f c j).fdiv ah else if j = c then 0 else f i j) else f i j
noncomputable def rowsTo (k c : Nat) (ah : Int) (f : Nat → Nat → Int) : Nat → Nat → Int := fun i j => if i < k then stB c ah f i j else f i j
noncomputable def colsTo (k l c : Nat) (ah : Int) (f : Nat → Nat → Int) : Nat → Nat → Int := fun i j => if i < k then stB c ah f i j else if i = k ∧ c < j ∧ j < l then stB c ah f i j else f i j
noncomputable def StI1 (F : Addr) (c : Nat) (t : Tok) (ah : Int) (u : Tok) (t₂ : Tok) (nF n : Nat) (f : Nat → Nat → Int) (i : Nat) (b' : WM) (σ' : Vars) (w' : Own) : Prop := X4_3 (fun o1 o2 o3 rs' => σ' = ([("a", some (.ref F)), ("step", some (.int (c : Int) t)), ("ahead", some (.int ah u)), ("lead", some (.int (f c c) t₂)), ("row", o1), ("first", o2), ("column", o3)] : Vars)) (fun o1 o2 o3 rs' => w' = OM F nF rs') (fun o1 o2 o3 rs' => IsM rs' n n (rowsTo (c + 1 + i) c ah f))
noncomputable def StI2 (F : Addr) (c : Nat) (t : Tok) (ah : Int) (u : Tok) (t₂ : Tok) (nF n : Nat) (f : Nat → Nat → Int) (i : Nat) (t₅ t₇ : Tok) (j : Nat) (b' : WM) (σ' : Vars) (w' : Own) : Prop := X2_3 (fun o3 rs' => σ' = ([("a", some (.ref F)), ("step", some (.int (c : Int) t)), ("ahead", some (.int ah u)), ("lead", some (.int (f c c) t₂)), ("row", some (.int ((c : Int) + 1 + (i : Int)) t₅)), ("first", some (.int (f (c + 1 + i) c) t₇)), ("column", o3)] : Vars)) (fun o3 rs' => w' = OM F nF rs') (fun o3 rs' => IsM rs' n n (colsTo (c + 1 + i) (c + 1 + j) c ah f))
theorem step_ok (G : GG wd mg mb H₀) (hA : AOk 1 A) {F : Addr} {nF : Nat} {rs : List RowO} (H : St H₀ env k b σ (OM F nF rs ++ w) r s) {n c β : Nat} {ah : Int} {t u : Tok} {f : Nat → Nat → Int} (hM : IsM rs n n f) (hn : n ≤ 1000) (hc : c < n)
    (hf : ∀ i < n, ∀ j < n, Bd β (f i j)) (ha : Bd β ah) (ha0 : ah ≠ 0) (hβ : β ≤ 9000) {Q : Value → Shared → Prop}
    (h : ∀ b' s' rs', IsM rs' n n (stB c ah f) → Gr k b b' → St H₀ env k b' σ (OM F nF rs' ++ w) r s' → Q .none s') : wpAny (model prog wd) A (call (.ref 151) [.ref F, .int (c : Int) t, .int ah u]) Q E s := by
  refine call_fn (m := OM F nF rs) (n := 0) (nms := ["a", "step", "ahead"]) (σ₀ := [("a", some (.ref F)), ("step", some (.int (c : Int) t)), ("ahead", some (.int ah u)), ("lead", none), ("row", none), ("first", none), ("column", none)]) G hA H (f := 151) rfl rfl rfl (by decide +kernel) rfl fun L k' s₁ q cd A' hA' H₁ => ?_
  refine genQ fun _ _ => ?_
  with_reducible (refine x_cons ?_)
  refine a_name ?_
  with_reducible (refine Subscript_ ?_; refine sub2 ?_)
  refine g_rw (by assumption) hM c hc rfl hn fun x hx hxm hxv => ?_
  with_reducible (refine nm0 ?_)
  refine g_it (by assumption) hxm hxv c hc rfl hn fun t₂ => ?_
  skip
  refine st (by assumption) (by walk_at "put") (by walk_at "ok") fun s₂ H₂ => ?_
  with_reducible (refine q_next ?_; refine x_cons ?_)
  refine wpAny_For ?_
  with_reducible (refine ctg ?_; refine e_sp1 ?_; refine e_bin ?_; refine nm0 ?_; refine cint (by assumption) fun _ _ _ => ?_; refine iadd (by assumption) fun _ _ _ => ?_; refine e_sp1 ?_; refine cb1 ?_)
  refine c_len (by assumption) ((by assumption : St H₀ _ _ _ _ _ _ _).own _ List.mem_cons_self).1 (by rw [List.length_map, hM.len, PySem.sizeLine_eq]; with_reducible exact Mine.m22) fun s₃ t₃ H₃ => ?_
  rw [List.length_map, hM.len]
  with_reducible (refine e_sp0 ?_)
  refine c_range2 (n := n - c - 1) hA'.handled H₃ (by lia) (by lia) (by lia) (by lia) fun I s₄ W H₄ off h0 hfp => ?_
  refine for_core (W _ _) H₄ off h0 hfp (StI1 F c t ah u t₂ nF n f)
    ⟨none, none, none, rs, rfl, rfl, hM.congr fun i hi j hj => by
      unfold rowsTo stB
      split
      · rw [if_neg (by lia)]
      · rfl⟩ ?_ ?_ ?_
  · intro i v k'' b' σ' w' s₅ hi hk hg hI_ hP_ H₅
    refine genA fun _ _ => ?_
    obtain ⟨o1, o2, o3, rs', rfl, rfl, hM'⟩ := hI_
    obtain ⟨t₅, rfl⟩ := hP_
    refine nst H₅ (by walk_at "put") (by walk_at "ok") fun s₆ H₆ => ?_
    with_reducible (refine x_cons ?_)
    refine a_name ?_
    with_reducible (refine Subscript_ ?_; refine sub2 ?_)
    refine g_rw (by assumption) hM' (c + 1 + i) (by lia) (by lia) hn fun x hx hxm hxv => ?_
    with_reducible (refine nm0 ?_)
    refine g_it (by assumption) hxm hxv c hc rfl hn fun t₇ => ?_
    have e1 : rowsTo (c + 1 + i) c ah f (c + 1 + i) c = f (c + 1 + i) c := by unfold rowsTo; rw [if_neg (Nat.lt_irrefl _)]
    rw [e1]
    skip
    refine st (by assumption) (by walk_at "put") (by walk_at "ok") fun s₇ H₇ => ?_
    with_reducible (refine q_next ?_; refine x_cons ?_)
    refine wpAny_For ?_
    with_reducible (refine ctg ?_; refine e_sp1 ?_; refine e_bin ?_; refine nm0 ?_; refine cint (by assumption) fun _ _ _ => ?_; refine iadd (by assumption) fun _ _ _ => ?_; refine e_sp1 ?_; refine cb1 ?_)
    refine c_len (by assumption) ((by assumption : St H₀ _ _ _ _ _ _ _).own _ List.mem_cons_self).1 (by rw [List.length_map, hM'.len, PySem.sizeLine_eq]; with_reducible exact Mine.m22) fun s₈ t₈ H₈ => ?_
    rw [List.length_map, hM'.len]
    with_reducible (refine e_sp0 ?_)
    refine c_range2 (n := n - c - 1) hA'.handled H₈ (by lia) (by lia) (by lia) (by lia) fun I₂ s₉ W₂ H₉ off₂ h0₂ hfp₂ => ?_
    refine for_core (W₂ _ _) H₉ off₂ h0₂ hfp₂ (StI2 F c t ah u t₂ nF n f i t₅ t₇)
      ⟨o3, rs', rfl, rfl, hM'.congr fun i' hi j hj => by
        unfold rowsTo colsTo
        split
        · rfl
        · rw [if_neg (by lia)]⟩ ?_ ?_ ?_
    · intro j v₂ k₂ b₂ σ₂ w₂ s₁₀ hj hk₂ hg₂ hI_ hP_ H₁₀
      refine genA fun _ _ => ?_
      obtain ⟨o3, rs₂, rfl, rfl, hM₂⟩ := hI_
      obtain ⟨t₁₀, rfl⟩ := hP_
      refine nst H₁₀ (by walk_at "put") (by walk_at "ok") fun s₁₁ H₁₁ => ?_
      have c1 : c + 1 + i < n := by lia
      have c2 : c + 1 + j < n := by lia
      have v1 : colsTo (c + 1 + i) (c + 1 + j) c ah f (c + 1 + i) (c + 1 + j) = f (c + 1 + i) (c + 1 + j) := by
        unfold colsTo; rw [if_neg (Nat.lt_irrefl _), if_neg (by lia)]
      have v2 : colsTo (c + 1 + i) (c + 1 + j) c ah f c (c + 1 + j) = f c (c + 1 + j) := by
        unfold colsTo stB; rw [if_pos (by lia), if_neg (Nat.lt_irrefl _)]
      with_reducible (refine x_cons ?_)
      refine wpAny_Assign_Subscript ?_
      with_reducible (refine e_bin ?_; refine e_bin ?_; refine e_bin ?_; refine Subscript_ ?_; refine sub2 ?_)
      refine g_rw (by assumption) hM₂ (c + 1 + i) c1 (by lia) hn fun x hx hxm hxv => ?_
      with_reducible (refine nm0 ?_)
      refine g_it (by assumption) hxm hxv (c + 1 + j) c2 (by lia) hn fun t₁₂ => ?_
      rw [v1]
      with_reducible (refine nm0 ?_)
      refine imul (by assumption) ((hf _ c1 _ c2).mulOk (hf c hc c hc) (by lia)) fun _ _ _ => ?_
      with_reducible (refine e_bin ?_; refine nm0 ?_; refine Subscript_ ?_; refine sub2 ?_)
      refine g_rw (by assumption) hM₂ c hc rfl hn fun x₂ hx₂ hxm₂ hxv₂ => ?_
      with_reducible (refine nm0 ?_)
      refine g_it (by assumption) hxm₂ hxv₂ (c + 1 + j) c2 (by lia) hn fun t₁₃ => ?_
      rw [v2]
      skip
      refine imul (by assumption) ((hf _ c1 c hc).mulOk (hf c hc _ c2) (by lia)) fun _ _ _ => ?_
      with_reducible (refine isub (by assumption) fun _ _ _ => ?_; refine nm0 ?_)
      refine idiv (by assumption) ha0 ha hβ fun _ _ _ => ?_
      with_reducible (refine sub2 ?_)
      refine g_rw (by assumption) hM₂ (c + 1 + i) c1 (by lia) hn fun x₃ hx₃ hxm₃ hxv₃ => ?_
      with_reducible (refine nm0 ?_)
      refine s_it (by assumption) hM₂ hx₃ c1 c2 (by lia) hn fun s₁₂ rs₃ hM₃ H₁₂ => ?_
      with_reducible (refine q_next ?_; refine x_nil ?_; refine unQ ?_)
      refine ⟨b₂, _, _, Gr.refl _ _, H₁₂, _, rs₃, rfl, rfl, hM₃.congr fun i' hi' j' hj' => ?_⟩
      unfold colsTo
      by_cases q1 : i' = c + 1 + i ∧ j' = c + 1 + j
      · obtain ⟨rfl, rfl⟩ := q1
        rw [if_pos ⟨rfl, rfl⟩, if_neg (Nat.lt_irrefl _), if_pos (by lia)]
        unfold stB
        rw [if_pos (by lia), if_pos (by lia)]
      · rw [if_neg q1]
        by_cases q2 : i' < c + 1 + i
        · rw [if_pos q2, if_pos q2]
        · rw [if_neg q2, if_neg q2]
          by_cases q3 : i' = c + 1 + i ∧ c < j' ∧ j' < c + 1 + j
          · rw [if_pos q3, if_pos (by lia)]
          · rw [if_neg q3, if_neg (by lia)]
    · rintro j b₂ b₃ σ₂ w₂ hs ⟨o3, rs₂, rfl, rfl, hM₂⟩
      exact ⟨o3, rs₂, rfl, rfl, hM₂⟩
    · rintro b₂ σ₂ w₂ s₁₀ hg₂ ⟨o3, rs₂, rfl, rfl, hM₂⟩ H₁₀
      have c1 : c + 1 + i < n := by lia
      with_reducible (refine q_next ?_; refine x_cons ?_)
      refine wpAny_Assign_Subscript ?_
      with_reducible (refine cint (by assumption) fun _ _ _ => ?_; refine sub2 ?_)
      refine g_rw (by assumption) hM₂ (c + 1 + i) c1 (by lia) hn fun x₃ hx₃ hxm₃ hxv₃ => ?_
      with_reducible (refine nm0 ?_)
      refine s_it (by assumption) hM₂ hx₃ c1 hc rfl hn fun s₁₂ rs₃ hM₃ H₁₂ => ?_
      with_reducible (refine q_next ?_; refine x_nil ?_; refine unQ ?_)
      refine ⟨b₂, _, _, hg₂, H₁₂, _, _, _, rs₃, rfl, rfl, hM₃.congr fun i' hi' j' hj' => ?_⟩
      unfold colsTo rowsTo
      by_cases q1 : i' = c + 1 + i ∧ j' = c
      · obtain ⟨rfl, e⟩ := q1
        obtain rfl := e.symm
        rw [if_pos ⟨rfl, rfl⟩, if_pos (by lia)]
        unfold stB
        rw [if_pos (by lia), if_neg (Nat.lt_irrefl _), if_pos rfl]
      · rw [if_neg q1]
        by_cases q2 : i' < c + 1 + i
        · rw [if_pos q2, if_pos (by lia)]
        · rw [if_neg q2]
          by_cases q4 : i' = c + 1 + i
          · subst q4
            rw [if_pos (show c + 1 + i < c + 1 + (i + 1) by lia)]
            by_cases q5 : c < j'
            · rw [if_pos (by lia)]
            · rw [if_neg (by lia)]
              unfold stB
              rw [if_pos (by lia), if_neg q5, if_neg (by lia)]
          · rw [if_neg (by lia), if_neg (by lia)]
  · rintro i b' b'' σ' w' hs ⟨o1, o2, o3, rs', rfl, rfl, hM'⟩
    exact ⟨o1, o2, o3, rs', rfl, rfl, hM'⟩
  · rintro b' σ' w' s₅ hg ⟨o1, o2, o3, rs', rfl, rfl, hM'⟩ H₅
    with_reducible (refine q_next ?_; refine x_nil ?_; refine unQ ?_)
    refine ⟨_, _, _, rfl, hg, H₅, fun s'' g' H'' => h _ s'' rs' (hM'.congr fun i hi j hj => ?_) g' H''⟩
    unfold rowsTo
    rw [if_pos (by lia)]
end

section
variable {prog : Program} {wd : World} {mg mb : Str → Option Value} {H₀ : Heap}
  {env : Env} {k b : WM} {σ σ' σm : Vars} {w w' : Own} {r : RestT} {s : Shared} {A : Around} {E : Value → Shared → Prop} {n : Nat}
noncomputable def detS (n : Nat) (f : Nat → Nat → Int) : Nat → Option ((Nat → Nat → Int) × Int × Int)
  | 0 => some (f, 1, 1)
  | k + 1 => match detS n f k with
    | none => none
    | some (g, sg, ah) => match piv n k g with
      | none => none
      | some r => some (stB k ah (swF r k g), if r = k then sg else -sg, swF r k g k k)
noncomputable def detB (n : Nat) (f : Nat → Nat → Int) : Int := match detS n f n with
  | none => 0
  | some (_, sg, ah) => sg * ah
noncomputable def bitsB (β : Nat) : Nat → Nat
  | 0 => β
  | k + 1 => 2 * bitsB β k + 1
theorem bitsB_mono {β i : Nat} : ∀ {j : Nat}, i ≤ j → bitsB β i ≤ bitsB β j
  | 0, h => by rw [Nat.le_zero.mp h]; exact Nat.le_refl _
  | j + 1, h => by
    by_cases e : i = j + 1
    · subst e; exact Nat.le_refl _
    · have := bitsB_mono (β := β) (i := i) (j := j) (by lia)
      show _ ≤ 2 * bitsB β j + 1
      lia
theorem detS_none {n : Nat} {f : Nat → Nat → Int} {k : Nat} (h : detS n f k = none) : ∀ {l : Nat}, k ≤ l → detS n f l = none
  | 0, hl => by rw [Nat.le_zero.mp hl] at h; exact h
  | l + 1, hl => by
    by_cases e : k = l + 1
    · rw [← e]; exact h
    · have := detS_none h (l := l) (by lia)
      unfold detS; rw [this]
theorem stB_bd {n c β : Nat} {ah : Int} {f : Nat → Nat → Int} (hf : ∀ i < n, ∀ j < n, Bd β (f i j)) (hc : c < n) : ∀ i < n, ∀ j < n, Bd (2 * β + 1) (stB c ah f i j) := fun i hi j hj => by
  unfold stB
  split
  · split
    · have := ((hf i hi j hj).mul (hf c hc c hc)).sub ((hf i hi c hc).mul (hf c hc j hj))
      exact (this.fdiv ah).mono (by lia)
    · split
      · unfold Bd; simp; exact Nat.pow_pos (by decide)
      · exact (hf i hi j hj).mono (by lia)
  · exact (hf i hi j hj).mono (by lia)
theorem swF_bd {n a c β : Nat} {f : Nat → Nat → Int} (hf : ∀ i < n, ∀ j < n, Bd β (f i j)) (ha : a < n) (hc : c < n) : ∀ i < n, ∀ j < n, Bd β (swF a c f i j) := fun i hi j hj => by
  unfold swF
  split
  · exact hf a ha j hj
  · split
    · exact hf c hc j hj
    · exact hf i hi j hj
theorem detS_inv {n β : Nat} {f : Nat → Nat → Int} (hf : ∀ i < n, ∀ j < n, Bd β (f i j)) : ∀ {k : Nat}, k ≤ n → ∀ {g sg ah}, detS n f k = some (g, sg, ah) → (∀ i < n, ∀ j < n, Bd (bitsB (β + 1) k) (g i j)) ∧ (sg = 1 ∨ sg = -1) ∧ Bd (bitsB (β + 1) k) ah ∧ ah ≠ 0
  | 0, _, g, sg, ah, h => by
    cases h
    exact ⟨fun i hi j hj => (hf i hi j hj).mono (Nat.le_succ β), .inl rfl, Bd.one, by decide⟩
  | k + 1, hk, g, sg, ah, h => by
    unfold detS at h
    cases e : detS n f k with
    | none => rw [e] at h; cases h
    | some st =>
      obtain ⟨g', sg', ah'⟩ := st
      rw [e] at h
      dsimp only at h
      obtain ⟨i1, i2, i3, i4⟩ := detS_inv hf (k := k) (by with_reducible exact Mine.m7) e
      cases e2 : piv n k g' with
      | none => rw [e2] at h; cases h
      | some r =>
        rw [e2] at h
        dsimp only at h
        cases h
        obtain ⟨p1, p2, p3⟩ := piv_some e2
        have hs := swF_bd i1 p2 (show k < n by with_reducible exact Mine.m8)
        refine ⟨stB_bd hs (by with_reducible exact Mine.m8), ?_, (hs k (by with_reducible exact Mine.m8) k (by with_reducible exact Mine.m8)).mono (by show _ ≤ 2 * _ + 1; lia), ?_⟩
        · split
          · exact i2
          · rcases i2 with rfl | rfl <;> simp
        · unfold swF; rw [if_pos rfl]; exact p3

/-- the list of one's own, its rows in another order -/
theorem St.permO {F : Addr} {nF : Nat} {rs rs' : List RowO} (h : rs.Perm rs') {vs : List Value} (H : St H₀ env k b σ ((F, lstO vs nF) :: ro rs) r s) : St H₀ env k b σ ((F, lstO vs nF) :: ro rs') r s :=
  H.perm ((h.map _).cons _)

theorem set_set_perm {α : Type} {l : List α} {i j : Nat} {x y : α} (hi : l[i]? = some x) (hj : l[j]? = some y) : l.Perm ((l.set i y).set j x) := by
  obtain ⟨h1, rfl⟩ := List.getElem?_eq_some_iff.mp hi
  obtain ⟨h2, rfl⟩ := List.getElem?_eq_some_iff.mp hj
  exact (List.set_set_perm h1 h2).symm
theorem IsM.swap {rs : List RowO} {n i j : Nat} {f : Nat → Nat → Int} (h : IsM rs n n f) {x y : RowO} (hi : rs[i]? = some x) (hj : rs[j]? = some y) (hin : i < n) (hjn : j < n) : IsM ((rs.set i y).set j x) n n (swF i j f) := by
  obtain ⟨x', hx', hxv⟩ := h.get hin
  obtain ⟨y', hy', hyv⟩ := h.get hjn
  rw [hi] at hx'; cases hx'
  rw [hj] at hy'; cases hy'
  have h1 := All2.set (R := fun (x : RowO) xs => All2 IsI x.vs xs) (a := y) hyv h i
  rw [mk_set] at h1
  have h2 := All2.set (R := fun (x : RowO) xs => All2 IsI x.vs xs) (a := x) hxv h1 j
  rw [mk_set] at h2
  unfold IsM
  have e : (fun i' => if i' = j then f i else (fun i' => if i' = i then f j else f i') i') = swF i j f := by
    funext i'; unfold swF; rfl
  rw [e] at h2
  exact h2
theorem refs_swap {rs : List RowO} {i j : Nat} {x y : RowO} : refs ((rs.set i y).set j x) = ((refs rs).set i (.ref y.a)).set j (.ref x.a) := by
  simp [refs, List.map_set]

theorem filter_ff {α : Type} : ∀ xs : List α, xs.filter (fun _ => false) = []
  | [] => rfl
  | x :: r => by rw [List.filter_cons_of_neg (by simp), filter_ff r]
noncomputable def DtI (a F : Addr) (n : Nat) (f : Nat → Nat → Int) (i : Nat) (b' : WM) (σ' : Vars) (w' : Own) : Prop := X9_4 (fun o1 o2 g sg ah t1 t2 rs nF => σ' = ([("a", some (.ref a)), ("row", o1), ("found", some (.ref F)), ("sign", some (.int sg t1)), ("ahead", some (.int ah t2)), ("step", o2)] : Vars)) (fun o1 o2 g sg ah t1 t2 rs nF => w' = OM F nF rs) (fun o1 o2 g sg ah t1 t2 rs nF => detS n f i = some (g, sg, ah)) (fun o1 o2 g sg ah t1 t2 rs nF => IsM rs n n g)
theorem determinant_ok (G : GG wd mg mb H₀) (hA : AOk 2 A) (H : St H₀ env k b σ w r s) {v : Value} {n β : Nat} {f : Nat → Nat → Int} (hv : TMat b v (mk n n f)) (hn : n ≤ 1000) (hf : ∀ i < n, ∀ j < n, Bd β (f i j)) (hβ : bitsB (β + 1) n ≤ 9000) {Q : Value → Shared → Prop}
    (h : ∀ t b' s', Gr k b b' → St H₀ env k b' σ w r s' → Q (.int (detB n f) t) s') : wpAny (model prog wd) A (call (.ref 156) [v]) Q E s := by
  refine call_fn (m := []) (n := 1) (nms := ["a"]) (σ₀ := [("a", some v), ("row", none), ("found", none), ("sign", none), ("ahead", none), ("step", none)]) G hA H (f := 156) rfl rfl rfl (by decide +kernel) rfl fun L k' s₁ q cd A' hA' H₁ => ?_
  refine genQ fun _ _ => ?_
  with_reducible (refine x_cons ?_; refine wpAny_If ?_; refine wpAny_isTrue_Compare1 ?_)
  refine lcomp (σ := [("a", some v), ("row", none), ("found", none), ("sign", none), ("ahead", none), ("step", none)]) (σc := [("row", none), ("a", some v)]) (by walk_at "side") ?_
  with_reducible (refine nm0 ?_)
  obtain ⟨a, vs, nn, rfl, ha, al⟩ := hv
  refine src_list hA'.handled (by assumption) ha fun I s₂ W H₂ off h0 hfp => ?_
  refine map_eval (xs := mk n n f) (keep := fun _ => false) (f := id) (PY := TRow) mono_row (σ := [("a", some (.ref a)), ("row", none), ("found", none), ("sign", none), ("ahead", none), ("step", none)]) (σc := [("row", none), ("a", some (.ref a))]) (by walk_at "side") (fun u => [("row", some u), ("a", some (.ref a))]) (fun _ => .head) (by simp) (fun _ => by walk_at "ok") (W _ _) H₂ off h0 hfp al.length (by rw [PySem.sizeLine_eq, mk_len]; with_reducible exact Mine.m22) (fun i x₀ v C k'' b' s'' hx hk hg hP H₃ => ?_) (fun D b₃ s₃ hg₃ hD H₃ => ?_)
  · refine Turn.one ?_
    refine genQ fun _ _ => ?_
    have hyx := al.at' hP hx
    obtain ⟨j, hj, rfl⟩ := mk_mem (List.mem_of_getElem? hx)
    with_reducible (refine wpAny_isTrue_Compare1 ?_; refine cb1 ?_)
    refine c_lenT (by assumption) (mono_row _ _ _ _ hg.1 hyx) (by rw [rowN_len]; exact hn) fun s₄ t₄ H₄ => ?_
    with_reducible (refine cb1 ?_)
    refine c_lenT (by assumption) (P := TRow) ⟨a, vs, nn, rfl, hg.1 _ _ ha, al.imp fun v x => mono_row _ _ _ _ hg.1⟩ (by rw [mk_len]; exact hn) fun s₅ t₅ H₅ => ?_
    with_reducible (refine PySem.P.ne_int ?_; refine wpAny_truthy_bool ?_; refine unQ ?_)
    refine ⟨?_, b', Gr.refl _ _, H₅, fun h => by cases h⟩
    rw [rowN_len, mk_len]; simp
  · with_reducible (refine List_ ?_; refine e_sp0 ?_)
    refine n_list (by assumption) (by size_fits) fun D₂ s₄ hg₄ H₄ _ => ?_
    have hD' : TMat b₃ (.ref D) [] := by simpa [filter_ff] using hD
    refine e_ne encI.list.list hA' H₄ (mono_mat _ _ _ _ hg₄.1 hD') (x := []) (y := []) ⟨D₂, [], 0, rfl, upd_self .., .nil⟩ ?_
    with_reducible (refine wpAny_truthy_bool ?_)
    rw [if_neg (by simp)]
    with_reducible (refine x_nil ?_; refine q_next ?_; refine x_cons ?_)
    refine swp3 ?_
    with_reducible (refine Tuple_ ?_; refine e_sp1 ?_)
    refine lcomp (σ := [("a", some (.ref a)), ("row", none), ("found", none), ("sign", none), ("ahead", none), ("step", none)]) (σc := [("row", none)]) (by walk_at "side") ?_
    with_reducible (refine nm0 ?_)
    have hs₄ : Sub b (upd b₃ D₂ (lstO [] 0)) := hg₃.1.trans hg₄.1
    refine src_list hA'.handled (by assumption) (hs₄ _ _ ha) fun I₂ s₅ W₂ H₅ off₂ h0₂ hfp₂ => ?_
    refine goal_eval (σ := [("a", some (.ref a)), ("row", none), ("found", none), ("sign", none), ("ahead", none), ("step", none)]) (σc := [("row", none)]) (by walk_at "side") (W₂ _ _) H₅ off₂ h0₂ hfp₂ (by rw [al.length, PySem.sizeLine_eq, mk_len]; with_reducible exact Mine.m22)
      (fun i b' w' ys => X1_3 (fun rs => w' = ro rs) (fun rs => ys = refs rs) (fun rs => All2 (fun (x : RowO) xs => All2 IsI x.vs xs) rs ((mk n n f).take i))) ⟨[], rfl, rfl, by simp; exact .nil⟩ (fun i b' b'' w' ys hs h => h) (fun i v C k'' b' w' ys s'' hi hk hg hinv hP H₆ => ?_) (fun F b' w' ys s' hg hinv H₆ => ?_)
    · obtain ⟨rs, rfl, rfl, hrs⟩ := hinv
      have hi' : i < n := by rw [al.length, mk_len] at hi; exact hi
      have hyx := al.at' hP (mk_get hi')
      obtain ⟨c, ws, n', rfl, hc, al'⟩ := hyx
      refine nst H₆ (.head) (by walk_at "ok") fun s₇ H₇ => ?_
      refine tests_nil ?_
      with_reducible (refine b_tt ?_; refine ct1 ?_)
      refine c_list (by assumption) (H₇.froz _ _ (hg.1 _ _ (hs₄ _ _ hc))) (by rw [al'.length, rowN_len, PySem.sizeLine_eq]; with_reducible exact Mine.m22) fun D c' s₈ _ _ H₈ => ?_
      refine ⟨b', _, _, Gr.refl _ _, H₈.perm (w' := ro (rs ++ [⟨D, ws, c'⟩])) ?_, keepc .head (by simp) (by simp), rs ++ [⟨D, ws, c'⟩], rfl, by simp [refs], ?_⟩
      · show ((D, lstO ws c') :: ro rs).Perm (ro (rs ++ [⟨D, ws, c'⟩]))
        unfold ro
        rw [List.map_append]
        exact (List.perm_append_singleton _ _).symm
      · rw [List.take_add_one, mk_get hi']
        exact hrs.append (.cons (al'.imp fun v x h => h) .nil)
    · obtain ⟨rs, rfl, rfl, hrs⟩ := hinv
      rw [al.length, List.take_length] at hrs
      have hM : IsM rs n n f := hrs
      with_reducible (refine e_sp1 ?_; refine cint (by assumption) fun _ _ _ => ?_; refine e_sp1 ?_; refine cint (by assumption) fun _ _ _ => ?_; refine e_sp0 ?_)
      refine n_tup (by assumption) (by size_fits) fun D₃ s₇ hg₇ H₇ => ?_
      refine unp hA'.handled H₇ (upd_self ..) 3 rfl fun s₈ H₈ => ?_
      refine aio (bst H₈ (by walk_at "put") (by walk_at "ok") fun s₉ H₉ => ?_)
      refine aio (bst H₉ (by walk_at "put") (by walk_at "ok") fun s₁₀ H₁₀ => ?_)
      refine aio (bst H₁₀ (by walk_at "put") (by walk_at "ok") fun s₁₁ H₁₁ => ?_)
      refine aio_nil ?_
      with_reducible (refine q_next ?_; refine x_cons ?_)
      refine wpAny_For ?_
      with_reducible (refine ctg ?_; refine e_sp1 ?_; refine cb1 ?_)
      have hs₇ : Sub b _ := hs₄.trans (hg.1.trans hg₇.1)
      refine c_lenT (by assumption) (P := TRow) (xs := mk n n f) ⟨a, vs, nn, rfl, hs₇ _ _ ha, al.imp fun v x => mono_row _ _ _ _ hs₇⟩ (by rw [mk_len]; exact hn) fun s₁₂ t₁₂ H₁₂ => ?_
      rw [mk_len]
      with_reducible (refine e_sp0 ?_)
      refine c_range1 hA'.handled (by assumption) hn fun I₃ s₁₃ W₃ H₁₃ off₃ h0₃ hfp₃ => ?_
      refine for_core (W₃ _ _) H₁₃ off₃ h0₃ hfp₃ (DtI a F n f)
        ⟨none, none, f, 1, 1, _, _, rs, _, rfl, rfl, rfl, hM⟩ ?_ ?_ ?_
      · intro i v k'' b₆ σ' w' s₁₄ hi hk hg₆ hI_ hP_ H₁₄
        refine genA fun _ _ => ?_
        obtain ⟨o1, o2, g, sg, ah, t1, t2, rs, nF, rfl, rfl, hst, hM⟩ := hI_
        obtain ⟨t₁₄, rfl⟩ := hP_
        refine nst H₁₄ (by walk_at "put") (by walk_at "ok") fun s₁₅ H₁₅ => ?_
        obtain ⟨i1, i2, i3, i4⟩ := detS_inv hf (k := i) (by with_reducible exact Mine.m3) hst
        have hbits : 2 * bitsB (β + 1) i + 1 ≤ 9000 := Nat.le_trans (bitsB_mono (β := β + 1) (i := i + 1) (j := n) (by lia)) hβ
        with_reducible (refine x_cons ?_)
        refine a_name ?_
        with_reducible (refine cf2 ?_)
        refine ⟨⟨_, _, _, _, _, by assumption⟩, ?_⟩
        rw [show (0 + (i : Int)) = (i : Int) from Int.zero_add _]
        refine pivot_ok (w := []) G hA' (by rw [List.append_nil]; assumption) hM hn hi fun v₇ b₇ s₁₆ hpv hg₇' H₁₆ => ?_
        rw [List.append_nil] at H₁₆
        refine st H₁₆ (by walk_at "put") (by walk_at "ok") fun s₁₇ H₁₇ => ?_
        with_reducible (refine q_next ?_; refine x_cons ?_; refine wpAny_If ?_; refine wpAny_isTrue_Compare1 ?_; refine nm0 ?_; refine wpAny_Constant_none ?_)
        cases hpe : piv n i g with
        | none =>
          rw [hpe] at hpv
          obtain rfl : v₇ = .none := hpv
          refine PySem.is_none ?_
          rw [show ((Value.none == Value.none) : Bool) = true from rfl]
          with_reducible (refine wpAny_truthy_bool ?_; refine b_tt ?_; refine x_cons ?_; refine wpAny_Return_some ?_; refine cint (by assumption) fun _ _ _ => ?_; refine q_ret ?_; refine q_ret ?_; refine unQ ?_)
          refine ⟨_, _, _, hg₇', (by assumption), fun s₁₈ g₁₈ H₁₈ => ?_⟩
          with_reducible (refine q_ret ?_; refine unQ ?_)
          refine ⟨_, _, [], rfl, hg₃.trans (hg₄.trans (hg.trans (hg₇.trans g₁₈))), H₁₈.drop (List.nil_sublist _), fun s'' g' H'' => ?_⟩
          have hz : detS n f n = none := detS_none (k := i + 1) (by unfold detS; rw [hst]; dsimp only; rw [hpe]) (by lia)
          have := h ?_ _ s'' g' H''
          · unfold detB at this
            rw [hz] at this
            exact this
        | some rw' =>
          rw [hpe] at hpv
          obtain ⟨t₇, rfl⟩ := hpv
          obtain ⟨p1, p2, p3⟩ := piv_some hpe
          refine PySem.is_none ?_
          rw [show ((Value.int (rw' : Int) t₇ == Value.none) : Bool) = false from rfl]
          with_reducible (refine wpAny_truthy_bool ?_; refine b_ff ?_; refine x_nil ?_; refine q_next ?_; refine x_cons ?_; refine wpAny_If ?_; refine wpAny_isTrue_Compare1 ?_; refine nm0 ?_; refine nm0 ?_; refine PySem.P.ne_int ?_; refine wpAny_truthy_bool ?_)
          by_cases hri : rw' = i
          · rw [if_neg (by simp [hri])]
            with_reducible (refine x_nil ?_; refine q_next ?_; refine x_cons ?_)
            have hM₂ := hM
            have hb₂ := i1
            refine e_any ?_
            with_reducible (refine cfg ?_; refine spn ?_; refine sp2 ?_)
            refine ⟨⟨_, _, _, _, _, by assumption⟩, ?_⟩
            try rw [show (0 + (i : Int)) = (i : Int) from Int.zero_add _]
            refine step_ok (w := []) (β := bitsB (β + 1) i) G hA' (by rw [List.append_nil]; assumption) hM₂ hn hi hb₂ i3 i4 (by lia) fun b₈ s₂₀ rs₃ hM₃ hg₈ H₂₀ => ?_
            rw [List.append_nil] at H₂₀
            with_reducible (refine q_next ?_; refine x_cons ?_)
            refine a_name ?_
            with_reducible (refine Subscript_ ?_; refine sub2 ?_)
            refine g_rw (by assumption) hM₃ i hi (by lia) hn fun x hx hxm hxv => ?_
            with_reducible (refine nm0 ?_)
            refine g_it (by assumption) hxm hxv i hi (by lia) hn fun t₂₁ => ?_
            skip
            refine st (by assumption) (by walk_at "put") (by walk_at "ok") fun s₂₁ H₂₁ => ?_
            with_reducible (refine q_next ?_; refine x_nil ?_; refine unQ ?_)
            refine ⟨b₈, _, _, hg₇'.trans hg₈, H₂₁, _, _, _, _, _, _, _, rs₃, nF, rfl, rfl, ?_, hM₃⟩
            unfold detS
            rw [hst]
            dsimp only
            rw [hpe]
            dsimp only
            have e0 : swF rw' i g = g := by
              funext i'; unfold swF
              by_cases q : i' = i
              · rw [if_pos q, hri, q]
              · rw [if_neg q, hri, if_neg q]
            rw [e0, if_pos hri]
            have e1 : stB i ah g i i = g i i := by unfold stB; rw [if_neg (Nat.lt_irrefl _)]
            rw [e1]
          · rw [if_pos (by simp; lia)]
            with_reducible (refine x_cons ?_)
            obtain ⟨xr, hxr, _⟩ := hM.get p2
            obtain ⟨xi, hxi, _⟩ := hM.get hi
            have hrl : (refs rs).length = n := by rw [List.length_map, hM.len]
            refine a_tup ?_
            with_reducible (refine Tuple_ ?_; refine e_sp1 ?_; refine sub2 ?_)
            refine g_ow (by assumption) List.mem_cons_self i (by lia) (refs_get hxi) (by lia) ?_
            with_reducible (refine e_sp1 ?_; refine sub2 ?_)
            refine g_ow (by assumption) List.mem_cons_self rw' rfl (refs_get hxr) (by lia) ?_
            with_reducible (refine e_sp0 ?_)
            refine n_tup (by assumption) (by size_fits) fun D₉ s₁₈ hg₁₈ H₁₈ => ?_
            refine tst hA'.handled H₁₈ (upd_self ..) rfl rfl fun s₁₉ H₁₉ => ?_
            refine aio (sst ?_)
            with_reducible (refine nm0 ?_; refine nm0 ?_)
            refine set_own H₁₉ (H₁₉.own _ List.mem_cons_self).1 (by lia) (by with_reducible exact Mine.m23) .head fun s₂₀ H₂₀ => ?_
            refine aio (sst ?_)
            with_reducible (refine nm0 ?_; refine nm0 ?_)
            rw [show (0 + (i : Int)) = (i : Int) from Int.zero_add _]
            refine set_own H₂₀ (H₂₀.own _ List.mem_cons_self).1 (by rw [List.length_set]; lia) (by with_reducible exact Mine.m23) .head fun s₂₁ H₂₁ => ?_
            refine aio_nil ?_
            have H₂₂ := St.permO (set_set_perm hxr hxi) H₂₁
            rw [← refs_swap] at H₂₂
            have hM₂ := hM.swap hxr hxi p2 hi
            have hb₂ := swF_bd i1 p2 hi
            generalize (rs.set rw' xi).set i xr = rs₂ at hM₂ H₂₂
            with_reducible (refine q_next ?_; refine x_cons ?_)
            refine a_name ?_
            with_reducible (refine wpAny_UnaryOp ?_; refine nm0 ?_; refine ineg (by assumption) fun _ _ _ => ?_)
            refine st (by assumption) (by walk_at "put") (by walk_at "ok") fun s₂₃ H₂₃ => ?_
            with_reducible (refine q_next ?_; refine x_nil ?_; refine q_next ?_; refine x_cons ?_)
            refine e_any ?_
            with_reducible (refine cfg ?_; refine spn ?_; refine sp2 ?_)
            refine ⟨⟨_, _, _, _, _, by assumption⟩, ?_⟩
            try rw [show (0 + (i : Int)) = (i : Int) from Int.zero_add _]
            refine step_ok (w := []) (β := bitsB (β + 1) i) G hA' (by rw [List.append_nil]; assumption) hM₂ hn hi hb₂ i3 i4 (by lia) fun b₈ s₂₀ rs₃ hM₃ hg₈ H₂₀ => ?_
            rw [List.append_nil] at H₂₀
            with_reducible (refine q_next ?_; refine x_cons ?_)
            refine a_name ?_
            with_reducible (refine Subscript_ ?_; refine sub2 ?_)
            refine g_rw (by assumption) hM₃ i hi (by lia) hn fun x hx hxm hxv => ?_
            with_reducible (refine nm0 ?_)
            refine g_it (by assumption) hxm hxv i hi (by lia) hn fun t₂₁ => ?_
            skip
            refine st (by assumption) (by walk_at "put") (by walk_at "ok") fun s₂₁ H₂₁ => ?_
            with_reducible (refine q_next ?_; refine x_nil ?_; refine unQ ?_)
            refine ⟨b₈, _, _, hg₇'.trans (hg₁₈.trans hg₈), H₂₁, _, _, _, _, _, _, _, rs₃, nF, rfl, rfl, ?_, hM₃⟩
            unfold detS
            rw [hst]
            dsimp only
            rw [hpe]
            dsimp only
            rw [if_neg hri]
            have e1 : stB i ah (swF rw' i g) i i = swF rw' i g i i := by unfold stB; rw [if_neg (Nat.lt_irrefl _)]
            rw [e1]
      · rintro i b' b'' σ' w' hs h
        exact h
      · rintro b₆ σ' w' s₁₄ hg₆ ⟨o1, o2, g, sg, ah, t1, t2, rs, nF, rfl, rfl, hst, hM⟩ H₁₄
        with_reducible (refine q_next ?_; refine x_cons ?_; refine wpAny_Return_some ?_; refine bin2 ?_)
        obtain ⟨i1, i2, i3, i4⟩ := detS_inv hf (Nat.le_refl n) hst
        have hbits : bitsB (β + 1) n ≤ 9000 := hβ
        refine imul (by assumption) (Bd.mulOk (β := 1) (by rcases i2 with rfl | rfl <;> (unfold Bd; decide)) i3 (by lia)) fun _ _ _ => ?_
        with_reducible (refine q_ret ?_; refine unQ ?_)
        refine ⟨_, _, [], rfl, hg₃.trans (hg₄.trans (hg.trans (hg₇.trans hg₆))), (by assumption : St H₀ _ _ _ _ _ _ _).drop (List.nil_sublist _), fun s'' g' H'' => ?_⟩
        have := h ?_ _ s'' g' H''
        · unfold detB at this
          rw [hst] at this
          exact this
end

section
variable {prog : Program} {wd : World} {mg mb : Str → Option Value} {H₀ : Heap}
  {env : Env} {k b : WM} {σ σ' σm : Vars} {w w' : Own} {r : RestT} {s : Shared} {A : Around} {E : Value → Shared → Prop} {n : Nat}
noncomputable def skip (r i : Nat) : Nat := if i < r then i else i + 1
theorem filter_skip (n r : Nat) (h : r ≤ n) : (List.range (n + 1)).filter (fun i => !decide (i = r)) = (List.range n).map (skip r) := by
  have e1 : List.range (n + 1) = List.range' 0 r ++ (r :: List.range' (r + 1) (n - r)) := by
    rw [List.range_eq_range', show n + 1 = r + ((n - r) + 1) by lia, ← List.range'_append_1, List.range'_succ, Nat.zero_add]
  have e2 : List.range n = List.range' 0 r ++ List.range' r (n - r) := by
    rw [List.range_eq_range']
    conv => lhs; rw [show n = r + (n - r) by lia]
    rw [← List.range'_append_1, Nat.zero_add]
  rw [e1, e2, List.filter_append, List.map_append, List.filter_cons_of_neg (by simp)]
  congr 1
  · rw [List.filter_eq_self.mpr fun a ha => by rw [List.mem_range'_1] at ha; simp; lia]
    conv => lhs; rw [← List.map_id (List.range' 0 r)]
    refine List.map_congr_left fun a ha => ?_
    rw [List.mem_range'_1] at ha
    unfold skip; rw [if_pos (by lia)]; rfl
  · rw [List.filter_eq_self.mpr fun a ha => by rw [List.mem_range'_1] at ha; simp; lia]
    rw [List.range'_eq_map_range, List.range'_eq_map_range (s := r), List.map_map]
    refine List.map_congr_left fun a ha => ?_
    simp only [Function.comp]
    unfold skip; rw [if_neg (by lia)]; lia
noncomputable def minF {α : Type} (r c : Nat) (f : Nat → Nat → α) : Nat → Nat → α := fun i j => f (skip r i) (skip c j)
theorem minor_ok (G : GG wd mg mb H₀) (hA : AOk 1 A) (H : St H₀ env k b σ w r s) {v : Value} {n rr cc : Nat} {tr tc : Tok} {f : Nat → Nat → Int} (hv : TMat b v (mk (n + 1) (n + 1) f)) (hn : n + 1 ≤ 1000) (hr : rr ≤ n) (hc : cc ≤ n) {Q : Value → Shared → Prop}
    (h : ∀ v b' s', Gr k b b' → St H₀ env k b' σ w r s' → TMat b' v (mk n n (minF rr cc f)) → Q v s') : wpAny (model prog wd) A (call (.ref 161) [v, .int (rr : Int) tr, .int (cc : Int) tc]) Q E s := by
  refine call_fn (m := []) (n := 0) (nms := ["a", "row", "column"]) (σ₀ := [("a", some v), ("row", some (.int (rr : Int) tr)), ("column", some (.int (cc : Int) tc))]) G hA H (f := 161) rfl rfl rfl (by decide +kernel) rfl fun L k' s₁ q cd A' hA' H₁ => ?_
  refine genQ fun _ _ => ?_
  with_reducible (refine x_cons ?_; refine wpAny_Return_some ?_)
  refine lcomp (σ := [("a", some v), ("row", some (.int (rr : Int) tr)), ("column", some (.int (cc : Int) tc))]) (σc := [("spot", none), ("line", none), ("column", some (.int (cc : Int) tc)), ("row", some (.int (rr : Int) tr))]) (by walk_at "side") ?_
  with_reducible (refine ct1 ?_)
  obtain ⟨a, vs, nn, rfl, ha, al⟩ := hv
  refine src_enum hA'.handled (by assumption) ha fun e it s₂ W H₂ off h0 hfp => ?_
  have hvl : vs.length = n + 1 := by rw [al.length, mk_len]
  refine map2_eval (xs := List.range (n + 1)) (keep := fun i => !decide (i = rr)) (f := fun i => rowN n fun j => f i (skip cc j)) (PY := TRow) hA'.handled mono_row (σ := [("a", some (.ref a)), ("row", some (.int (rr : Int) tr)), ("column", some (.int (cc : Int) tc))]) (σc := [("spot", none), ("line", none), ("column", some (.int (cc : Int) tc)), ("row", some (.int (rr : Int) tr))]) (by walk_at "side")
    (fun x => [("spot", some x), ("line", none), ("column", some (.int (cc : Int) tc)), ("row", some (.int (rr : Int) tr))]) (fun x y => [("spot", some x), ("line", some y), ("column", some (.int (cc : Int) tc)), ("row", some (.int (rr : Int) tr))]) (fun _ => .head) (fun _ _ => .tail .head) (by simp) (by simp) (fun _ => by walk_at "ok") (fun _ => by walk_at "ok")
    (W _ _ _) H₂ off h0 hfp (by simpa using hvl) (by rw [PySem.sizeLine_eq]; simp; lia) (fun i x₀ v tk C k'' b' s'' hx hv hk hg H₃ => ?_) (fun D b' s' hg hD H₃ => ?_)
  · obtain ⟨hi, rfl⟩ := List.getElem?_eq_some_iff.mp hx
    have hi' : i < n + 1 := by simpa using hi
    rw [List.getElem_range]
    refine Turn.one ?_
    refine genQ fun _ _ => ?_
    with_reducible (refine wpAny_isTrue_Compare1 ?_; refine nm0 ?_; refine nm0 ?_; refine PySem.P.ne_int ?_; refine wpAny_truthy_bool ?_; refine unQ ?_)
    refine ⟨?_, b', Gr.refl _ _, H₃, fun _ => ?_⟩
    · rw [Bool.eq_iff_iff]; simp; lia
    have hyx := al.at' hv (mk_get hi')
    refine lcomp (σ := [("spot", some (.int (i : Int) tk)), ("line", some v), ("column", some (.int (cc : Int) tc)), ("row", some (.int (rr : Int) tr))]) (σc := [("at", none), ("one", none), ("column", some (.int (cc : Int) tc))]) (by walk_at "side") ?_
    with_reducible (refine ct1 ?_)
    obtain ⟨a₂, ws, n₂, rfl, ha₂, al₂⟩ := hyx
    refine src_enum hA'.handled (by assumption) (hg.1 _ _ ha₂) fun e₂ it₂ s₄ W₂ H₄ off₂ h0₂ hfp₂ => ?_
    refine map2_eval (xs := List.range (n + 1)) (keep := fun j => !decide (j = cc)) (f := fun j => f i j) (PY := TInt) hA'.handled mono_int (σc := [("at", none), ("one", none), ("column", some (.int (cc : Int) tc))]) (by walk_at "side")
      (fun x => [("at", some x), ("one", none), ("column", some (.int (cc : Int) tc))]) (fun x y => [("at", some x), ("one", some y), ("column", some (.int (cc : Int) tc))]) (fun _ => .head) (fun _ _ => .tail .head) (by simp) (by simp) (fun _ => by walk_at "ok") (fun _ => by walk_at "ok")
      (W₂ _ _ _) H₄ off₂ h0₂ hfp₂ (by rw [al₂.length, rowN_len]; simp) (by rw [PySem.sizeLine_eq]; simp; lia) (fun j y₀ u tk₂ C₂ k₂ b₂ s₅ hx₂ hu hk₂ hg₂ H₅ => ?_) (fun D b₂ s₅ hg₂ hD H₅ => ?_)
    · obtain ⟨hj, rfl⟩ := List.getElem?_eq_some_iff.mp hx₂
      have hj' : j < n + 1 := by simpa using hj
      rw [List.getElem_range]
      refine Turn.one ?_
      refine genQ fun _ _ => ?_
      with_reducible (refine wpAny_isTrue_Compare1 ?_; refine nm0 ?_; refine nm0 ?_; refine PySem.P.ne_int ?_; refine wpAny_truthy_bool ?_; refine unQ ?_)
      refine ⟨?_, b₂, Gr.refl _ _, H₅, fun _ => ?_⟩
      · rw [Bool.eq_iff_iff]; simp; lia
      have hzx := al₂.at' hu (rowN_get hj')
      with_reducible (refine nm0 ?_)
      exact ⟨b₂, Gr.refl _ _, H₅, hzx⟩
    · refine ⟨b₂, hg₂, H₅, ?_⟩
      rw [filter_skip n cc hc, List.map_map] at hD
      exact hD
  · with_reducible (refine q_ret ?_; refine unQ ?_)
    refine ⟨_, _, [], rfl, hg, H₃, fun s'' g' H'' => h _ _ s'' g' H'' ?_⟩
    rw [filter_skip n rr hr, List.map_map] at hD
    exact hD
end

section
variable {prog : Program} {wd : World} {mg mb : Str → Option Value} {H₀ : Heap}
  {env : Env} {k b : WM} {σ σ' σm : Vars} {w w' : Own} {r : RestT} {s : Shared} {A : Around} {E : Value → Shared → Prop} {n : Nat}
/-! parts of a list -/
theorem e_upto {α : Type} {P : TP α} {xs : List α} {value e : Expr} {p : Pos} {o : Value} {Q : Value → Shared → Prop} (H : St H₀ env k b σ w r s) (m : MonoT P) (ho : TList P b o xs) (j : Nat) (hz : xs.length ≤ 1000)
    (h : wpAny (model prog wd) A (eval e env) (fun v s₁ => ∃ t, v = .int (j : Int) t ∧ St H₀ env k b σ w r s₁ ∧ ∀ D b' s', Gr k b b' → St H₀ env k b' σ w r s' → TList P b' D (xs.take j) → Q D s') E s)
    (hs : ∀ a c, subscripted (.Slice none (some e) none p) false (.ref a) (.ref c) = operate [.ref c, .ref a] (getItem (.ref a) (.ref c)) := by intro a c; with_unfolding_all rfl) :
    wpAny (model prog wd) A (eval (.Slice none (some e) none p) env) (fun i s₂ => wpAny (model prog wd) A (subscriptTail value (.Slice none (some e) none p) o i) Q E s₂) E s := by
  refine wpAny_Slice ?_
  rw [PySem.evalPart_none, PySem.evalPart_some]
  refine wpAny_pure (wpAny_mono h (fun v s₁ h₁ => wpAny_pure ?_) fun _ _ x => x)
  obtain ⟨t, rfl, H, hq⟩ := h₁
  refine g_slice (t := 0) H ho .none (.int _ _) m (by rw [PySem.sizeLine_eq]; with_reducible exact Mine.m22) (xs.take j) (fun vs hl R al => ?_) hq hs
  rw [slicePick_upto']
  simpa using al.take j
theorem e_from {α : Type} {P : TP α} {xs : List α} {value e : Expr} {p : Pos} {o : Value} {Q : Value → Shared → Prop} (H : St H₀ env k b σ w r s) (m : MonoT P) (ho : TList P b o xs) (j : Nat) (hz : xs.length ≤ 1000)
    (h : wpAny (model prog wd) A (eval e env) (fun v s₁ => ∃ t, v = .int (j : Int) t ∧ St H₀ env k b σ w r s₁ ∧ ∀ D b' s', Gr k b b' → St H₀ env k b' σ w r s' → TList P b' D (xs.drop j) → Q D s') E s)
    (hs : ∀ a c, subscripted (.Slice (some e) none none p) false (.ref a) (.ref c) = operate [.ref c, .ref a] (getItem (.ref a) (.ref c)) := by intro a c; with_unfolding_all rfl) :
    wpAny (model prog wd) A (eval (.Slice (some e) none none p) env) (fun i s₂ => wpAny (model prog wd) A (subscriptTail value (.Slice (some e) none none p) o i) Q E s₂) E s := by
  refine wpAny_Slice ?_
  rw [PySem.evalPart_none, PySem.evalPart_some]
  refine wpAny_mono h (fun v s₁ h₁ => wpAny_pure (wpAny_pure ?_)) fun _ _ x => x
  obtain ⟨t, rfl, H, hq⟩ := h₁
  refine g_slice (t := 0) H ho (.int _ _) .none m (by rw [PySem.sizeLine_eq]; with_reducible exact Mine.m22) (xs.drop j) (fun vs hl R al => ?_) hq hs
  rw [slicePick_from']
  simpa using al.drop j

theorem detB_bd {n β : Nat} {f : Nat → Nat → Int} (hf : ∀ i < n, ∀ j < n, Bd β (f i j)) : Bd (bitsB (β + 1) n) (detB n f) := by
  unfold detB
  cases e : detS n f n with
  | none => unfold Bd; simp; exact Nat.pow_pos (by decide)
  | some st =>
    obtain ⟨g, sg, ah⟩ := st
    obtain ⟨i1, i2, i3, i4⟩ := detS_inv hf (Nat.le_refl n) e
    dsimp only
    rcases i2 with rfl | rfl
    · rw [Int.one_mul]; exact i3
    · rw [Int.neg_one_mul]; exact i3.neg
theorem rowN_take {α : Type} {m : Nat} {f : Nat → α} {j : Nat} (h : j ≤ m) : (rowN m f).take j = rowN j f := by
  unfold rowN
  rw [← List.map_take, List.take_range, Nat.min_eq_left h]
theorem leading_ok (G : GG wd mg mb H₀) (hA : AOk 3 A) (H : St H₀ env k b σ w r s) {v : Value} {n β : Nat} {f : Nat → Nat → Int} (hv : TMat b v (mk n n f)) (hn : n ≤ 900) (hf : ∀ i < n, ∀ j < n, Bd β (f i j)) (hβ : bitsB (β + 1) n ≤ 9000) {Q : Value → Shared → Prop}
    (h : ∀ v b' s', Gr k b b' → St H₀ env k b' σ w r s' → TRow b' v (rowN n fun i => detB (i + 1) f) → Q v s') : wpAny (model prog wd) A (call (.ref 171) [v]) Q E s := by
  refine call_fn (m := []) (n := 2) (nms := ["a"]) (σ₀ := [("a", some v)]) G hA H (f := 171) rfl rfl rfl (by decide +kernel) rfl fun L k' s₁ q cd A' hA' H₁ => ?_
  refine genQ fun _ _ => ?_
  with_reducible (refine x_cons ?_; refine wpAny_Return_some ?_)
  refine lcomp (σ := [("a", some v)]) (σc := [("size", none), ("a", some v)]) (by walk_at "side") ?_
  with_reducible (refine ctg ?_; refine e_sp1 ?_; refine cint (by assumption) fun _ _ _ => ?_; refine e_sp1 ?_; refine e_bin ?_; refine cb1 ?_)
  refine c_lenT (by assumption) hv (by rw [mk_len]; lia) fun s₂ t₂ H₂ => ?_
  rw [mk_len]
  with_reducible (refine cint (by assumption) fun _ _ _ => ?_; refine iadd (by assumption) fun _ _ _ => ?_; refine e_sp0 ?_)
  refine c_range2 (n := n) hA'.handled (by assumption) (by lia) (by decide) (by decide) (by lia) fun I s₃ W H₃ off h0 hfp => ?_
  refine map_eval (xs := List.range n) (keep := fun _ => true) (f := fun i => detB (i + 1) f) (PY := TInt) mono_int (σ := [("a", some v)]) (σc := [("size", none), ("a", some v)]) (by walk_at "side") (fun u => [("size", some u), ("a", some v)]) (fun _ => .head) (by simp) (fun _ => by walk_at "ok") (W _ _) H₃ off h0 hfp (by simp) (by rw [PySem.sizeLine_eq]; simp; lia) (fun i x₀ v' C k'' b' s'' hx hk hg hP H₄ => ?_) (fun D b' s' hg hD H₄ => ?_)
  · refine Turn.plain H₄ ?_
    obtain ⟨hi, rfl⟩ := List.getElem?_eq_some_iff.mp hx
    have hi' : i < n := by simpa using hi
    rw [List.getElem_range]
    refine genQ fun _ _ => ?_
    obtain ⟨t, rfl⟩ := hP
    with_reducible (refine cfg ?_; refine e_sp1 ?_)
    refine lcomp (σ := [("size", some (.int (1 + (i : Int)) t)), ("a", some v)]) (σc := [("row", none), ("size", some (.int (1 + (i : Int)) t))]) (by walk_at "side") ?_
    with_reducible (refine sub1 ?_)
    refine e_upto (by assumption) mono_row (mono_mat _ _ _ _ hg.1 hv) (i + 1) (by rw [mk_len]; lia) ?_
    with_reducible (refine nm0 ?_)
    refine ⟨t, by rw [show (1 + (i : Int)) = ((i + 1 : Nat) : Int) by lia], by assumption, fun v₅ b₅ s₅ hg₅ H₅ h₅ => ?_⟩
    rw [show (mk n n f).take (i + 1) = mk (i + 1) n f from rowN_take (by lia)] at h₅
    obtain ⟨a₅, vs, nn, rfl, ha₅, al⟩ := h₅
    refine src_list hA'.handled H₅ ha₅ fun I₂ s₆ W₂ H₆ off₂ h0₂ hfp₂ => ?_
    refine map_eval (xs := mk (i + 1) n f) (keep := fun _ => true) (f := fun l => l.take (i + 1)) (PY := TRow) mono_row (σ := [("size", some (.int (1 + (i : Int)) t)), ("a", some v)]) (σc := [("row", none), ("size", some (.int (1 + (i : Int)) t))]) (by walk_at "side") (fun u => [("row", some u), ("size", some (.int (1 + (i : Int)) t))]) (fun _ => .head) (by simp) (fun _ => by walk_at "ok") (W₂ _ _) H₆ off₂ h0₂ hfp₂ al.length (by rw [PySem.sizeLine_eq, mk_len]; lia) (fun i₂ x₂ v₂ C₂ k₂ b₂ s₂ hx₂ hk₂ hg₂ hP₂ H₇ => ?_) (fun D b' s' hg₇ hD H₇ => ?_)
    · refine Turn.plain H₇ ?_
      refine genQ fun _ _ => ?_
      have hyx := al.at' hP₂ hx₂
      obtain ⟨j, hj, rfl⟩ := mk_mem (List.mem_of_getElem? hx₂)
      with_reducible (refine sub1 ?_)
      refine e_upto (by assumption) mono_int (mono_row _ _ _ _ hg₂.1 hyx) (i + 1) (by rw [rowN_len]; lia) ?_
      with_reducible (refine nm0 ?_)
      exact ⟨t, by rw [show (1 + (i : Int)) = ((i + 1 : Nat) : Int) by lia], H₇, fun v₈ b₈ s₈ hg₈ H₈ h₈ => by refine unQ ?_; exact ⟨b₈, hg₈, H₈, h₈⟩⟩
    · have hD' : TMat b' (.ref D) (mk (i + 1) (i + 1) f) := by
        rw [filter_tt] at hD
        have e : (mk (i + 1) n f).map (fun l => l.take (i + 1)) = mk (i + 1) (i + 1) f := by
          unfold mk
          rw [rowN, List.map_map]
          refine List.map_congr_left fun j _ => ?_
          exact rowN_take (by lia)
        rw [← e]; exact hD
      with_reducible (refine e_sp0 ?_)
      refine ⟨⟨_, _, _, _, _, by assumption⟩, ?_⟩
      refine determinant_ok (β := β) G hA' (by assumption) hD' (by lia) (fun a ha c hc => hf a (by lia) c (by lia)) (Nat.le_trans (bitsB_mono (by lia)) hβ) fun t₉ b₉ s₉ hg₉ H₉ => ?_
      refine unQ ?_
      exact ⟨b₉, hg₅.trans (hg₇.trans hg₉), H₉, t₉, rfl⟩
  · with_reducible (refine q_ret ?_; refine unQ ?_)
    exact ⟨_, _, [], rfl, hg, H₄, fun s'' g' H'' => h _ _ s'' g' H'' (by simpa [filter_tt, retv, rowN] using hD)⟩
end

section
variable {prog : Program} {wd : World} {mg mb : Str → Option Value} {H₀ : Heap}
  {env : Env} {k b : WM} {σ σ' σm : Vars} {w w' : Own} {r : RestT} {s : Shared} {A : Around} {E : Value → Shared → Prop} {n : Nat}
noncomputable def adjB (n : Nat) (f : Nat → Nat → Int) : Nat → Nat → Int := fun i j => (1 - 2 * (((i : Int) + j).fmod 2)) * detB n (minF j i f)
theorem adj_sign (i j : Nat) : (1 - 2 * (((i : Int) + j).fmod 2)) = 1 ∨ (1 - 2 * (((i : Int) + j).fmod 2)) = -1 := by
  rw [Int.fmod_eq_emod_of_nonneg _ (by decide)]
  lia
theorem skip_le {n r i : Nat} (hr : r ≤ n) (hi : i < n) : skip r i < n + 1 := by unfold skip; split <;> (first | with_reducible exact Mine.m4 | with_reducible exact Mine.m5)
theorem z0 {v : Value} {i : Nat} (h : ∃ t, v = .int (0 + (i : Int)) t) : ∃ t, v = .int (i : Int) t := by
  obtain ⟨t, e⟩ := h; exact ⟨t, by rw [e, Int.zero_add]⟩
theorem rowN_succ {α : Type} {m : Nat} {f : Nat → α} : rowN (m + 1) f = rowN m f ++ [f m] := by
  unfold rowN
  rw [List.range_succ, List.map_append]; rfl
noncomputable def AdI (a : Addr) (n : Nat) (t₅ : Tok) (F : Addr) (f : Nat → Nat → Int) (i : Nat) (b' : WM) (σ' : Vars) (w' : Own) : Prop := X3_3 (fun o1 us nF => σ' = ([("a", some (.ref a)), ("row", o1), ("n", some (.int ((n + 1 : Nat) : Int) t₅)), ("found", some (.ref F))] : Vars)) (fun o1 us nF => w' = [(F, lstO us nF)]) (fun o1 us nF => All2 (TRow b') us (mk i (n + 1) (adjB n f)))
theorem adjugate_ok (G : GG wd mg mb H₀) (hA : AOk 3 A) (H : St H₀ env k b σ w r s) {v : Value} {n β : Nat} {f : Nat → Nat → Int} (hv : TMat b v (mk (n + 1) (n + 1) f)) (hn : n + 1 ≤ 900) (hf : ∀ i < n + 1, ∀ j < n + 1, Bd β (f i j)) (hβ : bitsB (β + 1) n ≤ 9000) {Q : Value → Shared → Prop}
    (h : ∀ v b' s', Gr k b b' → St H₀ env k b' σ w r s' → TMat b' v (mk (n + 1) (n + 1) (adjB n f)) → Q v s') : wpAny (model prog wd) A (call (.ref 166) [v]) Q E s := by
  refine call_fn (m := []) (n := 2) (nms := ["a"]) (σ₀ := [("a", some v), ("row", none), ("n", none), ("found", none)]) G hA H (f := 166) rfl rfl rfl (by decide +kernel) rfl fun L k' s₁ q cd A' hA' H₁ => ?_
  refine genQ fun _ _ => ?_
  with_reducible (refine x_cons ?_; refine wpAny_If ?_; refine wpAny_isTrue_Compare1 ?_)
  refine lcomp (σ := [("a", some v), ("row", none), ("n", none), ("found", none)]) (σc := [("row", none), ("a", some v)]) (by walk_at "side") ?_
  with_reducible (refine nm0 ?_)
  obtain ⟨a, vs, nn, rfl, ha, al⟩ := hv
  refine src_list hA'.handled (by assumption) ha fun I s₂ W H₂ off h0 hfp => ?_
  refine map_eval (xs := mk (n + 1) (n + 1) f) (keep := fun _ => false) (f := id) (PY := TRow) mono_row (σ := [("a", some (.ref a)), ("row", none), ("n", none), ("found", none)]) (σc := [("row", none), ("a", some (.ref a))]) (by walk_at "side") (fun u => [("row", some u), ("a", some (.ref a))]) (fun _ => .head) (by simp) (fun _ => by walk_at "ok") (W _ _) H₂ off h0 hfp al.length (by rw [PySem.sizeLine_eq, mk_len]; lia) (fun i x₀ v C k'' b' s'' hx hk hg hP H₃ => ?_) (fun D b₃ s₃ hg₃ hD H₃ => ?_)
  · refine Turn.one ?_
    refine genQ fun _ _ => ?_
    have hyx := al.at' hP hx
    obtain ⟨j, hj, rfl⟩ := mk_mem (List.mem_of_getElem? hx)
    with_reducible (refine wpAny_isTrue_Compare1 ?_; refine cb1 ?_)
    refine c_lenT (by assumption) (mono_row _ _ _ _ hg.1 hyx) (by rw [rowN_len]; lia) fun s₄ t₄ H₄ => ?_
    with_reducible (refine cb1 ?_)
    refine c_lenT (by assumption) (P := TRow) ⟨a, vs, nn, rfl, hg.1 _ _ ha, al.imp fun v x => mono_row _ _ _ _ hg.1⟩ (by rw [mk_len]; lia) fun s₅ t₅ H₅ => ?_
    with_reducible (refine PySem.P.ne_int ?_; refine wpAny_truthy_bool ?_; refine unQ ?_)
    refine ⟨?_, b', Gr.refl _ _, H₅, fun h => by cases h⟩
    rw [rowN_len, mk_len]; simp
  · with_reducible (refine List_ ?_; refine e_sp0 ?_)
    refine n_list (by assumption) (by size_fits) fun D₂ s₄ hg₄ H₄ _ => ?_
    have hD' : TMat b₃ (.ref D) [] := by simpa [filter_ff] using hD
    refine e_ne encI.list.list hA' H₄ (mono_mat _ _ _ _ hg₄.1 hD') (x := []) (y := []) ⟨D₂, [], 0, rfl, upd_self .., .nil⟩ ?_
    with_reducible (refine wpAny_truthy_bool ?_)
    rw [if_neg (by simp)]
    with_reducible (refine x_nil ?_; refine q_next ?_; refine x_cons ?_)
    have hs₄ : Sub b (upd b₃ D₂ (lstO [] 0)) := hg₃.1.trans hg₄.1
    refine swp2 ?_
    with_reducible (refine Tuple_ ?_; refine e_sp1 ?_; refine cb1 ?_)
    refine c_lenT (by assumption) (P := TRow) (xs := mk (n + 1) (n + 1) f) ⟨a, vs, nn, rfl, hs₄ _ _ ha, al.imp fun v x => mono_row _ _ _ _ hs₄⟩ (by rw [mk_len]; lia) fun s₅ t₅ H₅ => ?_
    rw [mk_len]
    with_reducible (refine e_sp1 ?_; refine List_ ?_; refine e_sp0 ?_)
    refine n_list (by assumption) (by size_fits) fun F s₆ _ _ H₆ => ?_
    with_reducible (refine e_sp0 ?_)
    refine n_tup (by assumption) (by size_fits) fun D₃ s₇ hg₇ H₇ => ?_
    refine unp hA'.handled H₇ (upd_self ..) 2 rfl fun s₈ H₈ => ?_
    refine aio (bst H₈ (by walk_at "put") (by walk_at "ok") fun s₉ H₉ => ?_)
    refine aio (bst H₉ (by walk_at "put") (by walk_at "ok") fun s₁₀ H₁₀ => ?_)
    refine aio_nil ?_
    have hs₇ : Sub b _ := hs₄.trans hg₇.1
    have hv₇ : TMat _ (.ref a) (mk (n + 1) (n + 1) f) := ⟨a, vs, nn, rfl, hs₇ _ _ ha, al.imp fun v x => mono_row _ _ _ _ hs₇⟩
    with_reducible (refine q_next ?_; refine x_cons ?_)
    refine wpAny_For ?_
    with_reducible (refine ct1 ?_)
    refine c_range1 hA'.handled (by assumption) (by lia) fun I₃ s₁₃ W₃ H₁₃ off₃ h0₃ hfp₃ => ?_
    refine for_core (W₃ _ _) H₁₃ off₃ h0₃ hfp₃ (AdI a n t₅ F f)
      ⟨none, [], _, rfl, rfl, .nil⟩ ?_ ?_ ?_
    · intro i v k'' b₆ σ' w' s₁₄ hi hk hg₆ hI_ hP₀ H₁₄
      refine genA fun _ _ => ?_
      obtain ⟨o1, us, nF, rfl, rfl, hus⟩ := hI_
      obtain ⟨t₁₄, rfl⟩ := z0 hP₀
      refine nst H₁₄ (by walk_at "put") (by walk_at "ok") fun s₁₅ H₁₅ => ?_
      have hul : us.length = i := by rw [hus.length, mk_len]
      with_reducible (refine x_cons ?_)
      refine e_any ?_
      refine meth1 PySem.F.slot_list_append PySem.F.type_list_append ?_
      with_reducible (refine nm0 ?_)
      refine ⟨F, us, nF, rfl, (H₁₅.own (F, lstO us nF) (by walk_at "mem")).1, ?_⟩
      refine lcomp (σ := [("a", some (.ref a)), ("row", some (.int (i : Int) t₁₄)), ("n", some (.int ((n + 1 : Nat) : Int) t₅)), ("found", some (.ref F))]) (σc := [("column", none), ("a", some (.ref a)), ("row", some (.int (i : Int) t₁₄))]) (by walk_at "side") ?_
      with_reducible (refine ct1 ?_)
      refine c_range1 hA'.handled (by assumption) (by lia) fun I₄ s₁₆ W₄ H₁₆ off₄ h0₄ hfp₄ => ?_
      refine map_eval (xs := List.range (n + 1)) (keep := fun _ => true) (f := fun j => adjB n f i j) (PY := TInt) mono_int (σ := [("a", some (.ref a)), ("row", some (.int (i : Int) t₁₄)), ("n", some (.int ((n + 1 : Nat) : Int) t₅)), ("found", some (.ref F))]) (σc := [("column", none), ("a", some (.ref a)), ("row", some (.int (i : Int) t₁₄))]) (by walk_at "side") (fun u => [("column", some u), ("a", some (.ref a)), ("row", some (.int (i : Int) t₁₄))]) (fun _ => .head) (by simp) (fun _ => by walk_at "ok") (W₄ _ _) H₁₆ off₄ h0₄ hfp₄ (by simp) (by rw [PySem.sizeLine_eq]; simp; lia) (fun j x₀ v' C k₅ b₅ s₁₇ hx hk₅ hg₅ hP H₁₇ => ?_) (fun R b₅ s₁₇ hg₅ hR H₁₇ => ?_)
      · refine Turn.plain H₁₇ ?_
        obtain ⟨hj, rfl⟩ := List.getElem?_eq_some_iff.mp hx
        have hj' : j < n + 1 := by simpa using hj
        rw [List.getElem_range]
        refine genQ fun _ _ => ?_
        obtain ⟨t, rfl⟩ := z0 hP
        with_reducible (refine e_bin ?_; refine e_bin ?_; refine cint (by assumption) fun _ _ _ => ?_; refine e_bin ?_; refine cint (by assumption) fun _ _ _ => ?_; refine e_bin ?_; refine bin2 ?_; refine iadd (by assumption) fun _ _ _ => ?_; refine cint (by assumption) fun _ _ _ => ?_)
        refine imod (by assumption) (by decide) fun _ _ _ => ?_
        skip
        refine imul (by assumption) (Bd.mulOk (β := 2) (γ := 2) (by unfold Bd; decide) (by unfold Bd; rw [Int.fmod_eq_emod_of_nonneg _ (by decide)]; lia) (by decide)) fun _ _ _ => ?_
        with_reducible (refine isub (by assumption) fun _ _ _ => ?_; refine cfg ?_; refine e_sp1 ?_; refine cfg ?_; refine spn ?_; refine sp2 ?_)
        refine ⟨⟨_, _, _, _, _, by assumption⟩, ?_⟩
        refine minor_ok G (hA'.mono (by decide)) (by assumption) (mono_mat _ _ _ _ (hg₆.1.trans hg₅.1) hv₇) (by lia) (by lia) (by lia) fun v₁₈ b₁₈ s₁₈ hg₁₈ H₁₈ h₁₈ => ?_
        with_reducible (refine e_sp0 ?_)
        refine ⟨⟨_, _, _, _, _, by assumption⟩, ?_⟩
        have hmf : ∀ a < n, ∀ c < n, Bd β (minF j i f a c) := fun a ha c hc => hf _ (skip_le (by lia) ha) _ (skip_le (by lia) hc)
        refine determinant_ok (β := β) G hA' (by assumption) h₁₈ (by lia) hmf hβ fun t₁₉ b₁₉ s₁₉ hg₁₉ H₁₉ => ?_
        skip
        refine imul (by assumption) (Bd.mulOk (β := 1) (by rcases adj_sign i j with e | e <;> (rw [e]; unfold Bd; decide)) (detB_bd hmf) (by lia)) fun _ _ _ => ?_
        refine unQ ?_
        exact ⟨b₁₉, hg₁₈.trans hg₁₉, by assumption, _, rfl⟩
      · skip
        refine app_own (by assumption) (H₁₇.own (F, lstO us nF) (by walk_at "mem")).1 (by rw [hul, PySem.sizeLine_eq]; lia) (by walk_at "put") fun s₂₀ H₂₀ => ?_
        with_reducible (refine q_next ?_; refine x_nil ?_; refine unQ ?_)
        refine ⟨b₅, _, _, hg₅, H₂₀, _, us ++ [.ref R], _, rfl, rfl, ?_⟩
        have e : mk (i + 1) (n + 1) (adjB n f) = mk i (n + 1) (adjB n f) ++ [rowN (n + 1) (adjB n f i)] := rowN_succ
        rw [e]
        refine (hus.imp fun v x => mono_row _ _ _ _ hg₅.1).append (.cons ?_ .nil)
        simpa [filter_tt, rowN] using hR
    · rintro i b' b'' σ' w' hs ⟨o1, us, nF, rfl, rfl, hus⟩
      exact ⟨o1, us, nF, rfl, rfl, hus.imp fun v x => mono_row _ _ _ _ hs⟩
    · rintro b₆ σ' w' s₁₄ hg₆ ⟨o1, us, nF, rfl, rfl, hus⟩ H₁₄
      with_reducible (refine q_next ?_; refine x_cons ?_; refine wpAny_Return_some ?_; refine nm0 ?_; refine q_ret ?_; refine unQ ?_)
      have q := H₁₄.freeze0
      refine ⟨_, _, [], rfl, hg₃.trans (hg₄.trans (hg₇.trans (hg₆.trans q.1))), q.2, fun s'' g' H'' => h _ _ s'' g' H'' ⟨F, us, nF, rfl, upd_self .., hus.imp fun v x => mono_row _ _ _ _ q.1.1⟩⟩
end

section
variable {prog : Program} {wd : World} {mg mb : Str → Option Value} {H₀ : Heap}
  {env : Env} {k b : WM} {σ σ' σm : Vars} {w w' : Own} {r : RestT} {s : Shared} {A : Around} {E : Value → Shared → Prop} {n : Nat}
/-! the law's own helpers -/
noncomputable def BX (B S : Addr) (c : Nat) (w : Own) : Prop := ∃ t nB ss nS, w = [(B, lstO [.ref S, .int (c : Int) t] nB), (S, lstO ss nS)] ∧ (∀ v ∈ ss, ∃ i, IsI v i) ∧ ss.length ≤ 16
theorem ints_of {ss : List Value} (h : ∀ v ∈ ss, ∃ i, IsI v i) (b : WM) : ∃ xs : List Int, All2 (TInt b) ss xs := by
  induction ss with
  | nil => exact ⟨[], .nil⟩
  | cons v r ih =>
    obtain ⟨xs, hx⟩ := ih fun v hv => h v (List.mem_cons_of_mem _ hv)
    obtain ⟨i, hi⟩ := h v List.mem_cons_self
    exact ⟨i :: xs, .cons hi hx⟩
theorem ltake_ok (G : GG wd mg mb H₀) (hA : AOk 1 A) {B S : Addr} {c : Nat} {m : Own} (hB : BX B S c m) (H : St H₀ env k b σ (m ++ w) r s) {n : Int} {t : Tok} (hn : 0 < n) (hc : c ≤ 1000) {Q : Value → Shared → Prop}
    (h : ∀ x t m' b' s', 0 ≤ x → x < n → BX B S (c + 1) m' → Gr k b b' → St H₀ env k b' σ (m' ++ w) r s' → Q (.int x t) s') : wpAny (model prog wd) A (call (.ref 178) [.ref B, .int n t]) Q E s := by
  obtain ⟨tc, nB, ss, nS, rfl, hss, hsl⟩ := hB
  refine call_fn (m := [(B, lstO [.ref S, .int (c : Int) tc] nB), (S, lstO ss nS)]) (n := 0) (nms := ["box", "many"]) (σ₀ := [("box", some (.ref B)), ("many", some (.int n t))]) G hA H (f := 178) rfl rfl rfl (by decide +kernel) rfl fun L k' s₁ q cd A' hA' H₁ => ?_
  refine genQ fun _ _ => ?_
  have fin : ∀ x : Int, 0 ≤ x.fmod n ∧ x.fmod n < n := fun x => ⟨Int.fmod_nonneg_of_pos _ hn, Int.fmod_lt_of_pos _ hn⟩
  with_reducible (refine x_cons ?_)
  refine wpAny_Assign_Subscript ?_
  with_reducible (refine e_bin ?_; refine sub1 ?_; refine cint (by assumption) fun _ _ _ => ?_)
  refine g_ow (by assumption) (by walk_at "mem") 1 rfl rfl (by simp) ?_
  with_reducible (refine cint (by assumption) fun _ _ _ => ?_; refine iadd (by assumption) fun _ _ _ => ?_; refine nm0 ?_; refine cint (by assumption) fun _ _ _ => ?_)
  refine set_own (i := 1) (by assumption) ((by assumption : St H₀ _ _ _ _ _ _ _).own _ List.mem_cons_self).1 (by simp) (by decide) .head fun s₂ H₂ => ?_
  rw [show (c : Int) + 1 = ((c + 1 : Nat) : Int) by lia] at H₂
  with_reducible (refine q_next ?_; refine x_cons ?_; refine wpAny_If ?_; refine wpAny_isTrue_Compare1 ?_; refine sub1 ?_; refine cint (by assumption) fun _ _ _ => ?_)
  refine g_ow (by assumption) (by walk_at "mem") 0 rfl rfl (by simp) ?_
  with_reducible (refine List_ ?_; refine e_sp0 ?_)
  refine n_list (by assumption) (by size_fits) fun D s₃ hg₃ H₃ Hx => ?_
  clear Hx
  obtain ⟨xs, hxs⟩ := ints_of hss (fun _ => none)
  have q := H₃.freeze1
  refine e_ne encI.list hA' q.2 (x := xs) (y := []) ⟨S, ss, nS, rfl, upd_self .., hxs⟩ ⟨D, [], 0, rfl, q.1.1 _ _ (upd_self ..), .nil⟩ ?_
  with_reducible (refine wpAny_truthy_bool ?_)
  cases ss with
  | cons v rest =>
    cases hxs with
    | @cons _ x _ xr hv hr =>
    obtain ⟨tx, rfl⟩ := hv
    rw [if_pos (by simp)]
    with_reducible (refine x_cons ?_; refine wpAny_Return_some ?_; refine e_bin ?_)
    refine meth1 PySem.F.slot_list_pop PySem.F.type_list_pop ?_
    with_reducible (refine sub1 ?_; refine cint (by assumption) fun _ _ _ => ?_)
    refine g_ow (by assumption) (by walk_at "mem") 0 rfl rfl (by simp) ?_
    refine ⟨S, .int x tx :: rest, nS, rfl, ((by assumption : St H₀ _ _ _ _ _ _ _).own (S, lstO (.int x tx :: rest) nS) (by walk_at "mem")).1, ?_⟩
    with_reducible (refine cint (by assumption) fun _ _ _ => ?_)
    refine pop_own (by assumption) ((by assumption : St H₀ _ _ _ _ _ _ _).own (S, lstO (.int x tx :: rest) nS) (by walk_at "mem")).1 (by rw [PySem.sizeLine_eq]; simp at hsl; lia) (by walk_at "put") fun s₄ H₄ => ?_
    with_reducible (refine nm0 ?_)
    refine imod (by assumption) (by lia) fun s₅ t₅ H₅ => ?_
    with_reducible (refine q_ret ?_; refine q_ret ?_; refine unQ ?_)
    refine ⟨_, _, _, rfl, hg₃, H₅, fun s'' g' H'' => h _ _ _ _ s'' (fin x).1 (fin x).2 ⟨_, _, rest, _, rfl, fun v hv => hss v (List.mem_cons_of_mem _ hv), by simp at hsl; lia⟩ g' H''⟩
  | nil =>
    cases hxs
    rw [if_neg (by simp)]
    with_reducible (refine x_nil ?_; refine q_next ?_; refine x_cons ?_; refine wpAny_Return_some ?_; refine e_bin ?_; refine e_bin ?_; refine e_bin ?_; refine cint (by assumption) fun _ _ _ => ?_; refine sub1 ?_; refine cint (by assumption) fun _ _ _ => ?_)
    refine g_ow (by assumption) (by walk_at "mem") 1 rfl rfl (by simp) ?_
    skip
    refine imul (by assumption) (Bd.mulOk (β := 4) (γ := 20) (by unfold Bd; decide) (by unfold Bd; lia) (by decide)) fun s₄ t₄ H₄ => ?_
    with_reducible (refine e_bin ?_; refine sub1 ?_; refine cint (by assumption) fun _ _ _ => ?_)
    refine g_ow (by assumption) (by walk_at "mem") 1 rfl rfl (by simp) ?_
    with_reducible (refine cint (by assumption) fun _ _ _ => ?_)
    refine idiv (by assumption) (by decide) (β := 4) (by unfold Bd; decide) (by decide) fun s₅ t₅ H₅ => ?_
    with_reducible (refine iadd (by assumption) fun _ _ _ => ?_; refine nm0 ?_)
    refine imod (by assumption) (by lia) fun s₆ t₆ H₆ => ?_
    with_reducible (refine q_ret ?_; refine unQ ?_)
    refine ⟨_, _, _, rfl, hg₃, H₆, fun s'' g' H'' => h _ _ _ _ s'' (fin _).1 (fin _).2 ⟨_, _, [], _, rfl, hss, by simp⟩ g' H''⟩
end

section
variable {prog : Program} {wd : World} {mg mb : Str → Option Value} {H₀ : Heap}
  {env : Env} {k b : WM} {σ σ' σm : Vars} {w w' : Own} {r : RestT} {s : Shared} {A : Around} {E : Value → Shared → Prop} {n : Nat}
theorem lratios_ok (G : GG wd mg mb H₀) (hA : AOk 1 A) (H : St H₀ env k b σ w r s) {v : Value} {n m : Nat} {f : Nat → Nat → Int} (hv : TMat b v (mk n m f)) (hn : n ≤ 1000) (hm : m ≤ 1000) {Q : Value → Shared → Prop}
    (h : ∀ v b' s', Gr k b b' → St H₀ env k b' σ w r s' → TList (TList TR1) b' v (mk n m f) → Q v s') : wpAny (model prog wd) A (call (.ref 183) [v]) Q E s := by
  refine call_fn (m := []) (n := 0) (nms := ["a"]) (σ₀ := [("a", some v)]) G hA H (f := 183) rfl rfl rfl (by decide +kernel) rfl fun L k' s₁ q cd A' hA' H₁ => ?_
  refine genQ fun _ _ => ?_
  with_reducible (refine x_cons ?_; refine wpAny_Return_some ?_)
  refine lcomp (σ := [("a", some v)]) (σc := [("row", none)]) (by walk_at "side") ?_
  with_reducible (refine nm0 ?_)
  obtain ⟨a, vs, nn, rfl, ha, al⟩ := hv
  refine src_list hA'.handled (by assumption) ha fun I s₂ W H₂ off h0 hfp => ?_
  refine map_eval (xs := mk n m f) (keep := fun _ => true) (f := id) (PY := TList TR1) (mono_list mono_r1) (σ := [("a", some (.ref a))]) (σc := [("row", none)]) (by walk_at "side") (fun u => [("row", some u)]) (fun _ => .head) (by simp) (fun _ => by walk_at "ok") (W _ _) H₂ off h0 hfp al.length (by rw [PySem.sizeLine_eq, mk_len]; with_reducible exact Mine.m22) (fun i x₀ v C k'' b' s'' hx hk hg hP H₃ => ?_) (fun D b' s' hg hD H₃ => ?_)
  · refine Turn.plain H₃ ?_
    refine genQ fun _ _ => ?_
    have hyx := al.at' hP hx
    obtain ⟨j, hj, rfl⟩ := mk_mem (List.mem_of_getElem? hx)
    refine lcomp (σ := [("row", some v)]) (σc := [("one", none)]) (by walk_at "side") ?_
    with_reducible (refine nm0 ?_)
    obtain ⟨a₂, vs₂, n₂, rfl, ha₂, al₂⟩ := hyx
    refine src_list hA'.handled (by assumption) (hg.1 _ _ ha₂) fun I₂ s₄ W₂ H₄ off₂ h0₂ hfp₂ => ?_
    refine map_eval (xs := rowN m (f j)) (keep := fun _ => true) (f := id) (PY := TR1) mono_r1 (σ := [("row", some (.ref a₂))]) (σc := [("one", none)]) (by walk_at "side") (fun u => [("one", some u)]) (fun _ => .head) (by simp) (fun _ => by walk_at "ok") (W₂ _ _) H₄ off₂ h0₂ hfp₂ al₂.length (by rw [PySem.sizeLine_eq, rowN_len]; with_reducible exact Mine.m22) (fun i₂ x₂ v₂ C₂ k₂ b₂ s₅ hx₂ hk₂ hg₂ hP₂ H₅ => ?_) (fun D b₂ s₅ hg₂ hD H₅ => ?_)
    · refine Turn.plain H₅ ?_
      refine genQ fun _ _ => ?_
      obtain ⟨t, rfl⟩ := al₂.at' hP₂ hx₂
      with_reducible (refine Tuple_ ?_; refine spn ?_; refine e_sp1 ?_; refine cint (by assumption) fun _ _ _ => ?_; refine e_sp0 ?_)
      refine n_tup (by assumption) (by size_fits) fun D s₆ hg₆ H₆ => ?_
      refine unQ ?_
      exact ⟨_, hg₆, H₆, D, _, _, rfl, upd_self ..⟩
    · refine unQ ?_
      exact ⟨b₂, hg₂, H₅, by simpa [filter_tt] using hD⟩
  · with_reducible (refine q_ret ?_; refine unQ ?_)
    exact ⟨_, _, [], rfl, hg, H₃, fun s'' g' H'' => h _ _ s'' g' H'' (by simpa [filter_tt, retv] using hD)⟩

theorem rowN_append {α : Type} {n m : Nat} {f g : Nat → α} : rowN n f ++ rowN m g = rowN (n + m) fun j => if j < n then f j else g (j - n) := by
  apply List.ext_getElem?
  intro j
  rw [List.getElem?_append, rowN_len]
  by_cases h1 : j < n
  · rw [if_pos h1, rowN_get h1, rowN_get (by lia), if_pos h1]
  · rw [if_neg h1]
    by_cases h2 : j < n + m
    · rw [rowN_get (by with_reducible exact Mine.m25), rowN_get h2, if_neg h1]
    · rw [List.getElem?_eq_none (by rw [rowN_len]; lia), List.getElem?_eq_none (by rw [rowN_len]; lia)]
theorem replicate_rowN {m : Nat} {x : Int} : List.replicate m x = rowN m fun _ => x := by
  unfold rowN
  rw [List.map_const', List.length_range]
noncomputable def besF (n : Nat) (f g : Nat → Nat → Int) (l rr : Int) : Nat → Nat → Int := fun i j => if i < n then (if j < n then f i j * l else 0) else (if j < n then 0 else g (i - n) (j - n) * rr)
theorem lbeside_ok (G : GG wd mg mb H₀) (hA : AOk 1 A) (H : St H₀ env k b σ w r s) {va vb : Value} {n m β γ : Nat} {f g : Nat → Nat → Int} {l rr : Int} {tl tr : Tok} (ha : TMat b va (mk n n f)) (hb : TMat b vb (mk m m g)) (hn : n ≤ 400) (hm : m ≤ 400)
    (hf : ∀ i < n, ∀ j < n, Bd β (f i j)) (hg : ∀ i < m, ∀ j < m, Bd β (g i j)) (hl : Bd γ l) (hr : Bd γ rr) (hβ : β + γ ≤ 90000) {Q : Value → Shared → Prop}
    (h : ∀ v b' s', Gr k b b' → St H₀ env k b' σ w r s' → TMat b' v (mk (n + m) (n + m) (besF n f g l rr)) → Q v s') : wpAny (model prog wd) A (call (.ref 188) [va, vb, .int l tl, .int rr tr]) Q E s := by
  refine call_fn (m := []) (n := 0) (nms := ["a", "b", "left", "right"]) (σ₀ := [("a", some va), ("b", some vb), ("left", some (.int l tl)), ("right", some (.int rr tr)), ("rows", none)]) G hA H (f := 188) rfl rfl rfl (by decide +kernel) rfl fun L k' s₁ q cd A' hA' H₁ => ?_
  refine genQ fun _ _ => ?_
  with_reducible (refine x_cons ?_)
  refine acomp (σ := [("a", some va), ("b", some vb), ("left", some (.int l tl)), ("right", some (.int rr tr)), ("rows", none)]) (σc := [("row", none), ("b", some vb), ("left", some (.int l tl))]) (by walk_at "side") ?_ (by with_unfolding_all rfl)
  with_reducible (refine nm0 ?_)
  have ha' := ha
  obtain ⟨a, vs, nn, rfl, haa, al⟩ := ha'
  refine src_list hA'.handled (by assumption) haa fun I s₂ W H₂ off h0 hfp => ?_
  refine map_asg (xs := List.range n) (keep := fun _ => true) (f := fun i => rowN (n + m) fun j => if j < n then f i j * l else 0) (PY := TRow) (σa := fun u => [("a", some (.ref a)), ("b", some vb), ("left", some (.int l tl)), ("right", some (.int rr tr)), ("rows", some u)]) (fun _ => by walk_at "put") (by walk_at "ok") mono_row (σc := [("row", none), ("b", some vb), ("left", some (.int l tl))]) (by walk_at "side") (fun u => [("row", some u), ("b", some vb), ("left", some (.int l tl))]) (fun _ => .head) (by simp) (fun _ => by walk_at "ok") (W _ _) H₂ off h0 hfp (by rw [al.length, mk_len]; simp) (by rw [PySem.sizeLine_eq]; simp; lia) (fun i x₀ v C k'' b' s'' hx hk hg₃ hP H₃ => ?_) (fun D b₃ s₃ hg₃ hD H₃ => ?_)
  · refine Turn.plain H₃ ?_
    obtain ⟨hi, rfl⟩ := List.getElem?_eq_some_iff.mp hx
    have hi' : i < n := by simpa using hi
    rw [List.getElem_range]
    refine genQ fun _ _ => ?_
    have hyx := al.at' hP (mk_get hi')
    with_reducible (refine e_bin ?_)
    refine lcomp (σ := [("row", some v), ("b", some vb), ("left", some (.int l tl))]) (σc := [("one", none), ("left", some (.int l tl))]) (by walk_at "side") ?_
    with_reducible (refine nm0 ?_)
    obtain ⟨a₂, vs₂, n₂, rfl, ha₂, al₂⟩ := hyx
    refine src_list hA'.handled (by assumption) (hg₃.1 _ _ ha₂) fun I₂ s₄ W₂ H₄ off₂ h0₂ hfp₂ => ?_
    refine map_eval (xs := rowN n (f i)) (keep := fun _ => true) (f := fun x => x * l) (PY := TInt) mono_int (σ := [("row", some (.ref a₂)), ("b", some vb), ("left", some (.int l tl))]) (σc := [("one", none), ("left", some (.int l tl))]) (by walk_at "side") (fun u => [("one", some u), ("left", some (.int l tl))]) (fun _ => .head) (by simp) (fun _ => by walk_at "ok") (W₂ _ _) H₄ off₂ h0₂ hfp₂ al₂.length (by rw [PySem.sizeLine_eq, rowN_len]; lia) (fun i₂ x₂ v₂ C₂ k₂ b₂ s₅ hx₂ hk₂ hg₂ hP₂ H₅ => ?_) (fun D b₂ s₅ hg₅ hD H₅ => ?_)
    · refine Turn.plain H₅ ?_
      refine genQ fun _ _ => ?_
      obtain ⟨t, rfl⟩ := al₂.at' hP₂ hx₂
      obtain ⟨j, hj, rfl⟩ := rowN_mem (List.mem_of_getElem? hx₂)
      with_reducible (refine bin2 ?_)
      refine imul (by assumption) ((hf i hi' j hj).mulOk hl (by lia)) fun s₆ t₆ H₆ => ?_
      refine unQ ?_
      exact ⟨_, Gr.refl _ _, H₆, _, rfl⟩
    · have hD' : TRow b₂ (.ref D) (rowN n fun j => f i j * l) := by simpa [filter_tt, rowN, Function.comp_def] using hD
      with_reducible (refine e_bin ?_; refine List_ ?_; refine e_sp1 ?_; refine cint (by assumption) fun _ _ _ => ?_; refine e_sp0 ?_)
      refine n_list (by assumption) (by size_fits) fun D₂ s₆ hg₆ H₆ Hx => ?_
      clear Hx
      with_reducible (refine cb1 ?_)
      refine c_lenT (by assumption) (mono_mat _ _ _ _ (hg₃.1.trans (hg₅.1.trans hg₆.1)) hb) (by rw [mk_len]; lia) fun s₇ t₇ H₇ => ?_
      rw [mk_len]
      skip
      refine l_rep (i := 0) (by assumption) ⟨D₂, _, 0, rfl, upd_self .., .cons ⟨_, rfl⟩ .nil⟩ (by lia) fun vz b₈ s₈ hg₈ H₈ h₈ => ?_
      refine l_add mono_int H₈ (mono_row _ _ _ _ (hg₆.1.trans hg₈.1) hD') h₈ (by rw [PySem.sizeLine_eq, rowN_len]; simp; lia) fun v₉ b₉ s₉ hg₉ H₉ h₉ => ?_
      refine unQ ?_
      refine ⟨b₉, hg₅.trans (hg₆.trans (hg₈.trans hg₉)), H₉, ?_⟩
      rw [replicate_rowN, rowN_append] at h₉
      exact h₉
  · have hD₁ : TMat b₃ (.ref D) (mk n (n + m) fun i j => if j < n then f i j * l else 0) := by simpa [filter_tt, mk, rowN] using hD
    with_reducible (refine q_next ?_; refine x_cons ?_; refine wpAny_Return_some ?_; refine e_bin ?_; refine nm0 ?_)
    refine lcomp (σ := [("a", some (.ref a)), ("b", some vb), ("left", some (.int l tl)), ("right", some (.int rr tr)), ("rows", some (.ref D))]) (σc := [("row", none), ("a", some (.ref a)), ("right", some (.int rr tr))]) (by walk_at "side") ?_
    with_reducible (refine nm0 ?_)
    have hb' := hb
    obtain ⟨bb, ws, nb, rfl, hbb, bl⟩ := hb'
    refine src_list hA'.handled (by assumption) (hg₃.1 _ _ hbb) fun I s₄ W H₄ off h0 hfp => ?_
    refine map_eval (xs := List.range m) (keep := fun _ => true) (f := fun i => rowN (n + m) fun j => if j < n then 0 else g i (j - n) * rr) (PY := TRow) mono_row (σ := [("a", some (.ref a)), ("b", some (.ref bb)), ("left", some (.int l tl)), ("right", some (.int rr tr)), ("rows", some (.ref D))]) (σc := [("row", none), ("a", some (.ref a)), ("right", some (.int rr tr))]) (by walk_at "side") (fun u => [("row", some u), ("a", some (.ref a)), ("right", some (.int rr tr))]) (fun _ => .head) (by simp) (fun _ => by walk_at "ok") (W _ _) H₄ off h0 hfp (by rw [bl.length, mk_len]; simp) (by rw [PySem.sizeLine_eq]; simp; lia) (fun i x₀ v C k'' b' s'' hx hk hg₅ hP H₅ => ?_) (fun D₂ b₅ s₅ hg₅ hD H₅ => ?_)
    · refine Turn.plain H₅ ?_
      obtain ⟨hi, rfl⟩ := List.getElem?_eq_some_iff.mp hx
      have hi' : i < m := by simpa using hi
      rw [List.getElem_range]
      refine genQ fun _ _ => ?_
      have hyx := bl.at' hP (mk_get hi')
      have hs₅ : Sub b b' := hg₃.1.trans hg₅.1
      with_reducible (refine e_bin ?_; refine e_bin ?_; refine List_ ?_; refine e_sp1 ?_; refine cint (by assumption) fun _ _ _ => ?_; refine e_sp0 ?_)
      refine n_list (by assumption) (by size_fits) fun D₂ s₆ hg₆ H₆ Hx => ?_
      clear Hx
      with_reducible (refine cb1 ?_)
      refine c_lenT (by assumption) (mono_mat _ _ _ _ (hs₅.trans hg₆.1) ha) (by rw [mk_len]; lia) fun s₇ t₇ H₇ => ?_
      rw [mk_len]
      skip
      refine l_rep (i := 0) (by assumption) ⟨D₂, _, 0, rfl, upd_self .., .cons ⟨_, rfl⟩ .nil⟩ (by lia) fun vz b₈ s₈ hg₈ H₈ h₈ => ?_
      skip
      refine lcomp (σ := [("row", some v), ("a", some (.ref a)), ("right", some (.int rr tr))]) (σc := [("one", none), ("right", some (.int rr tr))]) (by walk_at "side") ?_
      with_reducible (refine nm0 ?_)
      obtain ⟨a₂, vs₂, n₂, rfl, ha₂, al₂⟩ := hyx
      refine src_list hA'.handled (by assumption) (hg₈.1 _ _ (hg₆.1 _ _ (hs₅ _ _ ha₂))) fun I₂ s₉ W₂ H₉ off₂ h0₂ hfp₂ => ?_
      refine map_eval (xs := rowN m (g i)) (keep := fun _ => true) (f := fun x => x * rr) (PY := TInt) mono_int (σ := [("row", some (.ref a₂)), ("a", some (.ref a)), ("right", some (.int rr tr))]) (σc := [("one", none), ("right", some (.int rr tr))]) (by walk_at "side") (fun u => [("one", some u), ("right", some (.int rr tr))]) (fun _ => .head) (by simp) (fun _ => by walk_at "ok") (W₂ _ _) H₉ off₂ h0₂ hfp₂ al₂.length (by rw [PySem.sizeLine_eq, rowN_len]; lia) (fun i₂ x₂ v₂ C₂ k₂ b₂ s₅ hx₂ hk₂ hg₂ hP₂ H₅ => ?_) (fun D₃ b₂ s₁₀ hg₁₀ hD H₁₀ => ?_)
      · refine Turn.plain H₅ ?_
        refine genQ fun _ _ => ?_
        obtain ⟨t, rfl⟩ := al₂.at' hP₂ hx₂
        obtain ⟨j, hj, rfl⟩ := rowN_mem (List.mem_of_getElem? hx₂)
        with_reducible (refine bin2 ?_)
        refine imul (by assumption) ((hg i hi' j hj).mulOk hr (by lia)) fun s₆ t₆ H₆ => ?_
        refine unQ ?_
        exact ⟨_, Gr.refl _ _, H₆, _, rfl⟩
      · have hD' : TRow b₂ (.ref D₃) (rowN m fun j => g i j * rr) := by simpa [filter_tt, rowN, Function.comp_def] using hD
        skip
        refine l_add mono_int H₁₀ (mono_row _ _ _ _ hg₁₀.1 h₈) hD' (by rw [PySem.sizeLine_eq, rowN_len]; simp; lia) fun v₁₁ b₁₁ s₁₁ hg₁₁ H₁₁ h₁₁ => ?_
        refine unQ ?_
        refine ⟨b₁₁, hg₆.trans (hg₈.trans (hg₁₀.trans hg₁₁)), H₁₁, ?_⟩
        rw [replicate_rowN, rowN_append] at h₁₁
        exact h₁₁
    · have hD₂ : TMat b₅ (.ref D₂) (mk m (n + m) fun i j => if j < n then 0 else g i (j - n) * rr) := by simpa [filter_tt, mk, rowN] using hD
      skip
      refine l_add mono_row H₅ (mono_mat _ _ _ _ hg₅.1 hD₁) hD₂ (by rw [PySem.sizeLine_eq, mk_len, mk_len]; lia) fun v₆ b₆ s₆ hg₆ H₆ h₆ => ?_
      with_reducible (refine q_ret ?_; refine unQ ?_)
      refine ⟨_, _, [], rfl, hg₃.trans (hg₅.trans hg₆), H₆, fun s'' g' H'' => h _ _ s'' g' H'' ?_⟩
      unfold mk at h₆
      rw [rowN_append] at h₆
      unfold mk
      rw [rowN_congr (g := fun i => rowN (n + m) (besF n f g l rr i)) fun i hi => ?_] at h₆
      · exact h₆
      · dsimp only
        by_cases hi2 : i < n
        · rw [if_pos hi2]
          refine rowN_congr fun j _ => ?_
          unfold besF; rw [if_pos hi2]
        · rw [if_neg hi2]
          refine rowN_congr fun j _ => ?_
          unfold besF; rw [if_neg hi2]
end

section
variable {prog : Program} {wd : World} {mg mb : Str → Option Value} {H₀ : Heap}
  {env : Env} {k b : WM} {σ σ' σm : Vars} {w w' : Own} {r : RestT} {s : Shared} {A : Around} {E : Value → Shared → Prop} {n : Nat}
theorem flat_rowN {α : Type} {m : Nat} (hm : 0 < m) {f : Nat → Nat → α} : ∀ n, ((List.range n).flatMap fun i => (List.range m).map (f i)) = rowN (n * m) fun I => f (I / m) (I % m)
  | 0 => by simp [rowN]
  | n + 1 => by
    rw [flat_succ, flat_rowN hm n]
    have e : (List.range m).map (f n) = rowN m (f n) := rfl
    rw [e, rowN_append, Nat.succ_mul]
    refine rowN_congr fun I hI => ?_
    by_cases h : I < n * m
    · rw [if_pos h]
    · rw [if_neg h]
      have h1 : I = m * n + (I - n * m) := by rw [Nat.mul_comm m n]; lia
      have h2 : I - n * m < m := by with_reducible exact Mine.m25
      have e1 : I / m = n := by
        conv => lhs; rw [h1]
        rw [Nat.mul_add_div hm, Nat.div_eq_of_lt h2, Nat.add_zero]
      have e2 : I % m = I - n * m := by
        conv => lhs; rw [h1]
        rw [Nat.mul_add_mod, Nat.mod_eq_of_lt h2]
      rw [e1, e2]
/-- entries of a product in blocks: each of f times the whole of g (m by m) -/
noncomputable def kronF (m : Nat) (f g : Nat → Nat → Int) : Nat → Nat → Int := fun I J => f (I / m) (J / m) * g (I % m) (J % m)
theorem lwithin_ok (G : GG wd mg mb H₀) (hA : AOk 1 A) (H : St H₀ env k b σ w r s) {va vb : Value} {n m β γ : Nat} {f g : Nat → Nat → Int} (ha : TMat b va (mk n n f)) (hb : TMat b vb (mk m m g)) (hm0 : 0 < m) (hnm : n * m ≤ 1000)
    (hn : n ≤ 1000) (hm : m ≤ 1000) (hf : ∀ i < n, ∀ j < n, Bd β (f i j)) (hg : ∀ i < m, ∀ j < m, Bd γ (g i j)) (hβ : β + γ ≤ 90000) {Q : Value → Shared → Prop}
    (h : ∀ v b' s', Gr k b b' → St H₀ env k b' σ w r s' → TMat b' v (mk (n * m) (n * m) (kronF m f g)) → Q v s') : wpAny (model prog wd) A (call (.ref 193) [va, vb]) Q E s := by
  refine call_fn (m := []) (n := 0) (nms := ["a", "b"]) (σ₀ := [("a", some va), ("b", some vb)]) G hA H (f := 193) rfl rfl rfl (by decide +kernel) rfl fun L k' s₁ q cd A' hA' H₁ => ?_
  refine genQ fun _ _ => ?_
  with_reducible (refine x_cons ?_; refine wpAny_Return_some ?_)
  obtain ⟨bb, ws, nb, rfl, hbb, bl⟩ := hb
  refine lcomp2 (σ := [("a", some va), ("b", some (.ref bb))]) (σc := [("row", none), ("line", none), ("b", some (.ref bb))]) (by walk_at "side") ?_
  with_reducible (refine nm0 ?_)
  obtain ⟨a, vs, nn, rfl, haa, al⟩ := ha
  refine src_list hA'.handled (by assumption) haa fun I s₂ W H₂ off h0 hfp => ?_
  have hvl : vs.length = n := by rw [al.length, mk_len]
  have hwl : ws.length = m := by rw [bl.length, mk_len]
  refine comp2 (σ := [("a", some (.ref a)), ("b", some (.ref bb))]) (σc := [("row", none), ("line", none), ("b", some (.ref bb))]) (PY := TRow) (f := fun i k => rowN (n * m) fun J => f i (J / m) * g k (J % m)) (m := m) hA'.handled mono_row (by walk_at "side") (W _ _) H₂ off h0 hfp (by rw [hvl]; exact hnm) hm
    (fun u => [("row", some u), ("line", none), ("b", some (.ref bb))]) (fun _ => .head) (by simp) (fun _ => by walk_at "ok")
    (fun u v => [("row", some u), ("line", some v), ("b", some (.ref bb))]) (fun _ _ => .tail .head) (by simp) (fun _ => by simp) (fun _ => by walk_at "ok") (fun _ => by simp) hbb hwl (fun i j u v C k₂ b₂ s₃ hi hj hk₂ hg₂ hu hv H₃ => ?_) (fun D b' s' hg' hD H₃ => ?_)
  · obtain ⟨b₀, _, _, hu⟩ := hu
    rw [hvl] at hi
    have hyx := al.at' hu (mk_get hi)
    have hyx₂ := bl.at' hv (mk_get hj)
    obtain ⟨a₂, vs₂, n₂, rfl, ha₂, al₂⟩ := hyx
    obtain ⟨a₃, vs₃, n₃, rfl, ha₃, al₃⟩ := hyx₂
    refine lcomp2 (σ := [("row", some (.ref a₂)), ("line", some (.ref a₃)), ("b", some (.ref bb))]) (σc := [("one", none), ("other", none), ("line", some (.ref a₃))]) (by walk_at "side") ?_
    with_reducible (refine nm0 ?_)
    refine src_list hA'.handled (by assumption) (hg₂.1 _ _ ha₂) fun I₂ s₄ W₂ H₄ off₂ h0₂ hfp₂ => ?_
    have hvl₂ : vs₂.length = n := by rw [al₂.length, rowN_len]
    have hwl₂ : vs₃.length = m := by rw [al₃.length, rowN_len]
    refine comp2 (σ := [("row", some (.ref a₂)), ("line", some (.ref a₃)), ("b", some (.ref bb))]) (σc := [("one", none), ("other", none), ("line", some (.ref a₃))]) (PY := TInt) (f := fun p q => f i p * g j q) (m := m) hA'.handled mono_int (by walk_at "side") (W₂ _ _) H₄ off₂ h0₂ hfp₂ (by rw [hvl₂]; exact hnm) hm
      (fun u => [("one", some u), ("other", none), ("line", some (.ref a₃))]) (fun _ => .head) (by simp) (fun _ => by walk_at "ok")
      (fun u v => [("one", some u), ("other", some v), ("line", some (.ref a₃))]) (fun _ _ => .tail .head) (by simp) (fun _ => by simp) (fun _ => by walk_at "ok") (fun _ => by simp) (hg₂.1 _ _ ha₃) hwl₂ (fun p q u v C k₅ b₅ s₅ hp hq hk₅ hg₅ hu hv H₅ => ?_) (fun D b₅ s₅ hg₅ hD H₅ => ?_)
    · obtain ⟨b₀, _, _, hu⟩ := hu
      rw [hvl₂] at hp
      obtain ⟨t, rfl⟩ := al₂.at' hu (rowN_get hp)
      obtain ⟨t₂, rfl⟩ := al₃.at' hv (rowN_get hq)
      with_reducible (refine bin2 ?_)
      refine imul (by assumption) ((hf i hi p hp).mulOk (hg j hj q hq) (by lia)) fun s₆ t₆ H₆ => ?_
      exact ⟨_, Gr.refl _ _, H₆, _, rfl⟩
    · refine ⟨b₅, hg₅, H₅, ?_⟩
      rw [hvl₂, flat_rowN hm0] at hD
      exact hD
  · with_reducible (refine q_ret ?_; refine unQ ?_)
    refine ⟨_, _, [], rfl, hg', H₃, fun s'' g' H'' => h _ _ s'' g' H'' ?_⟩
    rw [hvl, flat_rowN hm0] at hD
    exact hD
end

section
variable {prog : Program} {wd : World} {mg mb : Str → Option Value} {H₀ : Heap}
  {env : Env} {k b : WM} {σ σ' σm : Vars} {w w' : Own} {r : RestT} {s : Shared} {A : Around} {E : Value → Shared → Prop} {n : Nat}
theorem All2.mapR {α β : Type} {R R' : Value → α → Prop} {R2 : Value → β → Prop} {g : α → β} (h : ∀ u x, R u x → R2 u (g x)) {l : List Value} {m : List α} (H : All2 R l m) : All2 R2 l (m.map g) := by
  induction H with
  | nil => exact .nil
  | cons x _ ih => exact .cons (h _ _ x) ih
theorem TList.mapT {α β : Type} {P : TP α} {P' : TP β} {g : α → β} {b : WM} {v : Value} {xs : List α} (h : ∀ u x, P b u x → P' b u (g x)) (hv : TList P b v xs) : TList P' b v (xs.map g) := by
  obtain ⟨a, vs, n, rfl, ha, al⟩ := hv
  exact ⟨a, vs, n, rfl, ha, All2.mapR (R' := P b) h al⟩
noncomputable def r1 (f : Nat → Nat → Int) : Nat → Nat → Q2 := fun i j => (f i j, 1)
theorem to_r1 {b : WM} {v : Value} {n m : Nat} {f : Nat → Nat → Int} (h : TList (TList TR1) b v (mk n m f)) : TRmat b v (mk n m (r1 f)) := by
  have := TList.mapT (P' := TRrow) (g := fun l => l.map fun x => ((x, 1) : Q2)) (fun u x hx => TList.mapT (P' := TPair) (g := fun x => ((x, 1) : Q2)) (fun u x hx => hx) hx) h
  have e : (mk n m f).map (fun l => l.map fun x => ((x, 1) : Q2)) = mk n m (r1 f) := by
    unfold mk rowN
    rw [List.map_map]
    refine List.map_congr_left fun i _ => ?_
    simp [r1, Function.comp_def]
  rw [e] at this
  exact this
theorem r1_good {β n m : Nat} {f : Nat → Nat → Int} (hf : ∀ i < n, ∀ j < m, Bd β (f i j)) : ∀ i < n, ∀ j < m, GoodN (β + 1) (r1 f i j) := fun i hi j hj =>
  ⟨⟨Int.one_ne_zero, (hf i hi j hj).mono (Nat.le_succ β), Bd.one⟩, fun _ => rfl⟩
theorem besF_bd {n m β : Nat} {f g : Nat → Nat → Int} (hf : ∀ i < n, ∀ j < n, Bd β (f i j)) (hg : ∀ i < m, ∀ j < m, Bd β (g i j)) : ∀ i < n + m, ∀ j < n + m, Bd β (besF n f g 1 1 i j) := fun i hi j hj => by
  have h0 : Bd β 0 := by unfold Bd; simp; exact Nat.pow_pos (by decide)
  unfold besF
  rw [Int.mul_one, Int.mul_one]
  split
  · split
    · exact hf _ (by assumption) _ (by assumption)
    · exact h0
  · split
    · exact h0
    · exact hg _ (by with_reducible exact Mine.m25) _ (by with_reducible exact Mine.m25)
theorem adjB_bd {n β : Nat} {f : Nat → Nat → Int} (hf : ∀ i < n + 1, ∀ j < n + 1, Bd β (f i j)) : ∀ i < n + 1, ∀ j < n + 1, Bd (1 + bitsB (β + 1) n) (adjB n f i j) := fun i hi j hj => by
  unfold adjB
  refine Bd.mul ?_ (detB_bd fun a ha c hc => hf _ (skip_le (by lia) ha) _ (skip_le (by lia) hc))
  rcases adj_sign i j with e | e <;> (rw [e]; unfold Bd; decide)

/-- an entry, read by two numbers -/
theorem ent_ok {x : Str} {p1 p2 p3 p4 p5 : Pos} {k1 k2 : Nat} {i' j' : Int} (i j : Nat) {n m : Nat} {f : Nat → Nat → Int} {v : Value} {Q : Value → Shared → Prop} (H : St H₀ env k b σ w r s) (hx : (x, some v) ∈ σ) (hv : TMat b v (mk n m f)) (hi : i < n) (hj : j < m) (hn : n ≤ 1000) (hm : m ≤ 1000)
    (h : ∀ t s', St H₀ env k b σ w r s' → Q (.int (f i j) t) s') (ei : i' = (i : Int) := by rfl) (ej : j' = (j : Int) := by rfl) :
    wpAny (model prog wd) A (eval (.Subscript (.Subscript (.Name x p1) (.Constant (.int i') k1 p2) p3) (.Constant (.int j') k2 p4) p5) env) Q E s := by
  refine Subscript_ (sub1 (cint H fun s₁ t₁ H₁ => ?_) H hx)
  refine g_tl H₁ hv i ei (mk_get hi) (by rw [mk_len]; exact hn) fun u hu => ?_
  refine cint H₁ fun s₂ t₂ H₂ => ?_
  refine g_tl H₂ hu j ej (rowN_get hj) (by rw [rowN_len]; exact hm) fun u₂ hu₂ => ?_
  obtain ⟨tt, rfl⟩ := hu₂
  exact h tt s₂ H₂
/-- the determinant of two rows, written out -/
theorem det2_ok {x : Str} {a1 a2 a3 a4 a5 b1 b2 b3 b4 b5 c1 c2 c3 c4 c5 d1 d2 d3 d4 d5 q1 q2 q3 : Pos} {x1 x2 y1 y2 z1 z2 u1 u2 : Nat} {f : Nat → Nat → Int} {v : Value} {Q : Value → Shared → Prop} (H : St H₀ env k b σ w r s) (hx : (x, some v) ∈ σ) (hv : TMat b v (mk 2 2 f)) (hf : ∀ i < 2, ∀ j < 2, Bd 3 (f i j))
    (h : ∀ t s', St H₀ env k b σ w r s' → Q (.int (f 0 0 * f 1 1 - f 0 1 * f 1 0) t) s') :
    wpAny (model prog wd) A (eval (.BinOp (.BinOp (.Subscript (.Subscript (.Name x a1) (.Constant (.int 0) x1 a2) a3) (.Constant (.int 0) x2 a4) a5) .Mult (.Subscript (.Subscript (.Name x b1) (.Constant (.int 1) y1 b2) b3) (.Constant (.int 1) y2 b4) b5) q1) .Sub (.BinOp (.Subscript (.Subscript (.Name x c1) (.Constant (.int 0) z1 c2) c3) (.Constant (.int 1) z2 c4) c5) .Mult (.Subscript (.Subscript (.Name x d1) (.Constant (.int 1) u1 d2) d3) (.Constant (.int 0) u2 d4) d5) q2) q3) env) Q E s := by
  refine e_bin (e_bin (ent_ok 0 0 H hx hv (by decide) (by decide) (by decide) (by decide) fun t₁ s₁ H₁ => ?_))
  refine ent_ok 1 1 H₁ hx hv (by decide) (by decide) (by decide) (by decide) fun t₂ s₂ H₂ => ?_
  refine imul H₂ ((hf 0 (by decide) 0 (by decide)).mulOk (hf 1 (by decide) 1 (by decide)) (by decide)) fun s₃ t₃ H₃ => ?_
  refine e_bin (ent_ok 0 1 H₃ hx hv (by decide) (by decide) (by decide) (by decide) fun t₄ s₄ H₄ => ?_)
  refine ent_ok 1 0 H₄ hx hv (by decide) (by decide) (by decide) (by decide) fun t₅ s₅ H₅ => ?_
  refine imul H₅ ((hf 0 (by decide) 1 (by decide)).mulOk (hf 1 (by decide) 0 (by decide)) (by decide)) fun s₆ t₆ H₆ => ?_
  exact isub H₆ fun s₇ t₇ H₇ => h t₇ s₇ H₇
/-- the rank of whole numbers -/
theorem rr_ok {x : Str} {p1 p2 p3 p4 p5 : Pos} {n : Nat} {f : Nat → Nat → Int} {v : Value} {Q : Value → Shared → Prop} (G : GG wd mg mb H₀) (hA : AOk 7 A) (H : St H₀ env k b σ w r s) (hx : (x, some v) ∈ σ) (hR : TPair b (.ref 42) (0, 1)) (hv : TMat b v (mk n n f)) (hn0 : 0 < n) (hn : n ≤ 4) (hf : ∀ i < n, ∀ j < n, Bd 6 (f i j))
    (h : ∀ b' s' t, Gr k b b' → St H₀ env k b' σ w r s' → Q (.int (rankE n n (r1 f) : Int) t) s') (e1 : env.kindOf ("rank" : Str) = some .globalImplicit := by with_unfolding_all rfl) (e2 : env.kindOf ("_law_ratios" : Str) = some .globalImplicit := by with_unfolding_all rfl) :
    wpAny (model prog wd) A (eval (.Call (.Name ("rank" : Str) p1) [.Call (.Name ("_law_ratios" : Str) p2) [.Name x p3] [] p4] [] p5) env) Q E s := by
  have h2 : ∀ n, n ≤ 4 → bitsE (6 + 1) n ≤ 2000 := fun n hn => Nat.le_trans (bitsE_mono hn) (by decide)
  refine cfg (e_sp1 ?_) G H (by walk_at "gi") (hx := e1)
  refine cf1 ⟨.mk _ _ _ _ _ H, ?_⟩ G H (by walk_at "gi") (hx := e2) (hv := hx)
  refine lratios_ok G (hA.mono (by decide)) H hv (Nat.le_trans hn (by decide)) (Nat.le_trans hn (by decide)) fun v₁ b₁ s₁ hg₁ H₁ h₁ => ?_
  refine e_sp0 ⟨.mk _ _ _ _ _ H₁, ?_⟩
  exact rank_ok (β := 7) G (hA.mono (by decide)) H₁ (mono_pair _ _ _ _ hg₁.1 hR) (to_r1 h₁) hn0 (Nat.le_trans hn (by decide)) (Nat.le_trans hn (by decide)) (r1_good hf) (Nat.le_trans (h2 _ hn) (by decide)) fun b₂ s₂ t₂ hg₂ H₂ => h b₂ s₂ t₂ (hg₁.trans hg₂) H₂
/-- what the law asks of two matrices beside one another -/
structure BesideLaw (s : Nat) (f g : Nat → Nat → Int) : Prop where
  dA : detB 2 f = f 0 0 * f 1 1 - f 0 1 * f 1 0
  dW : detB (2 + (s + 1)) (besF 2 f g 1 1) = (f 0 0 * f 1 1 - f 0 1 * f 1 0) * detB (s + 1) g
  adj : mk (2 + (s + 1)) (2 + (s + 1)) (adjB (2 + s) (besF 2 f g 1 1)) = mk (2 + (s + 1)) (2 + (s + 1)) (besF 2 (adjB 1 f) (adjB s g) (detB (s + 1) g) (f 0 0 * f 1 1 - f 0 1 * f 1 0))
  lead : rowN (2 + (s + 1)) (fun i => detB (i + 1) (besF 2 f g 1 1)) = rowN 2 (fun i => detB (i + 1) f) ++ rowN (s + 1) (fun i => (f 0 0 * f 1 1 - f 0 1 * f 1 0) * detB (i + 1) g)
  rank : rankE (2 + (s + 1)) (2 + (s + 1)) (r1 (besF 2 f g 1 1)) = rankE 2 2 (r1 f) + rankE (s + 1) (s + 1) (r1 g)

theorem lright_ok (G : GG wd mg mb H₀) (hA : AOk 8 A) (H : St H₀ env k b σ w r s) (hR : TPair b (.ref 42) (0, 1)) {va vb : Value} {s' : Nat} {f g : Nat → Nat → Int} (ha : TMat b va (mk 2 2 f)) (hb : TMat b vb (mk (s' + 1) (s' + 1) g)) (hs : s' ≤ 1)
    (hf : ∀ i < 2, ∀ j < 2, Bd 3 (f i j)) (hg : ∀ i < s' + 1, ∀ j < s' + 1, Bd 3 (g i j)) (law : BesideLaw s' f g) {Q : Value → Shared → Prop}
    (h : ∀ b' s', Gr k b b' → St H₀ env k b' σ w r s' → Q (.bool true) s') : wpAny (model prog wd) A (call (.ref 198) [va, vb]) Q E s := by
  have hW := besF_bd hf hg
  have hbits : ∀ n, n ≤ 4 → bitsB (3 + 1) n ≤ 79 := fun n hn => Nat.le_trans (bitsB_mono hn) (by decide)
  have h2 : ∀ n, n ≤ 4 → bitsE (3 + 1) n ≤ 2000 := fun n hn => Nat.le_trans (bitsE_mono hn) (by decide)
  refine call_fn (m := []) (n := 7) (nms := ["a", "b"]) (σ₀ := [("a", some va), ("b", some vb), ("whole", none), ("one", none), ("other", none)]) G hA H (f := 198) rfl rfl rfl (by decide +kernel) rfl fun L k' s₁ q cd A' hA' H₁ => ?_
  refine genQ fun _ _ => ?_
  with_reducible (refine x_cons ?_)
  refine a_tup ?_
  with_reducible (refine Tuple_ ?_; refine e_sp1 ?_; refine cfg ?_; refine spn ?_; refine spn ?_; refine e_sp1 ?_; refine cint (by assumption) fun _ _ _ => ?_; refine e_sp1 ?_; refine cint (by assumption) fun _ _ _ => ?_; refine e_sp0 ?_)
  refine ⟨⟨_, _, _, _, _, by assumption⟩, ?_⟩
  refine lbeside_ok (β := 3) (γ := 1) G (hA'.mono (by decide)) (by assumption) ha hb (by decide) (by lia) hf hg (by unfold Bd; decide) (by unfold Bd; decide) (by decide) fun vW b₂ s₂ hg₂ H₂ hvW => ?_
  have ha₂ := mono_mat _ _ _ _ hg₂.1 ha
  have hb₂ := mono_mat _ _ _ _ hg₂.1 hb
  have hR₂ := mono_pair _ _ _ _ hg₂.1 hR
  with_reducible (refine e_sp1 ?_)
  refine det2_ok (by assumption) (by walk_at "mem") ha₂ hf fun tO _ _ => ?_
  with_reducible (refine e_sp1 ?_; refine cf1 ?_)
  refine ⟨⟨_, _, _, _, _, by assumption⟩, ?_⟩
  refine determinant_ok (β := 3) G (hA'.mono (by decide)) (by assumption) hb₂ (by lia) hg (Nat.le_trans (hbits _ (by lia)) (by decide)) fun t₃ b₃ s₃ hg₃ H₃ => ?_
  have hbD := (detB_bd hg).mono (hbits _ (by lia : s' + 1 ≤ 4))
  have h1D : Bd 7 (f 0 0 * f 1 1 - f 0 1 * f 1 0) := ((hf 0 (by decide) 0 (by decide)).mul (hf 1 (by decide) 1 (by decide))).sub ((hf 0 (by decide) 1 (by decide)).mul (hf 1 (by decide) 0 (by decide)))
  with_reducible (refine e_sp0 ?_)
  refine n_tup (by assumption) (by size_fits) fun D s₄ hg₄ H₄ => ?_
  refine tst hA'.handled H₄ (upd_self ..) rfl rfl fun s₅ H₅ => ?_
  refine aio (nst H₅ (by walk_at "put") (by walk_at "ok") fun s₆ H₆ => ?_)
  refine aio (nst H₆ (by walk_at "put") (by walk_at "ok") fun s₇ H₇ => ?_)
  refine aio (nst H₇ (by walk_at "put") (by walk_at "ok") fun s₈ H₈ => ?_)
  refine aio_nil ?_
  have hs₄ := hg₃.1.trans hg₄.1
  have ha₄ := mono_mat _ _ _ _ hs₄ ha₂
  have hb₄ := mono_mat _ _ _ _ hs₄ hb₂
  have hW₄ := mono_mat _ _ _ _ hs₄ hvW
  have hR₄ := mono_pair _ _ _ _ hs₄ hR₂
  with_reducible (refine q_next ?_; refine x_cons ?_; refine wpAny_If ?_; refine wpAny_isTrue_BoolOp ?_; refine wpAny_allTrue_Or_cons ?_; refine wpAny_isTrue_Compare1 ?_; refine cf1 ?_)
  refine ⟨⟨_, _, _, _, _, by assumption⟩, ?_⟩
  refine determinant_ok (β := 3) G (hA'.mono (by decide)) (by assumption) ha₄ (by decide) hf (Nat.le_trans (hbits _ (by decide)) (by decide)) fun t₉ b₉ s₉ hg₉ H₉ => ?_
  with_reducible (refine nm0 ?_; refine PySem.P.ne_int ?_; refine wpAny_truthy_bool ?_)
  rw [law.dA, if_neg (by simp)]
  with_reducible (refine wpAny_allTrue_Or_cons ?_; refine wpAny_isTrue_Compare1 ?_; refine cf1 ?_)
  refine ⟨⟨_, _, _, _, _, by assumption⟩, ?_⟩
  refine determinant_ok (β := 3) G (hA'.mono (by decide)) (by assumption) (mono_mat _ _ _ _ hg₉.1 hW₄) (by lia) hW (Nat.le_trans (hbits _ (by lia)) (by decide)) fun t₁₀ b₁₀ s₁₀ hg₁₀ H₁₀ => ?_
  have hs₁₀ := hg₉.1.trans hg₁₀.1
  with_reducible (refine bin2 ?_)
  refine imul (by assumption) (h1D.mulOk hbD (by decide)) fun _ _ _ => ?_
  with_reducible (refine PySem.P.ne_int ?_; refine wpAny_truthy_bool ?_)
  rw [law.dW, if_neg (by simp)]
  with_reducible (refine wpAny_allTrue_Or_cons ?_; refine wpAny_isTrue_Compare1 ?_; refine cf1 ?_)
  refine ⟨⟨_, _, _, _, _, by assumption⟩, ?_⟩
  refine adjugate_ok (n := 2 + s') (β := 3) G (hA'.mono (by decide)) (by assumption) (mono_mat _ _ _ _ hs₁₀ hW₄) (by lia) hW (Nat.le_trans (hbits _ (by lia)) (by decide)) fun v₁₁ b₁₁ s₁₁ hg₁₁ H₁₁ h₁₁ => ?_
  have hs₁₁ := hs₁₀.trans hg₁₁.1
  with_reducible (refine cfg ?_; refine e_sp1 ?_; refine cf1 ?_)
  refine ⟨⟨_, _, _, _, _, by assumption⟩, ?_⟩
  refine adjugate_ok (n := 1) (β := 3) G (hA'.mono (by decide)) (by assumption) (mono_mat _ _ _ _ hs₁₁ ha₄) (by decide) hf (Nat.le_trans (hbits _ (by decide)) (by decide)) fun v₁₂ b₁₂ s₁₂ hg₁₂ H₁₂ h₁₂ => ?_
  have hs₁₂ := hs₁₁.trans hg₁₂.1
  with_reducible (refine e_sp1 ?_; refine cf1 ?_)
  refine ⟨⟨_, _, _, _, _, by assumption⟩, ?_⟩
  refine adjugate_ok (n := s') (β := 3) G (hA'.mono (by decide)) (by assumption) (mono_mat _ _ _ _ hs₁₂ hb₄) (by lia) hg (Nat.le_trans (hbits _ (by lia)) (by decide)) fun v₁₃ b₁₃ s₁₃ hg₁₃ H₁₃ h₁₃ => ?_
  have hs₁₃ := hs₁₂.trans hg₁₃.1
  with_reducible (refine sp2 ?_)
  refine ⟨⟨_, _, _, _, _, by assumption⟩, ?_⟩
  refine lbeside_ok (β := 80) (γ := 79) G (hA'.mono (by decide)) (by assumption) (mono_mat _ _ _ _ hg₁₃.1 h₁₂) h₁₃ (by decide) (by lia) (fun i hi j hj => (adjB_bd hf i hi j hj).mono (Nat.add_le_add_left (hbits 1 (by decide)) 1)) (fun i hi j hj => (adjB_bd hg i hi j hj).mono (Nat.add_le_add_left (hbits s' (by lia)) 1)) hbD (h1D.mono (by decide)) (by decide) fun v₁₄ b₁₄ s₁₄ hg₁₄ H₁₄ h₁₄ => ?_
  have hs₁₄ := hs₁₃.trans hg₁₄.1
  refine e_ne encI.list.list hA' (by assumption) (mono_mat _ _ _ _ (hg₁₂.1.trans (hg₁₃.1.trans hg₁₄.1)) h₁₁) h₁₄ ?_
  with_reducible (refine wpAny_truthy_bool ?_)
  rw [show (mk (2 + s' + 1) (2 + s' + 1) (adjB (2 + s') (besF 2 f g 1 1))) = mk (2 + (s' + 1)) (2 + (s' + 1)) (adjB (2 + s') (besF 2 f g 1 1)) from rfl, law.adj, if_neg (by simp)]
  with_reducible (refine wpAny_allTrue_Or_nil ?_; refine b_ff ?_; refine x_nil ?_; refine q_next ?_; refine x_cons ?_; refine wpAny_If ?_; refine wpAny_isTrue_Compare1 ?_; refine cf1 ?_)
  refine ⟨⟨_, _, _, _, _, by assumption⟩, ?_⟩
  refine leading_ok (β := 3) G (hA'.mono (by decide)) (by assumption) (mono_mat _ _ _ _ hs₁₄ hW₄) (by lia) hW (Nat.le_trans (hbits _ (by lia)) (by decide)) fun v₁₅ b₁₅ s₁₅ hg₁₅ H₁₅ h₁₅ => ?_
  have hs₁₅ := hs₁₄.trans hg₁₅.1
  with_reducible (refine e_bin ?_; refine cf1 ?_)
  refine ⟨⟨_, _, _, _, _, by assumption⟩, ?_⟩
  refine leading_ok (β := 3) G (hA'.mono (by decide)) (by assumption) (mono_mat _ _ _ _ hs₁₅ ha₄) (by decide) hf (Nat.le_trans (hbits _ (by decide)) (by decide)) fun v₁₆ b₁₆ s₁₆ hg₁₆ H₁₆ h₁₆ => ?_
  have hs₁₆ := hs₁₅.trans hg₁₆.1
  skip
  refine lcomp (σ := [("a", some va), ("b", some vb), ("whole", some vW), ("one", some (.int (f 0 0 * f 1 1 - f 0 1 * f 1 0) tO)), ("other", some (.int (detB (s' + 1) g) t₃))]) (σc := [("told", none), ("one", some (.int (f 0 0 * f 1 1 - f 0 1 * f 1 0) tO))]) (by walk_at "side") ?_
  with_reducible (refine cf1 ?_)
  refine ⟨⟨_, _, _, _, _, by assumption⟩, ?_⟩
  refine leading_ok (β := 3) G (hA'.mono (by decide)) (by assumption) (mono_mat _ _ _ _ hs₁₆ hb₄) (by lia) hg (Nat.le_trans (hbits _ (by lia)) (by decide)) fun v₁₇ b₁₇ s₁₇ hg₁₇ H₁₇ h₁₇ => ?_
  have hs₁₇ := hs₁₆.trans hg₁₇.1
  obtain ⟨a₁₇, ls, nl, rfl, hl₁₇, ll⟩ := h₁₇
  refine src_list hA'.handled (by assumption) hl₁₇ fun I s₁₈ W H₁₈ off h0 hfp => ?_
  refine map_eval (xs := rowN (s' + 1) fun i => detB (i + 1) g) (keep := fun _ => true) (f := fun x => (f 0 0 * f 1 1 - f 0 1 * f 1 0) * x) (PY := TInt) mono_int (σ := [("a", some va), ("b", some vb), ("whole", some vW), ("one", some (.int (f 0 0 * f 1 1 - f 0 1 * f 1 0) tO)), ("other", some (.int (detB (s' + 1) g) t₃))]) (σc := [("told", none), ("one", some (.int (f 0 0 * f 1 1 - f 0 1 * f 1 0) tO))]) (by walk_at "side") (fun u => [("told", some u), ("one", some (.int (f 0 0 * f 1 1 - f 0 1 * f 1 0) tO))]) (fun _ => .head) (by simp) (fun _ => by walk_at "ok") (W _ _) H₁₈ off h0 hfp ll.length (by rw [PySem.sizeLine_eq, rowN_len]; lia) (fun i x₀ v C k'' b' s'' hx hk hg₃ hP H₁₉ => ?_) (fun D₂ b₁₉ s₁₉ hg₁₉ hD H₁₉ => ?_)
  · refine Turn.plain H₁₉ ?_
    refine genQ fun _ _ => ?_
    obtain ⟨t, rfl⟩ := ll.at' hP hx
    obtain ⟨j, hj, rfl⟩ := rowN_mem (List.mem_of_getElem? hx)
    with_reducible (refine bin2 ?_)
    refine imul (by assumption) (h1D.mulOk ((detB_bd (n := j + 1) fun a ha c hc => hg a (by lia) c (by lia)).mono (hbits _ (by lia))) (by decide)) fun s₂₀ t₂₀ H₂₀ => ?_
    refine unQ ?_
    exact ⟨_, Gr.refl _ _, H₂₀, _, rfl⟩
  · have hD' : TRow b₁₉ (.ref D₂) (rowN (s' + 1) fun i => (f 0 0 * f 1 1 - f 0 1 * f 1 0) * detB (i + 1) g) := by simpa [filter_tt, rowN, Function.comp_def] using hD
    have hs₁₉ := hs₁₇.trans hg₁₉.1
    refine l_add mono_int H₁₉ (mono_row _ _ _ _ (hg₁₇.1.trans hg₁₉.1) h₁₆) hD' (by rw [PySem.sizeLine_eq, rowN_len, rowN_len]; lia) fun v₂₀ b₂₀ s₂₀ hg₂₀ H₂₀ h₂₀ => ?_
    have hs₂₀ := hs₁₉.trans hg₂₀.1
    refine e_ne encI.list hA' H₂₀ (mono_row _ _ _ _ (hg₁₆.1.trans (hg₁₇.1.trans (hg₁₉.1.trans hg₂₀.1))) h₁₅) h₂₀ ?_
    with_reducible (refine wpAny_truthy_bool ?_)
    rw [law.lead, if_neg (by simp)]
    repeat (with_reducible first | refine q_next ?_ | refine x_nil ?_ | refine x_cons ?_ | refine wpAny_Return_some ?_ | refine wpAny_Compare1 ?_)
    refine rr_ok (n := 2 + (s' + 1)) G (hA'.mono (by decide)) (by assumption) (by walk_at "mem") (mono_pair _ _ _ _ hs₂₀ hR₄) (mono_mat _ _ _ _ hs₂₀ hW₄) (by lia) (by lia) (fun i hi j hj => (hW i hi j hj).mono (by decide)) fun b₂₂ s₂₂ t₂₂ hg₂₂ H₂₂ => ?_
    have hs₂₂ := hs₂₀.trans hg₂₂.1
    refine e_bin ?_
    refine rr_ok (n := 2) G (hA'.mono (by decide)) (by assumption) (by walk_at "mem") (mono_pair _ _ _ _ hs₂₂ hR₄) (mono_mat _ _ _ _ hs₂₂ ha₄) (by decide) (by decide) (fun i hi j hj => (hf i hi j hj).mono (by decide)) fun b₂₄ s₂₄ t₂₄ hg₂₄ H₂₄ => ?_
    have hs₂₄ := hs₂₂.trans hg₂₄.1
    refine rr_ok (n := s' + 1) G (hA'.mono (by decide)) (by assumption) (by walk_at "mem") (mono_pair _ _ _ _ hs₂₄ hR₄) (mono_mat _ _ _ _ hs₂₄ hb₄) (by with_reducible exact Mine.m1) (by lia) (fun i hi j hj => (hg i hi j hj).mono (by decide)) fun b₂₆ s₂₆ t₂₆ hg₂₆ H₂₆ => ?_
    with_reducible (refine iadd (by assumption) fun _ _ _ => ?_; refine PySem.P.eq_int ?_; refine q_ret ?_; refine unQ ?_)
    have hall := hg₂.trans (hg₃.trans (hg₄.trans (hg₉.trans (hg₁₀.trans (hg₁₁.trans (hg₁₂.trans (hg₁₃.trans (hg₁₄.trans (hg₁₅.trans (hg₁₆.trans (hg₁₇.trans (hg₁₉.trans (hg₂₀.trans (hg₂₂.trans (hg₂₄.trans hg₂₆)))))))))))))))
    refine ⟨b₂₆, _, [], rfl, hall, by assumption, fun s'' g' H'' => ?_⟩
    rw [law.rank]
    simp only [Int.natCast_add, beq_self_eq_true]
    exact h _ s'' g' H''
end

section
variable {prog : Program} {wd : World} {mg mb : Str → Option Value} {H₀ : Heap}
  {env : Env} {k b : WM} {σ σ' σm : Vars} {w w' : Own} {r : RestT} {s : Shared} {A : Around} {E : Value → Shared → Prop} {n : Nat}
noncomputable def mulF (n : Nat) (f g : Nat → Nat → Int) : Nat → Nat → Int := fun i j => sumN n fun k => f i k * g k j
structure WithinLaw (s : Nat) (f g : Nat → Nat → Int) : Prop where
  d1 : detB (2 * s) (kronF s f g) = (f 0 0 * f 1 1 - f 0 1 * f 1 0) ^ s * detB s g ^ 2
  d2 : detB (s * 2) (kronF 2 g f) = (f 0 0 * f 1 1 - f 0 1 * f 1 0) ^ s * detB s g ^ 2
  rank : s ≤ 2 → rankE (2 * s) (2 * s) (r1 (kronF s f g)) = rankE 2 2 (r1 f) * rankE s s (r1 g)
  sq : ∀ i < 2 * s, ∀ j < 2 * s, mulF (2 * s) (kronF s f g) (kronF s f g) i j = kronF s (mulF 2 f f) (mulF s g g) i j
noncomputable abbrev V0 (script : Value) (box form size a b due whole sq rows others : Option Value) : Vars :=
  [("script", some script), ("box", box), ("form", form), ("size", size), ("a", a), ("b", b), ("due", due), ("whole", whole), ("squares", sq), ("rows", rows), ("others", others)]
theorem rect_mk {n m : Nat} {P : Int → Prop} {M : List (List Int)} (h1 : M.length = n) (h2 : ∀ r ∈ M, r.length = m ∧ ∀ x ∈ r, P x) : ∃ f, M = mk n m f ∧ ∀ i < n, ∀ j < m, P (f i j) := by
  refine ⟨fun i j => (M.getD i []).getD j 0, ?_, fun i hi j hj => ?_⟩
  · apply List.ext_getElem?
    intro i
    by_cases hi : i < n
    · rw [mk_get hi, List.getElem?_eq_getElem (by lia)]
      congr 1
      apply List.ext_getElem?
      intro j
      have hr := (h2 _ (List.getElem_mem (by lia : i < M.length))).1
      by_cases hj : j < m
      · rw [rowN_get hj, List.getElem?_eq_getElem (by lia)]
        simp [List.getD_eq_getElem?_getD, h1, hi, hr, hj]
      · rw [List.getElem?_eq_none (by lia), List.getElem?_eq_none (by rw [rowN_len]; lia)]
    · rw [List.getElem?_eq_none (by lia), List.getElem?_eq_none (by rw [mk_len]; lia)]
  · have hr := h2 _ (List.getElem_mem (by lia : i < M.length))
    have hj' : j < M[i].length := by rw [hr.1]; exact hj
    have hp := hr.2 _ (List.getElem_mem hj')
    have hi' : i < M.length := by lia
    have e : (M.getD i []).getD j 0 = M[i][j] := by
      rw [List.getD_eq_getElem?_getD, List.getD_eq_getElem?_getD, List.getElem?_eq_getElem hi']
      show (M[i][j]?).getD 0 = _
      rw [List.getElem?_eq_getElem hj']; rfl
    show P ((M.getD i []).getD j 0)
    rw [e]; exact hp
theorem jnZ {t : Sem Flow} {Q : Flow → Shared → Prop} (H : St H₀ env k b σ w r s) (σ' : Nat → Tok → Vars) (J : Nat → Prop) (h1 : wpAny (model prog wd) A t (fun fl s' => fl = .next ∧ ∃ z t, J z ∧ St H₀ env k b (σ' z t) w r s') E s)
    (h2 : ∀ z t s', J z → St H₀ env k b (σ' z t) w r s' → Q .next s') : wpAny (model prog wd) A t Q E s :=
  wpAny_mono h1 (fun fl s' ⟨e, z, t, h3, h4⟩ => by subst e; exact h2 z t s' h3 h4) fun _ _ e => e
theorem jnS {t : Sem Flow} {Q : Flow → Shared → Prop} (H : St H₀ env k b σ w r s) (σ' : Vars) (J : WM → Own → Prop) (h1 : wpAny (model prog wd) A t (fun fl s' => fl = .next ∧ ∃ b' m', Gr k b b' ∧ J b' m' ∧ St H₀ env k b' σ' m' r s') E s)
    (h2 : ∀ b' m' s', Gr k b b' → J b' m' → St H₀ env k b' σ' m' r s' → Q .next s') : wpAny (model prog wd) A t Q E s :=
  wpAny_mono h1 (fun fl s' ⟨e, b', m', h3, h4, h5⟩ => by subst e; exact h2 b' m' s' h3 h4 h5) fun _ _ e => e
theorem Bd.pow {β : Nat} {x : Int} (h : Bd β x) (n : Nat) : Bd (β * n + 1) (x ^ n) := by
  unfold Bd at *
  rw [Int.natAbs_pow, Nat.pow_succ, Nat.pow_mul]
  have h1 : x.natAbs ^ n ≤ (2 ^ β) ^ n := Nat.pow_le_pow_left (Nat.le_of_lt h) n
  have h2 : 0 < (2 ^ β) ^ n := Nat.pow_pos (Nat.pow_pos (by decide))
  lia
theorem Bd.bits {β : Nat} {x : Int} (h : Bd β x) : Builtin.Int.intBits x ≤ β + 1 := by
  unfold Builtin.Int.intBits
  split
  · exact Nat.zero_le _
  · by_cases h0 : x.natAbs = 0
    · have : x.natAbs.log2 = 0 := by rw [h0]; decide +kernel
      lia
    · have := (Nat.log2_lt h0).mpr h
      lia
theorem ipw {x : Int} {m β : Nat} {t u : Tok} {Q : Value → Shared → Prop} (H : St H₀ env k b σ w r s) (hb : Bd β x) (hβ : β ≤ 1000) (hm : m ≤ 1000) (h : ∀ s' t, St H₀ env k b σ w r s' → Q (.int (x ^ m) t) s') : wpAny (model prog wd) A (binaryOp .Pow (.int x t) (.int (m : Int) u)) Q E s := by
  have h1 := hb.bits
  have h2 : (Builtin.Int.intBits x : Int) * (m : Int) ≤ 2 ^ 27 := by
    have h3 : Builtin.Int.intBits x * m ≤ 1001 * 1000 := Nat.mul_le_mul (by lia) hm
    have h4 : ((Builtin.Int.intBits x * m : Nat) : Int) ≤ ((1001 * 1000 : Nat) : Int) := by exact_mod_cast h3
    rw [Int.natCast_mul] at h4
    refine Int.le_trans h4 (by decide)
  refine PyProof.Rows.pow_int (by lia) h2 ?_
  have := h _ s.toks (H.tok (tk := s.toks + 1))
  rw [Int.toNat_natCast]
  exact this
theorem mulI_mk {n m p : Nat} {f g : Nat → Nat → Int} (hm : 0 < m) : mulI (mk n m f) (mk m p g) = mk n p (mulF m f g) := by
  unfold mulI mk rowN
  rw [List.map_map]
  refine List.map_congr_left fun i _ => ?_
  simp only [Function.comp]
  unfold transF
  rw [show ncols ((List.range m).map fun i => (List.range p).map (g i)) = p from mk_ncols (f := g) hm]
  rw [List.map_map]
  refine List.map_congr_left fun j hj => ?_
  have hj' : j < p := by simpa using hj
  simp only [Function.comp]
  have e : colOf ((List.range m).map fun i => (List.range p).map (g i)) 0 j = rowN m fun k => g k j := by
    unfold colOf rowN
    rw [List.map_map]
    refine List.map_congr_left fun k _ => ?_
    simp [List.getD_eq_getElem?_getD, hj']
  rw [e]
  unfold dotI mulF
  rw [show ((List.range m).map (f i)).length = m by simp]
  have : ∀ q, q ≤ m → sumN q (fun k => ((List.range m).map (f i)).getD k 0 * (rowN m fun k => g k j).getD k 0) = sumN q fun k => f i k * g k j := by
    intro q
    induction q with
    | zero => intro _; rfl
    | succ q ih =>
      intro hq
      unfold sumN
      rw [ih (by lia)]
      congr 1
      simp [List.getD_eq_getElem?_getD, rowN, show q < m by lia]
  exact this m (Nat.le_refl _)
theorem kron_bd {n m β γ : Nat} {f g : Nat → Nat → Int} (hm : 0 < m) (hf : ∀ i < n, ∀ j < n, Bd β (f i j)) (hg : ∀ i < m, ∀ j < m, Bd γ (g i j)) : ∀ i < n * m, ∀ j < n * m, Bd (β + γ) (kronF m f g i j) := fun i hi j hj =>
  (hf _ (Nat.div_lt_of_lt_mul (by rw [Nat.mul_comm]; exact hi)) _ (Nat.div_lt_of_lt_mul (by rw [Nat.mul_comm]; exact hj))).mul (hg _ (Nat.mod_lt _ hm) _ (Nat.mod_lt _ hm))
theorem mulF_bd {n β : Nat} {f : Nat → Nat → Int} (hn : n ≤ 16) (hf : ∀ i < n, ∀ j < n, Bd β (f i j)) : ∀ i < n, ∀ j < n, Bd (β + β + 5) (mulF n f f i j) := fun i hi j hj => Bd.sumN hn fun k hk => (hf i hi k hk).mul (hf k hk j hj)
theorem rankE_bd {n m : Nat} {f : Nat → Nat → Q2} (hn : n ≤ 16) : Bd 5 ((rankE n m f : Nat) : Int) := by
  have := echE_le (n := n) (f := f) m
  unfold Bd rankE
  lia
theorem All2.two {α β : Type} {R : α → β → Prop} {l : List α} {x y : β} (h : All2 R l [x, y]) : ∃ a b, l = [a, b] ∧ R a x ∧ R b y := by
  cases h with
  | cons h1 t => cases t with
    | cons h2 t2 => cases t2 with
      | nil => exact ⟨_, _, rfl, h1, h2⟩
theorem All2.get1 {R : Value → List (List Int) → Prop} {v1 v2 v3 : Value} {x1 x2 x3 : List (List Int)} (h1 : R v1 x1) (h2 : R v2 x2) (h3 : R v3 x3) : All2 R [v1, v2, v3] [x1, x2, x3] := .cons h1 (.cons h2 (.cons h3 .nil))
theorem Bd3 {x : Int} (h : -7 ≤ x ∧ x ≤ 7) : Bd 3 x := by unfold Bd; lia
/-- a row of drawn numbers -/
theorem lrow_ok (G : GG wd mg mb H₀) (hA : AOk 1 A) {scope : Scope} {cl : List (Str × Addr)} {σ : Vars} {B S : Addr} {c n : Nat} {I : Addr} {fp wr : List Addr} {P : Nat → WM → Value → Prop} {Si : Nat → Heap → Prop} {px p1 p2 p3 p4 p5 p6 pos : Pos} {k1 k2 : Nat} {iter : Expr} {Q : Value → Shared → Prop}
    (hS : CompSide env scope cl σ [("column", none), ("box", some (.ref B))]) (hxk : ∀ C, okKind (compEnvX scope cl C env) ("column" : Str)) (hk : ∀ C, (compEnvX scope cl C env).kindOf ("_law_take" : Str) = some .globalImplicit)
    (W : Itr prog wd A (.Name "column" px) I fp wr n P Si) (H : St H₀ env k b σ w r s) (off : Off env k b w wr) (hs0 : Si 0 s.heap) (hfp : ∀ a ∈ fp, a ∈ wr ∨ ∃ o, b a = some o) (hB : BX B S c w) (hn : n ≤ 3) (hc : c + n ≤ 1000)
    (fin : ∀ D b' w' zs s' (xs : List Int), Gr k b b' → BX B S (c + n) w' → xs.length = n → (∀ x ∈ xs, -3 ≤ x ∧ x ≤ 3) → All2 (TInt b') zs xs → St H₀ env k b' σ ((D, lstO zs zs.length) :: w') r s' → Q (.ref D) s') :
    CompGoal prog wd A E env scope cl none Q (.ListComp (.BinOp (.Call (.Name ("_law_take" : Str) p1) [.Name ("box" : Str) p2, .Constant (.int 7) k1 p3] [] p4) .Sub (.Constant (.int 3) k2 p5) p6) [⟨.Name "column" px, iter, [], 0⟩] scope pos) (.ref I) s := by
  refine goal_eval hS W H off hs0 hfp (by rw [PySem.sizeLine_eq]; exact Nat.le_trans hn (by decide))
    (fun j b' w' ys => X1_4 (fun xs : List Int => BX B S (c + j) w') (fun xs : List Int => xs.length = j) (fun xs : List Int => ∀ x ∈ xs, -3 ≤ x ∧ x ≤ 3) (fun xs : List Int => All2 (TInt b') ys xs)) ⟨[], hB, rfl, fun _ h => (nomatch h), .nil⟩
    (fun j b' b'' w' ys hs h => h) (fun j u C₂ k₂ b₂ w₂ zs s₆ hj hk₂ hg₂ hinv hP₂ H₆ => ?_) (fun D b₂ w₂ zs s₆ hg₂ hinv H₆ => ?_)
  · obtain ⟨xs₂, hBX₂, hxl, hxr, hxa⟩ := hinv
    refine nst H₆ .head (hxk _) fun s₇ H₇ => ?_
    refine tests_nil ?_
    refine e_bin (cfg (spn ?_ H₇ (by walk_at "mem")) G H₇ (by walk_at "gi") (hx := hk C₂))
    refine e_sp1 (cint H₇ fun s₈ t₈ H₈ => e_sp0 ⟨.mk _ _ _ _ _ H₈, ?_⟩)
    refine ltake_ok (w := []) G hA hBX₂ (by rw [List.append_nil]; exact H₈) (by decide) (by lia) fun x t₉ m₉ b₉ s₉ hx0 hx1 hBX₉ hg₉ H₉ => ?_
    rw [List.append_nil] at H₉
    refine cint H₉ fun s₁₀ t₁₀ H₁₀ => isub H₁₀ fun s₁₁ t₁₁ H₁₁ => ?_
    refine ⟨b₉, _, _, hg₉, H₁₁, keepc .head (by dsimp only [List.map]; decide +kernel) (by walk_at "mem"), xs₂ ++ [x - 3], hBX₉, by simp [hxl], fun y hy => ?_, hxa.append (.cons ⟨_, rfl⟩ .nil)⟩
    rcases List.mem_append.mp hy with h | h
    · exact hxr y h
    · rw [List.mem_singleton.mp h]; lia
  · obtain ⟨xs₂, hBX₂, hxl, hxr, hxa⟩ := hinv
    exact fin D b₂ w₂ zs s₆ xs₂ hg₂ hBX₂ hxl hxr hxa H₆
inductive LawBody (wd : World) (R : List Stmt → Scope → Prop) : Prop
  | mk (oc : Value) (od : Option Addr) (nm ql : Str) (params : Arguments) (body : List Stmt) (sc : Scope) (dV kV doc pm : Value) (an : Option Addr) (cdv ct : Value) (osl : Array (Option Value))
      (e : (KK wd).lookup 203 = some ⟨oc, od, .func ⟨nm, ql, params, .stmts body, sc, mainGlobals, [], dV, kV, doc, pm, an, cdv, ct, builtinsNs⟩, osl⟩) (h : R body sc) : LawBody wd R
theorem law_body (wd : World) (G : GG wd mg mb H₀) (hB : ∀ s f g, s ≤ 1 → BesideLaw s f g) (hW : ∀ s f g, 0 < s → s ≤ 3 → WithinLaw s f g) :
    LawBody wd fun body sc =>
      ∀ L f q cd A s k b r a o vs nn xs, AOk 9 A → b a = some o → o.cls = .type "list" → o.data = .seq vs.toArray nn → All2 (fun v i => ∃ t, v = Value.int i t) vs xs → xs.length ≤ 1000 → TPair b (.ref 42) (0, 1) →
        St H₀ (mkEnv sc L f q cd) k b (V0 (.ref a) none none none none none none none none none none) [] r s →
        wpAny (model prog wd) A (execs body (mkEnv sc L f q cd)) (fun fl s' => fl = .ret (.bool true) ∧ ∃ b' σ' w', Gr k b b' ∧ St H₀ (mkEnv sc L f q cd) k b' σ' w' r s') (fun _ _ => False) s := by
  refine ⟨_, _, _, _, _, _, _, _, _, _, _, _, _, _, _, rfl, ?_⟩
  intro L f q cd A s k b r a o vs nn xs hA hba hoc hod hal hxl hR H
  refine genQ fun _ _ => ?_
  with_reducible (refine x_cons ?_)
  refine a_name ?_
  with_reducible (refine List_ ?_; refine e_sp1 ?_)
  refine lcomp (σ := V0 (.ref a) none none none none none none none none none none) (σc := [("one", none)]) (by walk_at "side") ?_
  with_reducible (refine sub1 ?_)
  refine e_uptoL (by assumption) hba hoc hod hal 16 hxl ?_
  with_reducible (refine cint (by assumption) fun _ _ _ => ?_)
  refine ⟨_, rfl, by assumption, fun D b₁ s₁ hg₁ H₁ h₁ => ?_⟩
  obtain ⟨a₁, vs₁, n₁, rfl, ha₁, al₁⟩ := h₁
  have hl₁ : vs₁.length ≤ 16 := by rw [al₁.length, List.length_take]; lia
  refine src_list hA.handled H₁ ha₁ fun I s₂ W H₂ off h0 hfp => ?_
  refine goal_eval (σ := V0 (.ref a) none none none none none none none none none none) (σc := [("one", none)]) (by walk_at "side") (W _ _) H₂ off h0 hfp (by rw [PySem.sizeLine_eq]; lia)
    (fun i b' w' ys => w' = [] ∧ (∀ v ∈ ys, ∃ x, IsI v x) ∧ ys.length = i) ⟨rfl, by simp, rfl⟩ (fun i b' b'' w' ys hs h => h) (fun i v C k'' b' w' ys s'' hi hk hg hinv hP H₃ => ?_) (fun S b₂ w' ys s₃ hg₂ hinv H₃ => ?_)
  · obtain ⟨rfl, hys, hyl⟩ := hinv
    obtain ⟨x, _, t, rfl⟩ := al₁.get' hP
    refine nst H₃ (.head) (by walk_at "ok") fun s₄ H₄ => ?_
    refine tests_nil ?_
    with_reducible (refine b_tt ?_; refine ct1 ?_)
    refine c_int ?_
    refine ⟨b', _, _, Gr.refl _ _, H₄, keepc .head (by simp) (by simp), rfl, fun v hv => ?_, by simp [hyl]⟩
    rcases List.mem_append.mp hv with h | h
    · exact hys v h
    · rw [List.mem_singleton.mp h]; exact ⟨x, t, rfl⟩
  obtain ⟨rfl, hys, hyl⟩ := hinv
  have hR₂ := mono_pair _ _ _ _ (hg₁.1.trans hg₂.1) hR
  with_reducible (refine e_sp1 ?_; refine cint (by assumption) fun _ _ _ => ?_; refine e_sp0 ?_)
  refine n_list (by assumption) (by size_fits) fun B s₄ _ Hx H₄ => ?_
  clear Hx
  obtain ⟨m₀, hB₀, H₅⟩ : ∃ m₀, BX B S 0 m₀ ∧ St H₀ _ _ _ _ m₀ r s₄ := ⟨_, ⟨_, _, _, _, rfl, hys, by lia⟩, H₄⟩
  clear H₄
  refine st H₅ (by walk_at "put") (by walk_at "ok") fun s₅ H₆ => ?_
  with_reducible (refine q_next ?_; refine x_cons ?_)
  refine a_tup ?_
  with_reducible (refine Tuple_ ?_; refine e_sp1 ?_; refine cfg ?_; refine spn ?_; refine e_sp1 ?_; refine cint (by assumption) fun _ _ _ => ?_; refine e_sp0 ?_)
  refine ⟨⟨_, _, _, _, _, by assumption⟩, ?_⟩
  refine ltake_ok (w := []) G (hA.mono (by decide)) hB₀ (by rw [List.append_nil]; assumption) (by decide) (by decide) fun form t₆ m₁ b₆ s₆ hf0 hf1 hB₁ hg₆ H₇ => ?_
  rw [List.append_nil] at H₇
  with_reducible (refine e_sp1 ?_; refine e_bin ?_; refine cint (by assumption) fun _ _ _ => ?_; refine cfg ?_; refine spn ?_; refine e_sp1 ?_; refine cint (by assumption) fun _ _ _ => ?_; refine e_sp0 ?_)
  refine ⟨⟨_, _, _, _, _, by assumption⟩, ?_⟩
  refine ltake_ok (w := []) G (hA.mono (by decide)) hB₁ (by rw [List.append_nil]; assumption) (by decide) (by decide) fun sz₀ t₇ m₂ b₇ s₇ hs0 hs1 hB₂ hg₇ H₈ => ?_
  rw [List.append_nil] at H₈
  obtain ⟨z, rfl⟩ : ∃ z : Nat, sz₀ = (z : Int) := ⟨sz₀.toNat, by lia⟩
  refine iadd (by assumption) fun s₈ t₈ H₉ => ?_
  rw [show (1 : Int) + (z : Int) = ((z + 1 : Nat) : Int) by lia]
  with_reducible (refine e_sp0 ?_)
  refine n_tup (by assumption) (by size_fits) fun D₉ s₉ hg₉ H₁₀ => ?_
  refine tst hA.handled H₁₀ (upd_self ..) rfl rfl fun s₁₀ H₁₁ => ?_
  refine aio (nst H₁₁ (by walk_at "put") (by walk_at "ok") fun s₁₁ H₁₂ => ?_)
  refine aio (nst H₁₂ (by walk_at "put") (by walk_at "ok") fun s₁₂ H₁₃ => ?_)
  refine aio_nil ?_
  with_reducible (refine q_next ?_; refine x_cons ?_)
  have hBXA := hB₂
  have hn3A : (2 : Nat) ≤ 3 := by decide
  refine acomp (σ := V0 (.ref a) (some (.ref B)) (some (.int form t₆)) (some (.int ((z + 1 : Nat) : Int) t₈)) none none none none none none none) (σc := [("row", none), ("box", some (.ref B))]) (by walk_at "side") ?_ (by with_unfolding_all rfl)
  with_reducible (refine ctg ?_; refine e_sp1 ?_; refine cint (by assumption) fun _ _ _ => ?_; refine e_sp0 ?_)
  refine c_range1 (n := 2) hA.handled (by assumption) (by lia) fun IA siA WA HiA offA h0A hfpA => ?_
  refine goal_asg (σa := fun u => V0 (.ref a) (some (.ref B)) (some (.int form t₆)) (some (.int ((z + 1 : Nat) : Int) t₈)) (some u) none none none none none none) (fun _ => by walk_at "put") (by walk_at "ok") (σ := V0 (.ref a) (some (.ref B)) (some (.int form t₆)) (some (.int ((z + 1 : Nat) : Int) t₈)) none none none none none none none) (σc := [("row", none), ("box", some (.ref B))]) (by walk_at "side") (WA _ _) HiA offA h0A hfpA (by rw [PySem.sizeLine_eq]; lia)
    (fun i b' w' ys => X1_4 (fun M : List (List Int) => BX B S (2 + i * 2) w') (fun M : List (List Int) => M.length = i) (fun M : List (List Int) => (∀ r ∈ M, r.length = 2 ∧ ∀ x ∈ r, -3 ≤ x ∧ x ≤ 3)) (fun M : List (List Int) => All2 (TRow b') ys M)) ⟨[], by simpa using hBXA, rfl, by simp, .nil⟩
    (fun i b' b'' w' ys hs h => by
      obtain ⟨M, q1, q2, q3, q4⟩ := h
      exact ⟨M, q1, q2, q3, q4.imp fun v x => mono_row _ _ _ _ hs⟩) (fun i v C k'' b' w' ys s'' hi hk hg hinv hP H₃ => ?_) (fun DA bA wA ysA sA hgA hinv HA => ?_)
  · obtain ⟨M, hBX, hMl, hMr, hal⟩ := hinv
    have hin : i * 2 ≤ 9 := Nat.le_trans (Nat.mul_le_mul (Nat.le_of_lt (Nat.lt_of_lt_of_le hi hn3A)) hn3A) (by decide)
    refine nst H₃ .head (by walk_at "ok") fun s₄ H₄ => ?_
    refine tests_nil ?_
    with_reducible (refine b_tt ?_)
    refine lcomp (σ := [("row", some v), ("box", some (.ref B))]) (σc := [("column", none), ("box", some (.ref B))]) (by walk_at "side") ?_
    with_reducible (refine ctg ?_; refine e_sp1 ?_; refine cint (by assumption) fun _ _ _ => ?_; refine e_sp0 ?_)
    refine c_range1 (n := 2) hA.handled (by assumption) (by lia) fun I₂ s₅ W₂ H₅ off₂ h0₂ hfp₂ => ?_
    refine lrow_ok (n := 2) (σ := [("row", some v), ("box", some (.ref B))]) G (hA.mono (by decide)) (by walk_at "side") (fun _ => by walk_at "ok") (fun _ => by with_unfolding_all rfl) (W₂ _ _) H₅ off₂ h0₂ hfp₂ hBX (by decide) (by lia) fun D b₂ w₂ zs s₆ xs₂ hg₂ hBX₂ hxl hxr hxa H₆ => ?_
    have q := H₆.freeze0
    refine ⟨_, _, _, hg₂.trans q.1, q.2, keepc .head (by dsimp only [List.map]; decide +kernel) (by simp), M ++ [xs₂], by rw [Nat.succ_mul, ← Nat.add_assoc]; exact hBX₂, by simp [hMl], fun r hr => ?_, (hal.imp fun v x => mono_row _ _ _ _ (hg₂.trans q.1).1).append (.cons ⟨D, zs, _, rfl, upd_self .., hxa⟩ .nil)⟩
    rcases List.mem_append.mp hr with h | h
    · exact hMr r h
    · rw [List.mem_singleton.mp h]; exact ⟨hxl, hxr⟩
  obtain ⟨MA, hBYA, hMlA, hMrA, halA⟩ := hinv
  obtain ⟨fA, rfl, hfA⟩ := rect_mk hMlA hMrA
  have hylA : ysA.length = 2 := by rw [halA.length, mk_len]
  with_reducible (refine q_next ?_)
  with_reducible (refine x_cons ?_)
  refine jnS HA (V0 (.ref a) (some (.ref B)) (some (.int form t₆)) (some (.int ((z + 1 : Nat) : Int) t₈)) (some (.ref DA)) none none none none none none) (fun b' m' => ∃ fa, BX B S 7 m' ∧ TMat b' (.ref DA) (mk 2 2 fa) ∧ (∀ i < 2, ∀ j < 2, Bd 3 (fa i j))) ?_ ?_
  · with_reducible (refine wpAny_If ?_; refine wpAny_isTrue_Compare1 ?_; refine cfg ?_; refine spn ?_; refine e_sp1 ?_; refine cint (by assumption) fun _ _ _ => ?_; refine e_sp0 ?_)
    refine ⟨⟨_, _, _, _, _, by assumption⟩, ?_⟩
    refine ltake_ok (w := [(DA, lstO ysA ysA.length)]) G (hA.mono (by decide)) hBYA ((by assumption : St H₀ _ _ _ _ (_ :: wA) _ _).perm (List.perm_append_singleton _ _).symm) (by decide) (by decide) fun x t₁₀ m₁₀ b₁₀ s₁₀ hx0 hx1 hB₁₀ hg₁₀ H₁₄ => ?_
    have H₁₅ := H₁₄.perm (List.perm_append_singleton _ _)
    clear H₁₄
    with_reducible (refine cint (by assumption) fun _ _ _ => ?_; refine PySem.P.eq_int ?_; refine wpAny_truthy_bool ?_)
    by_cases hx : x = 0
    · rw [if_pos (by simp [hx])]
      with_reducible (refine x_cons ?_)
      refine wpAny_Assign_Subscript ?_
      refine lcomp (σ := V0 (.ref a) (some (.ref B)) (some (.int form t₆)) (some (.int ((z + 1 : Nat) : Int) t₈)) (some (.ref DA)) none none none none none none) (σc := [("one", none)]) (by walk_at "side") ?_
      with_reducible (refine sub1 ?_; refine cint (by assumption) fun _ _ _ => ?_)
      obtain ⟨u₀, hu₀, hu₀2⟩ := halA.get (mk_get (f := fA) (m := 2) (show 0 < 2 by decide))
      refine g_ow (by assumption) List.mem_cons_self 0 rfl hu₀ (by lia) ?_
      obtain ⟨a₀, vs₀, n₀, rfl, ha₀, al₀⟩ := hu₀2
      refine src_list hA.handled (by assumption) (hg₁₀.1 _ _ ha₀) fun I s₁₁ W H₁₆ off h0 hfp => ?_
      refine map_eval (xs := rowN 2 (fA 0)) (keep := fun _ => true) (f := fun x => 2 * x) (PY := TInt) mono_int (σ := V0 (.ref a) (some (.ref B)) (some (.int form t₆)) (some (.int ((z + 1 : Nat) : Int) t₈)) (some (.ref DA)) none none none none none none) (σc := [("one", none)]) (by walk_at "side") (fun u => [("one", some u)]) (fun _ => .head) (by simp) (fun _ => by walk_at "ok") (W _ _) H₁₆ off h0 hfp al₀.length (by rw [PySem.sizeLine_eq, rowN_len]; decide) (fun i x₀ v C k'' b' s'' hx hk hg hP H₁₇ => ?_) (fun R b₁₂ s₁₂ hg₁₂ hR₁₂ H₁₇ => ?_)
      · refine Turn.plain H₁₇ ?_
        refine genQ fun _ _ => ?_
        obtain ⟨t, rfl⟩ := al₀.at' hP hx
        obtain ⟨j, hj, rfl⟩ := rowN_mem (List.mem_of_getElem? hx)
        with_reducible (refine e_bin ?_; refine cint (by assumption) fun _ _ _ => ?_; refine nm0 ?_)
        refine imul (by assumption) (Bd.mulOk (β := 2) (γ := 3) (by unfold Bd; decide) (Bd3 ⟨by have := hfA 0 (by decide) j hj; lia, by have := hfA 0 (by decide) j hj; lia⟩) (by decide)) fun s₁₈ t₁₈ H₁₈ => ?_
        refine unQ ?_
        exact ⟨_, Gr.refl _ _, H₁₈, _, rfl⟩
      · with_reducible (refine nm0 ?_; refine cint (by assumption) fun _ _ _ => ?_)
        refine set_own (i := 1) (by assumption) ((by assumption : St H₀ _ _ _ _ (_ :: m₁₀) _ _).own _ List.mem_cons_self).1 (by lia) (by decide) .head fun s₁₈ H₁₈ => ?_
        with_reducible (refine q_next ?_; refine x_nil ?_)
        have q := H₁₈.freeze0
        have hR₁₃ : TRow b₁₂ (.ref R) (rowN 2 fun j => 2 * fA 0 j) := by simpa [filter_tt, rowN, Function.comp_def] using hR₁₂
        refine ⟨rfl, _, m₁₀, hg₁₀.trans (hg₁₂.trans q.1), ⟨fun i' => if i' = 1 then (fun j => 2 * fA 0 j) else fA i', hB₁₀, ⟨DA, _, _, rfl, upd_self .., ?_⟩, fun i hi j hj => ?_⟩, q.2⟩
        · exact ((halA.imp fun v x => mono_row _ _ _ _ (hg₁₀.1.trans hg₁₂.1)).setN (i := 1) hR₁₃).imp fun v x => mono_row _ _ _ _ q.1.1
        · have h1 := hfA 0 (by decide) j hj
          have h2 := hfA i hi j hj
          refine Bd3 ?_
          dsimp only
          split
          · dsimp only; lia
          · lia
    · rw [if_neg (by simp [hx])]
      with_reducible (refine x_nil ?_)
      have q := (by assumption : St H₀ _ _ _ _ (_ :: m₁₀) _ _).freeze0
      refine ⟨rfl, _, m₁₀, hg₁₀.trans q.1, ⟨fA, hB₁₀, ⟨DA, ysA, _, rfl, upd_self .., halA.imp fun v x => mono_row _ _ _ _ (hg₁₀.trans q.1).1⟩, fun i hi j hj => ?_⟩, q.2⟩
      have h2 := hfA i hi j hj
      exact Bd3 (by lia)
  rintro b₁₁ m₁₁ s₁₁ hg₁₁ ⟨fa, hB₁₁, hTA, hfa⟩ H₁₁'
  clear HA
  repeat (with_reducible first | refine q_next ?_ | refine x_nil ?_)
  refine x_cons ?_
  refine jnZ H₁₁' (fun z t => V0 (.ref a) (some (.ref B)) (some (.int form t₆)) (some (.int ((z + 1 : Nat) : Int) t)) (some (.ref DA)) none none none none none none) (fun z => (form = 0 → z ≤ 1) ∧ z ≤ 2) ?_ ?_
  · with_reducible (refine wpAny_If ?_; refine wpAny_isTrue_Compare1 ?_; refine nm0 ?_; refine cint (by assumption) fun _ _ _ => ?_; refine PySem.P.eq_int ?_; refine wpAny_truthy_bool ?_)
    by_cases hform : form = 0
    · rw [if_pos (by simp [hform])]
      with_reducible (refine x_cons ?_)
      refine a_name ?_
      with_reducible (refine cbg ?_; refine spn ?_; refine e_sp1 ?_; refine cint (by assumption) fun _ _ _ => ?_; refine e_sp0 ?_)
      refine c_min hA.handled (by assumption) fun s₂₀ t₂₀ H₂₀ => ?_
      obtain ⟨s', hs', hs'1⟩ : ∃ s' : Nat, (if (2 : Int) < ((z + 1 : Nat) : Int) then 2 else ((z + 1 : Nat) : Int)) = ((s' + 1 : Nat) : Int) ∧ s' ≤ 1 := by
        by_cases h : (2 : Int) < ((z + 1 : Nat) : Int)
        · exact ⟨1, by rw [if_pos h]; rfl, Nat.le_refl _⟩
        · exact ⟨z, by rw [if_neg h], by lia⟩
      rw [hs']
      refine st (by assumption) (by walk_at "put") (by walk_at "ok") fun s₂₁ H₂₁ => ?_
      with_reducible (refine q_next ?_; refine x_nil ?_)
      exact ⟨rfl, s', t₂₀, ⟨fun _ => hs'1, by lia⟩, H₂₁⟩
    · rw [if_neg (by simpa using hform)]
      with_reducible (refine x_nil ?_)
      exact ⟨rfl, z, t₈, ⟨fun h => absurd h hform, by lia⟩, by assumption⟩
  clear H₁₁'
  intro z t₈ s₁₂ hz H₁₂
  with_reducible (refine q_next ?_; refine x_cons ?_)
  have hBXC := hB₁₁
  have hn3C : z + 1 ≤ 3 := by have := hz.2; lia
  refine acomp (σ := V0 (.ref a) (some (.ref B)) (some (.int form t₆)) (some (.int ((z + 1 : Nat) : Int) t₈)) (some (.ref DA)) none none none none none none) (σc := [("row", none), ("box", some (.ref B)), ("size", some (.int ((z + 1 : Nat) : Int) t₈))]) (by walk_at "side") ?_ (by with_unfolding_all rfl)
  with_reducible (refine ct1 ?_)
  refine c_range1 (n := (z + 1)) hA.handled (by assumption) (by lia) fun IC siC WC HiC offC h0C hfpC => ?_
  refine goal_asg (σa := fun u => V0 (.ref a) (some (.ref B)) (some (.int form t₆)) (some (.int ((z + 1 : Nat) : Int) t₈)) (some (.ref DA)) (some u) none none none none none) (fun _ => by walk_at "put") (by walk_at "ok") (σ := V0 (.ref a) (some (.ref B)) (some (.int form t₆)) (some (.int ((z + 1 : Nat) : Int) t₈)) (some (.ref DA)) none none none none none none) (σc := [("row", none), ("box", some (.ref B)), ("size", some (.int ((z + 1 : Nat) : Int) t₈))]) (by walk_at "side") (WC _ _) HiC offC h0C hfpC (by rw [PySem.sizeLine_eq]; lia)
    (fun i b' w' ys => X1_4 (fun M : List (List Int) => BX B S (7 + i * (z + 1)) w') (fun M : List (List Int) => M.length = i) (fun M : List (List Int) => (∀ r ∈ M, r.length = (z + 1) ∧ ∀ x ∈ r, -3 ≤ x ∧ x ≤ 3)) (fun M : List (List Int) => All2 (TRow b') ys M)) ⟨[], by simpa using hBXC, rfl, by simp, .nil⟩
    (fun i b' b'' w' ys hs h => by
      obtain ⟨M, q1, q2, q3, q4⟩ := h
      exact ⟨M, q1, q2, q3, q4.imp fun v x => mono_row _ _ _ _ hs⟩) (fun i v C k'' b' w' ys s'' hi hk hg hinv hP H₃ => ?_) (fun DC bC wC ysC sC hgC hinv HC => ?_)
  · obtain ⟨M, hBX, hMl, hMr, hal⟩ := hinv
    have hin : i * (z + 1) ≤ 9 := Nat.le_trans (Nat.mul_le_mul (Nat.le_of_lt (Nat.lt_of_lt_of_le hi hn3C)) hn3C) (by decide)
    refine nst H₃ .head (by walk_at "ok") fun s₄ H₄ => ?_
    refine tests_nil ?_
    with_reducible (refine b_tt ?_)
    refine lcomp (σ := [("row", some v), ("box", some (.ref B)), ("size", some (.int ((z + 1 : Nat) : Int) t₈))]) (σc := [("column", none), ("box", some (.ref B))]) (by walk_at "side") ?_
    with_reducible (refine ct1 ?_)
    refine c_range1 (n := (z + 1)) hA.handled (by assumption) (by lia) fun I₂ s₅ W₂ H₅ off₂ h0₂ hfp₂ => ?_
    refine lrow_ok (n := z + 1) (σ := [("row", some v), ("box", some (.ref B)), ("size", some (.int ((z + 1 : Nat) : Int) t₈))]) G (hA.mono (by decide)) (by walk_at "side") (fun _ => by walk_at "ok") (fun _ => by with_unfolding_all rfl) (W₂ _ _) H₅ off₂ h0₂ hfp₂ hBX (by have := hz.2; lia) (by lia) fun D b₂ w₂ zs s₆ xs₂ hg₂ hBX₂ hxl hxr hxa H₆ => ?_
    have q := H₆.freeze0
    refine ⟨_, _, _, hg₂.trans q.1, q.2, keepc .head (by dsimp only [List.map]; decide +kernel) (by simp), M ++ [xs₂], by rw [Nat.succ_mul, ← Nat.add_assoc]; exact hBX₂, by simp [hMl], fun r hr => ?_, (hal.imp fun v x => mono_row _ _ _ _ (hg₂.trans q.1).1).append (.cons ⟨D, zs, _, rfl, upd_self .., hxa⟩ .nil)⟩
    rcases List.mem_append.mp hr with h | h
    · exact hMr r h
    · rw [List.mem_singleton.mp h]; exact ⟨hxl, hxr⟩
  obtain ⟨MC, hBYC, hMlC, hMrC, halC⟩ := hinv
  obtain ⟨fB, rfl, hfB⟩ := rect_mk hMlC hMrC
  obtain ⟨qC1, qC2⟩ := HC.freeze0
  clear HC
  have law := hW (z + 1) fa fB (by lia) (by lia)
  have hg3 : ∀ i < z + 1, ∀ j < z + 1, Bd 3 (fB i j) := fun i hi j hj => Bd3 (by have := hfB i hi j hj; lia)
  have hTB : TMat (upd bC DC (lstO ysC ysC.length)) (.ref DC) (mk (z + 1) (z + 1) fB) := ⟨DC, ysC, _, rfl, upd_self .., halC.imp fun v x => mono_row _ _ _ _ qC1.1⟩
  have hallC := hg₁.trans (hg₂.trans (hg₆.trans (hg₇.trans (hg₉.trans (hgA.trans (hg₁₁.trans (hgC.trans qC1)))))))
  have hRC := mono_pair _ _ _ _ hallC.1 hR
  have hTA₂ := mono_mat _ _ _ _ (hgC.trans qC1).1 hTA
  clear hTA
  generalize upd bC DC (lstO ysC ysC.length) = bX at qC1 qC2 hTB hallC hRC hTA₂
  have hbits : ∀ n, n ≤ 6 → bitsB (3 + 1) n ≤ 511 := fun n hn => Nat.le_trans (bitsB_mono hn) (by decide)
  have hbits6 : ∀ n, n ≤ 6 → bitsB (6 + 1) n ≤ 511 := fun n hn => Nat.le_trans (bitsB_mono hn) (by decide)
  have h1D : Bd 7 (fa 0 0 * fa 1 1 - fa 0 1 * fa 1 0) := ((hfa 0 (by decide) 0 (by decide)).mul (hfa 1 (by decide) 1 (by decide))).sub ((hfa 0 (by decide) 1 (by decide)).mul (hfa 1 (by decide) 0 (by decide)))
  with_reducible (refine q_next ?_; refine x_cons ?_; refine wpAny_If ?_; refine wpAny_isTrue_Compare1 ?_; refine nm0 ?_; refine cint (by assumption) fun _ _ _ => ?_; refine PySem.P.eq_int ?_; refine wpAny_truthy_bool ?_)
  by_cases hform : form = 0
  · rw [if_pos (by simp [hform])]
    with_reducible (refine x_cons ?_; refine wpAny_Return_some ?_; refine cf2 ?_)
    refine ⟨⟨_, _, _, _, _, by assumption⟩, ?_⟩
    refine lright_ok G (hA.mono (by decide)) (by assumption) hRC hTA₂ hTB (hz.1 hform) hfa hg3 (hB z fa fB (hz.1 hform)) fun b₃₀ s₃₀ hg₃₀ H₃₀ => ?_
    with_reducible (refine q_ret ?_; refine q_ret ?_; refine unQ ?_)
    exact ⟨rfl, _, _, _, hallC.trans hg₃₀, H₃₀⟩
  rw [if_neg (by simpa using hform)]
  repeat (with_reducible first | refine q_next ?_ | refine x_nil ?_ | refine x_cons ?_)
  refine a_name (e_bin (e_bin ?_))
  refine det2_ok (by assumption) (by walk_at "mem") hTA₂ hfa fun tO _ _ => ?_
  with_reducible (refine nm0 ?_)
  refine ipw (by assumption) h1D (by decide) (by lia) fun s₃₀ t₃₀ H₃₀ => ?_
  with_reducible (refine e_bin ?_; refine cf1 ?_)
  refine ⟨⟨_, _, _, _, _, by assumption⟩, ?_⟩
  refine determinant_ok (β := 3) G (hA.mono (by decide)) (by assumption) hTB (by lia) hg3 (Nat.le_trans (hbits _ (by lia)) (by decide)) fun t₃₁ b₃₁ s₃₁ hg₃₁ H₃₁ => ?_
  have hbD := (detB_bd hg3).mono (hbits _ (by lia : z + 1 ≤ 6))
  with_reducible (refine cint (by assumption) fun _ _ _ => ?_)
  refine ipw (m := 2) (by assumption) hbD (by decide) (by decide) fun s₃₂ t₃₂ H₃₂ => ?_
  refine imul (by assumption) ((h1D.pow (z + 1)).mulOk (hbD.pow 2) (by lia)) fun s₃₃ t₃₃ H₃₃ => ?_
  refine st (by assumption) (by walk_at "put") (by walk_at "ok") fun s₃₄ H₃₄ => ?_
  with_reducible (refine q_next ?_; refine x_cons ?_)
  refine a_name ?_
  with_reducible (refine cf2 ?_)
  refine ⟨⟨_, _, _, _, _, by assumption⟩, ?_⟩
  have hTA₃ := mono_mat _ _ _ _ hg₃₁.1 hTA₂
  have hTB₃ := mono_mat _ _ _ _ hg₃₁.1 hTB
  refine lwithin_ok (n := 2) (m := z + 1) (β := 3) (γ := 3) G (hA.mono (by decide)) (by assumption) hTA₃ hTB₃ (by lia) (by lia) (by decide) (by lia) hfa hg3 (by decide) fun vW b₃₅ s₃₅ hg₃₅ H₃₅ hvW => ?_
  skip
  refine st (by assumption) (by walk_at "put") (by walk_at "ok") fun s₃₆ H₃₆ => ?_
  have hKB : ∀ i < 2 * (z + 1), ∀ j < 2 * (z + 1), Bd 6 (kronF (z + 1) fa fB i j) := kron_bd (by lia) hfa hg3
  have hKB2 : ∀ i < (z + 1) * 2, ∀ j < (z + 1) * 2, Bd 6 (kronF 2 fB fa i j) := kron_bd (by lia) hg3 hfa
  with_reducible (refine q_next ?_; refine x_cons ?_; refine wpAny_If ?_; refine wpAny_isTrue_BoolOp ?_; refine wpAny_allTrue_Or_cons ?_; refine wpAny_isTrue_Compare1 ?_; refine cf1 ?_)
  refine ⟨⟨_, _, _, _, _, by assumption⟩, ?_⟩
  refine determinant_ok (β := 6) G (hA.mono (by decide)) (by assumption) hvW (by lia) hKB (Nat.le_trans (hbits6 _ (by lia)) (by decide)) fun t₃₇ b₃₇ s₃₇ hg₃₇ H₃₇ => ?_
  with_reducible (refine nm0 ?_; refine PySem.P.ne_int ?_; refine wpAny_truthy_bool ?_)
  rw [law.d1, if_neg (by simp)]
  with_reducible (refine wpAny_allTrue_Or_cons ?_; refine wpAny_isTrue_Compare1 ?_; refine cfg ?_; refine e_sp1 ?_; refine cf2 ?_)
  refine ⟨⟨_, _, _, _, _, by assumption⟩, ?_⟩
  have hs₃₇ := hg₃₅.1.trans hg₃₇.1
  refine lwithin_ok (n := z + 1) (m := 2) (β := 3) (γ := 3) G (hA.mono (by decide)) (by assumption) (mono_mat _ _ _ _ hs₃₇ hTB₃) (mono_mat _ _ _ _ hs₃₇ hTA₃) (by lia) (by lia) (by lia) (by lia) hg3 hfa (by decide) fun v₃₈ b₃₈ s₃₈ hg₃₈ H₃₈ h₃₈ => ?_
  with_reducible (refine e_sp0 ?_)
  refine ⟨⟨_, _, _, _, _, by assumption⟩, ?_⟩
  refine determinant_ok (β := 6) G (hA.mono (by decide)) (by assumption) h₃₈ (by lia) hKB2 (Nat.le_trans (hbits6 _ (by lia)) (by decide)) fun t₃₉ b₃₉ s₃₉ hg₃₉ H₃₉ => ?_
  with_reducible (refine nm0 ?_; refine PySem.P.ne_int ?_; refine wpAny_truthy_bool ?_)
  rw [law.d2, if_neg (by simp)]
  with_reducible (refine wpAny_allTrue_Or_nil ?_; refine b_ff ?_; refine x_nil ?_; refine q_next ?_; refine x_cons ?_; refine wpAny_If ?_; refine wpAny_isTrue_Compare1 ?_; refine nm0 ?_; refine cint (by assumption) fun _ _ _ => ?_; refine PySem.P.eq_int ?_; refine wpAny_truthy_bool ?_)
  have hs₃₉ := hs₃₇.trans (hg₃₈.1.trans hg₃₉.1)
  have hall₃₉ := hallC.trans (hg₃₁.trans (hg₃₅.trans (hg₃₇.trans (hg₃₈.trans hg₃₉))))
  by_cases hz : z = 2
  · rw [if_pos (by rw [hz]; decide)]
    with_reducible (refine x_cons ?_; refine wpAny_Return_some ?_; refine wpAny_Constant_bool ?_; refine q_ret ?_; refine q_ret ?_; refine unQ ?_)
    exact ⟨rfl, _, _, _, hall₃₉, by assumption⟩
  · rw [if_neg (by simp; lia)]
    repeat (with_reducible first | refine q_next ?_ | refine x_nil ?_ | refine x_cons ?_ | refine wpAny_If ?_ | refine wpAny_isTrue_Compare1 ?_)
    have hW₄ := mono_mat _ _ _ _ (hg₃₇.1.trans (hg₃₈.1.trans hg₃₉.1)) hvW
    have hTA₄ := mono_mat _ _ _ _ hs₃₉ hTA₃
    have hTB₄ := mono_mat _ _ _ _ hs₃₉ hTB₃
    have hR₄ := mono_pair _ _ _ _ hall₃₉.1 hR
    refine rr_ok (n := 2 * (z + 1)) G (hA.mono (by decide)) (by assumption) (by walk_at "mem") hR₄ hW₄ (by lia) (by lia) hKB fun b₄₁ s₄₁ t₄₁ hg₄₁ H₄₁ => ?_
    have hs₄₁ := hg₄₁.1
    refine e_bin ?_
    refine rr_ok (n := 2) G (hA.mono (by decide)) (by assumption) (by walk_at "mem") (mono_pair _ _ _ _ hs₄₁ hR₄) (mono_mat _ _ _ _ hs₄₁ hTA₄) (by decide) (by decide) (fun i hi j hj => (hfa i hi j hj).mono (by decide)) fun b₄₃ s₄₃ t₄₃ hg₄₃ H₄₃ => ?_
    have hs₄₃ := hs₄₁.trans hg₄₃.1
    refine rr_ok (n := z + 1) G (hA.mono (by decide)) (by assumption) (by walk_at "mem") (mono_pair _ _ _ _ hs₄₃ hR₄) (mono_mat _ _ _ _ hs₄₃ hTB₄) (by lia) (by lia) (fun i hi j hj => (hg3 i hi j hj).mono (by decide)) fun b₄₅ s₄₅ t₄₅ hg₄₅ H₄₅ => ?_
    have hs₄₅ := hs₄₃.trans hg₄₅.1
    refine imul (by assumption) ((rankE_bd (by decide)).mulOk (rankE_bd (by lia)) (by decide)) fun s₄₆ t₄₆ H₄₆ => ?_
    with_reducible (refine PySem.P.ne_int ?_; refine wpAny_truthy_bool ?_)
    rw [law.rank (by lia), if_neg (by simp)]
    with_reducible (refine x_nil ?_; refine q_next ?_; refine x_cons ?_)
    refine acomp (σ := V0 (.ref a) (some (.ref B)) (some (.int form t₆)) (some (.int ((z + 1 : Nat) : Int) t₈)) (some (.ref DA)) (some (.ref DC)) (some (.int ((fa 0 0 * fa 1 1 - fa 0 1 * fa 1 0) ^ (z + 1) * detB (z + 1) fB ^ 2) t₃₃)) (some vW) none none none) (σc := [("one", none)]) (by walk_at "side") ?_ (by with_unfolding_all rfl)
    with_reducible (refine Tuple_ ?_; refine spn ?_; refine sp2 ?_)
    refine n_tup (by assumption) (by size_fits) fun D₅ s₄₇ hg₄₇ H₄₇ => ?_
    refine src_tuple hA.handled H₄₇ (upd_self ..) fun I s₄₈ W H₄₈ off h0 hfp => ?_
    have hs₄₇ := hs₄₅.trans hg₄₇.1
    have hal3 : All2 (TMat _) [vW, .ref DA, .ref DC] [mk (2 * (z + 1)) (2 * (z + 1)) (kronF (z + 1) fa fB), mk 2 2 fa, mk (z + 1) (z + 1) fB] := All2.get1 (mono_mat _ _ _ _ hs₄₇ hW₄) (mono_mat _ _ _ _ hs₄₇ hTA₄) (mono_mat _ _ _ _ hs₄₇ hTB₄)
    have hR₅ := mono_pair _ _ _ _ hs₄₇ hR₄
    have hall₄₇ := hall₃₉.trans (hg₄₁.trans (hg₄₃.trans (hg₄₅.trans hg₄₇)))
    refine map_asg (xs := [mk (2 * (z + 1)) (2 * (z + 1)) (kronF (z + 1) fa fB), mk 2 2 fa, mk (z + 1) (z + 1) fB]) (keep := fun _ => true) (f := fun M => mulI M M) (PY := TList (TList TR1)) (σa := fun u => V0 (.ref a) (some (.ref B)) (some (.int form t₆)) (some (.int ((z + 1 : Nat) : Int) t₈)) (some (.ref DA)) (some (.ref DC)) (some (.int ((fa 0 0 * fa 1 1 - fa 0 1 * fa 1 0) ^ (z + 1) * detB (z + 1) fB ^ 2) t₃₃)) (some vW) (some u) none none) (fun _ => by walk_at "put") (by walk_at "ok") (mono_list (mono_list mono_r1)) (σc := [("one", none)]) (by walk_at "side") (fun u => [("one", some u)]) (fun _ => .head) (by simp) (fun _ => by walk_at "ok") (W _ _) H₄₈ off h0 hfp rfl (by rw [PySem.sizeLine_eq]; simp) (fun i x₀ v C k'' b' s'' hx hk hg hP H₄₉ => ?_) (fun SQ b₅₀ s₅₀ hg₅₀ hSQ H₅₀ => ?_)
    · refine Turn.plain H₄₉ ?_
      refine genQ fun _ _ => ?_
      have hyx := hal3.at' hP hx
      have hnf : ∃ n f, x₀ = mk n n f ∧ 0 < n ∧ n ≤ 4 ∧ ∀ i < n, ∀ j < n, Bd 6 (f i j) := by
        have hm := List.mem_of_getElem? hx
        rcases List.mem_cons.mp hm with rfl | hm
        · exact ⟨_, _, rfl, by lia, by lia, hKB⟩
        · rcases List.mem_cons.mp hm with rfl | hm
          · exact ⟨_, _, rfl, by lia, by lia, fun i hi j hj => (hfa i hi j hj).mono (by decide)⟩
          · rw [List.mem_singleton.mp hm]
            exact ⟨_, _, rfl, by lia, by lia, fun i hi j hj => (hg3 i hi j hj).mono (by decide)⟩
      obtain ⟨nx, fx, rfl, hx0, hx4, hxb⟩ := hnf
      with_reducible (refine cfg ?_; refine e_sp1 ?_; refine cf1 ?_)
      refine ⟨⟨_, _, _, _, _, by assumption⟩, ?_⟩
      refine lratios_ok G (hA.mono (by decide)) (by assumption) (mono_mat _ _ _ _ hg.1 hyx) (by lia) (by lia) fun v₅₁ b₅₁ s₅₁ hg₅₁ H₅₁ h₅₁ => ?_
      with_reducible (refine e_sp1 ?_; refine cf1 ?_)
      refine ⟨⟨_, _, _, _, _, by assumption⟩, ?_⟩
      refine lratios_ok G (hA.mono (by decide)) (by assumption) (mono_mat _ _ _ _ (hg.1.trans hg₅₁.1) hyx) (by lia) (by lia) fun v₅₂ b₅₂ s₅₂ hg₅₂ H₅₂ h₅₂ => ?_
      with_reducible (refine e_sp0 ?_)
      refine ⟨⟨_, _, _, _, _, by assumption⟩, ?_⟩
      have hbm : ∀ x ∈ mk nx nx fx, ∀ y ∈ x, Bd 6 y := fun x hx y hy => by
        obtain ⟨i, hi, rfl⟩ := mk_mem hx
        obtain ⟨j, hj, rfl⟩ := rowN_mem hy
        exact hxb i hi j hj
      have hrl : ∀ x ∈ mk nx nx fx, x.length = nx := fun x hx => by
        obtain ⟨i, hi, rfl⟩ := mk_mem hx
        rw [rowN_len]
      refine mat_mul_ok (β := 6) G (hA.mono (by decide)) (by assumption) (mono_pair _ _ _ _ (hg.1.trans (hg₅₁.1.trans hg₅₂.1)) hR₅) (mono_list (mono_list mono_r1) _ _ _ _ hg₅₂.1 h₅₁) h₅₂ (by rw [mk_ncols hx0, mk_len]) (by rw [mk_len]; lia) (fun x hx => by rw [hrl x hx, mk_len]) (by rw [mk_len]; lia) (fun x hx => by rw [hrl x hx, mk_ncols hx0]) (by rw [mk_ncols hx0]; lia) hbm hbm (by decide) fun v₅₃ b₅₃ s₅₃ hg₅₃ H₅₃ h₅₃ => ?_
      refine unQ ?_
      exact ⟨_, hg₅₁.trans (hg₅₂.trans hg₅₃), H₅₃, h₅₃⟩
    · have hSQ' : TList (TList (TList TR1)) b₅₀ (.ref SQ) [mk (2 * (z + 1)) (2 * (z + 1)) (mulF (2 * (z + 1)) (kronF (z + 1) fa fB) (kronF (z + 1) fa fB)), mk 2 2 (mulF 2 fa fa), mk (z + 1) (z + 1) (mulF (z + 1) fB fB)] := by
        rw [filter_tt] at hSQ
        simp only [List.map_cons, List.map_nil] at hSQ
        rw [mulI_mk (by lia), mulI_mk (by decide), mulI_mk (by lia)] at hSQ
        exact hSQ
      with_reducible (refine q_next ?_; refine x_cons ?_)
      refine a_tup ?_
      refine lcomp (σ := V0 (.ref a) (some (.ref B)) (some (.int form t₆)) (some (.int ((z + 1 : Nat) : Int) t₈)) (some (.ref DA)) (some (.ref DC)) (some (.int ((fa 0 0 * fa 1 1 - fa 0 1 * fa 1 0) ^ (z + 1) * detB (z + 1) fB ^ 2) t₃₃)) (some vW) (some (.ref SQ)) none none) (σc := [("square", none)]) (by walk_at "side") ?_
      with_reducible (refine sub1 ?_)
      refine e_from (by assumption) (mono_list (mono_list mono_r1)) hSQ' 1 (by simp) ?_
      with_reducible (refine cint (by assumption) fun _ _ _ => ?_)
      refine ⟨_, rfl, by assumption, fun D₅₁ b₅₁ s₅₁ hg₅₁ H₅₁ h₅₁ => ?_⟩
      simp only [List.drop_succ_cons, List.drop_zero] at h₅₁
      obtain ⟨a₅, vs₅, n₅, rfl, ha₅, al₅⟩ := h₅₁
      refine src_list hA.handled H₅₁ ha₅ fun I s₅₂ W H₅₂ off h0 hfp => ?_
      refine map_eval (xs := [mk 2 2 (mulF 2 fa fa), mk (z + 1) (z + 1) (mulF (z + 1) fB fB)]) (keep := fun _ => true) (f := id) (PY := TMat) mono_mat (σ := V0 (.ref a) (some (.ref B)) (some (.int form t₆)) (some (.int ((z + 1 : Nat) : Int) t₈)) (some (.ref DA)) (some (.ref DC)) (some (.int ((fa 0 0 * fa 1 1 - fa 0 1 * fa 1 0) ^ (z + 1) * detB (z + 1) fB ^ 2) t₃₃)) (some vW) (some (.ref SQ)) none none) (σc := [("square", none)]) (by walk_at "side") (fun u => [("square", some u)]) (fun _ => .head) (by simp) (fun _ => by walk_at "ok") (W _ _) H₅₂ off h0 hfp al₅.length (by rw [PySem.sizeLine_eq]; simp) (fun i x₀ v C k'' b' s'' hx hk hg hP H₅₃ => ?_) (fun RS b₅₃ s₅₃ hg₅₃ hRS H₅₃ => ?_)
      · refine Turn.plain H₅₃ ?_
        refine genQ fun _ _ => ?_
        have hyx := al₅.at' hP hx
        have hsz : x₀.length ≤ 1000 ∧ ∀ y ∈ x₀, y.length ≤ 1000 := by
          have hm := List.mem_of_getElem? hx
          rcases List.mem_cons.mp hm with rfl | hm
          · exact ⟨by rw [mk_len]; decide, mk_rows (by decide)⟩
          · rw [List.mem_singleton.mp hm]
            exact ⟨by rw [mk_len]; lia, mk_rows (by lia)⟩
        refine lcomp (σ := [("square", some v)]) (σc := [("row", none)]) (by walk_at "side") ?_
        with_reducible (refine nm0 ?_)
        obtain ⟨a₆, vs₆, n₆, rfl, ha₆, al₆⟩ := hyx
        refine src_list hA.handled (by assumption) (hg.1 _ _ ha₆) fun I₆ s₆ W₆ H₆ off₆ h0₆ hfp₆ => ?_
        refine map_eval (xs := x₀) (keep := fun _ => true) (f := id) (PY := TRow) mono_row (σ := [("square", some (.ref a₆))]) (σc := [("row", none)]) (by walk_at "side") (fun u => [("row", some u)]) (fun _ => .head) (by simp) (fun _ => by walk_at "ok") (W₆ _ _) H₆ off₆ h0₆ hfp₆ al₆.length (by rw [PySem.sizeLine_eq]; lia) (fun i₂ x₂ v₂ C₂ k₂ b₂ s₂ hx₂ hk₂ hg₂ hP₂ H₇ => ?_) (fun D b₇ s₇ hg₇ hD H₇ => ?_)
        · refine Turn.plain H₇ ?_
          refine genQ fun _ _ => ?_
          have hyx₂ := al₆.at' hP₂ hx₂
          have hsz₂ := hsz.2 _ (List.mem_of_getElem? hx₂)
          refine lcomp (σ := [("row", some v₂)]) (σc := [("one", none)]) (by walk_at "side") ?_
          with_reducible (refine nm0 ?_)
          obtain ⟨a₈, vs₈, n₈, rfl, ha₈, al₈⟩ := hyx₂
          refine src_list hA.handled (by assumption) (hg₂.1 _ _ (hg.1 _ _ ha₈)) fun I₈ s₈ W₈ H₈ off₈ h0₈ hfp₈ => ?_
          refine map_eval (xs := x₂) (keep := fun _ => true) (f := id) (PY := TInt) mono_int (σ := [("row", some (.ref a₈))]) (σc := [("one", none)]) (by walk_at "side") (fun u => [("one", some u)]) (fun _ => .head) (by simp) (fun _ => by walk_at "ok") (W₈ _ _) H₈ off₈ h0₈ hfp₈ al₈.length (by rw [PySem.sizeLine_eq]; lia) (fun i₃ x₃ v₃ C₃ k₃ b₃ s₃ hx₃ hk₃ hg₃ hP₃ H₉ => ?_) (fun D b₉ s₉ hg₉ hD H₉ => ?_)
          · refine Turn.plain H₉ ?_
            refine genQ fun _ _ => ?_
            have hyx₃ := al₈.at' hP₃ hx₃
            have hyx₄ : TPair b₃ v₃ (x₃, 1) := mono_pair _ _ _ _ (hg.1.trans (hg₂.1.trans hg₃.1)) hyx₃
            with_reducible (refine sub1 ?_; refine cint (by assumption) fun _ _ _ => ?_; refine g_p0 (by assumption) (by assumption) fun _ => ?_; refine unQ ?_)
            exact ⟨_, Gr.refl _ _, by assumption, _, rfl⟩
          · refine unQ ?_
            exact ⟨b₉, hg₉, H₉, by simpa [filter_tt] using hD⟩
        · refine unQ ?_
          exact ⟨b₇, hg₇, H₇, by simpa [filter_tt] using hD⟩
      · obtain ⟨aS, vsS, nS', hre, hbS, alS⟩ := hRS
        cases hre
        rw [filter_tt, List.map_id] at alS
        obtain ⟨vR, vO, rfl, hvR2, hvO2⟩ := alS.two
        refine tstL hA.handled H₅₃ hbS rfl rfl fun s₅₄ H₅₄ => ?_
        refine aio (nst H₅₄ (by walk_at "put") (by walk_at "ok") fun s₅₅ H₅₅ => ?_)
        refine aio (nst H₅₅ (by walk_at "put") (by walk_at "ok") fun s₅₆ H₅₆ => ?_)
        refine aio_nil ?_
        with_reducible (refine q_next ?_; refine x_cons ?_; refine wpAny_Return_some ?_; refine wpAny_Compare1 ?_; refine sub1 ?_; refine cint (by assumption) fun _ _ _ => ?_)
        refine g_tl (by assumption) (mono_list (mono_list (mono_list mono_r1)) _ _ _ _ (hg₅₁.1.trans hg₅₃.1) hSQ') 0 rfl rfl (by simp) fun v₅₇ h₅₇ => ?_
        with_reducible (refine cfg ?_; refine e_sp1 ?_; refine cf2 ?_)
        refine ⟨⟨_, _, _, _, _, by assumption⟩, ?_⟩
        refine lwithin_ok (n := 2) (m := z + 1) (β := 20) (γ := 20) G (hA.mono (by decide)) (by assumption) hvR2 hvO2 (by lia) (by lia) (by decide) (by lia) (fun i hi j hj => (mulF_bd (by decide) hfa i hi j hj).mono (by decide)) (fun i hi j hj => (mulF_bd (by lia) hg3 i hi j hj).mono (by decide)) (by decide) fun v₅₈ b₅₈ s₅₈ hg₅₈ H₅₈ h₅₈ => ?_
        with_reducible (refine e_sp0 ?_)
        refine ⟨⟨_, _, _, _, _, by assumption⟩, ?_⟩
        refine lratios_ok G (hA.mono (by decide)) (by assumption) h₅₈ (by lia) (by lia) fun v₅₉ b₅₉ s₅₉ hg₅₉ H₅₉ h₅₉ => ?_
        refine e_eq encR1.list.list hA (by assumption) (mono_list (mono_list mono_r1) _ _ _ _ (hg₅₈.1.trans hg₅₉.1) h₅₇) h₅₉ ?_
        with_reducible (refine q_ret ?_; refine unQ ?_)
        refine ⟨?_, _, _, _, hall₄₇.trans (hg₅₀.trans (hg₅₁.trans (hg₅₃.trans (hg₅₈.trans hg₅₉)))), H₅₉⟩
        rw [mk_congr law.sq]
        simp
end

section
variable {prog : Program} {wd : World} {mg mb : Str → Option Value} {H₀ : Heap}
  {env : Env} {k b : WM} {σ σ' σm : Vars} {w w' : Own} {r : RestT} {s : Shared} {A : Around} {E : Value → Shared → Prop} {n : Nat}
noncomputable def lawBody (o : Option Obj) : List Stmt := match o with
  | some ⟨_, _, .func ⟨_, _, _, .stmts b, _, _, _, _, _, _, _, _, _, _, _⟩, _⟩ => b
  | _ => []
noncomputable def lawScope (o : Option Obj) : Scope := match o with
  | some ⟨_, _, .func ⟨_, _, _, _, sc, _, _, _, _, _, _, _, _, _, _⟩, _⟩ => sc
  | _ => default
theorem law_at (wd : World) (G : GG wd mg mb H₀) (hB : ∀ s f g, s ≤ 1 → BesideLaw s f g) (hW : ∀ s f g, 0 < s → s ≤ 3 → WithinLaw s f g)
    {oc : Value} {od : Option Addr} {nm ql : Str} {params : Arguments} {body : List Stmt} {sc : Scope} {dV kV doc pm : Value} {an : Option Addr} {cdv ct : Value} {osl : Array (Option Value)}
    (hlk : (KK wd).lookup 203 = some ⟨oc, od, .func ⟨nm, ql, params, .stmts body, sc, mainGlobals, [], dV, kV, doc, pm, an, cdv, ct, builtinsNs⟩, osl⟩)
    {L f : Addr} {q : Str} {cd : Value} {A : Around} {s : Shared} {k b : WM} {r : RestT} {a : Addr} {o : Obj} {vs : List Value} {nn : Nat} {xs : List Int} (hA : AOk 9 A) (h1 : b a = some o) (h2 : o.cls = .type "list") (h3 : o.data = .seq vs.toArray nn) (h4 : All2 (fun v i => ∃ t, v = Value.int i t) vs xs) (h5 : xs.length ≤ 1000) (h6 : TPair b (.ref 42) (0, 1))
    (H : St H₀ (mkEnv sc L f q cd) k b (V0 (.ref a) none none none none none none none none none none) [] r s) :
    wpAny (model prog wd) A (execs body (mkEnv sc L f q cd)) (fun fl s' => fl = .ret (.bool true) ∧ ∃ b' σ' w', Gr k b b' ∧ St H₀ (mkEnv sc L f q cd) k b' σ' w' r s') (fun _ _ => False) s := by
  obtain ⟨oc', od', nm', ql', params', body', sc', dV', kV', doc', pm', an', cdv', ct', osl', hlk', hw⟩ := law_body (prog := prog) wd G hB hW
  have e := hlk'.symm.trans hlk
  have e1 : body' = body := congrArg lawBody e
  have e2 : sc' = sc := congrArg lawScope e
  subst e1 e2
  exact hw L f q cd A s k b r a o vs nn xs hA h1 h2 h3 h4 h5 h6 H
theorem ints_all2 {vs : List Value} {xs : List Int} (h : IntsAre vs xs) : All2 (fun v i => ∃ t, v = Value.int i t) vs xs := by
  induction h with
  | nil => exact .nil
  | cons n t _ ih => exact .cons ⟨t, rfl⟩ ih
theorem St.start {L f : Addr} {q : Str} {cd : Value} {sc : Scope} {script : Value} {σ : Vars} {sl : Addr} {s₁ : Shared} {h₁ : Heap} {tk : Nat} {m : Str → Option Value} (hL : L = s₁.heap.objs.size)
    (hgood : goodScope sc ["script"] = true) (hσ : σ = (varNames sc).map fun x => (x, bnd [("script", script)] (fun _ => none) x))
    (F : Fr s₁.heap L h₁ m) (hm : ∀ x v, (x, some v) ∈ σ → sc.names.lookup x = some .local → m x = some v)
    (hcel : ∀ x c, (cellsFrom (L + 1) sc.names []).lookup x = some c → ∃ o v, h₁.get? c = some o ∧ o.data = .cell v ∧ (∀ u, (x, some u) ∈ σ → sc.names.lookup x ≠ some .local → v = some u)) :
    St s₁.heap (mkEnv sc L f q cd) (fun a => s₁.heap.get? a) (fun a => if a = 42 ∨ a = sl then s₁.heap.get? a else none) σ [] (s₁.gens, s₁.drawn, s₁.os) { s₁ with heap := h₁, toks := tk } := by
  subst hL
  have hsc' := hgood
  simp only [goodScope, Bool.and_eq_true, decide_eq_true_eq, List.all_eq_true, Bool.or_eq_true, beq_iff_eq, bne_iff_ne, ne_eq, Bool.not_eq_true'] at hsc'
  obtain ⟨⟨⟨⟨⟨⟨q1, q2⟩, q3⟩, q4⟩, q5⟩, q6⟩, q7⟩ := hsc'
  have hn : s₁.heap.get? s₁.heap.objs.size = none := get_size_none _
  have hc0 : ∀ x c, (cellsFrom (s₁.heap.objs.size + 1) sc.names []).lookup x = some c → s₁.heap.get? c = none := fun x c h => by
    have := cellsFrom_ge _ _ (PySem.mem_of_lookup h)
    cases e : s₁.heap.get? c with
    | none => rfl
    | some o => exact absurd (Heap.lt_size e) (Nat.not_lt.mpr (Nat.le_of_succ_le this))
  have hb : ∀ c, s₁.heap.get? c = none → (if c = 42 ∨ c = sl then s₁.heap.get? c else none) = none := fun c h => by
    split
    · exact h
    · rfl
  exact {
    rest := ⟨rfl, rfl, rfl⟩
    bk := fun a o e => e
    keep := fun a o e => F.keep a o e
    froz := fun a o e => by
      split at e
      · exact F.keep a o e
      · cases e
    own := fun p hp => by cases hp
    nodup := List.nodup_nil
    names := by rw [hσ, List.map_map]; simpa [Function.comp_def] using q1
    kinds := fun p hp => by
      rw [hσ] at hp
      obtain ⟨x, hx, rfl⟩ := List.mem_map.mp hp
      have a1 := q2 x hx
      unfold vark
      show ((x != _) && (x != _) && (match sc.names.lookup x with | some .local => true | some .cell => ((cellsFrom (s₁.heap.objs.size + 1) sc.names []).lookup x).isSome | some .free => ((cellsFrom (s₁.heap.objs.size + 1) sc.names []).lookup x).isSome | _ => false)) = true
      rcases q3 x hx with e | e
      · simp [a1.1, a1.2, e]
      · have := PySem.W.cellsFrom_some sc.names (s₁.heap.objs.size + 1) [] (x := x) (.inl e)
        simp only [e, Bool.and_eq_true, bne_iff_ne, ne_eq]
        exact ⟨⟨a1.1, a1.2⟩, this⟩
    fk := q5
    gl := ⟨rfl, rfl⟩
    loc := ⟨m, F.ns, fun x v hx hl => hm x v hx hl⟩
    cel := fun x c hc => by
      obtain ⟨o, v, h1, h2, h3⟩ := hcel x c hc
      exact ⟨v, ⟨o, h1, h2⟩, fun u hu hk => h3 u hu hk⟩
    lk := hn
    lb := hb _ hn
    ck := fun x c hc _ => ⟨hc0 x c hc, hb _ (hc0 x c hc)⟩
    apart := fun x y c hx hy _ => by
      have := cellsFrom_ok sc.names s₁.heap 0 [] ⟨fun n c hm => (List.not_mem_nil hm).elim, List.Pairwise.nil⟩ (Nat.zero_le _)
      have ap : ∀ (names : List (Str × NameKind)) (n : Nat) (acc : List (Str × Addr)), (acc.Pairwise fun x y => x.2 ≠ y.2) → (∀ p ∈ acc, @LT.lt Nat _ p.2 n) → (cellsFrom n names acc).Pairwise fun x y => x.2 ≠ y.2 := by
        intro names
        induction names with
        | nil => intro n acc h _; exact h
        | cons p rest ih =>
          intro n acc h1 h2
          obtain ⟨x, kd⟩ := p
          unfold cellsFrom
          split
          · refine ih _ _ (List.pairwise_cons.mpr ⟨fun y hy e => ?_, h1⟩) fun p hp => ?_
            · have := h2 y hy
              rw [← show n = y.2 from e] at this
              exact Nat.lt_irrefl _ this
            · rcases List.mem_cons.mp hp with rfl | hp
              · exact Nat.lt_succ_self _
              · exact Nat.lt_succ_of_lt (h2 p hp)
          · exact ih _ _ h1 h2
      exact lookup_inj (ap sc.names (s₁.heap.objs.size + 1) [] .nil (fun p hp => (List.not_mem_nil hp).elim)) hx hy }
noncomputable def noneAt (σ : Vars) (x : Str) : Bool := σ.all fun p => !(p.1 == x) || p.2.isNone
theorem noneAt_no {σ : Vars} {x : Str} {u : Value} (h : noneAt σ x = true) (hm : (x, some u) ∈ σ) : False := by
  unfold noneAt at h
  rw [List.all_eq_true] at h
  have := h _ hm
  simp at this
end

end Mine
end

section
set_option maxRecDepth 100000
set_option linter.unusedVariables false
namespace Mine
section
variable {α : Type} [Lean.Grind.CommRing α]
noncomputable def sm : Nat → (Nat → α) → α
  | 0, _ => 0
  | n + 1, f => sm n f + f n
theorem sm_congr {f g : Nat → α} : ∀ {n : Nat}, (∀ i < n, f i = g i) → sm n f = sm n g
  | 0, _ => rfl
  | n + 1, h => by
    unfold sm
    rw [sm_congr fun i hi => h i (Nat.lt_succ_of_lt hi), h n (Nat.lt_succ_self n)]
theorem sm_zero {f : Nat → α} : ∀ {n : Nat}, (∀ i < n, f i = 0) → sm n f = 0
  | 0, _ => rfl
  | n + 1, h => by
    unfold sm
    rw [sm_zero fun i hi => h i (Nat.lt_succ_of_lt hi), h n (Nat.lt_succ_self n)]
    grind
theorem sm_add {f g : Nat → α} : ∀ {n : Nat}, sm n (fun i => f i + g i) = sm n f + sm n g
  | 0 => by unfold sm; grind
  | n + 1 => by
    unfold sm
    rw [sm_add (n := n)]; grind
theorem sm_mul {f : Nat → α} (a : α) : ∀ {n : Nat}, sm n (fun i => a * f i) = a * sm n f
  | 0 => by unfold sm; grind
  | n + 1 => by
    unfold sm
    rw [sm_mul a (n := n)]; grind
theorem sm_mulr {f : Nat → α} (a : α) {n : Nat} : sm n (fun i => f i * a) = sm n f * a := by
  have : (fun i => f i * a) = fun i => a * f i := by funext i; grind
  rw [this, sm_mul]; grind
theorem sm_comm {m : Nat} {f : Nat → Nat → α} : ∀ {n : Nat}, sm n (fun i => sm m (fun j => f i j)) = sm m fun j => sm n fun i => f i j
  | 0 => by
    show (0 : α) = sm m fun j => sm 0 fun i => f i j
    exact (sm_zero (f := fun j => sm 0 fun i => f i j) fun _ _ => rfl).symm
  | n + 1 => by
    show sm n _ + _ = sm m fun j => sm n (fun i => f i j) + f n j
    rw [sm_comm (n := n), sm_add]
theorem sm_single {f : Nat → α} {r : Nat} : ∀ {n : Nat}, r < n → (∀ i < n, i ≠ r → f i = 0) → sm n f = f r
  | 0, hr, _ => by with_reducible exact Mine.m31
  | n + 1, hr, h => by
    unfold sm
    by_cases e : r = n
    · subst e
      rw [sm_zero fun i hi => h i (by with_reducible exact Mine.m4) (by lia)]; grind
    · rw [sm_single (r := r) (by with_reducible exact Mine.m24) fun i hi => h i (by with_reducible exact Mine.m4), h n (by with_reducible exact Mine.m2) (by lia)]; grind
theorem sm_split {a : Nat} {f : Nat → α} : ∀ {b : Nat}, sm (a + b) f = sm a f + sm b fun i => f (a + i)
  | 0 => by
    show sm a f = sm a f + 0
    grind
  | b + 1 => by
    show sm (a + b) f + f (a + b) = sm a f + (sm b (fun i => f (a + i)) + f (a + b))
    rw [sm_split (b := b)]; grind
theorem sm_prod {b : Nat} {f : Nat → α} : ∀ {a : Nat}, sm (a * b) f = sm a fun i => sm b fun j => f (i * b + j)
  | 0 => by rw [Nat.zero_mul]; rfl
  | a + 1 => by
    rw [Nat.succ_mul, sm_split, sm_prod (a := a)]; rfl
noncomputable def mulR (r : Nat) (A B : Nat → Nat → α) : Nat → Nat → α := fun i j => sm r fun k => A i k * B k j
theorem mulR_assoc {r q : Nat} {A B C : Nat → Nat → α} : mulR r (mulR q A B) C = mulR q A (mulR r B C) := by
  funext i j
  unfold mulR
  have h1 : (fun k => sm q (fun l => A i l * B l k) * C k j) = fun k => sm q fun l => A i l * B l k * C k j := by
    funext k; rw [sm_mulr]
  have h2 : (fun l => A i l * sm r fun k => B l k * C k j) = fun l => sm r fun k => A i l * B l k * C k j := by
    funext l; rw [← sm_mul]; congr 1; funext k; grind
  rw [h1, h2, sm_comm]
theorem mulR_congr {r n m : Nat} {A B A' B' : Nat → Nat → α} (h1 : ∀ i < n, ∀ k < r, A i k = A' i k) (h2 : ∀ k < r, ∀ j < m, B k j = B' k j) : ∀ i < n, ∀ j < m, mulR r A B i j = mulR r A' B' i j := fun i hi j hj =>
  sm_congr fun k hk => by rw [h1 i hi k hk, h2 k hk j hj]
noncomputable def kr (a b : Nat) (f g : Nat → Nat → α) : Nat → Nat → α := fun I J => f (I / a) (J / b) * g (I % a) (J % b)
theorem kr_mul {a b r r' : Nat} {A A' B B' : Nat → Nat → α} : mulR (r * r') (kr a r' A A') (kr r' b B B') = kr a b (mulR r A B) (mulR r' A' B') := by
  funext I J
  unfold mulR kr
  rw [sm_prod, ← sm_mulr]
  refine sm_congr fun k hk => ?_
  rw [← sm_mul]
  refine sm_congr fun l hl => ?_
  have h1 : (k * r' + l) / r' = k := by rw [Nat.mul_comm, Nat.mul_add_div (by lia), Nat.div_eq_of_lt hl]; rfl
  have h2 : (k * r' + l) % r' = l := by rw [Nat.mul_comm, Nat.mul_add_mod, Nat.mod_eq_of_lt hl]
  rw [h1, h2]
  grind
noncomputable def bs (a b : Nat) (f g : Nat → Nat → α) : Nat → Nat → α := fun i j => if i < a then (if j < b then f i j else 0) else (if j < b then 0 else g (i - a) (j - b))
theorem bs_mul {a b r r' : Nat} {A A' B B' : Nat → Nat → α} : mulR (r + r') (bs a r A A') (bs r b B B') = bs a b (mulR r A B) (mulR r' A' B') := by
  funext i j
  have e1 : sm r (fun k => bs a r A A' i k * bs r b B B' k j) = if i < a then (if j < b then mulR r A B i j else 0) else 0 := by
    by_cases hi : i < a
    · rw [if_pos hi]
      by_cases hj : j < b
      · rw [if_pos hj]
        refine sm_congr fun k hk => ?_
        unfold bs
        rw [if_pos hi, if_pos hk, if_pos hk, if_pos hj]
      · rw [if_neg hj]
        refine sm_zero fun k hk => ?_
        unfold bs
        rw [if_pos hi, if_pos hk, if_pos hk, if_neg hj]; grind
    · rw [if_neg hi]
      refine sm_zero fun k hk => ?_
      unfold bs
      rw [if_neg hi, if_pos hk]; grind
  have e2 : sm r' (fun k => bs a r A A' i (r + k) * bs r b B B' (r + k) j) = if i < a then 0 else (if j < b then 0 else mulR r' A' B' (i - a) (j - b)) := by
    by_cases hi : i < a
    · rw [if_pos hi]
      refine sm_zero fun k hk => ?_
      unfold bs
      rw [if_pos hi, if_neg (by lia)]; grind
    · rw [if_neg hi]
      by_cases hj : j < b
      · rw [if_pos hj]
        refine sm_zero fun k hk => ?_
        unfold bs
        rw [if_neg hi, if_neg (by lia), if_neg (by lia), if_pos hj]; grind
      · rw [if_neg hj]
        refine sm_congr fun k hk => ?_
        unfold bs
        rw [if_neg hi, if_neg (by lia), if_neg (by lia), if_neg hj, Nat.add_sub_cancel_left]
  have e3 : mulR (r + r') (bs a r A A') (bs r b B B') i j = sm (r + r') fun k => bs a r A A' i k * bs r b B B' k j := rfl
  rw [e3, sm_split, e1, e2]
  unfold bs
  by_cases hi : i < a
  · rw [if_pos hi, if_pos hi, if_pos hi]; grind
  · rw [if_neg hi, if_neg hi, if_neg hi]; grind
end
end Mine
end

section
set_option maxRecDepth 100000
set_option linter.unusedVariables false
namespace Mine
noncomputable def skp (r i : Nat) : Nat := if i < r then i else i + 1
theorem sm_skp {f : Nat → Rat} {r : Nat} : ∀ {n : Nat}, r ≤ n → sm (n + 1) f = f r + sm n fun i => f (skp r i)
  | 0, h => by
    have : r = 0 := by lia
    subst this
    show (0 : Rat) + f 0 = f 0 + 0
    grind
  | n + 1, h => by
    show sm (n + 1) f + f (n + 1) = f r + (sm n (fun i => f (skp r i)) + f (skp r n))
    by_cases e : r = n + 1
    · subst e
      have h1 : sm n (fun i => f (skp (n + 1) i)) = sm n f := sm_congr fun i hi => by unfold skp; rw [if_pos (by with_reducible exact Mine.m4)]
      rw [h1, show skp (n + 1) n = n by unfold skp; rw [if_pos (by with_reducible exact Mine.m2)]]
      show sm n f + f n + f (n + 1) = _
      grind
    · rw [sm_skp (n := n) (r := r) (by lia), show skp r n = n + 1 by unfold skp; rw [if_neg (by lia)]]
      grind
/-- more unknowns than equations -/
theorem homog : ∀ {q r : Nat} {Y : Nat → Nat → Rat}, q < r → ∃ v : Nat → Rat, (∃ j, j < r ∧ v j ≠ 0) ∧ ∀ i < q, sm r (fun j => Y i j * v j) = 0
  | 0, r, Y, h => ⟨fun _ => 1, ⟨0, h, by decide⟩, fun i hi => by with_reducible exact Mine.m31⟩
  | q + 1, r, Y, h => by
    by_cases hz : ∀ j < r, Y q j = 0
    · obtain ⟨v, hv, hs⟩ := homog (q := q) (r := r) (Y := Y) (by lia)
      refine ⟨v, hv, fun i hi => ?_⟩
      by_cases e : i = q
      · subst e
        exact sm_zero fun j hj => by rw [hz j hj]; grind
      · exact hs i (by with_reducible exact Mine.m24)
    · have ⟨p, hp, hne⟩ : ∃ p, p < r ∧ Y q p ≠ 0 := Classical.byContradiction fun hcon => hz fun i hi => Classical.byContradiction fun h => hcon ⟨i, hi, h⟩
      obtain ⟨r, rfl⟩ : ∃ m, r = m + 1 := ⟨r - 1, by lia⟩
      obtain ⟨w, ⟨j, hj, hw⟩, hs⟩ := homog (q := q) (r := r) (Y := fun i j => Y i (skp p j) - Y i p * (Y q (skp p j) / Y q p)) (by lia)
      let un : Nat → Nat := fun j => if j < p then j else j - 1
      let x : Rat := - sm r (fun j => Y q (skp p j) / Y q p * w j)
      have hun : ∀ j, un (skp p j) = j := fun j => by
        show (if skp p j < p then skp p j else skp p j - 1) = j
        unfold skp; (repeat' split) <;> (first | with_reducible rfl | lia)
      have hsk : ∀ j, skp p j ≠ p := fun j => by unfold skp; split <;> lia
      have hv : ∀ i, sm (r + 1) (fun j => Y i j * (if j = p then x else w (un j))) = Y i p * x + sm r fun j => Y i (skp p j) * w j := fun i => by
        rw [sm_skp (r := p) (by lia), if_pos rfl]
        congr 1
        refine sm_congr fun j _ => ?_
        rw [if_neg (hsk j), hun]
      refine ⟨fun j => if j = p then x else w (un j), ⟨skp p j, by unfold skp; split <;> (first | with_reducible exact Mine.m4 | with_reducible exact Mine.m5), ?_⟩, fun i hi => ?_⟩
      · dsimp only
        rw [if_neg (hsk j), hun]; exact hw
      · dsimp only
        rw [hv]
        have hd : sm r (fun j => Y i (skp p j) * w j) + Y i p * x = sm r (fun j => (Y i (skp p j) - Y i p * (Y q (skp p j) / Y q p)) * w j) := by
          have e : (fun j => (Y i (skp p j) - Y i p * (Y q (skp p j) / Y q p)) * w j) = fun j => Y i (skp p j) * w j + (-Y i p) * (Y q (skp p j) / Y q p * w j) := by
            funext j; grind
          rw [e, sm_add, sm_mul]
          show _ + Y i p * -_ = _
          grind
        by_cases e : i = q
        · subst e
          have hz : sm r (fun j => (Y i (skp p j) - Y i p * (Y i (skp p j) / Y i p)) * w j) = 0 := sm_zero fun j _ => by
            grind
          rw [hz] at hd
          grind
        · have := hs i (by with_reducible exact Mine.m24)
          rw [this] at hd
          grind

noncomputable def IsRank (n m : Nat) (M : Nat → Nat → Rat) (r : Nat) : Prop :=
  ∃ C R P Q : Nat → Nat → Rat, (∀ i < n, ∀ j < m, M i j = mulR r C R i j) ∧ (∀ i < r, ∀ j < r, mulR n P (mulR m M Q) i j = if i = j then 1 else 0)
theorem IsRank.le {n m r r' : Nat} {M : Nat → Nat → Rat} (h : IsRank n m M r) (h' : IsRank n m M r') : r ≤ r' := by
  obtain ⟨_, _, P, Q, _, hI⟩ := h
  obtain ⟨C, R, _, _, hM, _⟩ := h'
  refine Classical.byContradiction fun hlt => ?_
  obtain ⟨v, ⟨j, hj, hv⟩, hz⟩ := homog (q := r') (r := r) (Y := mulR m R Q) (by lia)
  -- I v = P (C (R Q)) v = 0
  have h1 : ∀ i < r, ∀ j < r, mulR n P (mulR m M Q) i j = mulR n P (mulR r' C (mulR m R Q)) i j := fun i hi j hj => by
    rw [← mulR_assoc (A := C)]
    refine sm_congr fun k hk => ?_
    congr 1
    refine sm_congr fun l hl => ?_
    rw [hM k hk l hl]
  have h2 : sm r (fun k => mulR n P (mulR r' C (mulR m R Q)) j k * v k) = 0 := by
    have e : sm r (fun k => mulR n P (mulR r' C (mulR m R Q)) j k * v k) = mulR r (mulR n P (mulR r' C (mulR m R Q))) (fun k _ => v k) j 0 := rfl
    rw [e, mulR_assoc, mulR_assoc]
    refine sm_zero fun k hk => ?_
    have : mulR r' C (mulR r (mulR m R Q) fun k _ => v k) k 0 = 0 := sm_zero fun l hl => by
      have : mulR r (mulR m R Q) (fun k _ => v k) l 0 = 0 := hz l hl
      rw [this]; grind
    rw [this]; grind
  have h3 : sm r (fun k => mulR n P (mulR r' C (mulR m R Q)) j k * v k) = v j := by
    rw [sm_single (r := j) hj fun k hk hne => ?_]
    · rw [← h1 j hj j hj, hI j hj j hj, if_pos rfl]; grind
    · rw [← h1 j hj k hk, hI j hj k hk, if_neg (Ne.symm hne)]; grind
  exact hv (h3.symm.trans h2)
theorem IsRank.unique {n m r r' : Nat} {M : Nat → Nat → Rat} (h : IsRank n m M r) (h' : IsRank n m M r') : r = r' := Nat.le_antisymm (h.le h') (h'.le h)
theorem IsRank.congr {n m r : Nat} {M M' : Nat → Nat → Rat} (h : IsRank n m M r) (e : ∀ i < n, ∀ j < m, M' i j = M i j) : IsRank n m M' r := by
  obtain ⟨C, R, P, Q, hM, hI⟩ := h
  refine ⟨C, R, P, Q, fun i hi j hj => (e i hi j hj).trans (hM i hi j hj), fun i hi j hj => ?_⟩
  rw [← hI i hi j hj]
  refine sm_congr fun k hk => ?_
  congr 1
  refine sm_congr fun l hl => ?_
  rw [e k hk l hl]
theorem IsRank.kr {n m r n' m' r' : Nat} {M M' : Nat → Nat → Rat} (h : IsRank n m M r) (h' : IsRank n' m' M' r') : IsRank (n * n') (m * m') (Mine.kr n' m' M M') (r * r') := by
  obtain ⟨C, R, P, Q, hM, hI⟩ := h
  obtain ⟨C', R', P', Q', hM', hI'⟩ := h'
  refine ⟨Mine.kr n' r' C C', Mine.kr r' m' R R', Mine.kr r' n' P P', Mine.kr m' r' Q Q', fun i hi j hj => ?_, fun i hi j hj => ?_⟩
  · rw [kr_mul]
    have hn' : 0 < n' := Nat.pos_of_ne_zero fun e => by subst e; simp at hi
    have hm' : 0 < m' := Nat.pos_of_ne_zero fun e => by subst e; simp at hj
    unfold Mine.kr
    rw [hM _ ((Nat.div_lt_iff_lt_mul hn').mpr hi) _ ((Nat.div_lt_iff_lt_mul hm').mpr hj), hM' _ (Nat.mod_lt _ hn') _ (Nat.mod_lt _ hm')]
  · rw [kr_mul, kr_mul]
    have hr' : 0 < r' := Nat.pos_of_ne_zero fun e => by subst e; simp at hi
    unfold Mine.kr
    rw [hI _ ((Nat.div_lt_iff_lt_mul hr').mpr hi) _ ((Nat.div_lt_iff_lt_mul hr').mpr hj), hI' _ (Nat.mod_lt _ hr') _ (Nat.mod_lt _ hr')]
    by_cases e : i = j
    · subst e
      rw [if_pos rfl, if_pos rfl, if_pos rfl]; grind
    · rw [if_neg e]
      by_cases e1 : i / r' = j / r'
      · by_cases e2 : i % r' = j % r'
        · exfalso; apply e
          rw [← Nat.div_add_mod i r', ← Nat.div_add_mod j r', e1, e2]
        · rw [if_neg e2]; grind
      · rw [if_neg e1]; grind
theorem IsRank.bs {n m r n' m' r' : Nat} {M M' : Nat → Nat → Rat} (h : IsRank n m M r) (h' : IsRank n' m' M' r') : IsRank (n + n') (m + m') (Mine.bs n m M M') (r + r') := by
  obtain ⟨C, R, P, Q, hM, hI⟩ := h
  obtain ⟨C', R', P', Q', hM', hI'⟩ := h'
  refine ⟨Mine.bs n r C C', Mine.bs r m R R', Mine.bs r n P P', Mine.bs m r Q Q', fun i hi j hj => ?_, fun i hi j hj => ?_⟩
  · rw [bs_mul]
    unfold Mine.bs
    by_cases h1 : i < n
    · rw [if_pos h1, if_pos h1]
      by_cases h2 : j < m
      · rw [if_pos h2, if_pos h2]; exact hM i h1 j h2
      · rw [if_neg h2, if_neg h2]
    · rw [if_neg h1, if_neg h1]
      by_cases h2 : j < m
      · rw [if_pos h2, if_pos h2]
      · rw [if_neg h2, if_neg h2]; exact hM' _ (by with_reducible exact Mine.m25) _ (by with_reducible exact Mine.m25)
  · rw [bs_mul, bs_mul]
    unfold Mine.bs
    by_cases h1 : i < r
    · rw [if_pos h1]
      by_cases h2 : j < r
      · rw [if_pos h2]; exact hI i h1 j h2
      · rw [if_neg h2, if_neg (by lia)]
    · rw [if_neg h1]
      by_cases h2 : j < r
      · rw [if_pos h2, if_neg (by lia)]
      · rw [if_neg h2, hI' _ (by with_reducible exact Mine.m25) _ (by with_reducible exact Mine.m25)]
        by_cases e : i = j
        · rw [if_pos (by lia), if_pos e]
        · rw [if_neg (by lia), if_neg e]
end Mine
end

section
set_option maxRecDepth 100000
set_option linter.unusedVariables false
namespace Mine
noncomputable def val (q : Q2) : Rat := (q.1 : Rat) / (q.2 : Rat)
noncomputable def NZ (q : Q2) : Prop := q.2 ≠ 0 ∧ (q.1 = 0 → q.2 = 1)
theorem ratc {x : Int} (h : x ≠ 0) : (x : Rat) ≠ 0 := by simpa using h
theorem NZ.iff {q : Q2} (h : NZ q) : val q = 0 ↔ q = (0, 1) := by
  constructor
  · intro e
    have h2 := ratc h.1
    have h1 : q.1 = 0 := Classical.byContradiction fun hn => by
      have h3 := ratc hn
      unfold val at e
      grind
    have := h.2 h1
    exact Prod.ext h1 this
  · intro e
    subst e
    show ((0 : Int) : Rat) / ((1 : Int) : Rat) = 0
    rw [Rat.intCast_zero]; grind
theorem ratF_spec {t b : Int} (h0 : b ≠ 0) : ∃ g : Int, g ≠ 0 ∧ t = (ratF t b).1 * g ∧ b = (ratF t b).2 * g := by
  have hg0 : (Int.gcd t b : Int) ≠ 0 := by
    have := Int.gcd_pos_of_ne_zero_right t h0
    lia
  have h1 : (Int.gcd t b : Int) ∣ t := Int.gcd_dvd_left ..
  have h2 : (Int.gcd t b : Int) ∣ b := Int.gcd_dvd_right ..
  unfold ratF
  dsimp only
  refine ⟨if b > 0 then (Int.gcd t b : Int) else 0 - (Int.gcd t b : Int), ?_, ?_, ?_⟩
  · split <;> (first | with_reducible assumption | lia)
  · refine (Int.fdiv_mul_cancel ?_).symm
    split
    · exact h1
    · obtain ⟨c, hc⟩ := h1
      exact ⟨-c, by rw [Int.zero_sub, Int.neg_mul_neg]; exact hc⟩
  · refine (Int.fdiv_mul_cancel ?_).symm
    split
    · exact h2
    · obtain ⟨c, hc⟩ := h2
      exact ⟨-c, by rw [Int.zero_sub, Int.neg_mul_neg]; exact hc⟩
theorem ratF_NZ {t b : Int} (h0 : b ≠ 0) : NZ (ratF t b) := by
  obtain ⟨g, hg, h1, h2⟩ := ratF_spec (t := t) h0
  exact ⟨fun e => h0 (by rw [h2, e, Int.zero_mul]), ratF_nz h0⟩
theorem ratF_val {t b : Int} (h0 : b ≠ 0) : val (ratF t b) = (t : Rat) / (b : Rat) := by
  obtain ⟨g, hg, h1, h2⟩ := ratF_spec (t := t) h0
  have h3 := (ratF_NZ (t := t) h0).1
  generalize ratF t b = q at h1 h2 h3
  subst h1; subst h2
  unfold val
  have := ratc hg
  have := ratc h3
  rw [Rat.intCast_mul, Rat.intCast_mul]
  grind
theorem rsub_val {p q : Q2} (hp : p.2 ≠ 0) (hq : q.2 ≠ 0) : val (rsubF p q) = val p - val q := by
  unfold rsubF
  rw [ratF_val (Int.mul_ne_zero hp hq)]
  have := ratc hp
  have := ratc hq
  unfold val
  rw [Rat.intCast_mul, Rat.intCast_sub, Rat.intCast_mul, Rat.intCast_mul]
  grind
theorem rmul_val {p q : Q2} (hp : p.2 ≠ 0) (hq : q.2 ≠ 0) : val (rmulF p q) = val p * val q := by
  unfold rmulF
  rw [ratF_val (Int.mul_ne_zero hp hq)]
  have := ratc hp
  have := ratc hq
  unfold val
  rw [Rat.intCast_mul, Rat.intCast_mul]
  grind
theorem rdiv_val {p q : Q2} (hp : p.2 ≠ 0) (hq : q.2 ≠ 0) (h0 : q.1 ≠ 0) : val (rdivF p q) = val p / val q := by
  unfold rdivF
  rw [ratF_val (Int.mul_ne_zero hp h0)]
  have := ratc hp
  have := ratc hq
  have := ratc h0
  unfold val
  rw [Rat.intCast_mul, Rat.intCast_mul]
  grind
/-- one column's work, in numbers -/
theorem elim_val {n m c p : Nat} {g : Nat → Nat → Q2} (hg : ∀ i < n, ∀ j < m, NZ (g i j)) (hp : p < n) (hc : c < m) (hl : g p c ≠ (0, 1)) :
    (∀ i < n, ∀ j < m, NZ (elimE c p (normE c p g) i j)) ∧ ∀ i < n, ∀ j < m, val (elimE c p (normE c p g) i j) = if i = p then val (g p j) / val (g p c) else val (g i j) - val (g i c) * (val (g p j) / val (g p c)) := by
  have hl' : (g p c).1 ≠ 0 := fun e => hl (Prod.ext e ((hg p hp c hc).2 e))
  have hn : ∀ j < m, NZ (rdivF (g p j) (g p c)) ∧ val (rdivF (g p j) (g p c)) = val (g p j) / val (g p c) := fun j hj =>
    ⟨ratF_NZ (Int.mul_ne_zero (hg p hp j hj).1 hl'), rdiv_val (hg p hp j hj).1 (hg p hp c hc).1 hl'⟩
  have key : ∀ i < n, ∀ j < m, NZ (elimE c p (normE c p g) i j) ∧ val (elimE c p (normE c p g) i j) = if i = p then val (g p j) / val (g p c) else val (g i j) - val (g i c) * (val (g p j) / val (g p c)) := fun i hi j hj => by
    have np : normE c p g p = fun j => rdivF (g p j) (g p c) := by unfold normE; rw [if_pos rfl]
    by_cases e : i = p
    · subst e
      unfold elimE
      rw [if_neg (by simp), if_pos rfl, np]
      exact hn j hj
    · have ni : normE c p g i = g i := by unfold normE; rw [if_neg e]
      unfold elimE
      rw [ni, if_neg e, np]
      by_cases h0 : g i c = (0, 1)
      · rw [if_neg (by simp [h0]), ((hg i hi c hc).iff).mpr h0]
        exact ⟨hg i hi j hj, by grind⟩
      · rw [if_pos ⟨e, h0⟩]
        have h1 := hn j hj
        have h2 : (rmulF (g i c) (rdivF (g p j) (g p c))).2 ≠ 0 := (ratF_NZ (Int.mul_ne_zero (hg i hi c hc).1 h1.1.1)).1
        refine ⟨ratF_NZ (Int.mul_ne_zero (hg i hi j hj).1 h2), ?_⟩
        rw [rsub_val (hg i hi j hj).1 h2, rmul_val (hg i hi c hc).1 h1.1.1, h1.2]
  exact ⟨fun i hi j hj => (key i hi j hj).1, fun i hi j hj => (key i hi j hj).2⟩

/-! the span of the rows -/
noncomputable def Sp (n m : Nat) (M : Nat → Nat → Rat) (u : Nat → Rat) : Prop := ∃ a : Nat → Rat, ∀ j < m, u j = sm n fun i => a i * M i j
theorem Sp.lin {n m : Nat} {M : Nat → Nat → Rat} {u v w : Nat → Rat} (x y : Rat) (hu : Sp n m M u) (hv : Sp n m M v) (h : ∀ j < m, w j = x * u j + y * v j) : Sp n m M w := by
  obtain ⟨a, ha⟩ := hu
  obtain ⟨b, hb⟩ := hv
  refine ⟨fun i => x * a i + y * b i, fun j hj => ?_⟩
  rw [h j hj, ha j hj, hb j hj, ← sm_mul, ← sm_mul, ← sm_add]
  refine sm_congr fun i _ => ?_
  dsimp only; grind
theorem Sp.row {n m i : Nat} {M : Nat → Nat → Rat} (hi : i < n) : Sp n m M (M i) :=
  ⟨fun k => if k = i then 1 else 0, fun j hj => by
    rw [sm_single hi fun k hk hne => by dsimp only; rw [if_neg hne]; grind]
    dsimp only; rw [if_pos rfl]; grind⟩
theorem Sp.zero {n m : Nat} {M : Nat → Nat → Rat} {u : Nat → Rat} (h : ∀ j < m, u j = 0) : Sp n m M u :=
  ⟨fun _ => 0, fun j hj => by rw [h j hj]; exact (sm_zero fun i _ => by grind).symm⟩
theorem Sp.congr {n m : Nat} {M : Nat → Nat → Rat} {u v : Nat → Rat} (h : Sp n m M u) (e : ∀ j < m, v j = u j) : Sp n m M v := by
  obtain ⟨a, ha⟩ := h
  exact ⟨a, fun j hj => (e j hj).trans (ha j hj)⟩
theorem Sp.trans {n m : Nat} {M S : Nat → Nat → Rat} {u : Nat → Rat} (hS : ∀ i < n, Sp n m M (S i)) (hu : Sp n m S u) : Sp n m M u := by
  obtain ⟨a, ha⟩ := hu
  have : ∀ k ≤ n, Sp n m M fun j => sm k fun i => a i * S i j := by
    intro k
    induction k with
    | zero => intro _; exact Sp.zero fun _ _ => rfl
    | succ k ih =>
      intro hk
      refine Sp.lin 1 (a k) (ih (by with_reducible exact Mine.m7)) (hS k (by with_reducible exact Mine.m8)) fun j _ => ?_
      show sm k _ + _ = _
      grind
  exact (this n (Nat.le_refl n)).congr ha
theorem Sp.mat {n m : Nat} {M S : Nat → Nat → Rat} (h : ∀ i < n, Sp n m M (S i)) : ∃ P : Nat → Nat → Rat, ∀ i < n, ∀ j < m, S i j = mulR n P M i j := by
  have h' : ∀ i, ∃ a : Nat → Rat, i < n → ∀ j < m, S i j = sm n fun k => a k * M k j := fun i => by
    by_cases hi : i < n
    · obtain ⟨a, ha⟩ := h i hi
      exact ⟨a, fun _ => ha⟩
    · exact ⟨fun _ => 0, fun h => absurd h hi⟩
  obtain ⟨P, hP⟩ := Classical.axiomOfChoice h'
  exact ⟨P, fun i hi j hj => hP i hi j hj⟩
structure EInv (n m : Nat) (M : Nat → Nat → Rat) (c p : Nat) (S : Nat → Nat → Q2) : Prop where
  nz : ∀ i < n, ∀ j < m, NZ (S i j)
  s1 : ∀ i < n, Sp n m M fun j => val (S i j)
  s2 : ∀ i < n, Sp n m (fun i j => val (S i j)) (M i)
  pv : ∃ pc : Nat → Nat, ∀ k < p, pc k < c ∧ ∀ i < n, val (S i (pc k)) = if i = k then 1 else 0
  lo : ∀ i, p ≤ i → i < n → ∀ j < c, val (S i j) = 0
  le : p ≤ n
theorem EInv.swap {n m c p s : Nat} {M : Nat → Nat → Rat} {S : Nat → Nat → Q2} (I : EInv n m M c p S) (h1 : p ≤ s) (h2 : s < n) : EInv n m M c p (swF p s S) := by
  have hr : ∀ i < n, ∃ i' < n, swF p s S i = S i' ∧ (i < p → i' = i) ∧ (p ≤ i → p ≤ i') := fun i hi => by
    unfold swF
    by_cases e1 : i = s
    · exact ⟨p, by lia, by rw [if_pos e1], fun h => by lia, fun _ => Nat.le_refl _⟩
    · by_cases e2 : i = p
      · exact ⟨s, h2, by rw [if_neg e1, if_pos e2], fun h => by with_reducible exact Mine.m33, fun _ => h1⟩
      · exact ⟨i, hi, by rw [if_neg e1, if_neg e2], fun _ => rfl, fun h => h⟩
  have hr' : ∀ i < n, ∃ i' < n, S i = swF p s S i' := fun i hi => by
    unfold swF
    by_cases e1 : i = s
    · refine ⟨p, by lia, ?_⟩
      by_cases e2 : p = s
      · rw [if_pos e2, e1, e2]
      · rw [if_neg e2, if_pos rfl, e1]
    · by_cases e2 : i = p
      · exact ⟨s, h2, by rw [if_pos rfl, e2]⟩
      · exact ⟨i, hi, by rw [if_neg e1, if_neg e2]⟩
  refine ⟨fun i hi j hj => ?_, fun i hi => ?_, fun i hi => ?_, ?_, fun i hi hi' j hj => ?_, I.le⟩
  · obtain ⟨i', h, e, _⟩ := hr i hi
    rw [e]; exact I.nz i' h j hj
  · obtain ⟨i', h, e, _⟩ := hr i hi
    rw [e]; exact I.s1 i' h
  · refine Sp.trans (fun k hk => ?_) (I.s2 i hi)
    obtain ⟨k', h, e⟩ := hr' k hk
    rw [e]
    exact Sp.row (M := fun i j => val (swF p s S i j)) h
  · obtain ⟨pc, hpc⟩ := I.pv
    refine ⟨pc, fun k hk => ⟨(hpc k hk).1, fun i hi => ?_⟩⟩
    obtain ⟨i', h, e, h3, h4⟩ := hr i hi
    rw [e, (hpc k hk).2 i' h]
    by_cases hip : i < p
    · rw [h3 hip]
    · rw [if_neg (by have := h4 (by lia); lia), if_neg (by lia)]
  · obtain ⟨i', h, e, _, h4⟩ := hr i hi'
    rw [e]; exact I.lo i' (h4 hi) h j hj
theorem EInv.elim {n m c p : Nat} {M : Nat → Nat → Rat} {S : Nat → Nat → Q2} (I : EInv n m M c p S) (hp : p < n) (hc : c < m) (hl : S p c ≠ (0, 1)) : EInv n m M (c + 1) (p + 1) (elimE c p (normE c p S)) := by
  have hz := (elim_val I.nz hp hc hl).1
  have hv := (elim_val I.nz hp hc hl).2
  have hL : val (S p c) ≠ 0 := fun e => hl ((I.nz p hp c hc).iff.mp e)
  generalize elimE c p (normE c p S) = T at hz hv
  have hTp : ∀ j < m, val (T p j) = val (S p j) / val (S p c) := fun j hj => by rw [hv p hp j hj, if_pos rfl]
  have hTi : ∀ i < n, i ≠ p → ∀ j < m, val (T i j) = val (S i j) - val (S i c) * (val (S p j) / val (S p c)) := fun i hi hne j hj => by rw [hv i hi j hj, if_neg hne]
  refine ⟨hz, fun i hi => ?_, fun i hi => ?_, ?_, fun i h1 h2 j hj => ?_, hp⟩
  · by_cases e : i = p
    · subst e
      refine Sp.lin (1 / val (S i c)) 0 (I.s1 i hi) (I.s1 i hi) fun j hj => ?_
      rw [hTp j hj]; grind
    · refine Sp.lin 1 (- (val (S i c) / val (S p c))) (I.s1 i hi) (I.s1 p hp) fun j hj => ?_
      rw [hTi i hi e j hj]; grind
  · refine Sp.trans (fun k hk => ?_) (I.s2 i hi)
    by_cases e : k = p
    · subst e
      refine Sp.lin (val (S k c)) 0 (Sp.row (M := fun i j => val (T i j)) hp) (Sp.row (M := fun i j => val (T i j)) hp) fun j hj => ?_
      rw [hTp j hj]; grind
    · refine Sp.lin 1 (val (S k c)) (Sp.row (M := fun i j => val (T i j)) hk) (Sp.row (M := fun i j => val (T i j)) hp) fun j hj => ?_
      rw [hTp j hj, hTi k hk e j hj]; grind
  · obtain ⟨pc, hpc⟩ := I.pv
    refine ⟨fun k => if k = p then c else pc k, fun k hk => ?_⟩
    dsimp only
    by_cases e : k = p
    · subst e
      refine ⟨by rw [if_pos rfl]; with_reducible exact Mine.m2, fun i hi => ?_⟩
      rw [if_pos rfl]
      by_cases h : i = k
      · subst h
        rw [if_pos rfl, hTp c hc]; grind
      · rw [if_neg h, hTi i hi h c hc]; grind
    · have hk' : k < p := by with_reducible exact Mine.m24
      obtain ⟨h1, h2⟩ := hpc k hk'
      refine ⟨by rw [if_neg e]; with_reducible exact Mine.m4, fun i hi => ?_⟩
      rw [if_neg e]
      have h3 := h2 p hp
      rw [if_neg (by lia)] at h3
      have h4 := h2 i hi
      by_cases h : i = p
      · subst h
        rw [hTp _ (by lia), h3, if_neg (by lia)]; grind
      · rw [hTi i hi h _ (by lia), h3, h4]; grind
  · have h3 := I.lo p (Nat.le_refl p) hp
    by_cases e : j = c
    · subst e
      rw [hTi i h2 (by lia) j hc]; grind
    · have h4 := h3 j (by with_reducible exact Mine.m24)
      have h5 := I.lo i (by with_reducible exact Mine.m7) h2 j (by with_reducible exact Mine.m24)
      rw [hTi i h2 (by lia) j (by lia), h4, h5]; grind
theorem ech_inv {n m : Nat} {f : Nat → Nat → Q2} (hf : ∀ i < n, ∀ j < m, NZ (f i j)) : ∀ c ≤ m, EInv n m (fun i j => val (f i j)) c (echE n f c).1 (echE n f c).2
  | 0, _ => ⟨hf, fun i hi => Sp.row (M := fun i j => val (f i j)) hi, fun i hi => Sp.row (M := fun i j => val (f i j)) hi, ⟨fun _ => 0, fun k hk => absurd hk (Nat.not_lt_zero k)⟩, fun i _ _ j hj => absurd hj (Nat.not_lt_zero j), Nat.zero_le _⟩
  | c + 1, hc => by
    have I := ech_inv hf c (by with_reducible exact Mine.m7)
    show EInv n m _ (c + 1) (stepE n c (echE n f c)).1 (stepE n c (echE n f c)).2
    generalize echE n f c = st at I
    obtain ⟨p, S⟩ := st
    dsimp only at I
    unfold stepE
    cases hs : spotsE n c p S with
    | nil =>
      dsimp only
      refine ⟨I.nz, I.s1, I.s2, ?_, fun i h1 h2 j hj => ?_, I.le⟩
      · obtain ⟨pc, hpc⟩ := I.pv
        exact ⟨pc, fun k hk => ⟨by have := (hpc k hk).1; with_reducible exact Mine.m4, (hpc k hk).2⟩⟩
      · by_cases e : j = c
        · subst e
          rw [(I.nz i h2 j (by with_reducible exact Mine.m8)).iff]
          refine Classical.byContradiction fun hne => ?_
          have : i ∈ spotsE n j p S := by
            unfold spotsE
            rw [List.mem_filter, List.mem_range'_1]
            exact ⟨⟨h1, by lia⟩, by simpa using hne⟩
          rw [hs] at this
          exact absurd this List.not_mem_nil
        · exact I.lo i h1 h2 j (by with_reducible exact Mine.m24)
    | cons s rest =>
      dsimp only
      have hm : s ∈ spotsE n c p S := by rw [hs]; exact List.mem_cons_self
      obtain ⟨h1, h2, _⟩ := spots_mem hm
      exact (I.swap h1 h2).elim (by lia) (by with_reducible exact Mine.m8) (lead_sw hm)
theorem rank_is {n m : Nat} {f : Nat → Nat → Q2} (hf : ∀ i < n, ∀ j < m, NZ (f i j)) : IsRank n m (fun i j => val (f i j)) (rankE n m f) := by
  have I := ech_inv hf m (Nat.le_refl m)
  unfold rankE
  generalize echE n f m = st at I
  obtain ⟨p, S⟩ := st
  dsimp only at I ⊢
  obtain ⟨P, hP⟩ := Sp.mat I.s1
  obtain ⟨P', hP'⟩ := Sp.mat I.s2
  obtain ⟨pc, hpc⟩ := I.pv
  have hle := I.le
  refine ⟨P', fun i j => val (S i j), P, fun i k => if i = pc k then 1 else 0, fun i hi j hj => ?_, fun i hi j hj => ?_⟩
  · refine (hP' i hi j hj).trans ?_
    unfold mulR
    conv => lhs; rw [show n = p + (n - p) by lia, sm_split]
    rw [sm_zero (n := n - p) fun k hk => ?_]
    · grind
    · dsimp only
      rw [I.lo (p + k) (by with_reducible exact Mine.m30) (by lia) j hj]; grind
  · have e : ∀ k < n, mulR m (fun i j => val (f i j)) (fun i k => if i = pc k then 1 else 0) k j = val (f k (pc j)) := fun k hk => by
      unfold mulR
      rw [sm_single (r := pc j) (hpc j hj).1 fun l hl hne => by dsimp only; rw [if_neg hne]; grind]
      dsimp only; rw [if_pos rfl]; grind
    have e2 : mulR n P (mulR m (fun i j => val (f i j)) (fun i k => if i = pc k then 1 else 0)) i j = mulR n P (fun i j => val (f i j)) i (pc j) :=
      sm_congr fun k hk => by rw [e k hk]
    rw [e2, ← hP i (by with_reducible exact Mine.m18) (pc j) (hpc j hj).1, (hpc j hj).2 i (by with_reducible exact Mine.m18)]
end Mine
end

section
set_option maxRecDepth 100000
set_option linter.unusedVariables false
namespace Mine

/-! finite sums -/
theorem sumN_congr {f g : Nat → Int} : ∀ {n : Nat}, (∀ i < n, f i = g i) → sumN n f = sumN n g
  | 0, _ => rfl
  | n + 1, h => by
    unfold sumN
    rw [sumN_congr fun i hi => h i (Nat.lt_succ_of_lt hi), h n (Nat.lt_succ_self n)]
theorem sumN_zero {f : Nat → Int} {n : Nat} (h : ∀ i < n, f i = 0) : sumN n f = 0 := by
  rw [sumN_congr (g := fun _ => 0) h]
  induction n with
  | zero => rfl
  | succ n ih =>
    unfold sumN
    rw [ih fun i hi => h i (Nat.lt_succ_of_lt hi)]; rfl
theorem sumN_lin {f g : Nat → Int} (a b : Int) : ∀ n : Nat, sumN n (fun i => a * f i + b * g i) = a * sumN n f + b * sumN n g
  | 0 => by simp [sumN]
  | n + 1 => by
    unfold sumN
    rw [sumN_lin a b n, Int.mul_add, Int.mul_add]; dsimp only; lia
theorem sumN_mul {f : Nat → Int} (a : Int) (n : Nat) : sumN n (fun i => a * f i) = a * sumN n f := by
  have := sumN_lin (f := f) (g := fun _ => 0) a 0 n
  simpa using this
theorem sumN_single {f : Nat → Int} {n r : Nat} (hr : r < n) (h : ∀ i < n, i ≠ r → f i = 0) : sumN n f = f r := by
  induction n with
  | zero => with_reducible exact Mine.m31
  | succ n ih =>
    unfold sumN
    by_cases e : r = n
    · subst e
      rw [sumN_zero fun i hi => h i (by with_reducible exact Mine.m4) (by lia)]; lia
    · rw [ih (by with_reducible exact Mine.m24) fun i hi => h i (by with_reducible exact Mine.m4), h n (by with_reducible exact Mine.m2) (by lia)]; lia
theorem sumN_two {f : Nat → Int} {n r : Nat} (hr : r + 1 < n) (h : ∀ i < n, i ≠ r → i ≠ r + 1 → f i = 0) : sumN n f = f r + f (r + 1) := by
  induction n with
  | zero => with_reducible exact Mine.m31
  | succ n ih =>
    unfold sumN
    by_cases e : r + 1 = n
    · subst e
      rw [sumN_single (r := r) (by with_reducible exact Mine.m2) fun i hi hne => h i (by with_reducible exact Mine.m4) hne (by lia)]
    · rw [ih (by with_reducible exact Mine.m24) fun i hi => h i (by with_reducible exact Mine.m4), h n (by with_reducible exact Mine.m2) (by lia) (by lia)]; lia

/-! the determinant, along the first column -/
noncomputable def sg (i : Nat) : Int := if i % 2 = 0 then 1 else -1
theorem sg_succ (i : Nat) : sg (i + 1) = - sg i := by unfold sg; split <;> split <;> (first | decide | with_reducible rfl | lia)
noncomputable def det : Nat → (Nat → Nat → Int) → Int
  | 0, _ => 1
  | n + 1, M => sumN (n + 1) fun i => sg i * M i 0 * det n fun r c => M (skip i r) (c + 1)
theorem skip_lt {n i r : Nat} (hr : r < n) : skip i r < n + 1 := by unfold skip; split <;> (first | with_reducible exact Mine.m4 | with_reducible exact Mine.m5)
theorem det_congr : ∀ {n : Nat} {M N : Nat → Nat → Int}, (∀ i < n, ∀ j < n, M i j = N i j) → det n M = det n N
  | 0, _, _, _ => rfl
  | n + 1, M, N, h => by
    unfold det
    refine sumN_congr fun i hi => ?_
    rw [h i hi 0 (by with_reducible exact Mine.m1), det_congr (M := fun r c => M (skip i r) (c + 1)) (N := fun r c => N (skip i r) (c + 1)) fun r hr c hc => h _ (skip_lt hr) _ (by with_reducible exact Mine.m5)]
noncomputable def setRow (M : Nat → Nat → Int) (r : Nat) (u : Nat → Int) : Nat → Nat → Int := fun i j => if i = r then u j else M i j
noncomputable def unskip (i r : Nat) : Nat := if r < i then r else r - 1
theorem skip_ne {i k : Nat} : skip i k ≠ i := by unfold skip; split <;> lia
theorem skip_eq {i k r : Nat} (h : r ≠ i) : skip i k = r ↔ k = unskip i r := by unfold skip unskip; split <;> split <;> (first | with_reducible rfl | lia)
theorem det_lin {a b : Int} {u v : Nat → Int} : ∀ {n r : Nat} {M : Nat → Nat → Int}, r < n →
    det n (setRow M r fun j => a * u j + b * v j) = a * det n (setRow M r u) + b * det n (setRow M r v)
  | n + 1, r, M, hr => by
    unfold det
    rw [← sumN_lin]
    refine sumN_congr fun i hi => ?_
    by_cases e : i = r
    · subst e
      have hm : ∀ w : Nat → Int, (fun r c => setRow M i w (skip i r) (c + 1)) = fun r c => M (skip i r) (c + 1) := fun w => by
        funext p q; unfold setRow; rw [if_neg skip_ne]
      rw [hm, hm, hm]
      unfold setRow
      rw [if_pos rfl, if_pos rfl, if_pos rfl]
      grind
    · have hm : ∀ w : Nat → Int, (fun p c => setRow M r w (skip i p) (c + 1)) = setRow (fun p c => M (skip i p) (c + 1)) (unskip i r) fun c => w (c + 1) := fun w => by
        funext p q; unfold setRow
        by_cases h : skip i p = r
        · rw [if_pos h, if_pos ((skip_eq (Ne.symm e)).mp h)]
        · rw [if_neg h, if_neg fun q => h ((skip_eq (Ne.symm e)).mpr q)]
      have h0 : ∀ w : Nat → Int, setRow M r w i 0 = M i 0 := fun w => by unfold setRow; rw [if_neg e]
      rw [hm, hm, hm, h0, h0, h0, det_lin (by unfold unskip; split <;> lia)]
      grind

theorem det_adj : ∀ {n r : Nat} {M : Nat → Nat → Int}, r + 1 < n → (∀ j < n, M r j = M (r + 1) j) → det n M = 0
  | n + 1, r, M, hr, h => by
    unfold det
    rw [sumN_two (r := r) hr fun i hi h1 h2 => ?_]
    · have e : det n (fun p c => M (skip r p) (c + 1)) = det n (fun p c => M (skip (r + 1) p) (c + 1)) := det_congr fun p hp c hc => by
        by_cases q : p = r
        · subst q
          rw [show skip p p = p + 1 by unfold skip; split <;> (first | with_reducible rfl | lia), show skip (p + 1) p = p by unfold skip; split <;> (first | with_reducible rfl | lia)]
          exact (h (c + 1) (by with_reducible exact Mine.m5)).symm
        · rw [show skip r p = skip (r + 1) p by unfold skip; split <;> split <;> (first | with_reducible rfl | lia)]
      rw [e, h 0 (by with_reducible exact Mine.m1), sg_succ]
      grind
    · rw [det_adj (r := unskip i r) (M := fun p c => M (skip i p) (c + 1)) (by unfold unskip; split <;> lia) fun j hj => ?_]
      · rw [Int.mul_zero]
      · rw [(skip_eq (Ne.symm h1)).mpr rfl, (skip_eq (k := unskip i r + 1) (Ne.symm h2)).mpr (by unfold unskip; (repeat' split) <;> (first | with_reducible rfl | lia))]
        exact h _ (by with_reducible exact Mine.m5)
theorem setRow_self (M : Nat → Nat → Int) (r : Nat) : setRow M r (M r) = M := by
  funext i j; unfold setRow; split
  · rename_i e; rw [e]
  · rfl
theorem setRow_comm {M : Nat → Nat → Int} {r q : Nat} {u v : Nat → Int} (h : r ≠ q) : setRow (setRow M r u) q v = setRow (setRow M q v) r u := by
  funext i j; unfold setRow
  by_cases h1 : i = q
  · rw [if_pos h1, if_neg (by lia), if_pos h1]
  · rw [if_neg h1]
    by_cases h2 : i = r
    · rw [if_pos h2, if_pos h2]
    · rw [if_neg h2, if_neg h2, if_neg h1]
theorem det_scale {n r : Nat} {M : Nat → Nat → Int} {u : Nat → Int} (a : Int) (hr : r < n) : det n (setRow M r fun j => a * u j) = a * det n (setRow M r u) := by
  have := det_lin (a := a) (b := 0) (u := u) (v := u) (M := M) hr
  simpa using this
theorem det_add {n r : Nat} {M : Nat → Nat → Int} {u v : Nat → Int} (hr : r < n) : det n (setRow M r fun j => u j + v j) = det n (setRow M r u) + det n (setRow M r v) := by
  have := det_lin (a := 1) (b := 1) (u := u) (v := v) (M := M) hr
  simpa using this
/-- two rows that stand together change places -/
noncomputable def swA (r : Nat) (i : Nat) : Nat := if i = r then r + 1 else if i = r + 1 then r else i
theorem det_swA {n r : Nat} {M : Nat → Nat → Int} (hr : r + 1 < n) : det n (fun i j => M (swA r i) j) = - det n M := by
  -- the two rows u = M r, v = M (r+1); det of (u+v, u+v) is 0
  let D := fun (u v : Nat → Int) => det n (setRow (setRow M r u) (r + 1) v)
  have z : ∀ u, D u u = 0 := fun u => det_adj hr fun j _ => by unfold setRow; simp
  have l1 : ∀ u v w, D u (fun j => v j + w j) = D u v + D u w := fun u v w => det_add (by with_reducible assumption)
  have l2 : ∀ u v w, D (fun j => u j + v j) w = D u w + D v w := fun u v w => by
    show det n _ = det n _ + det n _
    rw [setRow_comm (by lia), setRow_comm (r := r) (q := r + 1) (by lia), setRow_comm (r := r) (q := r + 1) (u := v) (by lia)]
    exact det_add (by lia)
  have h0 := z fun j => M r j + M (r + 1) j
  rw [l1, l2, l2, z, z] at h0
  have e1 : D (M r) (M (r + 1)) = det n M := by
    show det n _ = _
    rw [setRow_self]
    congr 1
    funext i j; unfold setRow; split
    · rename_i e; rw [e]
    · rfl
  have e2 : D (M (r + 1)) (M r) = det n (fun i j => M (swA r i) j) := by
    show det n _ = _
    congr 1
    funext i j; unfold setRow swA
    by_cases h1 : i = r + 1
    · rw [if_pos h1, if_neg (by lia), if_pos h1]
    · rw [if_neg h1]
      by_cases h2 : i = r
      · rw [if_pos h2, if_pos h2]
      · rw [if_neg h2, if_neg h2, if_neg h1]
  have h0' : D (M r) (M (r + 1)) + D (M (r + 1)) (M r) = 0 := by
    lia
  rw [e1, e2] at h0'
  lia
end Mine
end

section
set_option maxRecDepth 100000
set_option linter.unusedVariables false
namespace Mine

theorem det_eqrows {n : Nat} : ∀ {d r : Nat} {M : Nat → Nat → Int}, r + 1 + d < n → (∀ j < n, M r j = M (r + 1 + d) j) → det n M = 0
  | 0, r, M, hr, h => det_adj hr h
  | d + 1, r, M, hr, h => by
    have h1 := det_swA (n := n) (r := r + 1 + d) (M := M) (by lia)
    have h2 : det n (fun i j => M (swA (r + 1 + d) i) j) = 0 := det_eqrows (d := d) (r := r) (by lia) fun j hj => by
      show M (swA (r + 1 + d) r) j = M (swA (r + 1 + d) (r + 1 + d)) j
      unfold swA
      rw [if_neg (by lia), if_neg (by lia), if_pos rfl]
      exact h j hj
    lia
theorem det_eqrows' {n r q : Nat} {M : Nat → Nat → Int} (hr : r < n) (hq : q < n) (hne : r ≠ q) (h : ∀ j < n, M r j = M q j) : det n M = 0 := by
  by_cases hlt : r < q
  · refine det_eqrows (d := q - r - 1) (r := r) (by lia) fun j hj => ?_
    rw [show r + 1 + (q - r - 1) = q by lia]; exact h j hj
  · refine det_eqrows (d := r - q - 1) (r := q) (by lia) fun j hj => ?_
    rw [show q + 1 + (r - q - 1) = r by lia]; exact (h j hj).symm
theorem det_comb {n r q : Nat} {M : Nat → Nat → Int} (a c : Int) (hr : r < n) (hq : q < n) (hne : r ≠ q) : det n (setRow M r fun j => a * M r j + c * M q j) = a * det n M := by
  rw [det_lin hr, setRow_self, det_eqrows' (M := setRow M r (M q)) hr hq hne fun j _ => by unfold setRow; rw [if_pos rfl, if_neg (Ne.symm hne)]]
  lia
theorem det_zero_row {n r : Nat} {M : Nat → Nat → Int} (hr : r < n) (h : ∀ j < n, M r j = 0) : det n M = 0 := by
  have := det_scale (n := n) (r := r) (M := M) (u := M r) 0 hr
  rw [Int.zero_mul] at this
  rw [← this]
  refine det_congr fun i hi j hj => ?_
  unfold setRow
  split
  · rename_i e; rw [e, h j hj]; simp
  · rfl
theorem det_swF {n r q : Nat} {M : Nat → Nat → Int} (hr : r < n) (hq : q < n) (hne : r ≠ q) : det n (swF r q M) = - det n M := by
  let D := fun (u v : Nat → Int) => det n (setRow (setRow M r u) q v)
  have z : ∀ u, D u u = 0 := fun u => det_eqrows' hr hq hne fun j _ => by unfold setRow; simp [hne]
  have l1 : ∀ u v w, D u (fun j => v j + w j) = D u v + D u w := fun u v w => det_add hq
  have l2 : ∀ u v w, D (fun j => u j + v j) w = D u w + D v w := fun u v w => by
    show det n _ = det n _ + det n _
    rw [setRow_comm hne, setRow_comm (r := r) (q := q) hne, setRow_comm (r := r) (q := q) (u := v) hne]
    exact det_add hr
  have h0 := z fun j => M r j + M q j
  rw [l1, l2, l2, z, z] at h0
  have e1 : D (M r) (M q) = det n M := by
    show det n _ = _
    rw [setRow_self, setRow_self]
  have e2 : D (M q) (M r) = det n (swF r q M) := by
    show det n _ = _
    congr 1
    funext i j; unfold setRow swF
    by_cases h1 : i = q
    · rw [if_pos h1, if_pos h1]
    · rw [if_neg h1, if_neg h1]
      by_cases h2 : i = r
      · rw [if_pos h2, if_pos h2]
      · rw [if_neg h2, if_neg h2]
  rw [← e2, ← e1]
  lia
theorem det_col0 {n : Nat} {M : Nat → Nat → Int} (h : ∀ i, 1 ≤ i → i < n + 1 → M i 0 = 0) : det (n + 1) M = M 0 0 * det n fun i j => M (i + 1) (j + 1) := by
  show sumN (n + 1) (fun i => sg i * M i 0 * det n fun r c => M (skip i r) (c + 1)) = _
  rw [sumN_single (r := 0) (by with_reducible exact Mine.m1) fun i hi hne => by rw [h i (by lia) hi]; simp]
  rw [show sg 0 = 1 from rfl, Int.one_mul]
  congr 1
theorem det_zero_col {n : Nat} {M : Nat → Nat → Int} (h : ∀ i < n + 1, M i 0 = 0) : det (n + 1) M = 0 := by
  rw [det_col0 fun i _ hi => h i hi, h 0 (by with_reducible exact Mine.m1), Int.zero_mul]
/-- Chio -/
noncomputable def chio (p : Int) (M : Nat → Nat → Int) : Nat → Nat → Int := fun i j => p * M (i + 1) (j + 1) - M (i + 1) 0 * M 0 (j + 1)
theorem det_chio {n : Nat} {M : Nat → Nat → Int} : M 0 0 * det n (chio (M 0 0) M) = M 0 0 ^ n * det (n + 1) M := by
  let N := fun (t : Nat) (i j : Nat) => if 1 ≤ i ∧ i ≤ t then M 0 0 * M i j - M i 0 * M 0 j else M i j
  have step : ∀ t, t ≤ n → det (n + 1) (N t) = M 0 0 ^ t * det (n + 1) M := by
    intro t
    induction t with
    | zero =>
      intro _
      rw [Int.pow_zero, Int.one_mul]
      congr 1
      funext i j
      show (if 1 ≤ i ∧ i ≤ 0 then _ else _) = _
      rw [if_neg (by lia)]
    | succ t ih =>
      intro ht
      have e : N (t + 1) = setRow (N t) (t + 1) fun j => M 0 0 * N t (t + 1) j + (-(M (t + 1) 0)) * N t 0 j := by
        funext i j
        show (if 1 ≤ i ∧ i ≤ t + 1 then _ else _) = _
        unfold setRow
        by_cases h : i = t + 1
        · subst h
          rw [if_pos (by lia), if_pos rfl]
          show _ = M 0 0 * (if 1 ≤ t + 1 ∧ t + 1 ≤ t then _ else _) + _ * (if 1 ≤ 0 ∧ 0 ≤ t then _ else _)
          rw [if_neg (by lia), if_neg (by lia)]
          grind
        · rw [if_neg h]
          show _ = if 1 ≤ i ∧ i ≤ t then _ else _
          by_cases h2 : 1 ≤ i ∧ i ≤ t
          · rw [if_pos h2, if_pos (by lia)]
          · rw [if_neg h2, if_neg (by lia)]
      rw [e, det_comb _ _ (by lia) (by with_reducible exact Mine.m1) (by lia), ih (by with_reducible exact Mine.m7), Int.pow_succ]
      grind
  have h1 := step n (Nat.le_refl n)
  rw [← h1, det_col0 fun i h2 h3 => ?_]
  · congr 1
    refine det_congr fun i hi j hj => ?_
    show _ = if 1 ≤ i + 1 ∧ i + 1 ≤ n then _ else _
    rw [if_pos (by lia)]; rfl
  · show (if 1 ≤ i ∧ i ≤ n then _ else _) = _
    rw [if_pos (by lia)]
    grind
end Mine
end

section
set_option maxRecDepth 100000
set_option linter.unusedVariables false
namespace Mine

theorem det_scale_all {n : Nat} {M : Nat → Nat → Int} (a : Int) : det n (fun i j => a * M i j) = a ^ n * det n M := by
  let N := fun (t : Nat) (i j : Nat) => if i < t then a * M i j else M i j
  have step : ∀ t, t ≤ n → det n (N t) = a ^ t * det n M := by
    intro t
    induction t with
    | zero =>
      intro _
      rw [Int.pow_zero, Int.one_mul]
      refine det_congr fun i _ j _ => ?_
      show (if i < 0 then _ else _) = _
      rw [if_neg (by lia)]
    | succ t ih =>
      intro ht
      have e : N (t + 1) = setRow (N t) t fun j => a * N t t j := by
        funext i j
        show (if i < t + 1 then _ else _) = _
        unfold setRow
        by_cases h : i = t
        · subst h
          rw [if_pos (by with_reducible exact Mine.m2), if_pos rfl]
          show _ = a * (if i < i then _ else _)
          rw [if_neg (by lia)]
        · rw [if_neg h]
          show _ = if i < t then _ else _
          by_cases h2 : i < t
          · rw [if_pos h2, if_pos (by with_reducible exact Mine.m4)]
          · rw [if_neg h2, if_neg (by lia)]
      rw [e, det_scale a (by with_reducible exact Mine.m8), setRow_self, ih (by with_reducible exact Mine.m7), Int.pow_succ]
      grind
  rw [← step n (Nat.le_refl n)]
  refine det_congr fun i hi j _ => ?_
  show _ = if i < n then _ else _
  rw [if_pos hi]
theorem det_one {M : Nat → Nat → Int} : det 1 M = M 0 0 := by
  simp [det, sumN, sg]
theorem det_two {M : Nat → Nat → Int} : det 2 M = M 0 0 * M 1 1 - M 1 0 * M 0 1 := by
  simp [det, sumN, sg, skip]
  grind
/-- the block that is left -/
noncomputable def tail (k : Nat) (g : Nat → Nat → Int) : Nat → Nat → Int := fun i j => g (k + i) (k + j)
structure BInv (n : Nat) (f : Nat → Nat → Int) (k : Nat) (g : Nat → Nat → Int) (s ah : Int) : Prop where
  nz : ah ≠ 0
  dv : ∀ t (ρ γ : Nat → Nat), (∀ i ≤ t, ρ i < n - k ∧ γ i < n - k) → ah ^ t ∣ det (t + 1) fun i j => tail k g (ρ i) (γ j)
  sq : s = 1 ∨ s = -1
  vl : k < n → s * det (n - k) (tail k g) = det n f * ah ^ (n - k - 1)
  fin : k = n → s * ah = det n f
theorem dvd_of_eq' {a b : Int} (h : a = b) : a ∣ b := h ▸ Int.dvd_refl a
theorem pow_ne_zero' {a : Int} (h : a ≠ 0) (n : Nat) : a ^ n ≠ 0 := by
  induction n with
  | zero => simp
  | succ n ih => rw [Int.pow_succ]; exact Int.mul_ne_zero ih h
theorem chio_dvd {m : Nat} {T : Nat → Nat → Int} {ah : Int} (dv : ∀ t (ρ γ : Nat → Nat), (∀ i ≤ t, ρ i < m ∧ γ i < m) → ah ^ t ∣ det (t + 1) fun i j => T (ρ i) (γ j)) {i j : Nat} (hi : i + 1 < m) (hj : j + 1 < m) : ah ∣ chio (T 0 0) T i j := by
  have := dv 1 (fun q => if q = 0 then 0 else i + 1) (fun q => if q = 0 then 0 else j + 1) fun q _ => ⟨by split <;> (first | with_reducible assumption | lia), by split <;> (first | with_reducible assumption | lia)⟩
  rw [Int.pow_one, det_two] at this
  simpa [chio] using this
theorem BInv.step {n k r : Nat} {f g : Nat → Nat → Int} {s ah : Int} (I : BInv n f k g s ah) (hk : k < n) (hr : piv n k g = some r) : BInv n f (k + 1) (stB k ah (swF r k g)) (if r = k then s else -s) (swF r k g k k) := by
  have p1 := (piv_some hr).1
  have p2 := (piv_some hr).2.1
  have p3 := (piv_some hr).2.2
  -- after the swap
  have dv1 : ∀ t (ρ γ : Nat → Nat), (∀ i ≤ t, ρ i < n - k ∧ γ i < n - k) → ah ^ t ∣ det (t + 1) fun i j => tail k (swF r k g) (ρ i) (γ j) := fun t ρ γ h => by
    have := I.dv t (fun i => if ρ i = 0 then r - k else if ρ i = r - k then 0 else ρ i) γ fun i hi => ⟨by have := h i hi; (repeat' split) <;> lia, (h i hi).2⟩
    refine Int.dvd_trans this (dvd_of_eq' (det_congr fun i hi j hj => ?_))
    unfold tail swF
    by_cases h1 : ρ i = 0
    · rw [if_pos h1, h1, if_pos (by lia)]
      congr 1; lia
    · rw [if_neg h1]
      by_cases h2 : ρ i = r - k
      · rw [if_pos h2, if_neg (by lia), if_pos (by lia)]; rfl
      · rw [if_neg h2, if_neg (by lia), if_neg (by lia)]
  have vl1 : (if r = k then s else -s) * det (n - k) (tail k (swF r k g)) = det n f * ah ^ (n - k - 1) := by
    rw [← I.vl hk]
    by_cases h : r = k
    · rw [if_pos h]
      congr 1
      refine det_congr fun i _ j _ => ?_
      unfold tail swF
      subst h
      by_cases h1 : r + i = r
      · rw [if_pos h1, h1]
      · rw [if_neg h1, if_neg h1]
    · rw [if_neg h]
      have e : tail k (swF r k g) = swF (r - k) 0 (tail k g) := by
        funext i j
        unfold tail swF
        by_cases h1 : i = 0
        · subst h1
          rw [if_pos (by lia), if_pos rfl]
          congr 1; lia
        · rw [if_neg (by lia), if_neg h1]
          by_cases h2 : k + i = r
          · rw [if_pos h2, if_pos (by lia)]; rfl
          · rw [if_neg h2, if_neg (by lia)]
      rw [e, det_swF (by lia) (by lia) (by lia)]
      grind
  generalize hT : swF r k g = g1 at dv1 vl1
  have hp : g1 k k ≠ 0 := by rw [← hT]; unfold swF; rw [if_pos rfl]; exact p3
  have hex : ∀ i j, i + 1 < n - k → j + 1 < n - k → ah * tail (k + 1) (stB k ah g1) i j = chio (g1 k k) (tail k g1) i j := fun i j hi hj => by
    have hd := chio_dvd dv1 hi hj
    have e : tail (k + 1) (stB k ah g1) i j = (chio (g1 k k) (tail k g1) i j).fdiv ah := by
      unfold tail stB chio
      rw [if_pos (by lia), if_pos (by lia)]
      congr 1
      dsimp only
      rw [show k + (i + 1) = k + 1 + i by lia, show k + (j + 1) = k + 1 + j by lia]
      simp only [Nat.add_zero]
      rw [Int.mul_comm]
    rw [e, Int.mul_comm]
    exact Int.fdiv_mul_cancel hd
  have key : ∀ t (ρ γ : Nat → Nat), (∀ i ≤ t, ρ i + 1 < n - k ∧ γ i + 1 < n - k) →
      ah ^ (t + 1) * det (t + 1) (fun i j => tail (k + 1) (stB k ah g1) (ρ i) (γ j)) = g1 k k ^ t * det (t + 2) (fun i j => tail k g1 (if i = 0 then 0 else ρ (i - 1) + 1) (if j = 0 then 0 else γ (j - 1) + 1)) := fun t ρ γ h => by
    rw [← det_scale_all]
    have e : det (t + 1) (fun i j => ah * tail (k + 1) (stB k ah g1) (ρ i) (γ j)) = det (t + 1) (chio (g1 k k) fun i j => tail k g1 (if i = 0 then 0 else ρ (i - 1) + 1) (if j = 0 then 0 else γ (j - 1) + 1)) := det_congr fun i hi j hj => by
      rw [hex _ _ (h i (by lia)).1 (h j (by lia)).2]
      unfold chio
      simp
    rw [e]
    have hc := det_chio (n := t + 1) (M := fun i j => tail k g1 (if i = 0 then 0 else ρ (i - 1) + 1) (if j = 0 then 0 else γ (j - 1) + 1))
    have e0 : tail k g1 (if (0 : Nat) = 0 then 0 else ρ (0 - 1) + 1) (if (0 : Nat) = 0 then 0 else γ (0 - 1) + 1) = g1 k k := rfl
    rw [e0, Int.pow_succ, Int.mul_comm (g1 k k ^ t), Int.mul_assoc] at hc
    exact Int.eq_of_mul_eq_mul_left hp hc
  refine ⟨hp, fun t ρ γ h => ?_, ?_, fun h => ?_, fun h => ?_⟩
  · have h' : ∀ i ≤ t, ρ i + 1 < n - k ∧ γ i + 1 < n - k := fun i hi => by have := h i hi; lia
    have h1 := key t ρ γ h'
    obtain ⟨D, hD⟩ := dv1 (t + 1) (fun i => if i = 0 then 0 else ρ (i - 1) + 1) (fun i => if i = 0 then 0 else γ (i - 1) + 1) fun i hi => by
      by_cases h0 : i = 0
      · rw [if_pos h0, if_pos h0]; lia
      · rw [if_neg h0, if_neg h0]; exact h' _ (by lia)
    rw [hD] at h1
    refine ⟨D, Int.eq_of_mul_eq_mul_left (pow_ne_zero' I.nz (t + 1)) ?_⟩
    rw [h1]
    grind
  · split
    · exact I.sq
    · rcases I.sq with rfl | rfl <;> simp
  · have h1 := key (n - (k + 1) - 1) id id fun i hi => by simp only [id]; lia
    have e1 : n - (k + 1) - 1 + 1 = n - (k + 1) := by lia
    have e2 : n - (k + 1) - 1 + 2 = n - k := by lia
    rw [e1, e2] at h1
    have e3 : det (n - k) (fun i j => tail k g1 (if i = 0 then 0 else id (i - 1) + 1) (if j = 0 then 0 else id (j - 1) + 1)) = det (n - k) (tail k g1) := det_congr fun i _ j _ => by
      have q : ∀ i : Nat, (if i = 0 then 0 else id (i - 1) + 1) = i := fun i => by simp only [id]; split <;> lia
      rw [q, q]
    rw [e3] at h1
    have e4 : n - k - 1 = n - (k + 1) := by lia
    rw [e4] at vl1
    refine Int.eq_of_mul_eq_mul_left (pow_ne_zero' I.nz (n - (k + 1))) ?_
    have h1' : ah ^ (n - (k + 1)) * det (n - (k + 1)) (tail (k + 1) (stB k ah g1)) = g1 k k ^ (n - (k + 1) - 1) * det (n - k) (tail k g1) := h1
    generalize det (n - (k + 1)) (tail (k + 1) (stB k ah g1)) = X at h1' ⊢
    generalize det (n - k) (tail k g1) = Y at h1' vl1
    generalize ah ^ (n - (k + 1)) = Z at h1' vl1 ⊢
    generalize g1 k k ^ (n - (k + 1) - 1) = U at h1' ⊢
    generalize (if r = k then s else -s) = S at vl1 ⊢
    have : Z * (S * X) = S * (Z * X) := by grind
    rw [this, h1']
    have : S * (U * Y) = U * (S * Y) := by grind
    rw [this, vl1]
    grind
  · subst h
    have : k + 1 - k = 1 := by with_reducible exact Mine.m29
    rw [this, det_one] at vl1
    simpa [tail] using vl1

theorem BInv.start (n : Nat) (f : Nat → Nat → Int) : BInv n f 0 f 1 1 where
  nz := by decide
  dv := fun t ρ γ _ => by rw [Int.one_pow]; exact Int.one_dvd _
  sq := .inl rfl
  vl := fun h => by
    rw [Int.one_pow, Int.one_mul, Int.mul_one]
    refine det_congr fun i _ j _ => ?_
    unfold tail; rw [Nat.zero_add, Nat.zero_add]
  fin := fun h => by subst h; rfl
theorem detS_binv {n : Nat} {f : Nat → Nat → Int} : ∀ {k : Nat}, k ≤ n → (∀ g s ah, detS n f k = some (g, s, ah) → BInv n f k g s ah) ∧ (detS n f k = none → det n f = 0)
  | 0, _ => ⟨fun g s ah h => (by cases h; exact BInv.start n f), fun h => (by cases h)⟩
  | k + 1, hk => by
    obtain ⟨h1, h2⟩ := detS_binv (n := n) (f := f) (k := k) (by with_reducible exact Mine.m7)
    unfold detS
    cases e : detS n f k with
    | none => exact ⟨fun g s ah h => (by cases h), fun _ => h2 e⟩
    | some st =>
      obtain ⟨g, s, ah⟩ := st
      have I := h1 g s ah e
      dsimp only
      cases e2 : piv n k g with
      | none =>
        refine ⟨fun g s ah h => (by cases h), fun _ => ?_⟩
        have hv := I.vl (by with_reducible exact Mine.m8)
        have hz := piv_none.mp e2
        have : det (n - k) (tail k g) = 0 := by
          rw [show n - k = n - k - 1 + 1 by lia]
          refine det_zero_col fun i hi => ?_
          exact hz (k + i) (by with_reducible exact Mine.m30) (by lia)
        rw [this, Int.mul_zero] at hv
        rcases Int.mul_eq_zero.mp hv.symm with h | h
        · exact h
        · exact absurd h (pow_ne_zero' I.nz _)
      | some r =>
        refine ⟨fun g' s' ah' h => ?_, fun h => by cases h⟩
        dsimp only at h
        cases h
        exact I.step (by with_reducible exact Mine.m8) e2
theorem detB_eq (n : Nat) (f : Nat → Nat → Int) : detB n f = det n f := by
  obtain ⟨h1, h2⟩ := detS_binv (n := n) (f := f) (Nat.le_refl n)
  unfold detB
  cases e : detS n f n with
  | none => exact (h2 e).symm
  | some st =>
    obtain ⟨g, s, ah⟩ := st
    exact (h1 g s ah e).fin rfl
end Mine
end

section
set_option maxRecDepth 100000
set_option linter.unusedVariables false
namespace Mine
theorem sumN_trunc {f : Nat → Int} {n : Nat} : ∀ {m : Nat}, (∀ i, n ≤ i → i < n + m → f i = 0) → sumN (n + m) f = sumN n f
  | 0, _ => rfl
  | m + 1, h => by
    show sumN (n + m) f + f (n + m) = _
    rw [sumN_trunc fun i h1 h2 => h i h1 (by lia), h (n + m) (by with_reducible exact Mine.m30) (by lia)]; lia
theorem det_block {t : Nat} : ∀ {s : Nat} {M : Nat → Nat → Int}, (∀ i, s ≤ i → i < s + t → ∀ j < s, M i j = 0) → det (s + t) M = det s M * det t fun i j => M (s + i) (s + j)
  | 0, M, h => by
    rw [show det 0 M = 1 from rfl, Int.one_mul, Nat.zero_add]
    refine det_congr fun i _ j _ => by rw [Nat.zero_add, Nat.zero_add]
  | s + 1, M, h => by
    rw [show s + 1 + t = s + t + 1 by lia]
    show sumN (s + t + 1) (fun i => sg i * M i 0 * det (s + t) fun r c => M (skip i r) (c + 1)) = _
    rw [show s + t + 1 = s + 1 + t by lia, sumN_trunc fun i h1 h2 => by rw [h i h1 h2 0 (by with_reducible exact Mine.m1)]; simp]
    show _ = sumN (s + 1) (fun i => sg i * M i 0 * det s fun r c => M (skip i r) (c + 1)) * _
    rw [Int.mul_comm, ← sumN_mul]
    refine sumN_congr fun i hi => ?_
    rw [det_block (s := s) (M := fun r c => M (skip i r) (c + 1)) fun r h1 h2 c hc => ?_]
    · have e : det t (fun r c => M (skip i (s + r)) (s + c + 1)) = det t fun r c => M (s + 1 + r) (s + 1 + c) := det_congr fun r _ c _ => by
        rw [show skip i (s + r) = s + 1 + r by unfold skip; rw [if_neg (by lia)]; lia, show s + c + 1 = s + 1 + c by lia]
      rw [e]
      grind
    · rw [show skip i r = r + 1 by unfold skip; rw [if_neg (by lia)]]
      exact h (r + 1) (by lia) (by lia) (c + 1) (by with_reducible exact Mine.m5)
end Mine
end

section
set_option maxRecDepth 100000
set_option linter.unusedVariables false
namespace Mine
theorem sumN_shift {f : Nat → Int} : ∀ {n : Nat}, sumN (n + 1) f = f 0 + sumN n fun i => f (i + 1)
  | 0 => by simp [sumN]
  | n + 1 => by
    show sumN (n + 1) f + f (n + 1) = f 0 + (sumN n (fun i => f (i + 1)) + f (n + 1))
    rw [sumN_shift]; lia
/-- row 0 is taken off the others -/
theorem det_clear {n : Nat} {X : Nat → Nat → Int} (p : Int) (c : Nat → Int) : det (n + 1) (fun i j => if 1 ≤ i then p * X i j - c i * X 0 j else X i j) = p ^ n * det (n + 1) X := by
  let N := fun (t : Nat) (i j : Nat) => if 1 ≤ i ∧ i ≤ t then p * X i j - c i * X 0 j else X i j
  have step : ∀ t, t ≤ n → det (n + 1) (N t) = p ^ t * det (n + 1) X := by
    intro t
    induction t with
    | zero =>
      intro _
      rw [Int.pow_zero, Int.one_mul]
      congr 1
      funext i j
      show (if 1 ≤ i ∧ i ≤ 0 then _ else _) = _
      rw [if_neg (by lia)]
    | succ t ih =>
      intro ht
      have e : N (t + 1) = setRow (N t) (t + 1) fun j => p * N t (t + 1) j + (-(c (t + 1))) * N t 0 j := by
        funext i j
        show (if 1 ≤ i ∧ i ≤ t + 1 then _ else _) = _
        unfold setRow
        by_cases h : i = t + 1
        · subst h
          rw [if_pos (by lia), if_pos rfl]
          show _ = p * (if 1 ≤ t + 1 ∧ t + 1 ≤ t then _ else _) + _ * (if 1 ≤ 0 ∧ 0 ≤ t then _ else _)
          rw [if_neg (by lia), if_neg (by lia)]
          grind
        · rw [if_neg h]
          show _ = if 1 ≤ i ∧ i ≤ t then _ else _
          by_cases h2 : 1 ≤ i ∧ i ≤ t
          · rw [if_pos h2, if_pos (by lia)]
          · rw [if_neg h2, if_neg (by lia)]
      rw [e, det_comb _ _ (by lia) (by with_reducible exact Mine.m1) (by lia), ih (by with_reducible exact Mine.m7), Int.pow_succ]
      grind
  rw [← step n (Nat.le_refl n)]
  refine det_congr fun i hi j hj => ?_
  show _ = if 1 ≤ i ∧ i ≤ n then _ else _
  by_cases h : 1 ≤ i
  · rw [if_pos h, if_pos (by lia)]
  · rw [if_neg h, if_neg (by lia)]
theorem swC_clear {n : Nat} {N : Nat → Nat → Int} (h : ∀ i, 1 ≤ i → i < n + 2 → N i 0 = 0) : det (n + 2) (fun i j => N i (swA 0 j)) = - det (n + 2) N := by
  rw [det_col0 (M := N) h]
  show sumN (n + 1 + 1) (fun i => sg i * N i (swA 0 0) * det (n + 1) fun r c => N (skip i r) (swA 0 (c + 1))) = _
  rw [sumN_shift]
  have z : det (n + 1) (fun r c => N (skip 0 r) (swA 0 (c + 1))) = 0 := det_zero_col fun r hr => by
    show N (skip 0 r) (swA 0 (0 + 1)) = 0
    rw [show skip 0 r = r + 1 from rfl, show swA 0 (0 + 1) = 0 from rfl]
    exact h (r + 1) (by lia) (by with_reducible exact Mine.m5)
  rw [z, Int.mul_zero, Int.zero_add]
  show _ = -(N 0 0 * sumN (n + 1) fun i => sg i * N (i + 1) (0 + 1) * det n fun r c => N (skip i r + 1) (c + 1 + 1))
  rw [← Int.neg_mul, ← sumN_mul]
  refine sumN_congr fun i hi => ?_
  rw [det_col0 (M := fun r c => N (skip (i + 1) r) (swA 0 (c + 1))) fun r h1 h2 => ?_]
  · have e : det n (fun r c => N (skip (i + 1) (r + 1)) (swA 0 (c + 1 + 1))) = det n fun r c => N (skip i r + 1) (c + 1 + 1) := det_congr fun r _ c _ => by
      rw [show skip (i + 1) (r + 1) = skip i r + 1 by unfold skip; (repeat' split) <;> (first | with_reducible rfl | lia), show swA 0 (c + 1 + 1) = c + 1 + 1 by unfold swA; rw [if_neg (by lia), if_neg (by lia)]]
    rw [e, sg_succ, show skip (i + 1) 0 = 0 by unfold skip; rw [if_pos (by with_reducible exact Mine.m1)], show swA 0 0 = 0 + 1 from rfl, show swA 0 (0 + 1) = 0 from rfl]
    grind
  · show N (skip (i + 1) r) (swA 0 (0 + 1)) = 0
    rw [show swA 0 (0 + 1) = 0 from rfl]
    exact h _ (by unfold skip; split <;> (first | with_reducible assumption | lia)) (skip_lt h2)
theorem det_swC0 {n : Nat} {M : Nat → Nat → Int} : det (n + 2) (fun i j => M i (swA 0 j)) = - det (n + 2) M := by
  by_cases hz : ∀ i < n + 2, M i 0 = 0
  · rw [det_zero_col hz]
    show sumN (n + 1 + 1) (fun i => sg i * M i (swA 0 0) * det (n + 1) fun r c => M (skip i r) (swA 0 (c + 1))) = _
    rw [sumN_zero fun i hi => ?_]
    · rfl
    · rw [det_zero_col (M := fun r c => M (skip i r) (swA 0 (c + 1))) fun r hr => ?_, Int.mul_zero]
      exact hz _ (skip_lt hr)
  · have ⟨r, hr, hne⟩ : ∃ r, r < n + 2 ∧ M r 0 ≠ 0 := by
      refine Classical.byContradiction fun hcon => hz fun i hi => Classical.byContradiction fun h => hcon ⟨i, hi, h⟩
    have key : ∀ X : Nat → Nat → Int, X 0 0 ≠ 0 → det (n + 2) (fun i j => X i (swA 0 j)) = - det (n + 2) X := fun X hX => by
      have h1 := det_clear (n := n + 1) (X := X) (X 0 0) fun i => X i 0
      have h2 := det_clear (n := n + 1) (X := fun i j => X i (swA 0 j)) (X 0 0) fun i => X i 0
      have h3 := swC_clear (n := n) (N := fun i j => if 1 ≤ i then X 0 0 * X i j - X i 0 * X 0 j else X i j) fun i h1 h2 => by
        rw [if_pos h1]; grind
      have h4 : det (n + 2) (fun i j => if 1 ≤ i then X 0 0 * X i (swA 0 j) - X i 0 * X 0 (swA 0 j) else X i (swA 0 j)) = - det (n + 2) (fun i j => if 1 ≤ i then X 0 0 * X i j - X i 0 * X 0 j else X i j) := h3
      rw [h1, h2] at h4
      refine Int.eq_of_mul_eq_mul_left (pow_ne_zero' hX (n + 1)) ?_
      rw [h4]; grind
    by_cases h0 : r = 0
    · subst h0; exact key M hne
    · have k1 := key (swF r 0 M) (by unfold swF; rw [if_pos rfl]; exact hne)
      have k2 := det_swF (n := n + 2) (r := r) (q := 0) (M := M) hr (by with_reducible exact Mine.m1) h0
      have k3 := det_swF (n := n + 2) (r := r) (q := 0) (M := fun i j => M i (swA 0 j)) hr (by with_reducible exact Mine.m1) h0
      have k4 : (fun i j => swF r 0 M i (swA 0 j)) = swF r 0 (fun i j => M i (swA 0 j)) := by
        funext i j; unfold swF
        by_cases q1 : i = 0
        · rw [if_pos q1, if_pos q1]
        · rw [if_neg q1, if_neg q1]
          by_cases q2 : i = r
          · rw [if_pos q2, if_pos q2]
          · rw [if_neg q2, if_neg q2]
      rw [k4, k3, k2] at k1
      lia
theorem det_swC : ∀ {n j : Nat} {M : Nat → Nat → Int}, j + 1 < n → det n (fun i c => M i (swA j c)) = - det n M
  | n + 1, 0, M, h => by
    rw [show n + 1 = n - 1 + 2 by lia]; exact det_swC0
  | n + 1, j + 1, M, h => by
    show sumN (n + 1) (fun i => sg i * M i (swA (j + 1) 0) * det n fun r c => M (skip i r) (swA (j + 1) (c + 1))) = -(sumN (n + 1) fun i => sg i * M i 0 * det n fun r c => M (skip i r) (c + 1))
    rw [show ∀ x : Int, -x = (-1) * x from fun x => by lia, ← sumN_mul]
    refine sumN_congr fun i hi => ?_
    have e : (fun r c => M (skip i r) (swA (j + 1) (c + 1))) = fun r c => (fun r c => M (skip i r) (c + 1)) r (swA j c) := by
      funext r c
      rw [show swA (j + 1) (c + 1) = swA j c + 1 by unfold swA; (repeat' split) <;> (first | with_reducible rfl | lia)]
    rw [e, det_swC (n := n) (j := j) (M := fun r c => M (skip i r) (c + 1)) (by lia), show swA (j + 1) 0 = 0 by unfold swA; rw [if_neg (by lia), if_neg (by lia)]]
    grind
/-- rows and columns change places together -/
theorem det_sim {n j : Nat} {M : Nat → Nat → Int} (h : j + 1 < n) : det n (fun a c => M (swA j a) (swA j c)) = det n M := by
  rw [det_swA (M := fun a c => M a (swA j c)) h, det_swC h]; lia
end Mine
end

section
set_option maxRecDepth 100000
set_option linter.unusedVariables false
namespace Mine
/-- two by two blocks, each a multiple of g -/
noncomputable def blk (s : Nat) (a b c d : Int) (g : Nat → Nat → Int) : Nat → Nat → Int := fun i j =>
  (if i < s then (if j < s then a else b) else (if j < s then c else d)) * g (if i < s then i else i - s) (if j < s then j else j - s)
theorem blk_a {s : Nat} {a b c d : Int} {g : Nat → Nat → Int} (ha : a ≠ 0) : det (s + s) (blk s a b c d g) = (a * d - b * c) ^ s * det s g ^ 2 := by
  let N := fun (t : Nat) (i j : Nat) => if s ≤ i ∧ i < s + t then a * blk s a b c d g i j - c * blk s a b c d g (i - s) j else blk s a b c d g i j
  have step : ∀ t, t ≤ s → det (s + s) (N t) = a ^ t * det (s + s) (blk s a b c d g) := by
    intro t
    induction t with
    | zero =>
      intro _
      rw [Int.pow_zero, Int.one_mul]
      congr 1
      funext i j
      show (if s ≤ i ∧ i < s + 0 then _ else _) = _
      rw [if_neg (by lia)]
    | succ t ih =>
      intro ht
      have e : N (t + 1) = setRow (N t) (s + t) fun j => a * N t (s + t) j + (-c) * N t t j := by
        funext i j
        show (if s ≤ i ∧ i < s + (t + 1) then _ else _) = _
        unfold setRow
        by_cases h : i = s + t
        · subst h
          rw [if_pos (by lia), if_pos rfl]
          show _ = a * (if s ≤ s + t ∧ s + t < s + t then _ else _) + _ * (if s ≤ t ∧ t < s + t then _ else _)
          rw [if_neg (by lia), if_neg (by lia), show s + t - s = t by with_reducible exact Mine.m29]
          grind
        · rw [if_neg h]
          show _ = if s ≤ i ∧ i < s + t then _ else _
          by_cases h2 : s ≤ i ∧ i < s + t
          · rw [if_pos h2, if_pos (by lia)]
          · rw [if_neg h2, if_neg (by lia)]
      rw [e, det_comb _ _ (by lia) (by lia) (by lia), ih (by with_reducible exact Mine.m7), Int.pow_succ]
      grind
  have h1 := step s (Nat.le_refl s)
  have h2 : det (s + s) (N s) = (a ^ s * det s g) * ((a * d - b * c) ^ s * det s g) := by
    rw [det_block fun i h1 h2 j hj => ?_, ← det_scale_all, ← det_scale_all]
    · congr 1
      · refine det_congr fun i hi j hj => ?_
        show (if s ≤ i ∧ i < s + s then _ else _) = _
        rw [if_neg (by lia)]
        unfold blk
        rw [if_pos hi, if_pos hi, if_pos hj, if_pos hj]
      · refine det_congr fun i hi j hj => ?_
        show (if s ≤ s + i ∧ s + i < s + s then _ else _) = _
        rw [if_pos (by lia)]
        unfold blk
        rw [if_neg (by lia), if_neg (by lia), if_neg (by lia), if_neg (by lia), if_pos (by lia), if_neg (by lia), if_pos (by lia), show s + i - s = i by with_reducible exact Mine.m29, show s + j - s = j by with_reducible exact Mine.m29]
        grind
    · show (if s ≤ i ∧ i < s + s then _ else _) = _
      rw [if_pos (by lia)]
      unfold blk
      rw [if_neg (by lia), if_pos hj, if_neg (by lia), if_pos hj, if_pos (by lia), if_pos hj, if_pos (by lia)]
      grind
  rw [h2] at h1
  refine Int.eq_of_mul_eq_mul_left (pow_ne_zero' ha s) ?_
  rw [← h1]
  grind

theorem blk_swap {s : Nat} {a b c d : Int} {g : Nat → Nat → Int} : det (s + s) (blk s a b c d g) = (-1) ^ s * det (s + s) (blk s c d a b g) := by
  let N := fun (t : Nat) (i j : Nat) => if i < t then blk s a b c d g (s + i) j else if s ≤ i ∧ i < s + t then blk s a b c d g (i - s) j else blk s a b c d g i j
  have step : ∀ t, t ≤ s → det (s + s) (N t) = (-1) ^ t * det (s + s) (blk s a b c d g) := by
    intro t
    induction t with
    | zero =>
      intro _
      rw [Int.pow_zero, Int.one_mul]
      congr 1
      funext i j
      show (if i < 0 then _ else if s ≤ i ∧ i < s + 0 then _ else _) = _
      rw [if_neg (by lia), if_neg (by lia)]
    | succ t ih =>
      intro ht
      have e : N (t + 1) = swF t (s + t) (N t) := by
        funext i j
        show (if i < t + 1 then _ else if s ≤ i ∧ i < s + (t + 1) then _ else _) = _
        unfold swF
        by_cases h : i = s + t
        · subst h
          rw [if_neg (by lia), if_pos (by lia), if_pos rfl]
          show _ = if t < t then _ else if s ≤ t ∧ t < s + t then _ else _
          rw [if_neg (by lia), if_neg (by lia), show s + t - s = t by with_reducible exact Mine.m29]
        · rw [if_neg h]
          by_cases h3 : i = t
          · subst h3
            rw [if_pos (by with_reducible exact Mine.m2), if_pos rfl]
            show _ = if s + i < i then _ else if s ≤ s + i ∧ s + i < s + i then _ else _
            rw [if_neg (by lia), if_neg (by lia)]
          · rw [if_neg h3]
            show _ = if i < t then _ else if s ≤ i ∧ i < s + t then _ else _
            by_cases h2 : i < t
            · rw [if_pos h2, if_pos (by with_reducible exact Mine.m4)]
            · rw [if_neg h2, if_neg (by lia)]
              by_cases h4 : s ≤ i ∧ i < s + t
              · rw [if_pos h4, if_pos (by lia)]
              · rw [if_neg h4, if_neg (by lia)]
      rw [e, det_swF (by lia) (by lia) (by lia), ih (by with_reducible exact Mine.m7), Int.pow_succ]
      grind
  have h1 := step s (Nat.le_refl s)
  have h2 : det (s + s) (N s) = det (s + s) (blk s c d a b g) := det_congr fun i hi j hj => by
    show (if i < s then _ else if s ≤ i ∧ i < s + s then _ else _) = _
    by_cases h : i < s
    · rw [if_pos h]
      unfold blk
      have q : ¬ (s + i < s) := by lia
      simp only [h, q, if_true, if_false, show s + i - s = i by with_reducible exact Mine.m29]
    · rw [if_neg h, if_pos (by lia)]
      unfold blk
      have q : i - s < s := by with_reducible exact Mine.m25
      simp only [h, q, if_true, if_false]
  rw [← h2, h1, ← Int.mul_assoc, ← Int.mul_pow, show ((-1 : Int) * -1) = 1 from rfl, Int.one_pow, Int.one_mul]
theorem blk_det {s : Nat} {a b c d : Int} {g : Nat → Nat → Int} (hs : 0 < s) : det (s + s) (blk s a b c d g) = (a * d - b * c) ^ s * det s g ^ 2 := by
  by_cases ha : a = 0
  · by_cases hc : c = 0
    · subst ha; subst hc
      rw [show s + s = s + s - 1 + 1 by lia, det_zero_col fun i hi => ?_]
      · obtain ⟨m, rfl⟩ : ∃ m, s = m + 1 := ⟨s - 1, by lia⟩
        rw [Int.pow_succ]; simp
      · unfold blk
        rw [if_pos hs, if_pos hs]
        split <;> simp
    · rw [blk_swap, blk_a hc, ← Int.mul_assoc, ← Int.mul_pow]
      congr 2
      grind
  · exact blk_a ha
end Mine
end

section
set_option maxRecDepth 100000
set_option linter.unusedVariables false
namespace Mine
theorem divmod_lo {s i : Nat} (h : i < s) : i / s = 0 ∧ i % s = i := ⟨Nat.div_eq_of_lt h, Nat.mod_eq_of_lt h⟩
theorem divmod_hi {s i : Nat} (h1 : s ≤ i) (h2 : i < s + s) : i / s = 1 ∧ i % s = i - s := by
  obtain ⟨k, rfl⟩ : ∃ k, i = s + k := ⟨i - s, by lia⟩
  have hs : 0 < s := by lia
  constructor
  · rw [Nat.add_div_left _ hs, Nat.div_eq_of_lt (by lia)]
  · rw [Nat.add_mod_left, Nat.mod_eq_of_lt (by lia)]; lia
theorem kron_blk {s : Nat} {f g : Nat → Nat → Int} {i j : Nat} (hi : i < s + s) (hj : j < s + s) : kronF s f g i j = blk s (f 0 0) (f 0 1) (f 1 0) (f 1 1) g i j := by
  unfold kronF blk
  by_cases h1 : i < s
  · rw [(divmod_lo h1).1, (divmod_lo h1).2]
    by_cases h2 : j < s
    · rw [(divmod_lo h2).1, (divmod_lo h2).2]
      simp only [h1, h2, if_true]
    · rw [(divmod_hi (by lia) hj).1, (divmod_hi (by lia) hj).2]
      simp only [h1, h2, if_true, if_false]
  · rw [(divmod_hi (by lia) hi).1, (divmod_hi (by lia) hi).2]
    by_cases h2 : j < s
    · rw [(divmod_lo h2).1, (divmod_lo h2).2]
      simp only [h1, h2, if_true, if_false]
    · rw [(divmod_hi (by lia) hj).1, (divmod_hi (by lia) hj).2]
      simp only [h1, h2, if_false]
theorem within_d1 {s : Nat} {f g : Nat → Nat → Int} (hs : 0 < s) : det (2 * s) (kronF s f g) = (f 0 0 * f 1 1 - f 0 1 * f 1 0) ^ s * det s g ^ 2 := by
  rw [Nat.two_mul, det_congr (N := blk s (f 0 0) (f 0 1) (f 1 0) (f 1 1) g) fun i hi j hj => kron_blk hi hj]
  exact blk_det hs
theorem within_d2 {s : Nat} {f g : Nat → Nat → Int} (hs : 0 < s) (hs3 : s ≤ 3) : det (s * 2) (kronF 2 g f) = det (2 * s) (kronF s f g) := by
  have key : ∀ (π : Nat → Nat), (∀ i < s * 2, π i / s = i % 2 ∧ π i % s = i / 2) → det (s * 2) (fun i j => kronF s f g (π i) (π j)) = det (s * 2) (kronF 2 g f) := fun π h => det_congr fun i hi j hj => by
    unfold kronF
    rw [(h i hi).1, (h i hi).2, (h j hj).1, (h j hj).2, Int.mul_comm]
  rw [Nat.mul_comm 2 s]
  rcases (by lia : s = 1 ∨ s = 2 ∨ s = 3) with rfl | rfl | rfl
  · exact (key id (by decide)).symm
  · rw [← key (swA 1) (by decide)]
    exact det_sim (by decide)
  · rw [← key (fun i => swA 2 (swA 3 (swA 1 i))) (by decide)]
    rw [det_sim (n := 3 * 2) (j := 1) (M := fun i j => kronF 3 f g (swA 2 (swA 3 i)) (swA 2 (swA 3 j))) (by decide), det_sim (n := 3 * 2) (j := 3) (M := fun i j => kronF 3 f g (swA 2 i) (swA 2 j)) (by decide), det_sim (n := 3 * 2) (j := 2) (M := kronF 3 f g) (by decide)]
end Mine
end

section
set_option maxRecDepth 100000
set_option linter.unusedVariables false
namespace Mine
theorem sumN_sm {f : Nat → Int} : ∀ {n : Nat}, sumN n f = sm n f
  | 0 => rfl
  | n + 1 => by
    unfold sumN sm
    rw [sumN_sm (n := n)]
theorem mulF_R {n : Nat} {f g : Nat → Nat → Int} : mulF n f g = mulR n f g := by
  funext i j; exact sumN_sm
theorem kronF_kr {s : Nat} {f g : Nat → Nat → Int} : kronF s f g = kr s s f g := rfl
theorem within_sq {s : Nat} {f g : Nat → Nat → Int} : mulF (2 * s) (kronF s f g) (kronF s f g) = kronF s (mulF 2 f f) (mulF s g g) := by
  rw [mulF_R, mulF_R, mulF_R, kronF_kr, kronF_kr, kr_mul]
theorem r1_NZ {f : Nat → Nat → Int} {i j : Nat} : NZ (r1 f i j) := ⟨by show (1 : Int) ≠ 0; decide, fun _ => rfl⟩
theorem r1_val {f : Nat → Nat → Int} {i j : Nat} : val (r1 f i j) = (f i j : Rat) := by
  show (f i j : Rat) / ((1 : Int) : Rat) = _
  rw [Rat.intCast_one]; grind
theorem r1_rank {n m : Nat} {f : Nat → Nat → Int} : IsRank n m (fun i j => (f i j : Rat)) (rankE n m (r1 f)) :=
  (rank_is fun i _ j _ => r1_NZ).congr fun i _ j _ => r1_val.symm
theorem within_rank {s : Nat} {f g : Nat → Nat → Int} : rankE (2 * s) (2 * s) (r1 (kronF s f g)) = rankE 2 2 (r1 f) * rankE s s (r1 g) := by
  refine (r1_rank (n := 2 * s) (m := 2 * s) (f := kronF s f g)).unique ?_
  refine (IsRank.kr (r1_rank (n := 2) (m := 2) (f := f)) (r1_rank (n := s) (m := s) (f := g))).congr fun i _ j _ => ?_
  unfold kronF kr
  exact Rat.intCast_mul _ _
theorem beside_rank {s : Nat} {f g : Nat → Nat → Int} : rankE (2 + s) (2 + s) (r1 (besF 2 f g 1 1)) = rankE 2 2 (r1 f) + rankE s s (r1 g) := by
  refine (r1_rank (n := 2 + s) (m := 2 + s) (f := besF 2 f g 1 1)).unique ?_
  refine (IsRank.bs (r1_rank (n := 2) (m := 2) (f := f)) (r1_rank (n := s) (m := s) (f := g))).congr fun i _ j _ => ?_
  unfold besF bs
  by_cases h1 : i < 2
  · rw [if_pos h1, if_pos h1]
    by_cases h2 : j < 2
    · rw [if_pos h2, if_pos h2, Int.mul_one]
    · rw [if_neg h2, if_neg h2]; rfl
  · rw [if_neg h1, if_neg h1]
    by_cases h2 : j < 2
    · rw [if_pos h2, if_pos h2]; rfl
    · rw [if_neg h2, if_neg h2, Int.mul_one]
/-- the blocks of a matrix set beside another -/
theorem bes_ll {f g : Nat → Nat → Int} {i j : Nat} (h1 : i < 2) (h2 : j < 2) : besF 2 f g 1 1 i j = f i j := by
  unfold besF; rw [if_pos h1, if_pos h2, Int.mul_one]
theorem bes_lh {f g : Nat → Nat → Int} {i j : Nat} (h1 : i < 2) (h2 : 2 ≤ j) : besF 2 f g 1 1 i j = 0 := by
  unfold besF; rw [if_pos h1, if_neg (by lia)]
theorem bes_hl {f g : Nat → Nat → Int} {i j : Nat} (h1 : 2 ≤ i) (h2 : j < 2) : besF 2 f g 1 1 i j = 0 := by
  unfold besF; rw [if_neg (by lia), if_pos h2]
theorem bes_hh {f g : Nat → Nat → Int} {i j : Nat} (h1 : 2 ≤ i) (h2 : 2 ≤ j) : besF 2 f g 1 1 i j = g (i - 2) (j - 2) := by
  unfold besF; rw [if_neg (by lia), if_neg (by lia), Int.mul_one]
theorem bes_det {t : Nat} {f g : Nat → Nat → Int} : det (2 + t) (besF 2 f g 1 1) = det 2 f * det t g := by
  rw [det_block fun i h1 h2 j hj => bes_hl h1 hj]
  congr 1
  · exact det_congr fun i hi j hj => bes_ll hi hj
  · exact det_congr fun i hi j hj => by rw [bes_hh (by with_reducible exact Mine.m30) (by with_reducible exact Mine.m30), Nat.add_sub_cancel_left, Nat.add_sub_cancel_left]
theorem det_two' {f : Nat → Nat → Int} : det 2 f = f 0 0 * f 1 1 - f 0 1 * f 1 0 := by rw [det_two, Int.mul_comm (f 1 0)]
theorem rowN_add {α : Type} {a : Nat} {F : Nat → α} : ∀ {b : Nat}, rowN (a + b) F = rowN a F ++ rowN b fun i => F (a + i)
  | 0 => by simp [rowN]
  | b + 1 => by
    rw [show a + (b + 1) = a + b + 1 by lia, rowN_succ, rowN_add (b := b), rowN_succ, List.append_assoc]
theorem adj_ll {s i j : Nat} {f g : Nat → Nat → Int} (hi : i < 2) (hj : j < 2) : det (2 + s) (minF j i (besF 2 f g 1 1)) = det 1 (minF j i f) * det (s + 1) g := by
  rw [show 2 + s = 1 + (s + 1) by lia, det_block fun a h1 h2 c hc => ?_]
  · congr 1
    · refine det_congr fun a ha c hc => ?_
      unfold minF
      exact bes_ll (by unfold skip; split <;> (first | with_reducible exact Mine.m4 | with_reducible exact Mine.m5)) (by unfold skip; split <;> (first | with_reducible exact Mine.m4 | with_reducible exact Mine.m5))
    · refine det_congr fun a ha c hc => ?_
      unfold minF
      rw [show skip j (1 + a) = 2 + a by unfold skip; split <;> lia, show skip i (1 + c) = 2 + c by unfold skip; split <;> lia, bes_hh (by with_reducible exact Mine.m30) (by with_reducible exact Mine.m30), Nat.add_sub_cancel_left, Nat.add_sub_cancel_left]
  · unfold minF
    exact bes_hl (by unfold skip; split <;> lia) (by unfold skip; split <;> (first | with_reducible exact Mine.m4 | with_reducible exact Mine.m5))
theorem adj_hh {s i j : Nat} {f g : Nat → Nat → Int} (hi : 2 ≤ i) (hj : 2 ≤ j) : det (2 + s) (minF j i (besF 2 f g 1 1)) = det 2 f * det s (minF (j - 2) (i - 2) g) := by
  rw [det_block fun a h1 h2 c hc => ?_]
  · congr 1
    · refine det_congr fun a ha c hc => ?_
      unfold minF
      rw [show skip j a = a by unfold skip; split <;> (first | with_reducible rfl | lia), show skip i c = c by unfold skip; split <;> (first | with_reducible rfl | lia)]
      exact bes_ll ha hc
    · refine det_congr fun a ha c hc => ?_
      unfold minF
      rw [show skip j (2 + a) = 2 + skip (j - 2) a by unfold skip; (repeat' split) <;> (first | with_reducible rfl | lia), show skip i (2 + c) = 2 + skip (i - 2) c by unfold skip; (repeat' split) <;> (first | with_reducible rfl | lia), bes_hh (by with_reducible exact Mine.m30) (by with_reducible exact Mine.m30), Nat.add_sub_cancel_left, Nat.add_sub_cancel_left]
  · unfold minF
    exact bes_hl (by unfold skip; split <;> (first | with_reducible assumption | lia)) (by unfold skip; split <;> (first | with_reducible assumption | lia))
theorem adj_hl {s i j : Nat} {f g : Nat → Nat → Int} (hi : 2 ≤ i) (hj : j < 2) : det (2 + s) (minF j i (besF 2 f g 1 1)) = 0 := by
  rw [show 2 + s = s + 1 + 1 by lia, det_col0 fun a h1 h2 => ?_, det_zero_col fun a ha => ?_, Int.mul_zero]
  · unfold minF
    exact bes_hl (by unfold skip; split <;> lia) (by unfold skip; split <;> (first | with_reducible exact Mine.m2 | lia))
  · unfold minF
    exact bes_hl (by unfold skip; split <;> lia) (by unfold skip; split <;> (first | with_reducible exact Mine.m1 | with_reducible exact Mine.m2))
theorem adj_lh {s i j : Nat} {f g : Nat → Nat → Int} (hi : i < 2) (hj : 2 ≤ j) : det (2 + s) (minF j i (besF 2 f g 1 1)) = 0 := by
  generalize hM : minF j i (besF 2 f g 1 1) = M
  have h0 : ∀ a < 2, ∀ c, 1 ≤ c → M a c = 0 := fun a ha c hc => by
    rw [← hM]; unfold minF
    exact bes_lh (by unfold skip; split <;> (first | with_reducible assumption | lia)) (by unfold skip; split <;> lia)
  by_cases hz : M 0 0 = 0
  · refine det_zero_row (r := 0) (by lia) fun c hc => ?_
    by_cases e : c = 0
    · subst e; exact hz
    · exact h0 0 (by decide) c (by lia)
  · have h1 := det_comb (n := 2 + s) (r := 1) (q := 0) (M := M) (M 0 0) (-(M 1 0)) (by lia) (by lia) (by decide)
    rw [det_zero_row (r := 1) (by lia) fun c hc => ?_] at h1
    · rcases Int.mul_eq_zero.mp h1.symm with h | h
      · exact absurd h hz
      · exact h
    · unfold setRow
      rw [if_pos rfl]
      by_cases e : c = 0
      · subst e; grind
      · dsimp only
        rw [h0 0 (by decide) c (by lia), h0 1 (by decide) c (by lia)]; simp
theorem sgn_sub {i j : Nat} (hi : 2 ≤ i) (hj : 2 ≤ j) : ((i : Int) + j).fmod 2 = (((i - 2 : Nat) : Int) + ((j - 2 : Nat) : Int)).fmod 2 := by
  rw [Int.fmod_eq_emod_of_nonneg _ (by decide), Int.fmod_eq_emod_of_nonneg _ (by decide)]
  lia
theorem bes_adj {s i j : Nat} {f g : Nat → Nat → Int} : adjB (2 + s) (besF 2 f g 1 1) i j = besF 2 (adjB 1 f) (adjB s g) (detB (s + 1) g) (f 0 0 * f 1 1 - f 0 1 * f 1 0) i j := by
  rw [← det_two']
  unfold adjB
  rw [detB_eq]
  by_cases hi : i < 2
  · by_cases hj : j < 2
    · rw [adj_ll hi hj]
      unfold besF
      rw [if_pos hi, if_pos hj]
      dsimp only
      rw [detB_eq, detB_eq, Int.mul_assoc]
    · rw [adj_lh hi (by lia)]
      unfold besF
      rw [if_pos hi, if_neg hj, Int.mul_zero]
  · by_cases hj : j < 2
    · rw [adj_hl (by lia) hj]
      unfold besF
      rw [if_neg hi, if_pos hj, Int.mul_zero]
    · rw [adj_hh (by lia) (by lia)]
      unfold besF
      rw [if_neg hi, if_neg hj]
      dsimp only
      rw [detB_eq, sgn_sub (i := i) (j := j) (by lia) (by lia)]
      grind
theorem hB : ∀ s f g, s ≤ 1 → BesideLaw s f g := fun s f g _ => {
  dA := by rw [detB_eq, det_two']
  dW := by rw [detB_eq, bes_det, detB_eq, det_two']
  adj := mk_congr fun i _ j _ => bes_adj
  lead := by
    rw [rowN_add]
    congr 1
    · refine rowN_congr fun i hi => ?_
      rw [detB_eq, detB_eq]
      exact det_congr fun a ha c hc => bes_ll (by lia) (by lia)
    · refine rowN_congr fun i hi => ?_
      rw [detB_eq, detB_eq, show 2 + i + 1 = 2 + (i + 1) by lia, bes_det, det_two']
  rank := beside_rank }
theorem hW : ∀ s f g, 0 < s → s ≤ 3 → WithinLaw s f g := fun s f g h0 h3 => {
  d1 := by rw [detB_eq, detB_eq]; exact within_d1 h0
  d2 := by rw [detB_eq, detB_eq, within_d2 h0 h3]; exact within_d1 h0
  rank := fun _ => within_rank
  sq := fun i _ j _ => by rw [within_sq] }
end Mine
end

open PySem PySem.Calls PySem.W PyProof.Rows Mine
set_option maxHeartbeats 4000000 in
theorem PySem.Challenge.cw_sa0089_01_holds : PySem.Challenge.rw_sa0089_01.Holds := by
  refine Mine.hd ?_
  k_go0
  rename_i wd s₀ s₁ mg mb G Y fa o pm doc ho hg KX X V GLob T B TE TW _ _ M _ _ hcd xs hs _ _ _ _ _ _ sl vs _ hL ra w1 r0 hI hr hcond _ K0 hD h₁ tk₁ F oc1 oc2 l1 l2 N0 X0
  have GG' : GG wd mg mb s₁.heap := ⟨KX, topRead_of T⟩
  obtain ⟨ol, hol, holc, nl, hold⟩ := hL
  refine wpAny_mono (law_at (a := sl) (o := ol) (L := s₁.heap.objs.size) wd GG' Mine.hB Mine.hW (k := fun a => s₁.heap.get? a) (b := fun a => if a = 42 ∨ a = sl then s₁.heap.get? a else none) (r := (s₁.gens, s₁.drawn, s₁.os)) rfl ?hA ?h1 holc hold (ints_all2 hI) ?h5 ?h6 ?H) ?post (fun _ _ h => h.elim)
  case hA => exact (show AOk 10 callerA from ⟨rfl, by decide +kernel, by decide +kernel⟩).deeper _
  case h1 => show (if sl = 42 ∨ sl = sl then s₁.heap.get? sl else none) = some ol; rw [if_pos (.inr rfl)]; exact hol
  case h5 => lia
  case h6 =>
    have h42 : s₁.heap.get? 42 = some _ := KX 42 _ rfl
    exact ⟨42, _, _, rfl, (if_pos (Or.inl rfl)).trans h42⟩
  case H =>
    refine St.start (script := .ref sl) rfl (by decide +kernel) rfl F ?_ ?_
    · intro x v hx hl
      rcases List.mem_cons.mp hx with e | hx
      · cases e; with_unfolding_all rfl
      · simp at hx
    · intro x c hc
      have hm := PySem.mem_of_lookup hc
      have hm' : (x, c) ∈ [(("size" : Str), (s₁.heap.objs.size + 1 + 1 : Addr)), (("box" : Str), (s₁.heap.objs.size + 1 : Addr))] := hm
      rcases List.mem_cons.mp hm' with e | hm'
      · cases e
        exact ⟨oc1, _, News.get N0 List.mem_cons_self, l1, fun u hu _ => (noneAt_no (by with_unfolding_all rfl) hu).elim⟩
      · rcases List.mem_cons.mp hm' with e | hm'
        · cases e
          exact ⟨oc2, _, News.get N0 (List.mem_cons_of_mem _ List.mem_cons_self), l2, fun u hu _ => (noneAt_no (by with_unfolding_all rfl) hu).elim⟩
        · cases hm'
  case post =>
    rintro _ s' ⟨rfl, b', σ', w', _, H'⟩
    refine ⟨.inl ⟨.bool true, .bool true, [], rfl, fun _ => rfl, .bool _, ?_, ?_⟩, H'.base, H'.rest.2.2, H'.rest.1.trans hg⟩
    · generalize ofPy (PyData.list (List.map PyData.int xs)) = D
      refine postW_of (X := true) ?_ ?_ rfl
      · show WShape.has _ (.bool true) .bool = true
        first | rfl | decide +kernel | simp [WShape.has, WShape.arms]
      · first | rfl | (with_unfolding_all rfl) | (show PySem.W.WTm.value _ (.eq .res (.lit (.bool true))) _ = _; simp [PySem.W.WTm.value])
    · intro h; exact ⟨List.nodup_nil, fun a ha => (List.not_mem_nil ha).elim⟩
