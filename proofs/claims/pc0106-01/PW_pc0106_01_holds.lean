import PyProof.Rows.All
import Wide.All
import OpenK.AllK
import Wide.FinOn
import Lean
import PySem.Challenge.RW_pc0106_01
section
open PySem PySem.W PySem.Calls PyProof.Rows
set_option Elab.async false
set_option maxRecDepth 10000
set_option linter.unusedVariables false
set_option linter.unusedSimpArgs false
set_option genSizeOf false
set_option genSizeOfSpec false
set_option genInjectivity false
set_option bootstrap.genMatcherCode false
namespace Mine
section
/-! arithmetic facts, each proved once -/
theorem clamp_pos (k n : Nat) : (max 0 (min (if (k : Int) < 0 then (k : Int) + n else (k : Int)) (n : Int))).toNat = min k n := by
  rw [if_neg (Int.not_lt.mpr (Int.natCast_nonneg k))]
  rcases Nat.le_total k n with h | h
  · rw [Int.min_eq_left (Int.ofNat_le.mpr h), Nat.min_eq_left h, Int.max_eq_right (Int.natCast_nonneg _), Int.toNat_natCast]
  · rw [Int.min_eq_right (Int.ofNat_le.mpr h), Nat.min_eq_right h, Int.max_eq_right (Int.natCast_nonneg _), Int.toNat_natCast]
theorem clamp_neg (k n : Nat) (h : 0 < k) : (max 0 (min (if -(k : Int) < 0 then -(k : Int) + n else -(k : Int)) (n : Int))).toNat = n - k := by
  rw [if_pos (Int.neg_neg_of_pos (Int.natCast_pos.mpr h)), Int.add_comm, ← Int.sub_eq_add_neg, Int.min_eq_left (Int.sub_le_self _ (Int.natCast_nonneg k)), ← Int.toNat_sub]
  generalize (n : Int) - k = z
  rcases Int.le_total 0 z with q | q
  · rw [Int.max_eq_right q]
  · rw [Int.max_eq_left q, Int.toNat_of_nonpos q]; rfl
/-! places -/
theorem a_sl {a b n : Nat} (h : a < b) (h1 : a < n) : n - b < n - a := Nat.sub_lt_sub_left h1 h
theorem a_s1 {i m : Nat} (h : i < m) : m - i = m - (i + 1) + 1 := by rw [← Nat.sub_sub]; exact (Nat.sub_add_cancel (Nat.sub_pos_of_lt h)).symm
theorem a_s0 {i m : Nat} (h : ¬ i < m) : m - i = 0 := Nat.sub_eq_zero_of_le (Nat.le_of_not_lt h)
theorem a_sa {a k n : Nat} (h : k + a ≤ n) : n - k = a + (n - (k + a)) := by rw [← Nat.sub_sub]; exact (Nat.add_sub_cancel' (Nat.le_sub_of_add_le (Nat.add_comm k a ▸ h))).symm
theorem a_as {a b n : Nat} (h : a ≤ n) : n + b - a = n - a + b := Nat.sub_add_comm h
theorem a_ps {k a : Nat} (h : k ≤ a) : k + (a - k) = a := Nat.add_sub_cancel' h
theorem a_psl {k a l : Nat} (h : k ≤ a) : k + (a - k + l) = a + l := by rw [← Nat.add_assoc, Nat.add_sub_cancel' h]
theorem a_le_subE {k m n r : Nat} (h : r = n - k) (h0 : k ≤ n) (h1 : m ≤ r) : k + m ≤ n := Nat.add_comm m k ▸ Nat.add_le_of_le_sub h0 (h ▸ h1)
theorem a_lt_subE {k n r : Nat} (h : n - k = r + 1) : k < n := Nat.lt_of_sub_pos (h ▸ Nat.succ_pos r)
theorem a_pred {w : Nat} (h : ¬ w = 0) : w = w - 1 + 1 := (Nat.succ_pred h).symm
theorem a_sub_eq {n k r : Nat} (h : n - k = r + 1) : n = k + 1 + r := by rw [Nat.add_assoc, Nat.add_comm 1 r, ← h]; exact (Nat.add_sub_cancel' (Nat.le_of_lt (a_lt_subE h))).symm
theorem a_bl {s n k : Nat} (h : k ≤ n - s) (h0 : s ≤ n) : s + k ≤ n := Nat.add_comm k s ▸ Nat.add_le_of_le_sub h0 h
theorem a_bl2 {j k n : Nat} (h : k ≤ n - (j + 4)) (h1 : j + 2 ≤ n - 2) (h2 : 2 ≤ n) : j + 4 + k ≤ n := a_bl h (Nat.add_le_of_le_sub h2 h1 : j + 2 + 2 ≤ n)
theorem a_add_sub (b m : Nat) : b + m - b = m := Nat.add_sub_cancel_left ..
theorem a_3 (k a b : Nat) : k + a + b = k + (a + b) := Nat.add_assoc k a b
theorem a_min {k n : Nat} (h : ¬ k ≤ n) : n ≤ min k n := Nat.le_min.mpr ⟨Nat.le_of_lt (Nat.lt_of_not_le h), Nat.le_refl n⟩
theorem a_max0 (n : Nat) : (max 0 (n : Int)).toNat = n := by rw [Int.max_eq_right (Int.natCast_nonneg n), Int.toNat_natCast]
theorem a_z0 (n : Nat) : ((n : Int) - 0).toNat = n := by rw [Int.sub_zero, Int.toNat_natCast]
theorem a_pl {n k m : Nat} (h : m < n - k) : k + m < n := Nat.add_lt_of_lt_sub' h
theorem a_d1 {j w a : Nat} (h : 1 ≤ j) : j - 1 + (w - (a + 1)) < j + (w - a) := Nat.add_lt_add_of_lt_of_le (Nat.sub_lt h Nat.one_pos) (Nat.sub_le_sub_left (Nat.le_succ a) w)
theorem a_u0 (n : Nat) : n - (n - 1) ≤ 1 := Nat.sub_le_of_le_add (match n with | 0 => Nat.zero_le _ | n + 1 => Nat.le_of_eq (Nat.add_comm n 1))
theorem a_u1 {n B : Nat} (h : n - 1 + 2 ≤ B) : n - 1 + (n - (n - 1) + 1) ≤ B := Nat.le_trans (Nat.add_le_add_left (Nat.succ_le_succ (a_u0 n)) _) h
theorem a_u2 {n B : Nat} (h : n - 1 + 2 ≤ B) : n - 1 + 1 + (n - (n - 1)) ≤ B := Nat.le_trans (Nat.add_le_add_left (a_u0 n) _) h
theorem a_u3 {n B : Nat} (h : 2 ≤ B) : 1 + (n - (n - 1)) ≤ B := Nat.le_trans (Nat.add_le_add_left (a_u0 n) 1) h
/-! small numbers -/
theorem lt2 {a : Nat} (h : a < 2) : a = 0 ∨ a = 1 := (Nat.lt_succ_iff_lt_or_eq.mp h).imp Nat.lt_one_iff.mp id
theorem lt3 {a : Nat} (h : a < 3) : a = 0 ∨ a = 1 ∨ a = 2 := (Nat.lt_succ_iff_lt_or_eq.mp h).elim (fun h => (lt2 h).imp id .inl) fun e => .inr (.inr e)
theorem lt4 {a : Nat} (h : a < 4) : a = 0 ∨ a = 1 ∨ a = 2 ∨ a = 3 := (Nat.lt_succ_iff_lt_or_eq.mp h).elim (fun h => (lt3 h).imp id (Or.imp id .inl)) fun e => .inr (.inr (.inr e))
theorem lt5 {a : Nat} (h : a < 5) : a = 0 ∨ a = 1 ∨ a = 2 ∨ a = 3 ∨ a = 4 := (Nat.lt_succ_iff_lt_or_eq.mp h).elim (fun h => (lt4 h).imp id (Or.imp id (Or.imp id .inl))) fun e => .inr (.inr (.inr (.inr e)))
theorem upl {a m b : Nat} (h : a < m) (d : m ≤ b) : a ≤ b := Nat.le_of_lt (Nat.lt_of_lt_of_le h d)
/-! casts -/
theorem c_ne {a b : Nat} (h : ¬ a = @OfNat.ofNat Nat b (instOfNatNat b)) : ¬ (a : Int) = @OfNat.ofNat Int b (@instOfNat b) := fun e => h (Int.ofNat.inj e)
theorem c_eq {a b : Nat} (h : a = @OfNat.ofNat Nat b (instOfNatNat b)) : (a : Int) = @OfNat.ofNat Int b (@instOfNat b) := congrArg Int.ofNat h
theorem c_lt {a b : Nat} (h : a < @OfNat.ofNat Nat b (instOfNatNat b)) : (a : Int) < @OfNat.ofNat Int b (@instOfNat b) := Int.ofNat_lt.mpr h
theorem c_nlt {a b : Nat} (h : ¬ a < @OfNat.ofNat Nat b (instOfNatNat b)) : ¬ (a : Int) < @OfNat.ofNat Int b (@instOfNat b) := fun z => h (Int.ofNat_lt.mp z)
theorem c_gt {a b : Nat} (h : @OfNat.ofNat Nat b (instOfNatNat b) < a) : @OfNat.ofNat Int b (@instOfNat b) < (a : Int) := Int.ofNat_lt.mpr h
theorem c_sub {a b : Nat} (h : @OfNat.ofNat Nat b (instOfNatNat b) ≤ a) : ((a - @OfNat.ofNat Nat b (instOfNatNat b) : Nat) : Int) = (a : Int) - @OfNat.ofNat Int b (@instOfNat b) := Int.ofNat_sub h
theorem c_subL {a b : Nat} (h : a ≤ @OfNat.ofNat Nat b (instOfNatNat b)) : @OfNat.ofNat Int b (@instOfNat b) - (a : Int) = ((@OfNat.ofNat Nat b (instOfNatNat b) - a : Nat) : Int) := (Int.ofNat_sub h).symm
theorem d_gt (a b : Nat) : decide (@OfNat.ofNat Int b (@instOfNat b) < (a : Int)) = decide (@OfNat.ofNat Nat b (instOfNatNat b) < a) := decide_eq_decide.mpr Int.ofNat_lt
theorem d_eq0 (a b : Nat) : decide ((a : Int) = @OfNat.ofNat Int b (@instOfNat b)) = decide (a = @OfNat.ofNat Nat b (instOfNatNat b)) := decide_eq_decide.mpr ⟨Int.ofNat.inj, congrArg Int.ofNat⟩
theorem i62 {k n : Nat} (h : k < n) (hn : n ≤ 1000000) : (k : Int) < 2 ^ 62 ∧ -(2 ^ 62) < (k : Int) := ⟨Int.lt_of_lt_of_le (Int.ofNat_lt.mpr (Nat.lt_of_lt_of_le h hn)) (by decide), Int.lt_of_lt_of_le (by decide : -(2 ^ 62) < (0 : Int)) (Int.natCast_nonneg k)⟩
theorem r60 {a b : Nat} (ha : a ≤ 2000000) (hb : b ≤ 2000000) : (a : Int) < 2 ^ 60 ∧ -(2 ^ 60) < (a : Int) ∧ (b : Int) < 2 ^ 60 ∧ -(2 ^ 60) < (b : Int) :=
  have up : ∀ {c : Nat}, c ≤ 2000000 → (c : Int) < 2 ^ 60 := fun h => Int.lt_of_le_of_lt (Int.ofNat_le.mpr h) (by decide)
  have lo : ∀ c : Nat, -(2 ^ 60) < (c : Int) := fun c => Int.lt_of_lt_of_le (by decide : -(2 ^ 60) < (0 : Int)) (Int.natCast_nonneg c)
  ⟨up ha, lo a, up hb, lo b⟩
theorem fmod_natI (x y : Int) (hy : 0 < y) : ∃ j : Nat, x.fmod y = (j : Nat) ∧ (j : Int) < y := by
  have h0 := Int.le_of_lt hy
  have h1 : 0 ≤ x.fmod y := by rw [Int.fmod_eq_emod_of_nonneg _ h0]; exact Int.emod_nonneg _ (Int.ne_of_gt hy)
  have h2 := Int.fmod_lt_of_pos x hy
  rw [← Int.toNat_of_nonneg h1] at h2
  exact ⟨(x.fmod y).toNat, (Int.toNat_of_nonneg h1).symm, h2⟩
/-- a remainder, hidden from the arithmetic -/
structure FM (x : Int) (n j : Nat) : Prop where
  eq : x.fmod (@OfNat.ofNat Int n (@instOfNat n)) = (j : Nat)
theorem fmod_nat (x : Int) (n : Nat) (hn : 0 < n) : ∃ j : Nat, FM x n j ∧ j < @OfNat.ofNat Nat n (instOfNatNat n) :=
  (fmod_natI x n (Int.natCast_pos.mpr hn)).elim fun j h => ⟨j, ⟨h.1⟩, Int.ofNat_lt.mp h.2⟩
end
section
/-! values, cells -/
inductive V where
  | none
  | bool (b : Bool)
  | int (i : Int)
  | str (s : List Nat)
  | tup (l : List V)
  | obj (n : Nat)
  | clist (l : List V)
  | dct (es : List (List Nat × V))

inductive Cell where
  | list (vs : List V)
  | inst (C : Addr) (fs : List (Str × V))

noncomputable abbrev Store := List Cell
noncomputable abbrev Lo := List (Option V)
noncomputable abbrev Pm := List (Addr × Addr)

structure Cx where
  prog : Program
  w : World
  K : Frag
  hb : Heap
  mg : Str → Option Value
  mb : Str → Option Value
  p : Program
  loose : List Str
  g0 : Array GenState
  os0 : OsState
  X : K.In hb
  T : TopRead p loose mg mb hb
  dk : List Addr
  hk : ∀ a ∈ dk, ∀ (ents : List DictEntry) (n : Nat), K.lookup a = some ⟨.type "dict", none, .dict ents.toArray n, #[]⟩ → KeysLit w.params ents

mutual
inductive Rep (hb h : Heap) (K : Frag) (P : Params) (ρ : Pm) : V → Value → Prop
  | none : Rep hb h K P ρ .none .none
  | bool (b : Bool) : Rep hb h K P ρ (.bool b) (.bool b)
  | int (i : Int) (t : Tok) : Rep hb h K P ρ (.int i) (.int i t)
  | str (s : List Nat) (t : Tok) : Rep hb h K P ρ (.str s) (.str ⟨s.toArray⟩ t)
  | tup {a : Addr} {ds : List V} {vs : List Value} : IsTup h a vs.toArray → Reps hb h K P ρ ds vs → Rep hb h K P ρ (.tup ds) (.ref a)
  | obj {n : Nat} {r : Addr × Addr} : ρ[n]? = some r → Rep hb h K P ρ (.obj n) (.ref r.1)
  | clist {a : Addr} {ds : List V} {vs : List Value} : hb.IsList a vs.toArray → Reps hb h K P ρ ds vs → Rep hb h K P ρ (.clist ds) (.ref a)
  | dct {a : Addr} {es : List (List Nat × V)} {ents : List DictEntry} {n : Nat} : K.lookup a = some ⟨.type "dict", none, .dict ents.toArray n, #[]⟩ → (a == sysModules) = false → KeysLit P ents → RepD hb h K P ρ es ents → Rep hb h K P ρ (.dct es) (.ref a)
inductive Reps (hb h : Heap) (K : Frag) (P : Params) (ρ : Pm) : List V → List Value → Prop
  | nil : Reps hb h K P ρ [] []
  | cons {d : V} {v : Value} {ds : List V} {vs : List Value} : Rep hb h K P ρ d v → Reps hb h K P ρ ds vs → Reps hb h K P ρ (d :: ds) (v :: vs)
inductive RepD (hb h : Heap) (K : Frag) (P : Params) (ρ : Pm) : List (List Nat × V) → List DictEntry → Prop
  | nil : RepD hb h K P ρ [] []
  | cons {k : List Nat} {d : V} {e : DictEntry} {t : Tok} {ds : List (List Nat × V)} {es : List DictEntry} : e.key = .str ⟨k.toArray⟩ t → Rep hb h K P ρ d e.val → RepD hb h K P ρ ds es → RepD hb h K P ρ ((k, d) :: ds) (e :: es)
end

noncomputable abbrev Cx.Rep (c : Cx) (h : Heap) (ρ : Pm) := Mine.Rep c.hb h c.K c.w.params ρ
noncomputable abbrev Cx.Reps (c : Cx) (h : Heap) (ρ : Pm) := Mine.Reps c.hb h c.K c.w.params ρ

inductive Ents (c : Cx) (h : Heap) (ρ : Pm) : List (Str × V) → List DictEntry → Prop
  | nil : Ents c h ρ [] []
  | cons {x : Str} {d : V} {e : DictEntry} {t : Tok} {fs : List (Str × V)} {es : List DictEntry} : e.key = .str x t → c.Rep h ρ d e.val → Ents c h ρ fs es → Ents c h ρ ((x, d) :: fs) (e :: es)

noncomputable def CellAt (c : Cx) (h : Heap) (ρ : Pm) (r : Addr × Addr) : Cell → Prop
  | .list ds => ∃ vs n, r.1 = r.2 ∧ h.get? r.1 = some { cls := .type "list", dict := none, data := .seq (List.toArray vs) n, slots := #[] } ∧ c.Reps h ρ ds vs ∧ ds.length ≤ 1000000
  | .inst C fs => h.get? r.1 = some (instObj C r.2) ∧ ∃ es n, h.get? r.2 = some (dictOf es n) ∧ Ents c h ρ fs es ∧ fs.length ≤ 100

structure Sat (c : Cx) (ρ : Pm) (σ : Store) (s : Shared) : Prop where
  base : c.hb.StaysIn s.heap
  len : ρ.length = σ.length
  cells : ∀ (i : Nat) (cl : Cell) (r : Addr × Addr), σ[i]? = some cl → ρ[i]? = some r → CellAt c s.heap ρ r cl
  nodup : (ρ.map (·.2)).Nodup
  fresh : ∀ r ∈ ρ, c.hb.get? r.2 = none
  gens : s.gens = c.g0
  os : s.os = c.os0

noncomputable def Imm (o : Obj) : Prop := (o.cls = .type "tuple" ∧ ∃ xs n, o.data = .seq xs n) ∨ o.data = .plain

structure Stp (ρ : Pm) (x : List Addr) (h : Heap) (ρ' : Pm) (h' : Heap) : Prop where
  pre : ∃ δ, ρ' = ρ ++ δ ∧ ∀ r ∈ δ, ∀ o, h.get? r.2 = some o → r.2 ∈ ρ.map (·.2) ∨ r.2 ∈ x
  keep : ∀ b o, h.get? b = some o → b ∉ ρ.map (·.2) → b ∉ x → h'.get? b = some o
  imm : ∀ b o, h.get? b = some o → Imm o → h'.get? b = some o

structure Fm (c : Cx) (h : Heap) (ρ : Pm) (L : Addr) (names : List Str) (env : Lo) : Prop where
  ns : ∃ m, h.Ns L m ∧ ∀ (i : Nat) (d : V), env[i]? = some (some d) → ∃ x v, names[i]? = some x ∧ m x = some v ∧ c.Rep h ρ d v
  nin : L ∉ ρ.map (·.2)
  new : c.hb.get? L = none

theorem Stp.refl (ρ : Pm) (x : List Addr) (h : Heap) : Stp ρ x h ρ h := ⟨⟨[], by simp, fun _ hr => nomatch hr⟩, fun _ _ e _ _ => e, fun _ _ e _ => e⟩
theorem Stp.not {ρ ρ₁ : Pm} {x : List Addr} {h h₁ : Heap} (a : Stp ρ x h ρ₁ h₁) {b : Addr} {o : Obj} (e : h.get? b = some o) (n : b ∉ ρ.map (·.2)) (nx : b ∉ x) : b ∉ ρ₁.map (·.2) := by
  obtain ⟨δ, rfl, hδ⟩ := a.pre
  rw [List.map_append, List.mem_append]
  rintro (q | q)
  · exact n q
  · obtain ⟨r, hr, rfl⟩ := List.mem_map.mp q
    exact (hδ r hr o e).elim n nx
theorem Stp.trans {ρ ρ₁ ρ₂ : Pm} {x : List Addr} {h h₁ h₂ : Heap} (a : Stp ρ x h ρ₁ h₁) (b : Stp ρ₁ x h₁ ρ₂ h₂) : Stp ρ x h ρ₂ h₂ := by
  have a' := a
  obtain ⟨δ, rfl, hδ⟩ := a.pre
  obtain ⟨δ', rfl, hδ'⟩ := b.pre
  refine ⟨⟨δ ++ δ', by simp, fun r hr o e => ?_⟩, fun b' o e n nx => b.keep _ _ (a.keep _ _ e n nx) (a'.not e n nx) nx, fun b' o e i => b.imm _ _ (a.imm _ _ e i) i⟩
  by_cases n : r.2 ∈ ρ.map (·.2)
  · exact .inl n
  by_cases nx : r.2 ∈ x
  · exact .inr nx
  rcases List.mem_append.mp hr with q | q
  · exact hδ r q o e
  · exact ((hδ' r q o (a.keep _ _ e n nx)).elim (fun z => (a'.not e n nx z).elim) fun z => (nx z).elim)
theorem Stp.wk {ρ ρ₁ : Pm} {x y : List Addr} {h h₁ : Heap} (a : Stp ρ x h ρ₁ h₁) (hx : ∀ b ∈ x, b ∈ y) : Stp ρ y h ρ₁ h₁ :=
  ⟨let ⟨δ, e, q⟩ := a.pre; ⟨δ, e, fun r hr o z => (q r hr o z).imp id (hx _)⟩, fun b o e n ny => a.keep b o e n fun q => ny (hx b q), a.imm⟩

/-- what was not yet there may be touched -/
theorem Stp.drop {ρ ρ₁ : Pm} {x y : List Addr} {h h₁ : Heap} (a : Stp ρ y h ρ₁ h₁) (hx : ∀ b ∈ y, b ∈ x ∨ h.get? b = none) : Stp ρ x h ρ₁ h₁ :=
  ⟨let ⟨δ, e, q⟩ := a.pre; ⟨δ, e, fun r hr o z => (q r hr o z).imp id fun w => (hx _ w).elim id fun v => (by rw [v] at z; cases z)⟩,
    fun b o e n nx => a.keep b o e n fun q => (hx b q).elim nx fun z => (by rw [z] at e; cases e), a.imm⟩

/-- a heap that grew -/
theorem Stp.of_keeps {ρ : Pm} {x : List Addr} {h h' : Heap} (k : ∀ b o, h.get? b = some o → h'.get? b = some o) : Stp ρ x h ρ h' :=
  ⟨⟨[], by simp, fun _ hr => nomatch hr⟩, fun b o e _ _ => k b o e, fun b o e _ => k b o e⟩
theorem Stp.push (ρ : Pm) (x : List Addr) (h : Heap) (o : Obj) : Stp ρ x h ρ (h.push o) := Stp.of_keeps fun _ _ e => Heap.get?_push_of_some _ e

theorem isTup_imm {h h' : Heap} {a : Addr} {xs : Array Value} (k : ∀ b o, h.get? b = some o → Imm o → h'.get? b = some o) (x : IsTup h a xs) : IsTup h' a xs := by
  obtain ⟨o, ho, hc, n, hd⟩ := x
  exact ⟨o, k _ _ ho (.inl ⟨hc, _, n, hd⟩), hc, n, hd⟩

theorem Rep.mono {hb h h' : Heap} {K : Frag} {P : Params} {ρ ρ' : Pm} (k : ∀ b o, h.get? b = some o → Imm o → h'.get? b = some o) (hp : ∃ δ, ρ' = ρ ++ δ) {d v} (r : Rep hb h K P ρ d v) : Rep hb h' K P ρ' d v :=
  Rep.rec (motive_1 := fun d v _ => Rep hb h' K P ρ' d v) (motive_2 := fun ds vs _ => Reps hb h' K P ρ' ds vs) (motive_3 := fun ds vs _ => RepD hb h' K P ρ' ds vs) .none .bool .int .str (fun a _ b => .tup (isTup_imm k a) b)
    (fun e => hp.elim fun δ eq => .obj (eq ▸ (List.getElem?_append_left (List.getElem?_eq_some_iff.mp e).1).trans e)) (fun a _ b => .clist a b) (fun a b d _ r => .dct a b d r) .nil (fun _ _ a b => .cons a b) .nil (fun e _ _ a b => .cons e a b) r
theorem Reps.ind {hb h : Heap} {K : Frag} {P : Params} {ρ : Pm} {M : List V → List Value → Prop} (nil : M [] []) (cons : ∀ {d v ds vs}, Rep hb h K P ρ d v → Reps hb h K P ρ ds vs → M ds vs → M (d :: ds) (v :: vs)) {ds vs} (r : Reps hb h K P ρ ds vs) : M ds vs :=
  Reps.rec (motive_1 := fun _ _ _ => True) (motive_2 := fun ds vs _ => M ds vs) (motive_3 := fun _ _ _ => True) trivial (fun _ => trivial) (fun _ _ => trivial) (fun _ _ => trivial) (fun _ _ _ => trivial) (fun _ => trivial) (fun _ _ _ => trivial) (fun _ _ _ _ _ => trivial)
    nil (fun a b _ i => cons a b i) trivial (fun _ _ _ _ _ => trivial) r
theorem RepD.ind {hb h : Heap} {K : Frag} {P : Params} {ρ : Pm} {M : List (List Nat × V) → List DictEntry → Prop} (nil : M [] []) (cons : ∀ {k d e t ds es}, e.key = .str ⟨List.toArray k⟩ t → Rep hb h K P ρ d e.val → RepD hb h K P ρ ds es → M ds es → M ((k, d) :: ds) (e :: es)) {ds vs} (r : RepD hb h K P ρ ds vs) : M ds vs :=
  RepD.rec (motive_1 := fun _ _ _ => True) (motive_2 := fun _ _ _ => True) (motive_3 := fun ds vs _ => M ds vs) trivial (fun _ => trivial) (fun _ _ => trivial) (fun _ _ => trivial) (fun _ _ _ => trivial) (fun _ => trivial) (fun _ _ _ => trivial) (fun _ _ _ _ _ => trivial)
    trivial (fun _ _ _ _ => trivial) nil (fun e a b _ i => cons e a b i) r
theorem Reps.mono {hb h h' : Heap} {K : Frag} {P : Params} {ρ ρ' : Pm} (k : ∀ b o, h.get? b = some o → Imm o → h'.get? b = some o) (hp : ∃ δ, ρ' = ρ ++ δ) {d v} (r : Reps hb h K P ρ d v) : Reps hb h' K P ρ' d v :=
  r.ind .nil fun a _ i => .cons (a.mono k hp) i
/-! by the small value -/
noncomputable def RepI (hb h : Heap) (K : Frag) (P : Params) (ρ : Pm) (d : V) (v : Value) : Prop := match d with
  | .none => v = .none
  | .bool b => v = .bool b
  | .int i => ∃ t, v = .int i t
  | .str s => ∃ t, v = .str ⟨s.toArray⟩ t
  | .tup ds => ∃ a vs, v = .ref a ∧ IsTup h a (List.toArray vs) ∧ Reps hb h K P ρ ds vs
  | .obj n => ∃ r : Addr × Addr, v = .ref r.1 ∧ ρ[n]? = some r
  | .clist _ => True
  | .dct es => ∃ a ents n, v = .ref a ∧ K.lookup a = some ⟨.type "dict", Option.none, .dict (List.toArray ents) n, #[]⟩ ∧ (a == sysModules) = false ∧ KeysLit P ents ∧ RepD hb h K P ρ es ents
theorem Rep.inv {hb h : Heap} {K : Frag} {P : Params} {ρ : Pm} {d : V} {v : Value} (r : Rep hb h K P ρ d v) : RepI hb h K P ρ d v :=
  Rep.casesOn (motive_1 := fun d v _ => RepI hb h K P ρ d v) r rfl (fun _ => rfl) (fun _ _ => ⟨_, rfl⟩) (fun _ _ => ⟨_, rfl⟩) (fun a b => ⟨_, _, rfl, a, b⟩) (fun e => ⟨_, rfl, e⟩) (fun _ _ => trivial) (fun a b d e => ⟨_, _, _, rfl, a, b, d, e⟩)
@[elab_as_elim] theorem Rep.none_ {hb h : Heap} {K : Frag} {P : Params} {ρ : Pm} {v : Value} {G : Value → Prop} (r : Rep hb h K P ρ .none v) (k : G .none) : G v := (show v = .none from r.inv) ▸ k
theorem Rep.int_ {hb h : Heap} {K : Frag} {P : Params} {ρ : Pm} {i : Int} {v : Value} {G : Value → Prop} (r : Rep hb h K P ρ (.int i) v) (k : ∀ t, G (.int i t)) : G v := (show ∃ t, v = .int i t from r.inv).elim fun t e => e ▸ k t
theorem Rep.str_ {hb h : Heap} {K : Frag} {P : Params} {ρ : Pm} {s : List Nat} {v : Value} {G : Value → Prop} (r : Rep hb h K P ρ (.str s) v) (k : ∀ t, G (.str ⟨s.toArray⟩ t)) : G v := (show ∃ t, v = .str ⟨s.toArray⟩ t from r.inv).elim fun t e => e ▸ k t
theorem Rep.tup_ {hb h : Heap} {K : Frag} {P : Params} {ρ : Pm} {ds : List V} {v : Value} {G : Value → Prop} (r : Rep hb h K P ρ (.tup ds) v) (k : ∀ a vs, IsTup h a (List.toArray vs) → Reps hb h K P ρ ds vs → G (.ref a)) : G v :=
  (show ∃ a vs, v = .ref a ∧ IsTup h a (List.toArray vs) ∧ Reps hb h K P ρ ds vs from r.inv).elim fun a z => z.elim fun vs z => z.1 ▸ k a vs z.2.1 z.2.2
theorem Rep.obj_ {hb h : Heap} {K : Frag} {P : Params} {ρ : Pm} {n : Nat} {v : Value} {G : Value → Prop} (r : Rep hb h K P ρ (.obj n) v) (k : ∀ r : Addr × Addr, ρ[n]? = some r → G (.ref r.1)) : G v :=
  (show ∃ r : Addr × Addr, v = .ref r.1 ∧ ρ[n]? = some r from r.inv).elim fun r z => z.1 ▸ k r z.2
theorem Rep.dct_ {hb h : Heap} {K : Frag} {P : Params} {ρ : Pm} {es : List (List Nat × V)} {v : Value} {G : Value → Prop} (r : Rep hb h K P ρ (.dct es) v)
    (k : ∀ a ents n, K.lookup a = some ⟨.type "dict", Option.none, .dict (List.toArray ents) n, #[]⟩ → (a == sysModules) = false → KeysLit P ents → RepD hb h K P ρ es ents → G (.ref a)) : G v :=
  (show ∃ a ents n, v = .ref a ∧ K.lookup a = some ⟨.type "dict", Option.none, .dict (List.toArray ents) n, #[]⟩ ∧ (a == sysModules) = false ∧ KeysLit P ents ∧ RepD hb h K P ρ es ents from r.inv).elim fun a z => z.elim fun ents z => z.elim fun n z => z.1 ▸ k a ents n z.2.1 z.2.2.1 z.2.2.2.1 z.2.2.2.2
theorem Ents.mono {c : Cx} {h h' : Heap} {ρ ρ' : Pm} (k : ∀ b o, h.get? b = some o → Imm o → h'.get? b = some o) (hp : ∃ δ, ρ' = ρ ++ δ) {fs es} (x : Ents c h ρ fs es) : Ents c h' ρ' fs es := by
  induction x with
  | nil => exact .nil
  | cons e a _ ih => exact .cons e (Rep.mono k hp a) ih

theorem Stp.ext {ρ ρ₁ : Pm} {x : List Addr} {h h₁ : Heap} (a : Stp ρ x h ρ₁ h₁) : ∃ δ, ρ₁ = ρ ++ δ := let ⟨δ, e, _⟩ := a.pre; ⟨δ, e⟩
theorem Rep.stp {hb h h' : Heap} {K : Frag} {P : Params} {ρ ρ' : Pm} {x : List Addr} {d v} (r : Rep hb h K P ρ d v) (p : Stp ρ x h ρ' h') : Rep hb h' K P ρ' d v := r.mono p.imm p.ext
theorem Reps.stp {hb h h' : Heap} {K : Frag} {P : Params} {ρ ρ' : Pm} {x : List Addr} {d v} (r : Reps hb h K P ρ d v) (p : Stp ρ x h ρ' h') : Reps hb h' K P ρ' d v := r.mono p.imm p.ext
theorem Fm.stp {c : Cx} {h h' : Heap} {ρ ρ' : Pm} {x : List Addr} {L : Addr} {names : List Str} {env : Lo} (F : Fm c h ρ L names env) (p : Stp ρ x h ρ' h') (hx : L ∉ x) : Fm c h' ρ' L names env := by
  obtain ⟨⟨m, N, hm⟩, hn, hw⟩ := F
  obtain ⟨o, es, ep, ho, r⟩ := N
  refine ⟨⟨m, ⟨o, es, ep, p.keep _ _ ho hn hx, r⟩, fun i d e => ?_⟩, ?_, hw⟩
  · obtain ⟨y, v, a, b, q⟩ := hm i d e
    exact ⟨y, v, a, b, q.stp p⟩
  · exact p.not ho hn hx

/-- a heap in which nothing tracked has been touched -/
theorem Sat.keeps {c : Cx} {ρ : Pm} {σ : Store} {s s' : Shared} (S : Sat c ρ σ s) (k : ∀ b o, s.heap.get? b = some o → s'.heap.get? b = some o) (hg : s'.gens = s.gens) (ho : s'.os = s.os) : Sat c ρ σ s' := by
  refine ⟨fun b o e => k _ _ (S.base b o e), S.len, fun i cl r hi hr => ?_, S.nodup, S.fresh, hg.trans S.gens, ho.trans S.os⟩
  have := S.cells i cl r hi hr
  have hp : ∃ δ, ρ = ρ ++ δ := ⟨[], by simp⟩
  cases cl with
  | list ds => obtain ⟨vs, n, a, b, q, z⟩ := this; exact ⟨vs, n, a, k _ _ b, q.mono (fun b o e _ => k b o e) hp, z⟩
  | inst C fs => obtain ⟨a, es, n, b, q, z⟩ := this; exact ⟨k _ _ a, es, n, k _ _ b, q.mono (fun b o e _ => k b o e) hp, z⟩
/-- .. but for some addresses that are none of ours -/
theorem Sat.keepsBut {c : Cx} {ρ : Pm} {σ : Store} {s s' : Shared} {x : List Addr} (S : Sat c ρ σ s) (k : ∀ b o, s.heap.get? b = some o → b ∉ x → s'.heap.get? b = some o) (hi : ∀ b o, s.heap.get? b = some o → Imm o → s'.heap.get? b = some o) (hx : ∀ b ∈ x, c.hb.get? b = none ∧ b ∉ ρ.map (·.2)) (hg : s'.gens = s.gens) (ho : s'.os = s.os) : Sat c ρ σ s' := by
  refine ⟨fun b o e => k _ _ (S.base b o e) (fun q => by rw [(hx b q).1] at e; cases e), S.len, fun i cl r hi' hr => ?_, S.nodup, S.fresh, hg.trans S.gens, ho.trans S.os⟩
  have := S.cells i cl r hi' hr
  have hp : ∃ δ, ρ = ρ ++ δ := ⟨[], by simp⟩
  have hm : r.2 ∈ ρ.map (·.2) := List.mem_map_of_mem (List.mem_of_getElem? hr)
  cases cl with
  | list ds => obtain ⟨vs, n, a, b, q, z⟩ := this; exact ⟨vs, n, a, k _ _ b (fun y => (hx _ y).2 (a ▸ hm)), q.mono hi hp, z⟩
  | inst C fs => obtain ⟨a, es, n, b, q, z⟩ := this; exact ⟨hi _ _ a (.inr rfl), es, n, k _ _ b (fun y => (hx _ y).2 hm), q.mono hi hp, z⟩
theorem Sat.push {c : Cx} {ρ : Pm} {σ : Store} {s : Shared} (S : Sat c ρ σ s) (o : Obj) {t : Nat} : Sat c ρ σ { s with heap := s.heap.push o, toks := t } := S.keeps (fun _ _ e => Heap.get?_push_of_some _ e) rfl rfl
theorem Sat.toks {c : Cx} {ρ : Pm} {σ : Store} {s : Shared} (S : Sat c ρ σ s) {t : Nat} : Sat c ρ σ { s with toks := t } := S.keeps (fun _ _ e => e) rfl rfl
end
section
inductive Bi where | len | ord | chr | str | divmod
inductive Mt where | find | join | append | pop

set_option genCtorIdx false
/-- small expressions -/
inductive X where
  | loc (i : Nat)
  | glb (k : Nat) (d : V)
  | int (i : Int)
  | str (l : List Nat)
  | none
  | bool (b : Bool)
  | bin (op : Operator) (a b : X)
  | cmp (op : CmpOp) (a b : X)
  | cmp2 (o1 o2 : CmpOp) (a b c : X)
  | and (a b : X)
  | or (a b : X)
  | not (a : X)
  | ife (c a b : X)
  | idx (o i : X)
  | sl (o lo hi : X)
  | slc (o : X) (k : Nat)
  | noX
  | tup (as : X)
  | lst (as : X)
  | nil
  | cons (a as : X)
  | call (k : Nat) (f : Addr) (as : X)
  | new (k : Nat) (C f : Addr) (as : X)
  | bi (b : Bi) (as : X)
  | mth (m : Mt) (o as : X)
  | ucall (C f : Addr) (n : Str) (o as : X)
  | attr (C : Addr) (n : Str) (o : X)
  | comp (t : X) (it : X)
  | ddisp (es : List (Int × List Nat)) (i : X)

/-- small statements -/
inductive S where
  | skip
  | seq (a b : S)
  | asg (i : Nat) (e : X)
  | asgC (i : Nat) (t it : X)
  | asgT (is : List Nat) (e : X)
  | asgA (C : Addr) (n : Str) (o e : X)
  | aug (i : Nat) (op : Operator) (e : X)
  | augI (o i : X) (op : Operator) (e : X)
  | ifs (c : X) (a b : S)
  | whl (c : X) (b : S)
  | forR (i : Nat) (lo hi : X) (b : S)
  | forE (i : Nat) (e : X) (b : S)
  | ret (e : X)
  | expr (e : X)
  | brk
  | rais

inductive Fl where
  | next
  | brk
  | ret (v : V)

noncomputable abbrev CTy := Addr → List V → Store → (V → Store → Prop) → Prop

noncomputable abbrev lget : List (Option V) → Nat → Option (Option V)
  | [], _ => none
  | x :: _, 0 => some x
  | _ :: r, i + 1 => lget r i
noncomputable abbrev lset : List (Option V) → Nat → Option V → List (Option V)
  | [], _, _ => []
  | _ :: r, 0, v => v :: r
  | x :: r, i + 1, v => x :: lset r i v
theorem lget_eq : ∀ (l : List (Option V)) (i : Nat), lget l i = l[i]?
  | [], _ => rfl
  | _ :: _, 0 => rfl
  | _ :: r, i + 1 => lget_eq r i
theorem lset_eq : ∀ (l : List (Option V)) (i : Nat) (v : Option V), lset l i v = l.set i v
  | [], _, _ => rfl
  | _ :: _, 0, _ => rfl
  | x :: r, i + 1, v => congrArg (x :: ·) (lset_eq r i v)

/-! by the kind of a value -/
noncomputable abbrev no1 {α : Type} (_ : α) : Prop := False
noncomputable abbrev onAny (v : V) (I : Int → Prop) (T : List Nat → Prop) (B : Bool → Prop) (U : List V → Prop) (O : Nat → Prop) (D : List (List Nat × V) → Prop) : Prop := match v with
  | .int i => I i
  | .str s => T s
  | .bool b => B b
  | .tup ds => U ds
  | .obj n => O n
  | .dct es => D es
  | .none => False
  | .clist _ => False
noncomputable abbrev onInt (v : V) (P : Int → Prop) : Prop := onAny v P no1 no1 no1 no1 no1
noncomputable abbrev onStr (v : V) (P : List Nat → Prop) : Prop := onAny v no1 P no1 no1 no1 no1
noncomputable abbrev onObj (v : V) (P : Nat → Prop) : Prop := onAny v no1 no1 no1 no1 P no1
noncomputable abbrev onLst (o : Option Cell) (P : List V → Prop) : Prop := match o with
  | none => False
  | some cl => match cl with
    | .list ds => P ds
    | .inst _ _ => False
noncomputable abbrev onIns (o : Option Cell) (P : Addr → List (Str × V) → Prop) : Prop := match o with
  | none => False
  | some cl => match cl with
    | .list _ => False
    | .inst C fs => P C fs
noncomputable abbrev onSome {α : Type} (o : Option α) (P : α → Prop) : Prop := match o with
  | none => False
  | some a => P a
noncomputable abbrev onOne {α : Type} (l : List α) (P : α → Prop) : Prop := match l with
  | [] => False
  | a :: r => match r with
    | [] => P a
    | _ :: _ => False
noncomputable abbrev onTwo {α : Type} (l : List α) (P : α → α → Prop) : Prop := match l with
  | [] => False
  | a :: r => onOne r (P a)
noncomputable abbrev onDrop (v : V) (P : Prop) : Prop := match v with
  | .none => P
  | .int _ => P
  | .bool _ => False
  | .str _ => False
  | .tup _ => False
  | .obj _ => False
  | .clist _ => False
  | .dct _ => False
noncomputable abbrev onCl (v : V) (P : List V → Prop) : Prop := match v with
  | .none => False
  | .int _ => False
  | .bool _ => False
  | .str _ => False
  | .tup _ => False
  | .obj _ => False
  | .clist ds => P ds
  | .dct _ => False
noncomputable abbrev onB (b : Bool) (P : Prop) : Prop := match b with
  | true => P
  | false => False

noncomputable def truV (v : V) (σ : Store) (Q : Bool → Store → Prop) : Prop := onAny v no1 no1 (fun b => Q b σ) no1 (fun i => onLst σ[i]? fun vs => Q (!vs.isEmpty) σ) no1

noncomputable def binV (op : Operator) (a b : V) (σ : Store) (Q : V → Store → Prop) : Prop := match op with
  | .Add => onAny a (fun x => onInt b fun y => Q (.int (x + y)) σ) (fun x => onStr b fun y => x.length + y.length ≤ 1000000 ∧ Q (.str (x ++ y)) σ) no1 no1
      (fun i => onLst σ[i]? fun xs => onObj b fun j => onLst σ[j]? fun ys => xs.length + ys.length ≤ 1000000 ∧ Q (.obj σ.length) (σ ++ [.list (xs ++ ys)])) no1
  | .Sub => onInt a fun x => onInt b fun y => Q (.int (x - y)) σ
  | .Mult => onAny a (fun x => onInt b fun y => IntMulOk x y ∧ Q (.int (x * y)) σ) no1 no1 no1
      (fun i => onLst σ[i]? fun xs => onInt b fun n => onOne xs fun x => 0 ≤ n ∧ n ≤ 1000 ∧ Q (.obj σ.length) (σ ++ [.list (List.replicate n.toNat x)])) no1
  | .FloorDiv => onInt a fun x => onInt b fun y => (0 < y ∧ y < 1000000000) ∧ Q (.int (x.fdiv y)) σ
  | .Mod => onInt a fun x => onInt b fun y => (0 < y ∧ y < 1000000000) ∧ Q (.int (x.fmod y)) σ
  | _ => False

noncomputable def augV (op : Operator) (a b : V) (σ : Store) (Q : V → Store → Prop) : Prop := match op with
  | .Add => onInt a fun x => onInt b fun y => Q (.int (x + y)) σ
  | .Sub => onInt a fun x => onInt b fun y => Q (.int (x - y)) σ
  | _ => False

noncomputable def asInt (v : V) : Option Int := match v with
  | .int i => some i
  | _ => none
noncomputable def asStr (v : V) : Option (List Nat) := match v with
  | .str i => some i
  | _ => none
noncomputable def asTup (v : V) : Option (List V) := match v with
  | .tup i => some i
  | _ => none
theorem asInt_eq {v : V} {i : Int} (h : asInt v = some i) : v = .int i := by
  cases v <;> cases h <;> rfl
theorem asStr_eq {v : V} {i : List Nat} (h : asStr v = some i) : v = .str i := by
  cases v <;> cases h <;> rfl
theorem asTup_eq {v : V} {i : List V} (h : asTup v = some i) : v = .tup i := by
  cases v <;> cases h <;> rfl
noncomputable def strsOf : List V → Option (List (List Nat))
  | [] => some []
  | v :: r => (asStr v).bind fun x => (strsOf r).map (x :: ·)
noncomputable def intsOf : List V → Option (List Int)
  | [] => some []
  | v :: r => (asInt v).bind fun x => (intsOf r).map (x :: ·)
noncomputable def V.isNone (v : V) : Bool := match v with
  | .none => true
  | _ => false
noncomputable def assocV (x : List Nat) : List (List Nat × V) → Option V
  | [] => none
  | (k, d) :: r => if k = x then some d else assocV x r
noncomputable def assocF (x : Str) : List (Str × V) → Option V
  | [] => none
  | (k, d) :: r => if k = x then some d else assocF x r
noncomputable def setF (x : Str) (d : V) : List (Str × V) → List (Str × V)
  | [] => [(x, d)]
  | (k, e) :: r => if k = x then (x, d) :: r else (k, e) :: setF x d r
/-- is x a part of y -/
noncomputable def subIn (x y : List Nat) : Bool := !(Builtin.Str.occurrences ⟨y.toArray⟩ ⟨x.toArray⟩ 0 y.length 1).isEmpty
/-- pairs of ints alone -/
noncomputable def pairOf (v : V) : Option (Int × Int) := (asTup v).bind fun ds => (intsOf ds).bind fun l => match l with
  | [] => none
  | x :: r => match r with
    | [] => none
    | y :: r => match r with
      | [] => some (x, y)
      | _ :: _ => none
noncomputable def pairsOf : List V → Option (List (Int × Int))
  | [] => some []
  | v :: r => (pairOf v).bind fun p => (pairsOf r).map (p :: ·)

noncomputable def cmpV (op : CmpOp) (a b : V) (σ : Store) (Q : V → Store → Prop) : Prop := match op with
  | .Lt => onInt a fun x => onInt b fun y => Q (.bool (decide (x < y))) σ
  | .LtE => onAny a (fun x => onInt b fun y => Q (.bool (decide (x ≤ y))) σ) (fun x => onStr b fun y => Q (.bool (!decide (y < x))) σ) no1 no1 no1 no1
  | .Gt => onInt a fun x => onInt b fun y => Q (.bool (decide (y < x))) σ
  | .GtE => onInt a fun x => onInt b fun y => Q (.bool (decide (y ≤ x))) σ
  | .Eq => onAny a (fun x => onInt b fun y => Q (.bool (decide (x = y))) σ) (fun x => onStr b fun y => Q (.bool (decide (x = y))) σ) no1 no1
      (fun i => onLst σ[i]? fun xs => onObj b fun j => onLst σ[j]? fun ys => onSome (pairsOf xs) fun p => onSome (pairsOf ys) fun q => Q (.bool (decide (p = q))) σ) no1
  | .NotEq => onAny a (fun x => onInt b fun y => Q (.bool (!decide (x = y))) σ) (fun x => onStr b fun y => Q (.bool (!decide (x = y))) σ) (fun x => onAny b no1 no1 (fun y => Q (.bool (x != y)) σ) no1 no1 no1) no1 no1 no1
  | .Is => onB b.isNone (Q (.bool a.isNone) σ)
  | .IsNot => onB b.isNone (Q (.bool (!a.isNone)) σ)
  | .In => onAny a (fun x => onAny b no1 no1 no1 (fun ds => onSome (intsOf ds) fun l => Q (.bool (l.contains x)) σ) no1 no1)
      (fun x => onAny b no1 (fun y => Q (.bool (subIn x y)) σ) no1 (fun ds => onSome (strsOf ds) fun l => Q (.bool (l.contains x)) σ) no1 (fun es => Q (.bool (assocV x es).isSome) σ)) no1 no1 no1 no1
  | .NotIn => onAny a (fun x => onObj b fun i => onLst σ[i]? fun ds => onSome (intsOf ds) fun l => Q (.bool (!l.contains x)) σ) (fun x => onStr b fun y => Q (.bool (!subIn x y)) σ) no1 no1 no1 no1

noncomputable def idxV (o i : V) (σ : Store) (Q : V → Store → Prop) : Prop :=
  onAny o no1 (fun s => onInt i fun k => onSome (seqIndex? k s.length) fun j => k < 2 ^ 62 ∧ -(2 ^ 62) < k ∧ Q (.str [s.getD j 0]) σ) no1
    (fun ds => onInt i fun k => onSome (seqIndex? k ds.length) fun j => k < 2 ^ 62 ∧ -(2 ^ 62) < k ∧ Q (ds.getD j .none) σ)
    (fun n => onLst σ[n]? fun ds => onInt i fun k => onSome (seqIndex? k ds.length) fun j => k < 2 ^ 62 ∧ -(2 ^ 62) < k ∧ Q (ds.getD j .none) σ)
    (fun es => onStr i fun x => onSome (assocV x es) fun d => Q d σ)

noncomputable def slL (s : List Nat) (lo hi : Option Int) : List Nat := (Builtin.Str.strSliceIndices lo hi 1 s.length).filterMap (s[·]?)

/-- the text of an int -/
noncomputable def intS (i : Int) : List Nat := (Str.ofString (toString i)).cps.toList
/-- the place of a part from a place on -/
noncomputable def findL (s sub : List Nat) (k : Int) : Int := match Builtin.Str.occurrences ⟨s.toArray⟩ ⟨sub.toArray⟩ (fromIndex s.length k) s.length 1 with
  | i :: _ => (i : Int)
  | [] => -1

noncomputable def biV (b : Bi) (vs : List V) (σ : Store) (Q : V → Store → Prop) : Prop := match b with
  | .len => onOne vs fun v => onAny v no1 (fun s => s.length ≤ 10000000 ∧ Q (.int s.length) σ) no1 (fun ds => ds.length ≤ 10000000 ∧ Q (.int ds.length) σ) (fun i => onLst σ[i]? fun ds => Q (.int ds.length) σ) no1
  | .ord => onOne vs fun v => onStr v fun s => onOne s fun c => Q (.int c) σ
  | .chr => onOne vs fun v => onInt v fun i => 0 ≤ i ∧ i ≤ 0x10FFFF ∧ Q (.str [i.toNat]) σ
  | .str => onOne vs fun v => onInt v fun i => i.natAbs.log2 < 1920 ∧ Q (.str (intS i)) σ
  | .divmod => onTwo vs fun v w => onInt v fun a => onInt w fun b => (0 < b ∧ b < 1000000000) ∧ Q (.tup [.int (a.fdiv b), .int (a.fmod b)]) σ

noncomputable def mthV (m : Mt) (o : V) (vs : List V) (σ : Store) (Q : V → Store → Prop) : Prop := match m with
  | .find => onStr o fun s => onTwo vs fun u k => onStr u fun sub => onInt k fun k => Q (.int (findL s sub k)) σ
  | .join => onStr o fun s => s = [] ∧ onOne vs fun v => onObj v fun i => onLst σ[i]? fun ds => onSome (strsOf ds) fun l => l.flatten.length ≤ 1000000 ∧ Q (.str l.flatten) σ
  | .append => onObj o fun i => onOne vs fun d => onLst σ[i]? fun ds => ds.length < 1000000 ∧ Q .none (σ.set i (.list (ds ++ [d])))
  | .pop => onObj o fun i => vs = [] ∧ onLst σ[i]? fun ds => ds ≠ [] ∧ Q (ds.getLastD .none) (σ.set i (.list ds.dropLast))

/-- what a method is asked of -/
noncomputable def mthO (m : Mt) (o : V) (σ : Store) : Prop := match m with
  | .find => onStr o fun _ => True
  | .join => onStr o fun _ => True
  | .append => onObj o fun i => onLst σ[i]? fun _ => True
  | .pop => onObj o fun i => onLst σ[i]? fun _ => True

noncomputable def attrV (C : Addr) (n : Str) (o : V) (σ : Store) (Q : V → Store → Prop) : Prop := onObj o fun i => onIns σ[i]? fun C' fs => C' = C ∧ onSome (assocF n fs) fun d => Q d σ

noncomputable def assocI (i : Int) : List (Int × List Nat) → Option (List Nat)
  | [] => none
  | (k, d) :: r => if k = i then some d else assocI i r

/-- by a bool -/
noncomputable abbrev boolK (v : V) (T F : Prop) : Prop := match v with
  | .bool b => if b = true then T else F
  | _ => False
theorem boolK_inv {v : V} {T F : Prop} (h : boolK v T F) : (v = .bool true ∧ T) ∨ (v = .bool false ∧ F) := by
  cases v <;> first | exact False.elim h | skip
  rename_i b
  cases b
  · exact .inr ⟨rfl, by simpa [boolK] using h⟩
  · exact .inl ⟨rfl, by simpa [boolK] using h⟩
/-- what goes on behind a statement -/
noncomputable abbrev seqK (N : Lo → Store → Prop) (Q : Fl → Lo → Store → Prop) : Fl → Lo → Store → Prop := fun f env σ => match f with
  | .next => N env σ
  | .brk => Q .brk env σ
  | .ret v => Q (.ret v) env σ
/-- what goes on behind a turn -/
noncomputable abbrev whlK (P : Lo → Store → Prop) (Q : Fl → Lo → Store → Prop) : Fl → Lo → Store → Prop := fun f env σ => match f with
  | .next => P env σ
  | .brk => Q .next env σ
  | .ret v => Q (.ret v) env σ
noncomputable abbrev asgs : Lo → List Nat → List V → Option Lo
  | env, [], [] => some env
  | env, i :: is, d :: ds => asgs (lset env i (some d)) is ds
  | _, _, _ => none

noncomputable def uok (C : Addr) (n : Str) (vo : V) (σ : Store) : Prop := onObj vo fun i => onIns σ[i]? fun C' fs => C' = C ∧ assocF n fs = none
noncomputable def setK (C : Addr) (n : Str) (env : Lo) (Q : Fl → Lo → Store → Prop) (v vo : V) (σ₂ : Store) : Prop := onObj vo fun i => onIns σ₂[i]? fun C' fs => C' = C ∧ fs.length < 50 ∧ Q .next env (σ₂.set i (.inst C (setF n v fs)))

structure W3 where
  e : Lo → Store → (V → Store → Prop) → Prop
  c : Lo → Store → (Bool → Store → Prop) → Prop
  l : Lo → Store → (List V → Store → Prop) → Prop
  o : Lo → Store → (Option Int → Store → Prop) → Prop

noncomputable abbrev ofE (e : Lo → Store → (V → Store → Prop) → Prop) : W3 where
  e := e
  c := fun env σ Q => e env σ fun v σ' => truV v σ' Q
  l := fun _ _ _ => False
  o := fun env σ Q => e env σ fun v σ' => onInt v fun i => Q (some i) σ'

noncomputable abbrev wp (CT : CTy) : X → W3
  | .loc i => ofE fun env σ Q => onSome (lget env i) fun o => onSome o fun d => Q d σ
  | .glb _ d => ofE fun _ σ Q => Q d σ
  | .int i => ofE fun _ σ Q => Q (.int i) σ
  | .str l => ofE fun _ σ Q => Q (.str l) σ
  | .none => ofE fun _ σ Q => Q .none σ
  | .bool b => ofE fun _ σ Q => Q (.bool b) σ
  | .bin op a b => ofE fun env σ Q => (wp CT a).e env σ fun va σ₁ => (wp CT b).e env σ₁ fun vb σ₂ => binV op va vb σ₂ Q
  | .cmp op a b => ofE fun env σ Q => (wp CT a).e env σ fun va σ₁ => (wp CT b).e env σ₁ fun vb σ₂ => cmpV op va vb σ₂ Q
  | .cmp2 o1 o2 a b d => ofE fun env σ Q => (wp CT a).e env σ fun va σ₁ => (wp CT b).e env σ₁ fun vb σ₂ => cmpV o1 va vb σ₂ fun r σ₃ => boolK r ((wp CT d).e env σ₃ fun vd σ₄ => cmpV o2 vb vd σ₄ Q) (Q (.bool false) σ₃)
  | .and a b => { ofE (fun env σ Q => (wp CT a).e env σ fun va σ₁ => boolK va ((wp CT b).e env σ₁ Q) (Q (.bool false) σ₁)) with
      c := fun env σ Q => (wp CT a).c env σ fun t σ₁ => if t = true then (wp CT b).c env σ₁ Q else Q false σ₁ }
  | .or a b => { ofE (fun env σ Q => (wp CT a).e env σ fun va σ₁ => boolK va (Q (.bool true) σ₁) ((wp CT b).e env σ₁ Q)) with
      c := fun env σ Q => (wp CT a).c env σ fun t σ₁ => if t = true then Q true σ₁ else (wp CT b).c env σ₁ Q }
  | .not a => { ofE (fun env σ Q => (wp CT a).e env σ fun va σ₁ => truV va σ₁ fun t σ₂ => Q (.bool (!t)) σ₂) with
      c := fun env σ Q => (wp CT a).c env σ fun t σ₁ => Q (!t) σ₁ }
  | .ife t a b => { ofE (fun env σ Q => (wp CT t).c env σ fun r σ₁ => if r = true then (wp CT a).e env σ₁ Q else (wp CT b).e env σ₁ Q) with
      c := fun _ _ _ => False }
  | .idx o i => ofE fun env σ Q => (wp CT o).e env σ fun vo σ₁ => (wp CT i).e env σ₁ fun vi σ₂ => idxV vo vi σ₂ Q
  | .sl o lo hi => ofE fun env σ Q => (wp CT o).e env σ fun vo σ₁ => (wp CT lo).o env σ₁ fun l σ₂ => (wp CT hi).o env σ₂ fun h σ₃ => onStr vo fun s => s.length ≤ 1000000 ∧ Q (.str (slL s l h)) σ₃
  | .slc o k => ofE fun env σ Q => (wp CT o).e env σ fun vo σ₁ => onCl vo fun ds => (k ≤ 1000 ∧ ds.length ≤ 1000) ∧ Q (.obj σ₁.length) (σ₁ ++ [.list (ds.take k)])
  | .noX => W3.mk (fun _ _ _ => False) (fun _ _ _ => False) (fun _ _ _ => False) (fun _ σ Q => Q Option.none σ)
  | .tup as => ofE fun env σ Q => (wp CT as).l env σ fun vs σ₁ => vs.length ≤ 1000000 ∧ Q (.tup vs) σ₁
  | .lst as => ofE fun env σ Q => (wp CT as).l env σ fun vs σ₁ => vs.length ≤ 1000000 ∧ Q (.obj σ₁.length) (σ₁ ++ [.list vs])
  | .nil => W3.mk (fun _ _ _ => False) (fun _ _ _ => False) (fun _ σ Q => Q [] σ) (fun _ _ _ => False)
  | .cons a as => W3.mk (fun _ _ _ => False) (fun _ _ _ => False) (fun env σ Q => (wp CT a).e env σ fun v σ₁ => (wp CT as).l env σ₁ fun vs σ₂ => Q (v :: vs) σ₂) (fun _ _ _ => False)
  | .call _ f as => ofE fun env σ Q => (wp CT as).l env σ fun vs σ₁ => CT f vs σ₁ Q
  | .new _ C f as => ofE fun env σ Q => (wp CT as).l env σ fun vs σ₁ => CT f (.obj σ₁.length :: vs) (σ₁ ++ [.inst C []]) fun r σ₂ => r = .none ∧ Q (.obj σ₁.length) σ₂
  | .bi b as => ofE fun env σ Q => (wp CT as).l env σ fun vs σ₁ => biV b vs σ₁ Q
  | .mth m o as => ofE fun env σ Q => (wp CT o).e env σ fun vo σ₁ => mthO m vo σ₁ ∧ (wp CT as).l env σ₁ fun vs σ₂ => mthV m vo vs σ₂ Q
  | .ucall C f n o as => ofE fun env σ Q => (wp CT o).e env σ fun vo σ₁ => uok C n vo σ₁ ∧ (wp CT as).l env σ₁ fun vs σ₂ => CT f (vo :: vs) σ₂ Q
  | .attr C n o => ofE fun env σ Q => (wp CT o).e env σ fun vo σ₁ => attrV C n vo σ₁ Q
  | .comp t it => ofE fun env σ Q => (wp CT it).e env σ fun vi σ₁ => onObj vi fun i => onLst σ₁[i]? fun ds => ∃ f : V → V, (∀ d ∈ ds, ∀ acc, (wp CT t).e [some d] (σ₁ ++ [.list acc]) fun v σ' => σ' = σ₁ ++ [.list acc] ∧ v = f d) ∧ Q (.obj σ₁.length) (σ₁ ++ [.list (ds.map f)])
  | .ddisp es i => ofE fun env σ Q => (wp CT i).e env σ fun vi σ₁ => onInt vi fun k => onSome (assocI k es) fun d => Q (.str d) σ₁

noncomputable def rangeV (lo hi : Int) : List Int := (List.range (hi - lo).toNat).map fun (i : Nat) => lo + i

noncomputable def wpS (CT : CTy) : S → Lo → Store → (Fl → Lo → Store → Prop) → Prop
  | .skip, env, σ, Q => Q .next env σ
  | .seq a b, env, σ, Q => wpS CT a env σ (seqK (fun env' σ' => wpS CT b env' σ' Q) Q)
  | .asg i e, env, σ, Q => (wp CT e).e env σ fun v σ' => Q .next (lset env i (some v)) σ'
  | .asgC i t it, env, σ, Q => (wp CT (.comp t it)).e env σ fun v σ' => Q .next (lset env i (some v)) σ'
  | .asgT is e, env, σ, Q => (wp CT e).e env σ fun v σ' => onAny v no1 no1 no1 (fun ds => onSome (asgs env is ds) fun env' => Q .next env' σ') no1 no1
  | .asgA C n o e, env, σ, Q => (wp CT e).e env σ fun v σ₁ => (wp CT o).e env σ₁ fun vo σ₂ => setK C n env Q v vo σ₂
  | .aug i op e, env, σ, Q => onSome (lget env i) fun o => onSome o fun d => (wp CT e).e env σ fun v σ₁ => augV op d v σ₁ fun w σ₂ => Q .next (lset env i (some w)) σ₂
  | .augI o i op e, env, σ, Q => (wp CT o).e env σ fun vo σ₁ => (wp CT i).e env σ₁ fun vi σ₂ => onObj vo fun n => onInt vi fun k => onLst σ₂[n]? fun ds => onSome (seqIndex? k ds.length) fun j => k < 0 ∧ -(2 ^ 62) < k ∧
      (wp CT e).e env σ₂ fun v σ₃ => σ₃ = σ₂ ∧ augV op (ds.getD j .none) v σ₂ fun w σ₄ => σ₄ = σ₂ ∧ Q .next env (σ₂.set n (.list (ds.set j w)))
  | .ifs t a b, env, σ, Q => (wp CT t).c env σ fun r σ₁ => if r = true then wpS CT a env σ₁ Q else wpS CT b env σ₁ Q
  | .whl t b, env, σ, Q => ∃ (I : Nat → Lo → Store → Prop) (n : Nat), I n env σ ∧ ∀ n env σ, I n env σ → (wp CT t).c env σ fun r σ₁ =>
      if r = true then wpS CT b env σ₁ (whlK (fun env' σ₂ => ∃ m, m < n ∧ I m env' σ₂) Q) else Q .next env σ₁
  | .forR i lo hi b, env, σ, Q => (wp CT lo).e env σ fun vl σ₁ => (wp CT hi).e env σ₁ fun vh σ₂ => onInt vl fun l => onInt vh fun h => (l < 2 ^ 60 ∧ -(2 ^ 60) < l ∧ h < 2 ^ 60 ∧ -(2 ^ 60) < h) ∧ ∃ I : List Int → Lo → Store → Prop, I (rangeV l h) env σ₂ ∧
      (∀ x r env σ, I (x :: r) env σ → wpS CT b (lset env i (some (.int x))) σ (whlK (I r) Q)) ∧
      ∀ env σ, I [] env σ → Q .next env σ
  | .forE i e b, env, σ, Q => (wp CT e).e env σ fun v σ₁ => onAny v no1 no1 no1 (fun ds => ∃ I : List V → Lo → Store → Prop, I ds env σ₁ ∧
      (∀ x r env σ, I (x :: r) env σ → wpS CT b (lset env i (some x)) σ (whlK (I r) Q)) ∧
      ∀ env σ, I [] env σ → Q .next env σ)
    (fun n => onLst σ₁[n]? fun ds => ∃ I : List V → Lo → Store → Prop, I ds env σ₁ ∧
        (∀ r env σ, I r env σ → σ[n]? = some (.list ds)) ∧
        (∀ x r env σ, I (x :: r) env σ → wpS CT b (lset env i (some x)) σ (whlK (I r) Q)) ∧
        ∀ env σ, I [] env σ → Q .next env σ) no1
  | .ret e, env, σ, Q => (wp CT e).e env σ fun v σ' => Q (.ret v) env σ'
  | .expr e, env, σ, Q => (wp CT e).e env σ fun v σ' => onDrop v (Q .next env σ')
  | .brk, env, σ, Q => Q .brk env σ
  | .rais, _, _, _ => False
end
section
structure Mx where
  K : Frag
  dk : List Addr
  GT : List (Str × Value)
  sc : Scope
  names : List Str

noncomputable def Bi.id : Bi → Str
  | .len => "len" | .ord => "ord" | .chr => "chr" | .str => "str" | .divmod => "divmod"
noncomputable def Mt.id : Mt → Str
  | .find => "find" | .join => "join" | .append => "append" | .pop => "pop"

/-! looks at a tree: each with its one inversion -/
noncomputable def onBoolOp (e : PySem.Expr) (f : BoolOp → List PySem.Expr → Pos → Bool) : Bool := if q : e.ctorIdx = 0 then PySem.Expr.BoolOp.elim (motive_1 := fun _ => Bool) e q f else false
theorem onBoolOp_inv {e : PySem.Expr} {f : BoolOp → List PySem.Expr → Pos → Bool} {P : PySem.Expr → Prop} (h : onBoolOp e f = true) (k : ∀ (a0 : BoolOp) (a1 : List PySem.Expr) (a2 : Pos), f a0 a1 a2 = true → P (.BoolOp a0 a1 a2)) : P e := by
  unfold onBoolOp at h
  split at h
  · rename_i q
    exact PySem.Expr.BoolOp.elim (motive_1 := fun e => ∀ q : e.ctorIdx = 0, PySem.Expr.BoolOp.elim (motive_1 := fun _ => Bool) e q f = true → P e) e q (fun a0 a1 a2 _ h => k a0 a1 a2 h) q h
  · cases h
noncomputable def onBinOp (e : PySem.Expr) (f : PySem.Expr → Operator → PySem.Expr → Pos → Bool) : Bool := if q : e.ctorIdx = 2 then PySem.Expr.BinOp.elim (motive_1 := fun _ => Bool) e q f else false
theorem onBinOp_inv {e : PySem.Expr} {f : PySem.Expr → Operator → PySem.Expr → Pos → Bool} {P : PySem.Expr → Prop} (h : onBinOp e f = true) (k : ∀ (a0 : PySem.Expr) (a1 : Operator) (a2 : PySem.Expr) (a3 : Pos), f a0 a1 a2 a3 = true → P (.BinOp a0 a1 a2 a3)) : P e := by
  unfold onBinOp at h
  split at h
  · rename_i q
    exact PySem.Expr.BinOp.elim (motive_1 := fun e => ∀ q : e.ctorIdx = 2, PySem.Expr.BinOp.elim (motive_1 := fun _ => Bool) e q f = true → P e) e q (fun a0 a1 a2 a3 _ h => k a0 a1 a2 a3 h) q h
  · cases h
noncomputable def onUnaryOp (e : PySem.Expr) (f : UnaryOp → PySem.Expr → Pos → Bool) : Bool := if q : e.ctorIdx = 3 then PySem.Expr.UnaryOp.elim (motive_1 := fun _ => Bool) e q f else false
theorem onUnaryOp_inv {e : PySem.Expr} {f : UnaryOp → PySem.Expr → Pos → Bool} {P : PySem.Expr → Prop} (h : onUnaryOp e f = true) (k : ∀ (a0 : UnaryOp) (a1 : PySem.Expr) (a2 : Pos), f a0 a1 a2 = true → P (.UnaryOp a0 a1 a2)) : P e := by
  unfold onUnaryOp at h
  split at h
  · rename_i q
    exact PySem.Expr.UnaryOp.elim (motive_1 := fun e => ∀ q : e.ctorIdx = 3, PySem.Expr.UnaryOp.elim (motive_1 := fun _ => Bool) e q f = true → P e) e q (fun a0 a1 a2 _ h => k a0 a1 a2 h) q h
  · cases h
noncomputable def onIfExp (e : PySem.Expr) (f : PySem.Expr → PySem.Expr → PySem.Expr → Pos → Bool) : Bool := if q : e.ctorIdx = 5 then PySem.Expr.IfExp.elim (motive_1 := fun _ => Bool) e q f else false
theorem onIfExp_inv {e : PySem.Expr} {f : PySem.Expr → PySem.Expr → PySem.Expr → Pos → Bool} {P : PySem.Expr → Prop} (h : onIfExp e f = true) (k : ∀ (a0 : PySem.Expr) (a1 : PySem.Expr) (a2 : PySem.Expr) (a3 : Pos), f a0 a1 a2 a3 = true → P (.IfExp a0 a1 a2 a3)) : P e := by
  unfold onIfExp at h
  split at h
  · rename_i q
    exact PySem.Expr.IfExp.elim (motive_1 := fun e => ∀ q : e.ctorIdx = 5, PySem.Expr.IfExp.elim (motive_1 := fun _ => Bool) e q f = true → P e) e q (fun a0 a1 a2 a3 _ h => k a0 a1 a2 a3 h) q h
  · cases h
noncomputable def onDict (e : PySem.Expr) (f : List (Option PySem.Expr) → List PySem.Expr → Pos → Bool) : Bool := if q : e.ctorIdx = 6 then PySem.Expr.Dict.elim (motive_1 := fun _ => Bool) e q f else false
theorem onDict_inv {e : PySem.Expr} {f : List (Option PySem.Expr) → List PySem.Expr → Pos → Bool} {P : PySem.Expr → Prop} (h : onDict e f = true) (k : ∀ (a0 : List (Option PySem.Expr)) (a1 : List PySem.Expr) (a2 : Pos), f a0 a1 a2 = true → P (.Dict a0 a1 a2)) : P e := by
  unfold onDict at h
  split at h
  · rename_i q
    exact PySem.Expr.Dict.elim (motive_1 := fun e => ∀ q : e.ctorIdx = 6, PySem.Expr.Dict.elim (motive_1 := fun _ => Bool) e q f = true → P e) e q (fun a0 a1 a2 _ h => k a0 a1 a2 h) q h
  · cases h
noncomputable def onListComp (e : PySem.Expr) (f : PySem.Expr → List Comprehension → Scope → Pos → Bool) : Bool := if q : e.ctorIdx = 8 then PySem.Expr.ListComp.elim (motive_1 := fun _ => Bool) e q f else false
theorem onListComp_inv {e : PySem.Expr} {f : PySem.Expr → List Comprehension → Scope → Pos → Bool} {P : PySem.Expr → Prop} (h : onListComp e f = true) (k : ∀ (a0 : PySem.Expr) (a1 : List Comprehension) (a2 : Scope) (a3 : Pos), f a0 a1 a2 a3 = true → P (.ListComp a0 a1 a2 a3)) : P e := by
  unfold onListComp at h
  split at h
  · rename_i q
    exact PySem.Expr.ListComp.elim (motive_1 := fun e => ∀ q : e.ctorIdx = 8, PySem.Expr.ListComp.elim (motive_1 := fun _ => Bool) e q f = true → P e) e q (fun a0 a1 a2 a3 _ h => k a0 a1 a2 a3 h) q h
  · cases h
noncomputable def onCompare (e : PySem.Expr) (f : PySem.Expr → List CmpOp → List PySem.Expr → Pos → Bool) : Bool := if q : e.ctorIdx = 15 then PySem.Expr.Compare.elim (motive_1 := fun _ => Bool) e q f else false
theorem onCompare_inv {e : PySem.Expr} {f : PySem.Expr → List CmpOp → List PySem.Expr → Pos → Bool} {P : PySem.Expr → Prop} (h : onCompare e f = true) (k : ∀ (a0 : PySem.Expr) (a1 : List CmpOp) (a2 : List PySem.Expr) (a3 : Pos), f a0 a1 a2 a3 = true → P (.Compare a0 a1 a2 a3)) : P e := by
  unfold onCompare at h
  split at h
  · rename_i q
    exact PySem.Expr.Compare.elim (motive_1 := fun e => ∀ q : e.ctorIdx = 15, PySem.Expr.Compare.elim (motive_1 := fun _ => Bool) e q f = true → P e) e q (fun a0 a1 a2 a3 _ h => k a0 a1 a2 a3 h) q h
  · cases h
noncomputable def onCall (e : PySem.Expr) (f : PySem.Expr → List PySem.Expr → List Keyword → Pos → Bool) : Bool := if q : e.ctorIdx = 16 then PySem.Expr.Call.elim (motive_1 := fun _ => Bool) e q f else false
theorem onCall_inv {e : PySem.Expr} {f : PySem.Expr → List PySem.Expr → List Keyword → Pos → Bool} {P : PySem.Expr → Prop} (h : onCall e f = true) (k : ∀ (a0 : PySem.Expr) (a1 : List PySem.Expr) (a2 : List Keyword) (a3 : Pos), f a0 a1 a2 a3 = true → P (.Call a0 a1 a2 a3)) : P e := by
  unfold onCall at h
  split at h
  · rename_i q
    exact PySem.Expr.Call.elim (motive_1 := fun e => ∀ q : e.ctorIdx = 16, PySem.Expr.Call.elim (motive_1 := fun _ => Bool) e q f = true → P e) e q (fun a0 a1 a2 a3 _ h => k a0 a1 a2 a3 h) q h
  · cases h
noncomputable def onConstant (e : PySem.Expr) (f : Const → Nat → Pos → Bool) : Bool := if q : e.ctorIdx = 19 then PySem.Expr.Constant.elim (motive_1 := fun _ => Bool) e q f else false
theorem onConstant_inv {e : PySem.Expr} {f : Const → Nat → Pos → Bool} {P : PySem.Expr → Prop} (h : onConstant e f = true) (k : ∀ (a0 : Const) (a1 : Nat) (a2 : Pos), f a0 a1 a2 = true → P (.Constant a0 a1 a2)) : P e := by
  unfold onConstant at h
  split at h
  · rename_i q
    exact PySem.Expr.Constant.elim (motive_1 := fun e => ∀ q : e.ctorIdx = 19, PySem.Expr.Constant.elim (motive_1 := fun _ => Bool) e q f = true → P e) e q (fun a0 a1 a2 _ h => k a0 a1 a2 h) q h
  · cases h
noncomputable def onAttribute (e : PySem.Expr) (f : PySem.Expr → Str → Pos → Bool) : Bool := if q : e.ctorIdx = 20 then PySem.Expr.Attribute.elim (motive_1 := fun _ => Bool) e q f else false
theorem onAttribute_inv {e : PySem.Expr} {f : PySem.Expr → Str → Pos → Bool} {P : PySem.Expr → Prop} (h : onAttribute e f = true) (k : ∀ (a0 : PySem.Expr) (a1 : Str) (a2 : Pos), f a0 a1 a2 = true → P (.Attribute a0 a1 a2)) : P e := by
  unfold onAttribute at h
  split at h
  · rename_i q
    exact PySem.Expr.Attribute.elim (motive_1 := fun e => ∀ q : e.ctorIdx = 20, PySem.Expr.Attribute.elim (motive_1 := fun _ => Bool) e q f = true → P e) e q (fun a0 a1 a2 _ h => k a0 a1 a2 h) q h
  · cases h
noncomputable def onSubscript (e : PySem.Expr) (f : PySem.Expr → PySem.Expr → Pos → Bool) : Bool := if q : e.ctorIdx = 21 then PySem.Expr.Subscript.elim (motive_1 := fun _ => Bool) e q f else false
theorem onSubscript_inv {e : PySem.Expr} {f : PySem.Expr → PySem.Expr → Pos → Bool} {P : PySem.Expr → Prop} (h : onSubscript e f = true) (k : ∀ (a0 : PySem.Expr) (a1 : PySem.Expr) (a2 : Pos), f a0 a1 a2 = true → P (.Subscript a0 a1 a2)) : P e := by
  unfold onSubscript at h
  split at h
  · rename_i q
    exact PySem.Expr.Subscript.elim (motive_1 := fun e => ∀ q : e.ctorIdx = 21, PySem.Expr.Subscript.elim (motive_1 := fun _ => Bool) e q f = true → P e) e q (fun a0 a1 a2 _ h => k a0 a1 a2 h) q h
  · cases h
noncomputable def onName (e : PySem.Expr) (f : Str → Pos → Bool) : Bool := if q : e.ctorIdx = 23 then PySem.Expr.Name.elim (motive_1 := fun _ => Bool) e q f else false
theorem onName_inv {e : PySem.Expr} {f : Str → Pos → Bool} {P : PySem.Expr → Prop} (h : onName e f = true) (k : ∀ (a0 : Str) (a1 : Pos), f a0 a1 = true → P (.Name a0 a1)) : P e := by
  unfold onName at h
  split at h
  · rename_i q
    exact PySem.Expr.Name.elim (motive_1 := fun e => ∀ q : e.ctorIdx = 23, PySem.Expr.Name.elim (motive_1 := fun _ => Bool) e q f = true → P e) e q (fun a0 a1 _ h => k a0 a1 h) q h
  · cases h
noncomputable def onList (e : PySem.Expr) (f : List PySem.Expr → Pos → Bool) : Bool := if q : e.ctorIdx = 24 then PySem.Expr.List.elim (motive_1 := fun _ => Bool) e q f else false
theorem onList_inv {e : PySem.Expr} {f : List PySem.Expr → Pos → Bool} {P : PySem.Expr → Prop} (h : onList e f = true) (k : ∀ (a0 : List PySem.Expr) (a1 : Pos), f a0 a1 = true → P (.List a0 a1)) : P e := by
  unfold onList at h
  split at h
  · rename_i q
    exact PySem.Expr.List.elim (motive_1 := fun e => ∀ q : e.ctorIdx = 24, PySem.Expr.List.elim (motive_1 := fun _ => Bool) e q f = true → P e) e q (fun a0 a1 _ h => k a0 a1 h) q h
  · cases h
noncomputable def onTuple (e : PySem.Expr) (f : List PySem.Expr → Nat → Pos → Bool) : Bool := if q : e.ctorIdx = 25 then PySem.Expr.Tuple.elim (motive_1 := fun _ => Bool) e q f else false
theorem onTuple_inv {e : PySem.Expr} {f : List PySem.Expr → Nat → Pos → Bool} {P : PySem.Expr → Prop} (h : onTuple e f = true) (k : ∀ (a0 : List PySem.Expr) (a1 : Nat) (a2 : Pos), f a0 a1 a2 = true → P (.Tuple a0 a1 a2)) : P e := by
  unfold onTuple at h
  split at h
  · rename_i q
    exact PySem.Expr.Tuple.elim (motive_1 := fun e => ∀ q : e.ctorIdx = 25, PySem.Expr.Tuple.elim (motive_1 := fun _ => Bool) e q f = true → P e) e q (fun a0 a1 a2 _ h => k a0 a1 a2 h) q h
  · cases h
noncomputable def onSlice (e : PySem.Expr) (f : Option PySem.Expr → Option PySem.Expr → Option PySem.Expr → Pos → Bool) : Bool := if q : e.ctorIdx = 26 then PySem.Expr.Slice.elim (motive_1 := fun _ => Bool) e q f else false
theorem onSlice_inv {e : PySem.Expr} {f : Option PySem.Expr → Option PySem.Expr → Option PySem.Expr → Pos → Bool} {P : PySem.Expr → Prop} (h : onSlice e f = true) (k : ∀ (a0 : Option PySem.Expr) (a1 : Option PySem.Expr) (a2 : Option PySem.Expr) (a3 : Pos), f a0 a1 a2 a3 = true → P (.Slice a0 a1 a2 a3)) : P e := by
  unfold onSlice at h
  split at h
  · rename_i q
    exact PySem.Expr.Slice.elim (motive_1 := fun e => ∀ q : e.ctorIdx = 26, PySem.Expr.Slice.elim (motive_1 := fun _ => Bool) e q f = true → P e) e q (fun a0 a1 a2 a3 _ h => k a0 a1 a2 a3 h) q h
  · cases h
noncomputable def onSReturn (e : PySem.Stmt) (f : Option PySem.Expr → Pos → Bool) : Bool := if q : e.ctorIdx = 3 then PySem.Stmt.Return.elim (motive_2 := fun _ => Bool) e q f else false
theorem onSReturn_inv {e : PySem.Stmt} {f : Option PySem.Expr → Pos → Bool} {P : PySem.Stmt → Prop} (h : onSReturn e f = true) (k : ∀ (a0 : Option PySem.Expr) (a1 : Pos), f a0 a1 = true → P (.Return a0 a1)) : P e := by
  unfold onSReturn at h
  split at h
  · rename_i q
    exact PySem.Stmt.Return.elim (motive_2 := fun e => ∀ q : e.ctorIdx = 3, PySem.Stmt.Return.elim (motive_2 := fun _ => Bool) e q f = true → P e) e q (fun a0 a1 _ h => k a0 a1 h) q h
  · cases h
noncomputable def onSAssign (e : PySem.Stmt) (f : List PySem.Expr → PySem.Expr → Pos → Bool) : Bool := if q : e.ctorIdx = 5 then PySem.Stmt.Assign.elim (motive_2 := fun _ => Bool) e q f else false
theorem onSAssign_inv {e : PySem.Stmt} {f : List PySem.Expr → PySem.Expr → Pos → Bool} {P : PySem.Stmt → Prop} (h : onSAssign e f = true) (k : ∀ (a0 : List PySem.Expr) (a1 : PySem.Expr) (a2 : Pos), f a0 a1 a2 = true → P (.Assign a0 a1 a2)) : P e := by
  unfold onSAssign at h
  split at h
  · rename_i q
    exact PySem.Stmt.Assign.elim (motive_2 := fun e => ∀ q : e.ctorIdx = 5, PySem.Stmt.Assign.elim (motive_2 := fun _ => Bool) e q f = true → P e) e q (fun a0 a1 a2 _ h => k a0 a1 a2 h) q h
  · cases h
noncomputable def onSAugAssign (e : PySem.Stmt) (f : PySem.Expr → Operator → PySem.Expr → Pos → Bool) : Bool := if q : e.ctorIdx = 7 then PySem.Stmt.AugAssign.elim (motive_2 := fun _ => Bool) e q f else false
theorem onSAugAssign_inv {e : PySem.Stmt} {f : PySem.Expr → Operator → PySem.Expr → Pos → Bool} {P : PySem.Stmt → Prop} (h : onSAugAssign e f = true) (k : ∀ (a0 : PySem.Expr) (a1 : Operator) (a2 : PySem.Expr) (a3 : Pos), f a0 a1 a2 a3 = true → P (.AugAssign a0 a1 a2 a3)) : P e := by
  unfold onSAugAssign at h
  split at h
  · rename_i q
    exact PySem.Stmt.AugAssign.elim (motive_2 := fun e => ∀ q : e.ctorIdx = 7, PySem.Stmt.AugAssign.elim (motive_2 := fun _ => Bool) e q f = true → P e) e q (fun a0 a1 a2 a3 _ h => k a0 a1 a2 a3 h) q h
  · cases h
noncomputable def onSFor (e : PySem.Stmt) (f : PySem.Expr → PySem.Expr → List Stmt → List Stmt → Pos → Bool) : Bool := if q : e.ctorIdx = 9 then PySem.Stmt.For.elim (motive_2 := fun _ => Bool) e q f else false
theorem onSFor_inv {e : PySem.Stmt} {f : PySem.Expr → PySem.Expr → List Stmt → List Stmt → Pos → Bool} {P : PySem.Stmt → Prop} (h : onSFor e f = true) (k : ∀ (a0 : PySem.Expr) (a1 : PySem.Expr) (a2 : List Stmt) (a3 : List Stmt) (a4 : Pos), f a0 a1 a2 a3 a4 = true → P (.For a0 a1 a2 a3 a4)) : P e := by
  unfold onSFor at h
  split at h
  · rename_i q
    exact PySem.Stmt.For.elim (motive_2 := fun e => ∀ q : e.ctorIdx = 9, PySem.Stmt.For.elim (motive_2 := fun _ => Bool) e q f = true → P e) e q (fun a0 a1 a2 a3 a4 _ h => k a0 a1 a2 a3 a4 h) q h
  · cases h
noncomputable def onSWhile (e : PySem.Stmt) (f : PySem.Expr → List Stmt → List Stmt → Pos → Bool) : Bool := if q : e.ctorIdx = 11 then PySem.Stmt.While.elim (motive_2 := fun _ => Bool) e q f else false
theorem onSWhile_inv {e : PySem.Stmt} {f : PySem.Expr → List Stmt → List Stmt → Pos → Bool} {P : PySem.Stmt → Prop} (h : onSWhile e f = true) (k : ∀ (a0 : PySem.Expr) (a1 : List Stmt) (a2 : List Stmt) (a3 : Pos), f a0 a1 a2 a3 = true → P (.While a0 a1 a2 a3)) : P e := by
  unfold onSWhile at h
  split at h
  · rename_i q
    exact PySem.Stmt.While.elim (motive_2 := fun e => ∀ q : e.ctorIdx = 11, PySem.Stmt.While.elim (motive_2 := fun _ => Bool) e q f = true → P e) e q (fun a0 a1 a2 a3 _ h => k a0 a1 a2 a3 h) q h
  · cases h
noncomputable def onSIf (e : PySem.Stmt) (f : PySem.Expr → List Stmt → List Stmt → Pos → Bool) : Bool := if q : e.ctorIdx = 12 then PySem.Stmt.If.elim (motive_2 := fun _ => Bool) e q f else false
theorem onSIf_inv {e : PySem.Stmt} {f : PySem.Expr → List Stmt → List Stmt → Pos → Bool} {P : PySem.Stmt → Prop} (h : onSIf e f = true) (k : ∀ (a0 : PySem.Expr) (a1 : List Stmt) (a2 : List Stmt) (a3 : Pos), f a0 a1 a2 a3 = true → P (.If a0 a1 a2 a3)) : P e := by
  unfold onSIf at h
  split at h
  · rename_i q
    exact PySem.Stmt.If.elim (motive_2 := fun e => ∀ q : e.ctorIdx = 12, PySem.Stmt.If.elim (motive_2 := fun _ => Bool) e q f = true → P e) e q (fun a0 a1 a2 a3 _ h => k a0 a1 a2 a3 h) q h
  · cases h
noncomputable def onSRaise (e : PySem.Stmt) (f : Option PySem.Expr → Option PySem.Expr → Pos → Bool) : Bool := if q : e.ctorIdx = 16 then PySem.Stmt.Raise.elim (motive_2 := fun _ => Bool) e q f else false
noncomputable def onSExpr (e : PySem.Stmt) (f : PySem.Expr → Pos → Bool) : Bool := if q : e.ctorIdx = 24 then PySem.Stmt.Expr.elim (motive_2 := fun _ => Bool) e q f else false
theorem onSExpr_inv {e : PySem.Stmt} {f : PySem.Expr → Pos → Bool} {P : PySem.Stmt → Prop} (h : onSExpr e f = true) (k : ∀ (a0 : PySem.Expr) (a1 : Pos), f a0 a1 = true → P (.Expr a0 a1)) : P e := by
  unfold onSExpr at h
  split at h
  · rename_i q
    exact PySem.Stmt.Expr.elim (motive_2 := fun e => ∀ q : e.ctorIdx = 24, PySem.Stmt.Expr.elim (motive_2 := fun _ => Bool) e q f = true → P e) e q (fun a0 a1 _ h => k a0 a1 h) q h
  · cases h
noncomputable def onSBreak (e : PySem.Stmt) (f : Pos → Bool) : Bool := if q : e.ctorIdx = 26 then PySem.Stmt.Break.elim (motive_2 := fun _ => Bool) e q f else false
theorem onSBreak_inv {e : PySem.Stmt} {f : Pos → Bool} {P : PySem.Stmt → Prop} (h : onSBreak e f = true) (k : ∀ (a0 : Pos), f a0 = true → P (.Break a0)) : P e := by
  unfold onSBreak at h
  split at h
  · rename_i q
    exact PySem.Stmt.Break.elim (motive_2 := fun e => ∀ q : e.ctorIdx = 26, PySem.Stmt.Break.elim (motive_2 := fun _ => Bool) e q f = true → P e) e q (fun a0 _ h => k a0 h) q h
  · cases h

noncomputable def on1 {α : Type} (l : List α) (f : α → Bool) : Bool := match l with
  | [] => false
  | a :: r => r.isEmpty && f a
theorem on1_inv {α : Type} {l : List α} {f : α → Bool} {P : List α → Prop} (h : on1 l f = true) (k : ∀ a, f a = true → P [a]) : P l := by
  cases l with
  | nil => cases h
  | cons a r =>
    obtain ⟨h1, h2⟩ := Bool.and_eq_true_iff.mp h
    cases r with
    | nil => exact k a h2
    | cons _ _ => cases h1
noncomputable def onC {α : Type} (l : List α) (f : α → List α → Bool) : Bool := match l with
  | [] => false
  | a :: r => f a r
theorem onC_inv {α : Type} {l : List α} {f : α → List α → Bool} {P : List α → Prop} (h : onC l f = true) (k : ∀ a r, f a r = true → P (a :: r)) : P l := by
  cases l with
  | nil => cases h
  | cons a r => exact k a r h
noncomputable def onO {α : Type} (o : Option α) (f : α → Bool) : Bool := match o with
  | none => false
  | some a => f a
theorem onO_inv {α : Type} {l : Option α} {f : α → Bool} {P : Option α → Prop} (h : onO l f = true) (k : ∀ a, f a = true → P (some a)) : P l := by
  cases l with
  | none => cases h
  | some a => exact k a h
theorem nt {b : Bool} (h : (!b) = true) : b = false := by cases b <;> first | rfl | cases h
theorem and2 {a b : Bool} (h : (a && b) = true) : a = true ∧ b = true := Bool.and_eq_true_iff.mp h

noncomputable def isSlice (e : PySem.Expr) : Bool := e.ctorIdx == 26
noncomputable def isCall (e : PySem.Expr) : Bool := e.ctorIdx == 16
noncomputable def isSet (e : PySem.Expr) : Bool := e.ctorIdx == 7
noncomputable def cInt (k : Const) (i : Int) : Bool := match k with | .int j => j == i | _ => false
noncomputable def cStr (k : Const) (l : List Nat) : Bool := match k with | .str x => x == ⟨l.toArray⟩ | _ => false
noncomputable def cNone (k : Const) : Bool := match k with | .none => true | _ => false
noncomputable def cBool (k : Const) (b : Bool) : Bool := match k with | .bool b' => b == b' | _ => false
noncomputable def isNot (op : UnaryOp) : Bool := match op with | .Not => true | _ => false
noncomputable def isUSub (op : UnaryOp) : Bool := match op with | .USub => true | _ => false
noncomputable def isBop (o op : BoolOp) : Bool := match o, op with | .And, .And => true | .Or, .Or => true | _, _ => false
noncomputable def isInt (e : PySem.Expr) (i : Int) : Bool := onConstant e (fun k _ _ => cInt k i) || onUnaryOp e fun op x _ => isUSub op && onConstant x fun k _ _ => cInt k (-i)
noncomputable def restOf (op : BoolOp) (y : PySem.Expr) (r : List PySem.Expr) (pos : Pos) : PySem.Expr := match r with
  | [] => y
  | _ :: _ => .BoolOp op (y :: r) pos

/-- a value of the top, seen through the written part -/
noncomputable def onRef (v : Value) (f : Addr → Bool) : Bool := match v with | .ref a => f a | _ => false
noncomputable def onStrV (v : Value) (f : Str → Bool) : Bool := match v with | .str x _ => f x | _ => false
noncomputable def onIntV (v : Value) (f : Int → Bool) : Bool := match v with | .int x _ => f x | _ => false
noncomputable def onSeqD (d : Data) (f : List Value → Bool) : Bool := match d with | .seq xs _ => f xs.toList | _ => false
noncomputable def onDicD (d : Data) (f : List DictEntry → Bool) : Bool := match d with | .dict es _ => f es.toList | _ => false
theorem onRef_inv {v : Value} {f : Addr → Bool} {P : Value → Prop} (h : onRef v f = true) (k : ∀ a, f a = true → P (.ref a)) : P v := by
  cases v <;> first | exact k _ h | exact (Bool.false_ne_true h).elim
theorem onStrV_inv {v : Value} {f : Str → Bool} {P : Value → Prop} (h : onStrV v f = true) (k : ∀ x t, f x = true → P (.str x t)) : P v := by
  cases v <;> first | exact k _ _ h | exact (Bool.false_ne_true h).elim
theorem onIntV_inv {v : Value} {f : Int → Bool} {P : Value → Prop} (h : onIntV v f = true) (k : ∀ x t, f x = true → P (.int x t)) : P v := by
  cases v <;> first | exact k _ _ h | exact (Bool.false_ne_true h).elim
theorem onSeqD_inv {v : Data} {f : List Value → Bool} {P : Data → Prop} (h : onSeqD v f = true) (k : ∀ x t, f x = true → P (.seq x.toArray t)) : P v := by
  cases v <;> first | exact k _ _ h | exact (Bool.false_ne_true h).elim
theorem onDicD_inv {v : Data} {f : List DictEntry → Bool} {P : Data → Prop} (h : onDicD v f = true) (k : ∀ x t, f x = true → P (.dict x.toArray t)) : P v := by
  cases v <;> first | exact k _ _ h | exact (Bool.false_ne_true h).elim
noncomputable def repItems (f : V → Value → Bool) : List V → List Value → Bool
  | [], vs => vs.isEmpty
  | d :: ds, vs => onC vs fun v vs => f d v && repItems f ds vs
noncomputable def repEnts (f : V → Value → Bool) : List (List Nat × V) → List DictEntry → Bool
  | [], vs => vs.isEmpty
  | p :: ds, vs => onC vs fun v vs => onStrV v.key (fun x => x == ⟨p.1.toArray⟩) && (f p.2 v.val && repEnts f ds vs)
noncomputable def repK (K : Frag) (dk : List Addr) : Nat → V → Value → Bool
  | 0, _, _ => false
  | n + 1, d, v => match d with
    | .none => decide (v = .none)
    | .bool b => decide (v = .bool b)
    | .int i => onIntV v fun j => i == j
    | .str s => onStrV v fun x => x == ⟨s.toArray⟩
    | .tup ds => onRef v fun a => onO (K.lookup a) fun o => decide (o.cls = .type "tuple") && onSeqD o.data (repItems (repK K dk n) ds)
    | .dct es => onRef v fun a => onO (K.lookup a) fun o => decide (o.cls = .type "dict") && (o.dict.isNone && (o.slots.toList.isEmpty && onDicD o.data fun ents => !(a == sysModules) && (dk.contains a && repEnts (repK K dk n) es ents)))
    | .obj _ => false
    | .clist _ => false

noncomputable def Mx.isLoc (M : Mx) (i : Nat) (id : Str) : Bool := M.names[i]? == some id && M.sc.names.lookup id == some .local && !(id == ("__debug__" : Str))
noncomputable def Mx.isGlb (M : Mx) (id : Str) : Bool := M.sc.names.lookup id == some .globalImplicit && !(id == ("__debug__" : Str))
noncomputable def Mx.at (M : Mx) (k : Nat) (id : Str) : Option Value := match M.GT[k]? with
  | some (x, v) => if x == id && M.isGlb id then some v else none
  | none => none

structure M2 where
  e : Expr → Bool
  l : List Expr → Bool
  o : Option Expr → Bool

noncomputable def onlyE (f : Expr → Bool) : M2 := ⟨f, fun _ => false, fun o => match o with | some e => f e | none => false⟩

noncomputable def clsOk (K : Frag) (C : Addr) : Bool := plainGet K C "x" && hasDictIn K C
noncomputable def attrOk (K : Frag) (C : Addr) (n : Str) : Bool := findIn K (.ref C) n == some none
noncomputable def methOk (K : Frag) (C f : Addr) (n : Str) : Bool := findIn K (.ref C) n == some (some (.ref f)) && isFn K (.ref f)
noncomputable def newOk (K : Frag) (C f : Addr) : Bool := makesIn K C && findIn K (.ref C) "__init__" == some (some (.ref f)) && isFn K (.ref f)
noncomputable def setOk (K : Frag) (C : Addr) (n : Str) : Bool := findIn K (.ref C) "__setattr__" == some (some (.builtin "object.__setattr__")) && plainOver K C && takerIn K C n == some none

noncomputable def dispKeys : List (Int × List Nat) → List (Option PySem.Expr) → List PySem.Expr → Bool
  | [], ks, vs => ks.isEmpty && vs.isEmpty
  | p :: r, ks, vs => onC ks fun k ks => onC vs fun v vs => (onO k fun k => onConstant k fun c _ _ => cInt c p.1) && (onConstant v fun c _ _ => cStr c p.2) && dispKeys r ks vs

noncomputable def mt (M : Mx) : X → M2
  | .loc i => onlyE fun e => onName e fun id _ => M.isLoc i id
  | .glb k d => onlyE fun e => onName e fun id _ => onO (M.at k id) fun v => repK M.K M.dk 6 d v
  | .int i => onlyE fun e => isInt e i
  | .str l => onlyE fun e => onConstant e fun k _ _ => cStr k l
  | .none => onlyE fun e => onConstant e fun k _ _ => cNone k
  | .bool b => onlyE fun e => onConstant e fun k _ _ => cBool k b
  | .bin op a b => onlyE fun e => onBinOp e fun l op' r _ => op == op' && ((mt M a).e l && (mt M b).e r)
  | .cmp op a b => onlyE fun e => onCompare e fun l ops rs _ => on1 ops fun op' => on1 rs fun r => op == op' && ((mt M a).e l && ((mt M b).e r && !isSet r))
  | .cmp2 o1 o2 a b c => onlyE fun e => onCompare e fun l ops rs _ => onC ops fun p1 ops => on1 ops fun p2 => onC rs fun m rs => on1 rs fun r => o1 == p1 && (o2 == p2 && ((mt M a).e l && ((mt M b).e m && ((mt M c).e r && (!isSet m && !isSet r)))))
  | .and a b => onlyE fun e => onBoolOp e fun op vs pos => isBop .And op && onC vs fun x vs => onC vs fun y r => (mt M a).e x && (mt M b).e (restOf .And y r pos)
  | .or a b => onlyE fun e => onBoolOp e fun op vs pos => isBop .Or op && onC vs fun x vs => onC vs fun y r => (mt M a).e x && (mt M b).e (restOf .Or y r pos)
  | .not a => onlyE fun e => onUnaryOp e fun op x _ => isNot op && (mt M a).e x
  | .ife c a b => onlyE fun e => onIfExp e fun t x y _ => (mt M c).e t && ((mt M a).e x && (mt M b).e y)
  | .idx o i => onlyE fun e => onSubscript e fun v s _ => (mt M o).e v && ((mt M i).e s && !isSlice s)
  | .sl o lo hi => onlyE fun e => onSubscript e fun v s _ => onSlice s fun l h st _ => st.isNone && ((mt M o).e v && ((mt M lo).o l && (mt M hi).o h))
  | .slc o k => onlyE fun e => onSubscript e fun v s _ => onSlice s fun l h st _ => l.isNone && (st.isNone && ((mt M o).e v && onO h fun h => isInt h (k : Int)))
  | .noX => ⟨fun _ => false, fun _ => false, fun o => o.isNone⟩
  | .tup xs => onlyE fun e => onTuple e fun es _ _ => (mt M xs).l es
  | .lst xs => onlyE fun e => onList e fun es _ => (mt M xs).l es
  | .nil => ⟨fun _ => false, fun es => es.isEmpty, fun _ => false⟩
  | .cons a xs => ⟨fun _ => false, fun es => onC es fun e r => (mt M a).e e && (mt M xs).l r, fun _ => false⟩
  | .call k f xs => onlyE fun e => onCall e fun g es kw _ => kw.isEmpty && onName g fun id _ => M.at k id == some (.ref f) && (keepIn M.K (.ref f) && (mt M xs).l es)
  | .new k C f xs => onlyE fun e => onCall e fun g es kw _ => kw.isEmpty && onName g fun id _ => M.at k id == some (.ref C) && (newOk M.K C f && (keepIn M.K (.ref C) && (mt M xs).l es))
  | .bi b xs => onlyE fun e => onCall e fun g es kw _ => kw.isEmpty && onName g fun id _ => M.isGlb id && (id == b.id && (nsIn M.K mainGlobals id == some none && (mt M xs).l es))
  | .mth m o xs => onlyE fun e => onCall e fun g es kw ps => kw.isEmpty && onAttribute g fun v n ap => n == m.id && (ap.endLine == ps.line && (decide (es.length < 29) && (!isCall v && ((mt M o).e v && (mt M xs).l es))))
  | .ucall C f n o xs => onlyE fun e => onCall e fun g es kw ps => kw.isEmpty && onAttribute g fun v n' ap => n == n' && (ap.endLine == ps.line && (decide (es.length < 29) && (!isCall v && (clsOk M.K C && (methOk M.K C f n && (keepIn M.K (.ref f) && ((mt M o).e v && (mt M xs).l es)))))))
  | .attr C n o => onlyE fun e => onAttribute e fun v n' _ => n == n' && (!isCall v && (clsOk M.K C && (attrOk M.K C n && (mt M o).e v)))
  | .comp t it => onlyE fun e => onListComp e fun el gs sc _ => on1 gs fun g => onName g.target fun x _ => g.ifs.isEmpty && (g.is_async == 0 && ((mt M it).e g.iter && ((mt { M with sc := sc, names := [x] } t).e el && (sc.kind == .function && !sc.isGenerator && !sc.isCoroutine && (sc.names.all fun p => (p.2 == .local && sc.names.lookup p.1 == some .local) || p.2 == .globalImplicit) && sc.names.lookup x == some .local && !(x == ("__debug__" : Str))))))
  | .ddisp es i => onlyE fun e => onSubscript e fun d s _ => onDict d fun ks vs _ => dispKeys es ks vs && ((mt M i).e s && (!isSlice s && (decide ((es.map (·.1)).Nodup) && (decide (es.length ≤ 15) && !es.isEmpty))))

noncomputable def onXInt (e : X) (f : Int → Bool) : Bool := match e with | .int i => f i | _ => false
theorem onXInt_inv {e : X} {f : Int → Bool} {P : X → Prop} (h : onXInt e f = true) (k : ∀ i, f i = true → P (.int i)) : P e := by
  cases e <;> first | exact k _ h | exact (Bool.false_ne_true h).elim
noncomputable def rngArgs (z : Bool) (lo hi : PySem.Expr → Bool) (as : List PySem.Expr) : Bool := onC as fun a r => match r with
  | [] => z && hi a
  | b :: r => r.isEmpty && (lo a && hi b)
theorem rngArgs_inv {z : Bool} {lo hi : PySem.Expr → Bool} {as : List PySem.Expr} (h : rngArgs z lo hi as = true) : (∃ a, as = [a] ∧ z = true ∧ hi a = true) ∨ ∃ a b, as = [a, b] ∧ lo a = true ∧ hi b = true := by
  refine onC_inv (P := fun as => (∃ a, as = [a] ∧ z = true ∧ hi a = true) ∨ ∃ a b, as = [a, b] ∧ lo a = true ∧ hi b = true) h fun a r h => ?_
  cases r with
  | nil => exact .inl ⟨a, rfl, and2 h⟩
  | cons b r =>
    cases r with
    | nil => exact .inr ⟨a, b, rfl, and2 (and2 h).2⟩
    | cons _ _ => cases (and2 h).1
noncomputable def tgtNames (M : Mx) : List Nat → List PySem.Expr → Bool
  | [], ts => ts.isEmpty
  | i :: is, ts => onC ts fun t ts => (onName t fun id _ => M.isLoc i id) && tgtNames M is ts

structure M3 where
  s : Stmt → Bool
  l : List Stmt → Bool

noncomputable def onlyS (f : Stmt → Bool) : M3 := ⟨f, fun _ => false⟩
noncomputable def plainVal (e : PySem.Expr) : Bool := !(e.ctorIdx == 8 || e.ctorIdx == 9 || e.ctorIdx == 10 || e.ctorIdx == 7)
noncomputable def mS (M : Mx) : S → M3
  | .skip => ⟨fun _ => false, fun l => l.isEmpty⟩
  | .seq a b => ⟨fun _ => false, fun l => onC l fun st r => (mS M a).s st && (mS M b).l r⟩
  | .asg i e => onlyS fun st => onSAssign st fun ts v _ => on1 ts fun t => onName t fun id _ => M.isLoc i id && ((mt M e).e v && plainVal v)
  | .asgC i t it => onlyS fun st => onSAssign st fun ts v pos => on1 ts fun tg => onName tg fun id p => M.isLoc i id && ((mt M (.comp t it)).e v && (p.line == v.pos.line && onListComp v fun _ _ sc _ => !(sc.names.any fun q => q.1 == id && (q.2 == .local || q.2 == .cell))))
  | .asgT is e => onlyS fun st => onSAssign st fun ts v _ => on1 ts fun t => onTuple t fun ts _ _ => tgtNames M is ts && ((mt M e).e v && (plainVal v && !(v.ctorIdx == 25)))
  | .asgA C n o e => onlyS fun st => onSAssign st fun ts v _ => on1 ts fun t => onAttribute t fun o' n' _ => n == n' && (clsOk M.K C && (attrOk M.K C n && (setOk M.K C n && ((mt M o).e o' && ((mt M e).e v && plainVal v)))))
  | .aug i op e => onlyS fun st => onSAugAssign st fun t op' v _ => onName t fun id _ => M.isLoc i id && (op == op' && (mt M e).e v)
  | .augI o i op e => onlyS fun st => onSAugAssign st fun t op' v _ => onSubscript t fun o' i' _ => (mt M o).e o' && ((mt M i).e i' && (op == op' && ((mt M e).e v && !isSlice i')))
  | .ifs t a b => onlyS fun st => onSIf st fun t' x y _ => (mt M t).e t' && ((mS M a).l x && (mS M b).l y)
  | .whl t b => onlyS fun st => onSWhile st fun t' x y _ => y.isEmpty && ((mt M t).e t' && (mS M b).l x)
  | .forR i lo hi b => onlyS fun st => onSFor st fun t it x y _ => y.isEmpty && onName t fun id _ => onCall it fun g as kw _ => kw.isEmpty && onName g fun f _ => M.isLoc i id && (M.isGlb f && (f == ("range" : Str) && (nsIn M.K mainGlobals f == some none && ((mS M b).l x && rngArgs (onXInt lo fun i => i == 0) (mt M lo).e (mt M hi).e as))))
  | .forE i e b => onlyS fun st => onSFor st fun t v x y _ => y.isEmpty && onName t fun id _ => M.isLoc i id && ((mt M e).e v && ((mS M b).l x && plainVal v))
  | .ret e => onlyS fun st => onSReturn st fun o _ => onO o fun v => (mt M e).e v
  | .expr e => onlyS fun st => onSExpr st fun v _ => (mt M e).e v && isCall v
  | .brk => onlyS fun st => onSBreak st fun _ => true
  | .rais => onlyS fun st => onSRaise st fun _ _ _ => true
end
section
inductive Po (c : Cx) (ρ : Pm) (h : Heap) (Q : V → Store → Prop) (v : Value) (s' : Shared) : Prop
  | mk (ρ' : Pm) (σ' : Store) (d : V) (S : Sat c ρ' σ' s') (P : Stp ρ [] h ρ' s'.heap) (R : c.Rep s'.heap ρ' d v) (q : Q d σ') : Po c ρ h Q v s'
inductive Pb (c : Cx) (ρ : Pm) (h : Heap) (Q : Bool → Store → Prop) (b : Bool) (s' : Shared) : Prop
  | mk (ρ' : Pm) (σ' : Store) (S : Sat c ρ' σ' s') (P : Stp ρ [] h ρ' s'.heap) (q : Q b σ') : Pb c ρ h Q b s'
noncomputable abbrev No : Value → Shared → Prop := fun _ _ => False

structure Ar (n : Nat) (A : Around) : Prop where
  handled : A.handled = none
  depth : A.depth + 4 * n ≤ 900
  units : A.units + 40 * n ≤ 9000

/-- inside a body -/
structure Br (n : Nat) (A : Around) : Prop where
  handled : A.handled = none
  depth : A.depth + 4 * n + 3 ≤ 900
  units : A.units + 40 * n + 30 ≤ 9000
theorem Br.ar {n : Nat} {A : Around} (h : Br n A) : Ar n A := ⟨h.handled, by have := h.depth; lia, by have := h.units; lia⟩
theorem Ar.deeper {n : Nat} {A : Around} (h : Ar (n + 1) A) (e : Env) : Br n (A.deeper e) :=
  ⟨h.handled, by have := h.depth; show A.depth + 1 + _ + _ ≤ _; lia, by have := h.units; show A.units + 3 + _ + _ ≤ _; lia⟩

section
variable {c : Cx} {ρ : Pm} {σ : Store} {s : Shared} {A : Around} {n : Nat}

theorem Po.use {M : Model} {t : Sem Value} {h : Heap} {Q : V → Store → Prop} {Q' : Value → Shared → Prop} {E : Value → Shared → Prop} (x : wpAny M A t (Po c ρ h Q) No s)
    (k : ∀ v s₁ ρ₁ σ₁ d, Sat c ρ₁ σ₁ s₁ → Stp ρ [] h ρ₁ s₁.heap → c.Rep s₁.heap ρ₁ d v → Q d σ₁ → Q' v s₁) : wpAny M A t Q' E s := wpAny_mono x (fun _ _ ⟨_, _, _, S, P, R, q⟩ => k _ _ _ _ _ S P R q) fun _ _ z => z.elim
theorem Pb.use {M : Model} {t : Sem Bool} {h : Heap} {Q : Bool → Store → Prop} {Q' : Bool → Shared → Prop} {E : Value → Shared → Prop} (x : wpAny M A t (Pb c ρ h Q) No s)
    (k : ∀ v s₁ ρ₁ σ₁, Sat c ρ₁ σ₁ s₁ → Stp ρ [] h ρ₁ s₁.heap → Q v σ₁ → Q' v s₁) : wpAny M A t Q' E s := wpAny_mono x (fun _ _ ⟨_, _, S, P, q⟩ => k _ _ _ _ S P q) fun _ _ z => z.elim

theorem Po.val {Q : V → Store → Prop} {d : V} {v : Value} (S : Sat c ρ σ s) (r : c.Rep s.heap ρ d v) (q : Q d σ) : Po c ρ s.heap Q v s := ⟨ρ, σ, d, S, Stp.refl _ _ _, r, q⟩
theorem Po.tk {Q : V → Store → Prop} {d : V} {v : Value} {t : Nat} (S : Sat c ρ σ s) (r : c.Rep s.heap ρ d v) (q : Q d σ) : Po c ρ s.heap Q v { s with toks := t } := ⟨ρ, σ, d, S.toks, Stp.refl _ _ _, r, q⟩
theorem Po.after {ρ₁ : Pm} {h h₁ : Heap} {Q : V → Store → Prop} {v : Value} (p : Stp ρ [] h ρ₁ h₁) (x : Po c ρ₁ h₁ Q v s) : Po c ρ h Q v s :=
  let ⟨ρ', σ', d, S, q, r, z⟩ := x
  ⟨ρ', σ', d, S, p.trans q, r, z⟩

theorem Reps.length {h : Heap} {ds : List V} {vs : List Value} (r : c.Reps h ρ ds vs) : vs.length = ds.length := r.ind (M := fun ds vs => vs.length = ds.length) rfl fun _ _ i => congrArg (· + 1) i
theorem Reps.get {h : Heap} {ds : List V} {vs : List Value} {j : Nat} (r : c.Reps h ρ ds vs) : j < ds.length → ∃ v, vs[j]? = some v ∧ c.Rep h ρ (ds.getD j .none) v :=
  r.ind (M := fun ds vs => ∀ j, j < ds.length → ∃ v, vs[j]? = some v ∧ c.Rep h ρ (ds.getD j .none) v) (fun _ hj => absurd hj (Nat.not_lt_zero _)) (fun a _ i j => match j with
    | 0 => fun _ => ⟨_, rfl, a⟩
    | j + 1 => fun hj => i j (Nat.lt_of_succ_lt_succ hj)) j
theorem Reps.append {h : Heap} {ds : List V} {vs : List Value} {ds' : List V} {vs' : List Value} (r : c.Reps h ρ ds vs) (y : c.Reps h ρ ds' vs') : c.Reps h ρ (ds ++ ds') (vs ++ vs') := r.ind (M := fun ds vs => c.Reps h ρ (ds ++ ds') (vs ++ vs')) y fun a _ i => .cons a i
theorem Reps.take {h : Heap} {ds : List V} {vs : List Value} (k : Nat) (r : c.Reps h ρ ds vs) : c.Reps h ρ (ds.take k) (vs.take k) :=
  r.ind (M := fun ds vs => ∀ k, c.Reps h ρ (ds.take k) (vs.take k)) (fun k => match k with
    | 0 => .nil
    | k + 1 => .nil) (fun a _ i k => match k with
    | 0 => .nil
    | k + 1 => .cons a (i k)) k
theorem Reps.replicate {h : Heap} {d : V} {v : Value} (a : c.Rep h ρ d v) : ∀ k, c.Reps h ρ (List.replicate k d) (List.replicate k v)
  | 0 => .nil
  | k + 1 => .cons a (Reps.replicate a k)
@[elab_as_elim] theorem onAny_use {h : Heap} {v : V} {x : Value} {R : Value → Prop} {I : Int → Prop} {T : List Nat → Prop} {B : Bool → Prop} {U : List V → Prop} {O : Nat → Prop} {D : List (List Nat × V) → Prop} (r : c.Rep h ρ v x) (z : onAny v I T B U O D)
    (ki : ∀ i t, I i → R (.int i t)) (ks : ∀ s t, T s → R (.str ⟨s.toArray⟩ t)) (kb : ∀ b, B b → R (.bool b)) (ku : ∀ ds a vs, IsTup h a vs.toArray → c.Reps h ρ ds vs → U ds → R (.ref a)) (ko : ∀ n x, c.Rep h ρ (.obj n) x → O n → R x) (kd : ∀ es x, c.Rep h ρ (.dct es) x → D es → R x) : R x := by
  cases r with
  | none => exact z.elim
  | bool b => exact kb _ z
  | int i t => exact ki _ _ z
  | str s t => exact ks _ _ z
  | tup a b => exact ku _ _ _ a b z
  | obj e => exact ko _ _ (.obj e) z
  | clist a b => exact z.elim
  | dct a b c d => exact kd _ _ (.dct a b c d) z
@[elab_as_elim] theorem onInt_use {h : Heap} {v : V} {x : Value} {R : Value → Prop} {P : Int → Prop} (r : c.Rep h ρ v x) (z : onInt v P) (k : ∀ i t, P i → R (.int i t)) : R x :=
  onAny_use r z k (fun _ _ z => z.elim) (fun _ z => z.elim) (fun _ _ _ _ _ z => z.elim) (fun _ _ _ z => z.elim) (fun _ _ _ z => z.elim)
@[elab_as_elim] theorem onStr_use {h : Heap} {v : V} {x : Value} {R : Value → Prop} {P : List Nat → Prop} (r : c.Rep h ρ v x) (z : onStr v P) (k : ∀ s t, P s → R (.str ⟨s.toArray⟩ t)) : R x :=
  onAny_use r z (fun _ _ z => z.elim) k (fun _ z => z.elim) (fun _ _ _ _ _ z => z.elim) (fun _ _ _ z => z.elim) (fun _ _ _ z => z.elim)
@[elab_as_elim] theorem onObj_use {h : Heap} {v : V} {x : Value} {R : Value → Prop} {P : Nat → Prop} (r : c.Rep h ρ v x) (z : onObj v P) (k : ∀ n x, c.Rep h ρ (.obj n) x → P n → R x) : R x :=
  onAny_use r z (fun _ _ z => z.elim) (fun _ _ z => z.elim) (fun _ z => z.elim) (fun _ _ _ _ _ z => z.elim) k (fun _ _ _ z => z.elim)
@[elab_as_elim] theorem useIS {h : Heap} {v : V} {x : Value} {R : Value → Prop} {I : Int → Prop} {T : List Nat → Prop} (r : c.Rep h ρ v x) (z : onAny v I T no1 no1 no1 no1) (ki : ∀ i t, I i → R (.int i t)) (ks : ∀ s t, T s → R (.str ⟨s.toArray⟩ t)) : R x :=
  onAny_use r z ki ks (fun _ z => z.elim) (fun _ _ _ _ _ z => z.elim) (fun _ _ _ z => z.elim) (fun _ _ _ z => z.elim)
theorem onObj_eq {v : V} {P : Nat → Prop} (h : onObj v P) : ∃ i, v = .obj i ∧ P i := by
  cases v <;> first | exact False.elim h | exact ⟨_, rfl, h⟩
theorem onLst_use {o : Option Cell} {P : List V → Prop} {C : Prop} (h : onLst o P) (k : ∀ ds, o = some (.list ds) → P ds → C) : C := by
  cases o with
  | none => exact h.elim
  | some cl =>
    cases cl with
    | list ds => exact k ds rfl h
    | inst _ _ => exact h.elim
theorem onIns_use {o : Option Cell} {P : Addr → List (Str × V) → Prop} {Z : Prop} (h : onIns o P) (k : ∀ C fs, o = some (.inst C fs) → P C fs → Z) : Z := by
  cases o with
  | none => exact h.elim
  | some cl =>
    cases cl with
    | list ds => exact h.elim
    | inst C fs => exact k C fs rfl h
theorem onSome_use {α : Type} {o : Option α} {P : α → Prop} {C : Prop} (h : onSome o P) (k : ∀ a, o = some a → P a → C) : C := by
  cases o with
  | none => exact h.elim
  | some a => exact k a rfl h
theorem onB_use {b : Bool} {P C : Prop} (h : onB b P) (k : b = true → P → C) : C := by
  cases b with
  | false => exact h.elim
  | true => exact k rfl h
theorem onOne_eq {α : Type} {l : List α} {P : α → Prop} {C : Prop} (h : onOne l P) (k : ∀ a, l = [a] → P a → C) : C := by
  cases l with
  | nil => exact h.elim
  | cons a r =>
    cases r with
    | nil => exact k a rfl h
    | cons _ _ => exact h.elim
@[elab_as_elim] theorem onOne_use {h : Heap} {ds : List V} {vs : List Value} {P : V → Prop} {G : List Value → Prop} (R : c.Reps h ρ ds vs) (z : onOne ds P) (k : ∀ a x, c.Rep h ρ a x → P a → G [x]) : G vs :=
  onOne_eq z fun a e z => by
    subst e
    cases R with | cons r1 r2 => cases r2; exact k _ _ r1 z
@[elab_as_elim] theorem onTwo_use {h : Heap} {ds : List V} {vs : List Value} {P : V → V → Prop} {G : List Value → Prop} (R : c.Reps h ρ ds vs) (z : onTwo ds P) (k : ∀ a b x y, c.Rep h ρ a x → c.Rep h ρ b y → P a b → G [x, y]) : G vs := by
  cases R with
  | nil => exact z.elim
  | cons r1 r2 => exact onOne_use (G := fun vs => G (_ :: vs)) r2 z fun b y r z => k _ _ _ _ r1 r z
theorem optCons {α : Type} {x : Option α} {y : Option (List α)} {l : List α} {G : List α → Prop} (h : (x.bind fun a => y.map (a :: ·)) = some l) (k : ∀ a r, x = some a → y = some r → G (a :: r)) : G l := by
  cases x with
  | none => cases h
  | some a =>
    cases y with
    | none => cases h
    | some r => cases h; exact k a r rfl rfl
theorem Reps.ints {h : Heap} {ds : List V} {vs : List Value} {l : List Int} (r : c.Reps h ρ ds vs) : intsOf ds = some l → IntsAre vs l :=
  r.ind (M := fun ds vs => ∀ l, intsOf ds = some l → IntsAre vs l) (fun _ e => Option.some.inj e ▸ .nil) (fun a _ ih l e => optCons (G := fun l => IntsAre _ l) e fun i r e1 e => Rep.int_ (G := fun v => IntsAre (v :: _) _) (asInt_eq e1 ▸ a) fun t => .cons _ _ (ih _ e)) l
theorem Reps.strs {h : Heap} {ds : List V} {vs : List Value} {l : List (List Nat)} (r : c.Reps h ρ ds vs) : strsOf ds = some l → StrsAre vs (l.map fun x => ⟨x.toArray⟩) :=
  r.ind (M := fun ds vs => ∀ l, strsOf ds = some l → StrsAre vs (l.map fun x => ⟨x.toArray⟩)) (fun _ e => Option.some.inj e ▸ .nil) (fun a _ ih l e => optCons (G := fun l => StrsAre _ (l.map fun x => ⟨x.toArray⟩)) e fun i r e1 e => Rep.str_ (G := fun v => StrsAre (v :: _) _) (asStr_eq e1 ▸ a) fun t => .cons _ _ (ih _ e)) l

theorem Sat.cell {i : Nat} {cl : Cell} (S : Sat c ρ σ s) (h : σ[i]? = some cl) : ∃ r, ρ[i]? = some r ∧ CellAt c s.heap ρ r cl := by
  have hi : i < ρ.length := by rw [S.len]; exact (List.getElem?_eq_some_iff.mp h).1
  exact ⟨ρ[i], List.getElem?_eq_getElem hi, S.cells _ _ _ h (List.getElem?_eq_getElem hi)⟩
theorem Sat.list {i : Nat} {ds : List V} {v : Value} (S : Sat c ρ σ s) (h : σ[i]? = some (.list ds)) (r : c.Rep s.heap ρ (.obj i) v) :
    ∃ a vs n, v = .ref a ∧ ρ[i]? = some (a, a) ∧ s.heap.get? a = some { cls := .type "list", dict := none, data := .seq (List.toArray vs) n, slots := #[] } ∧ c.Reps s.heap ρ ds vs ∧ ds.length ≤ 1000000 := by
  obtain ⟨q, hq, vs, n, e, g, rr, hl⟩ := S.cell h
  cases r with
  | obj e' =>
    rw [hq] at e'
    cases e'
    obtain ⟨q1, q2⟩ := q
    dsimp only at e g
    subst e
    exact ⟨q1, vs, n, rfl, hq, g, rr, hl⟩
@[elab_as_elim] theorem Sat.list_ {i : Nat} {ds : List V} {v : Value} {G : Value → Prop} (S : Sat c ρ σ s) (h : σ[i]? = some (.list ds)) (r : c.Rep s.heap ρ (.obj i) v)
    (k : ∀ a vs n, ρ[i]? = some (a, a) → s.heap.get? a = some { cls := .type "list", dict := none, data := .seq (List.toArray vs) n, slots := #[] } → c.Reps s.heap ρ ds vs → ds.length ≤ 1000000 → G (.ref a)) : G v := by
  obtain ⟨a, vs, n, rfl, hq, g, rr, hl⟩ := S.list h r
  exact k a vs n hq g rr hl
@[elab_as_elim] theorem Sat.inst_ {i : Nat} {C : Addr} {fs : List (Str × V)} {v : Value} {G : Value → Prop} (S : Sat c ρ σ s) (h : σ[i]? = some (.inst C fs)) (r : c.Rep s.heap ρ (.obj i) v)
    (k : ∀ r es n, ρ[i]? = some r → s.heap.get? r.1 = some (instObj C r.2) → s.heap.get? r.2 = some (dictOf es n) → Ents c s.heap ρ fs es → fs.length ≤ 100 → G (.ref r.1)) : G v :=
  r.obj_ fun q hq => (S.cell h).elim fun q' z => by
    have e := Option.some.inj (hq.symm.trans z.1)
    rw [← e] at z
    exact z.2.2.elim fun es z' => z'.elim fun n z' => k q es n hq z.2.1 z'.1 z'.2.1 z'.2.2
/-- an object of a class -/
theorem onInsC_use {o : Option Cell} {C : Addr} {P : List (Str × V) → Prop} {Z : Prop} (h : onIns o fun C' fs => C' = C ∧ P fs) (k : ∀ fs, o = some (.inst C fs) → P fs → Z) : Z :=
  onIns_use h fun _ fs e h => k fs (h.1 ▸ e) h.2
theorem Sat.live {r : Addr × Addr} (S : Sat c ρ σ s) (h : r ∈ ρ) : ∃ o, s.heap.get? r.2 = some o := by
  obtain ⟨i, hi, e⟩ := List.getElem_of_mem h
  have hi' : i < σ.length := by rw [← S.len]; exact hi
  have := S.cells i σ[i] r (List.getElem?_eq_getElem hi') (by rw [← e]; exact List.getElem?_eq_getElem hi)
  cases hc : σ[i] with
  | list ds => rw [hc] at this; obtain ⟨vs, n, e, g, _⟩ := this; exact ⟨_, e ▸ g⟩
  | inst C fs => rw [hc] at this; obtain ⟨_, es, n, g, _⟩ := this; exact ⟨_, g⟩
theorem Sat.base_none {a : Addr} (S : Sat c ρ σ s) (h : s.heap.get? a = none) : c.hb.get? a = none := by
  cases e : c.hb.get? a with
  | none => rfl
  | some o => rw [S.base _ _ e] at h; cases h
theorem Sat.nin {a : Addr} (S : Sat c ρ σ s) (h : s.heap.get? a = none) : a ∉ ρ.map (·.2) := fun q => by
  obtain ⟨r, hr, rfl⟩ := List.mem_map.mp q
  obtain ⟨o, e⟩ := S.live hr
  rw [e] at h; cases h
theorem Sat.notImm {i : Nat} {r : Addr × Addr} {o : Obj} (S : Sat c ρ σ s) (h : ρ[i]? = some r) (g : s.heap.get? r.2 = some o) : ¬ Imm o := by
  have hi : i < σ.length := by rw [← S.len]; exact (List.getElem?_eq_some_iff.mp h).1
  have := S.cells i σ[i] r (List.getElem?_eq_getElem hi) h
  cases hc : σ[i] with
  | list ds =>
    rw [hc] at this; obtain ⟨vs, n, e, g', _⟩ := this
    rw [← e, g'] at g; cases g
    rintro (⟨q, _⟩ | q)
    · exact absurd (show Value.type _ = Value.type "tuple" from q) (by decide)
    · cases q
  | inst C fs =>
    rw [hc] at this; obtain ⟨_, es, n, g', _⟩ := this
    rw [g'] at g; cases g
    rintro (⟨q, _⟩ | q)
    · exact absurd (show Value.type _ = Value.type "tuple" from q) (by decide)
    · cases q

/-- a new cell whose changing object is the heap's last -/
theorem Sat.grow {s' : Shared} {a b : Addr} {cl : Cell} (S : Sat c ρ σ s) (k : ∀ b o, s.heap.get? b = some o → s'.heap.get? b = some o) (hb : s.heap.get? b = none)
    (hc : CellAt c s'.heap (ρ ++ [(a, b)]) (a, b) cl) (hg : s'.gens = s.gens) (ho : s'.os = s.os) :
    Sat c (ρ ++ [(a, b)]) (σ ++ [cl]) s' ∧ Stp ρ [] s.heap (ρ ++ [(a, b)]) s'.heap := by
  have hp : ∃ δ, ρ ++ [(a, b)] = ρ ++ δ := ⟨_, rfl⟩
  refine ⟨⟨fun b o e => k _ _ (S.base b o e), by simp [S.len], fun i cl' r hi hr => ?_, ?_, fun r hr => ?_, hg.trans S.gens, ho.trans S.os⟩, ⟨_, rfl, fun r hr o e => ?_⟩, fun b o e _ _ => k _ _ e, fun b o e _ => k _ _ e⟩
  · by_cases hlt : i < σ.length
    · rw [List.getElem?_append_left hlt] at hi
      rw [List.getElem?_append_left (by rw [S.len]; exact hlt)] at hr
      have := S.cells i cl' r hi hr
      cases cl' with
      | list ds => obtain ⟨vs, n, a, b, q, z⟩ := this; exact ⟨vs, n, a, k _ _ b, q.mono (fun b o e _ => k b o e) hp, z⟩
      | inst C fs => obtain ⟨a, es, n, b, q, z⟩ := this; exact ⟨k _ _ a, es, n, k _ _ b, q.mono (fun b o e _ => k b o e) hp, z⟩
    · have hi2 : i = σ.length := by
        have := (List.getElem?_eq_some_iff.mp hi).1
        simp only [List.length_append, List.length_cons, List.length_nil] at this
        lia
      subst hi2
      rw [List.getElem?_append_right (Nat.le_refl _)] at hi
      rw [List.getElem?_append_right (by rw [S.len]; exact Nat.le_refl _)] at hr
      simp only [Nat.sub_self, List.getElem?_cons_zero, Option.some.injEq] at hi
      rw [S.len] at hr
      simp only [Nat.sub_self, List.getElem?_cons_zero, Option.some.injEq] at hr
      subst hi; subst hr
      exact hc
  · rw [List.map_append, List.nodup_append]
    refine ⟨S.nodup, by simp, fun x hx y hy => ?_⟩
    obtain ⟨r, hr, rfl⟩ := List.mem_map.mp hx
    simp only [List.map_cons, List.map_nil, List.mem_singleton] at hy
    subst hy
    exact fun q => S.nin hb (q ▸ hx)
  · rcases List.mem_append.mp hr with q | q
    · exact S.fresh r q
    · simp only [List.mem_singleton] at q
      subst q
      exact S.base_none hb
  · simp only [List.mem_singleton] at hr
    subst hr
    rw [hb] at e; cases e

/-- a changed cell -/
theorem Sat.upd {s' : Shared} {i : Nat} {r : Addr × Addr} {cl : Cell} (S : Sat c ρ σ s) (hr : ρ[i]? = some r) (k : ∀ b, b ≠ r.2 → s'.heap.get? b = s.heap.get? b)
    (hc : CellAt c s'.heap ρ r cl) (hg : s'.gens = s.gens) (ho : s'.os = s.os) :
    Sat c ρ (σ.set i cl) s' ∧ Stp ρ [] s.heap ρ s'.heap := by
  have hi : i < σ.length := by rw [← S.len]; exact (List.getElem?_eq_some_iff.mp hr).1
  have im : ∀ b o, s.heap.get? b = some o → Imm o → s'.heap.get? b = some o := fun b o e z => by
    by_cases q : b = r.2
    · subst q; exact absurd z (S.notImm hr e)
    · rw [k b q]; exact e
  have hp : ∃ δ, ρ = ρ ++ δ := ⟨[], by simp⟩
  have hm : r ∈ ρ := List.mem_of_getElem? hr
  refine ⟨⟨fun b o e => ?_, by simp [S.len], fun j cl' q hj hq => ?_, S.nodup, S.fresh, hg.trans S.gens, ho.trans S.os⟩, ⟨[], by simp, fun _ h => nomatch h⟩, fun b o e n _ => ?_, im⟩
  · rw [k b (fun q => by subst q; rw [S.fresh r hm] at e; cases e)]; exact S.base b o e
  · by_cases hji : j = i
    · subst hji
      rw [List.getElem?_set_self hi] at hj
      cases hj
      rw [hr] at hq; cases hq
      exact hc
    · rw [List.getElem?_set_ne (Ne.symm hji)] at hj
      have this := S.cells j cl' q hj hq
      have hne : q.2 ≠ r.2 := fun e => by
        have h1 : (ρ.map (·.2))[j]? = some q.2 := by rw [List.getElem?_map, hq]; rfl
        have h2 : (ρ.map (·.2))[i]? = some r.2 := by rw [List.getElem?_map, hr]; rfl
        rw [e] at h1
        exact hji ((List.getElem?_inj (by simpa using (List.getElem?_eq_some_iff.mp hq).1) S.nodup).mp (h1.trans h2.symm))
      cases cl' with
      | list ds => obtain ⟨vs, n, a, b, x, z⟩ := this; exact ⟨vs, n, a, by rw [k _ (a ▸ hne)]; exact b, x.mono im hp, z⟩
      | inst C fs => obtain ⟨a, es, n, b, x, z⟩ := this; exact ⟨im _ _ a (.inr rfl), es, n, by rw [k _ hne]; exact b, x.mono im hp, z⟩
  · rw [k b (fun q => n (by rw [q]; exact List.mem_map_of_mem hm))]; exact e

theorem Po.newList {ds : List V} {vs : List Value} {Q : V → Store → Prop} {t : Nat} (S : Sat c ρ σ s) (R : c.Reps s.heap ρ ds vs) (hl : ds.length ≤ 1000000) (q : Q (.obj σ.length) (σ ++ [.list ds])) :
    Po c ρ s.heap Q (.ref s.heap.objs.size) { s with heap := s.heap.push { cls := .type "list", data := .seq vs.toArray }, toks := t } := by
  have hp := S.grow (s' := { s with heap := s.heap.push { cls := .type "list", data := .seq vs.toArray }, toks := t }) (a := s.heap.objs.size) (b := s.heap.objs.size) (cl := .list ds)
    (fun _ _ e => Heap.get?_push_of_some _ e) (Heap.get?_none_of_le (Nat.le_refl _)) ⟨vs, 0, rfl, Heap.get?_push_size _ rfl, R.mono (fun b o e _ => Heap.get?_push_of_some _ e) ⟨_, rfl⟩, hl⟩ rfl rfl
  refine ⟨_, _, _, hp.1, hp.2, .obj (r := (s.heap.objs.size, s.heap.objs.size)) ?_, q⟩
  rw [← S.len, List.getElem?_append_right (Nat.le_refl _), Nat.sub_self]
  rfl
end
end
section
section
variable {c : Cx} {ρ : Pm} {σ : Store} {s : Shared} {A : Around} {n : Nat}

theorem isL {a : Addr} {vs : Array Value} {n : Nat} (g : s.heap.get? a = some { cls := .type "list", dict := none, data := .seq vs n, slots := #[] }) : s.heap.IsList a vs := ⟨_, g, rfl, n, rfl⟩

theorem tru_sound {v : V} {x : Value} {Q : Bool → Store → Prop} (S : Sat c ρ σ s) (r : c.Rep s.heap ρ v x) (h : truV v σ Q) :
    wpAny (model c.prog c.w) A (truthy x) (Pb c ρ s.heap Q) No s := by
  refine onAny_use r h (fun _ _ z => z.elim) (fun _ _ z => z.elim) (fun b h => wpAny_truthy_bool ⟨_, _, S, Stp.refl _ _ _, h⟩) (fun _ _ _ _ _ z => z.elim) (fun i x r h => onLst_use h fun ds e h => ?_) (fun _ _ _ z => z.elim)
  refine S.list_ e r fun a vs n hq g rr hl => ?_
  have hlen := Reps.length rr
  refine wpAny_truthy_list (isL g) (by rw [List.size_toArray, hlen]; omega) ?_
  refine ⟨_, _, S.toks, Stp.refl _ _ _, ?_⟩
  have : (!vs.toArray.isEmpty) = !ds.isEmpty := by
    cases ds <;> cases vs <;> simp_all
  first | (rw [this]; exact h) | (simp only [Array.size, hlen] at *; simpa using h)

theorem list_rep {i : Nat} {n : Int} {x : Value} {y : Value} {d : V} {Q : V → Store → Prop} (S : Sat c ρ σ s) (e : σ[i]? = some (.list [d])) (ra : c.Rep s.heap ρ (.obj i) x) (rb : c.Rep s.heap ρ (.int n) y) (h0 : 0 ≤ n) (h1 : n ≤ 1000) (h : Q (.obj σ.length) (σ ++ [.list (List.replicate n.toNat d)])) :
    wpAny (model c.prog c.w) A (binaryOp .Mult x y) (Po c ρ s.heap Q) No s := by
  refine S.list_ e ra fun a vs m hq g rr hl => ?_
  cases rb
  rename_i u
  cases rr
  rename_i v vs' rv rn
  cases rn
  refine wpAny_binaryOp_repeat_ref (T := "list") (U := "int") (by decide) ⟨_, g, rfl⟩ (fun s' => typeIs_int s' n u) noFill_list_mul F.fills_int_mul F.slot_int_rmul repeat_list F.slot_int_index.lookup
    (call_meets F.slot_int_rmul (typeIs_int s n u) F.entry_int_rmul (F.args_int_rmul_2 _ _) (int___rmul___int_list n u a _ m)
      ⟨g, rfl, ⟨_, g, rfl⟩, call_meets F.slot_list_mul ⟨_, g, rfl⟩ F.entry_list_mul (F.args_list_mul_2 _ _)
        (AutoListH.list___mul___list_int_3 a _ m n u (by simp [Builtin.List.listFitsIndex]; lia) (by simp; lia) (by simp [Builtin.List.listTooLong, sizeLine]; lia))
        ⟨g, ?_⟩⟩)
  have e2 : List.foldl (fun x1 x2 => x1 ++ x2) #[] (List.replicate (if (List.toArray [v]).isEmpty = true then 0 else n.toNat) (List.toArray [v])) = (List.replicate n.toNat v).toArray := by
    have : ∀ (m : Nat) (acc : Array Value), List.foldl (fun x1 x2 => x1 ++ x2) acc (List.replicate m #[v]) = acc ++ (List.replicate m v).toArray := by
      intro m
      induction m with
      | zero => intro acc; simp
      | succ m ih => intro acc; rw [List.replicate_succ, List.foldl_cons, ih, List.replicate_succ]; apply Array.toList_inj.mp; simp
    simpa using this n.toNat #[]
  rw [e2]
  exact Po.newList S (Reps.replicate rv _) (by simp; omega) h

theorem bin_sound {op : Operator} {a b : V} {x y : Value} {Q : V → Store → Prop} (S : Sat c ρ σ s) (ra : c.Rep s.heap ρ a x) (rb : c.Rep s.heap ρ b y) (h : binV op a b σ Q) :
    wpAny (model c.prog c.w) A (binaryOp op x y) (Po c ρ s.heap Q) No s := by
  cases op <;> first | exact False.elim h | skip
  · refine onAny_use ra h (fun x t h => onInt_use rb h fun y u h => PyProof.Rows.add_int (Po.tk S (.int _ _) h)) (fun x t h => onStr_use rb h fun y u h => ?_) (fun _ z => z.elim) (fun _ _ _ _ _ z => z.elim) (fun i x ra h => onLst_use h fun xs e1 h => onObj_use rb h fun j y rb h => onLst_use h fun ys e2 h => ?_) (fun _ _ _ z => z.elim)
    · have e : (⟨x.toArray⟩ : Str) ++ ⟨y.toArray⟩ = ⟨(x ++ y).toArray⟩ := by
        show Str.append _ _ = _
        simp [Str.append]
      refine PyProof.Rows.add_str (fun t' tk => ?_) (by show x.toArray.size + y.toArray.size ≤ sizeLine; rw [List.size_toArray, List.size_toArray, sizeLine_eq]; omega)
      rw [e]
      exact Po.tk S (.str _ _) h.2
    · refine S.list_ e1 ra fun a vs n hq g rr hl => ?_
      refine S.list_ e2 rb fun b ws m hq' g' rr' hl' => ?_
      have h1 := Reps.length rr
      have h2 := Reps.length rr'
      refine PySem.P.add_list g g' ?_ ?_
      · simp only [List.append_toArray]
        exact Po.newList S (Reps.append rr rr') (by rw [List.length_append]; exact h.1) h.2
      · rw [sizeLine_eq]; simp only [List.size_toArray]; omega
  · exact onInt_use ra h fun x t h => onInt_use rb h fun y u h => PyProof.Rows.sub_int (Po.tk S (.int _ _) h)
  · refine onAny_use ra h (fun x t h => onInt_use rb h fun y u h => P.mul_int (Po.tk S (.int _ _) h.2) h.1) (fun _ _ z => z.elim) (fun _ z => z.elim) (fun _ _ _ _ _ z => z.elim) (fun i x ra h => onLst_use h fun xs e1 h => ?_) (fun _ _ _ z => z.elim)
    have key : ∀ (b : V), c.Rep s.heap ρ b y → onInt b (fun n => onOne xs fun d => 0 ≤ n ∧ n ≤ 1000 ∧ Q (.obj σ.length) (σ ++ [.list (List.replicate n.toNat d)])) → wpAny (model c.prog c.w) A (binaryOp .Mult x y) (Po c ρ s.heap Q) No s := fun b rb h =>
      onInt_use (R := fun y => wpAny (model c.prog c.w) A (binaryOp .Mult x y) (Po c ρ s.heap Q) No s) rb h fun n t h => onOne_eq h fun d e h => list_rep S (e ▸ e1) ra (.int n t) h.1 h.2.1 h.2.2
    exact key b rb h
  · exact onInt_use ra h fun x t h => onInt_use rb h fun y u h => PyProof.Rows.mod_int' (by omega) (Po.tk S (.int _ _) h.2)
  · exact onInt_use ra h fun x t h => onInt_use rb h fun y u h => PyProof.Rows.floordiv_int (by omega) (Po.tk S (.int _ _) h.2) (hp := Or.inl (PyProof.noPylong_small (by omega)))

theorem str_eta (x y : List Nat) : ((⟨x.toArray⟩ : Str) == ⟨y.toArray⟩) = decide (x = y) := by
  rw [Bool.eq_iff_iff]
  simp
theorem pair_eq {d : V} {p : Int × Int} (h : pairOf d = some p) : ∃ ds, d = .tup ds ∧ intsOf ds = some [p.1, p.2] := by
  obtain ⟨ds, e2, e3⟩ := Option.bind_eq_some_iff.mp h
  obtain ⟨l, e4, e5⟩ := Option.bind_eq_some_iff.mp e3
  refine ⟨ds, asTup_eq e2, e4.trans ?_⟩
  cases l with
  | nil => cases e5
  | cons x l =>
    cases l with
    | nil => cases e5
    | cons y l =>
      cases l with
      | nil => cases e5; rfl
      | cons _ _ => cases e5
theorem two_ints {h : Heap} {vs : List Value} {x y : Int} (W : IntsAre vs [x, y]) : ReadsAll h vs [.int x, .int y] [] := by
  cases W with
  | cons _ _ W => cases W with | cons _ _ W => cases W; exact ReadsAll.cons (as := []) (Reads.int _ _) (ReadsAll.cons (as := []) (Reads.int _ _) ReadsAll.nil)
theorem pairs_reads {h : Heap} {c : Cx} {ds : List V} {vs : List Value} {l : List (Int × Int)} (r : c.Reps h ρ ds vs) : pairsOf ds = some l → ReadsAll h vs (l.map fun p => .tuple [.int p.1, .int p.2]) [] :=
  r.ind (M := fun ds vs => ∀ l, pairsOf ds = some l → ReadsAll h vs (l.map fun p => .tuple [.int p.1, .int p.2]) []) (fun _ e => Option.some.inj e ▸ .nil) (fun {d v ds vs} a _ ih l e => optCons (G := fun l => ReadsAll h (v :: vs) (l.map fun p => .tuple [.int p.1, .int p.2]) []) e fun p r e1 e =>
    (pair_eq e1).elim fun ds q => Rep.tup_ (G := fun v => ReadsAll h (v :: vs) ((p :: r).map fun p => .tuple [.int p.1, .int p.2]) []) (q.1 ▸ a) fun a vs ht hr => ht.elim fun o ho => ho.2.2.elim fun n hd =>
      ReadsAll.cons (as := []) (Reads.tuple ho.1 ho.2.1 hd (two_ints (hr.ints q.2))) (ih _ e)) l
theorem pairs_lay : ∀ l : List (Int × Int), PyData.canLayAll0 (l.map fun p => .tuple [.int p.1, .int p.2]) = true
  | [] => rfl
  | p :: r => by rw [List.map_cons, PyData.canLayAll0, pairs_lay r]; rfl
theorem pairs_depth : ∀ l : List (Int × Int), PyData.depthAll (l.map fun p => .tuple [.int p.1, .int p.2]) ≤ 5
  | [] => Nat.zero_le _
  | p :: r => by
    rw [List.map_cons]
    exact Nat.max_le.mpr ⟨by simp [PyData.depth, PyData.depthAll], pairs_depth r⟩
theorem pairs_eqv : ∀ p q : List (Int × Int), PyData.eqvAll (p.map fun p => .tuple [.int p.1, .int p.2]) (q.map fun p => .tuple [.int p.1, .int p.2]) = decide (p = q)
  | [], [] => rfl
  | [], _ :: _ => rfl
  | _ :: _, [] => rfl
  | (a, b) :: p, (x, y) :: q => by
    rw [List.map_cons, List.map_cons, PyData.eqvAll, pairs_eqv p q, Bool.eq_iff_iff]
    simp only [PyData.eqv, PyData.eqvAll, Bool.and_true, Bool.and_eq_true, beq_iff_eq, decide_eq_true_eq, List.cons.injEq, Prod.mk.injEq]

noncomputable abbrev Found (c : Cx) (s : Shared) (ρ : Pm) (x : List Nat) (ents : List DictEntry) (o : Option V) : Prop := match o with
  | some d => ∃ e, ents.find? (·.key.isStr ⟨x.toArray⟩) = some e ∧ c.Rep s.heap ρ d e.val
  | none => ents.find? (·.key.isStr ⟨x.toArray⟩) = none ∧ ents.any (·.refKey) = false
theorem assoc_find (x : List Nat) {es : List (List Nat × V)} {ents : List DictEntry} (r : RepD c.hb s.heap c.K c.w.params ρ es ents) : Found c s ρ x ents (assocV x es) :=
  r.ind (M := fun es ents => Found c s ρ x ents (assocV x es)) ⟨rfl, rfl⟩ fun {k d e t ds es} he hr _ ih => by
    have hk : e.key.isStr ⟨x.toArray⟩ = decide (k = x) := he ▸ str_eta k x
    show Found c s ρ x (e :: es) (if k = x then some d else assocV x ds)
    by_cases q : k = x
    · rw [if_pos q]
      exact ⟨e, by rw [List.find?_cons, hk, decide_eq_true q], hr⟩
    · rw [if_neg q]
      have h1 : (e :: es).find? (·.key.isStr ⟨x.toArray⟩) = es.find? (·.key.isStr ⟨x.toArray⟩) := by rw [List.find?_cons, hk, decide_eq_false q]
      have h2 : e.refKey = false := by unfold DictEntry.refKey; rw [he]
      revert ih
      cases assocV x ds with
      | some d' => exact fun ih => ih.elim fun e z => ⟨e, h1.trans z.1, z.2⟩
      | none => exact fun ih => ⟨h1.trans ih.1, (by rw [List.any_cons, h2, ih.2]; rfl)⟩

noncomputable def isS (x : Str) : Value → Bool
  | .str y _ => y == x
  | _ => false
noncomputable def isI (x : Int) : Value → Bool
  | .int y _ => y == x
  | _ => false
theorem strs_eq (x : Str) (t : Tok) {vs : List Value} {ys : List Str} (h : StrsAre vs ys) : ∀ y ∈ vs, MeetsSeq.EqGives y (.str x t) (isS x y) := by
  induction h with
  | nil => exact fun _ h => nomatch h
  | cons z u _ ih =>
    intro y hy
    rcases List.mem_cons.mp hy with rfl | hy
    · exact eqGives_str _ _ _ _
    · exact ih y hy
theorem ints_eq (x : Int) (t : Tok) {vs : List Value} {ys : List Int} (h : IntsAre vs ys) : ∀ y ∈ vs, MeetsSeq.EqGives y (.int x t) (isI x y) := by
  induction h with
  | nil => exact fun _ h => nomatch h
  | cons z u _ ih =>
    intro y hy
    rcases List.mem_cons.mp hy with rfl | hy
    · exact MeetsSeq.EqGives.int _ _ _ _
    · exact ih y hy
theorem strs_any (x : List Nat) {vs : List Value} : ∀ {l : List (List Nat)}, StrsAre vs (l.map fun x => ⟨x.toArray⟩) → vs.any (isS ⟨x.toArray⟩) = l.contains x := by
  intro l
  induction l generalizing vs with
  | nil => intro h; cases h; rfl
  | cons y l ih =>
    intro h
    cases h with
    | cons _ _ h =>
      rw [List.any_cons, ih h, List.contains_cons]
      congr 1
      show ((⟨y.toArray⟩ : Str) == ⟨x.toArray⟩) = _
      rw [str_eta, Bool.eq_iff_iff]
      simp only [decide_eq_true_eq, beq_iff_eq]
      exact eq_comm
theorem ints_any (x : Int) {vs : List Value} {l : List Int} (h : IntsAre vs l) : vs.any (isI x) = l.contains x := by
  induction h with
  | nil => rfl
  | cons z u _ ih =>
    rw [List.any_cons, ih, List.contains_cons]
    congr 1
    show (z == x) = (x == z)
    rw [Bool.eq_iff_iff]
    simp only [beq_iff_eq]
    exact eq_comm

theorem isNone_eq {v : V} (h : v.isNone = true) : v = .none := by
  cases v <;> first | rfl | exact (Bool.false_ne_true h).elim
theorem rep_none {h : Heap} {a : V} {x : Value} (r : c.Rep h ρ a x) : (x == Value.none) = a.isNone := by
  cases r <;> rfl
theorem in_dict {es : List (List Nat × V)} {x : List Nat} {t : Tok} {y : Value} {Q : V → Store → Prop} (hA : Br n A) (S : Sat c ρ σ s) (rb : c.Rep s.heap ρ (.dct es) y) (h : Q (.bool (assocV x es).isSome) σ) :
    wpAny (model c.prog c.w) A (compareOp .In (.str ⟨x.toArray⟩ t) y) (Po c ρ s.heap Q) No s := by
  refine rb.dct_ (G := fun y => wpAny (model c.prog c.w) A (compareOp .In (.str ⟨x.toArray⟩ t) y) (Po c ρ s.heap Q) No s) fun a ents n hk hs hl R => ?_
  have H := assoc_find x R
  have X' : c.K.In s.heap := c.X.keeps S.base
  have key : ∀ o : Option Value, nsIn c.K a ⟨x.toArray⟩ = some o → Q (.bool o.isSome) σ → wpAny (model c.prog c.w) A (compareOp .In (.str ⟨x.toArray⟩ t) (.ref a)) (Po c ρ s.heap Q) No s := fun o e q =>
    wpAny_in_of (strKind_is c.prog c.w ⟨x.toArray⟩ t) hs (mapOf_K (prog := c.prog) X' hk hl) (by rw [find_K hk e]; exact Po.tk S (.bool _) q)
  have en : nsIn c.K a ⟨x.toArray⟩ = match ents.find? (·.key.isStr ⟨x.toArray⟩) with | some e => some (some e.val) | none => if ents.any (·.refKey) = true then none else some none := by unfold nsIn; rw [hk]; rfl
  revert h H
  cases assocV x es with
  | some d => exact fun h H => H.elim fun e z => key (some e.val) (by rw [en, z.1]) h
  | none => exact fun h H => key none (by rw [en, H.1]; show (if ents.any _ = true then _ else _) = _; rw [H.2]; rfl) h
theorem cmp_sound {op : CmpOp} {a b : V} {x y : Value} {Q : V → Store → Prop} (hA : Br n A) (S : Sat c ρ σ s) (ra : c.Rep s.heap ρ a x) (rb : c.Rep s.heap ρ b y) (h : cmpV op a b σ Q) :
    wpAny (model c.prog c.w) A (compareOp op x y) (Po c ρ s.heap Q) No s := by
  cases op
  · refine onAny_use ra h (fun x t h => onInt_use rb h fun y u h => PyProof.Rows.eq_int (Po.val S (.bool _) (by rw [show ∀ x y : Int, (x == y) = decide (x = y) from fun x y => rfl]; exact h)))
      (fun x t h => onStr_use rb h fun y u h => PyProof.Rows.eq_str (Po.val S (.bool _) (by rw [str_eta]; exact h))) (fun _ z => z.elim) (fun _ _ _ _ _ z => z.elim) (fun i x ra h => onLst_use h fun xs e1 h => onObj_use rb h fun j y rb h => onLst_use h fun ys e2 h => onSome_use h fun p e3 h => onSome_use h fun q e4 h => ?_) (fun _ _ _ z => z.elim)
    refine S.list_ e1 ra fun a vs n hq g rr hl => ?_
    refine S.list_ e2 rb fun b ws m hq' g' rr' hl' => ?_
    refine SeqAt.compareEq_reads (Reads.list g rfl rfl (pairs_reads rr e3)) (Reads.list g' rfl rfl (pairs_reads rr' e4)) (pairs_lay p) (pairs_lay q) ?_ (Po.val S (.bool _) ?_)
    · have := pairs_depth p
      have hu := hA.units
      show A.units + min (PyData.depthAll _ + 1) _ < 9900
      omega
    · show Q (.bool (PyData.eqvAll _ _)) σ
      rw [pairs_eqv]
      exact h
  · exact onAny_use ra h (fun x t h => onInt_use rb h fun y u h => PyProof.Rows.ne_int (Po.val S (.bool _) (by rw [show ∀ x y : Int, (x != y) = !decide (x = y) from fun x y => rfl]; exact h)))
      (fun x t h => onStr_use rb h fun y u h => PyProof.Rows.ne_str (Po.val S (.bool _) (by rw [bne, str_eta]; exact h)))
      (fun x h => onAny_use rb h (fun _ _ z => z.elim) (fun _ _ z => z.elim) (fun y h => PyProof.Rows.ne_bool (Po.val S (.bool _) h)) (fun _ _ _ _ _ z => z.elim) (fun _ _ _ z => z.elim) (fun _ _ _ z => z.elim)) (fun _ _ _ _ _ z => z.elim) (fun _ _ _ z => z.elim) (fun _ _ _ z => z.elim)
  · exact onInt_use ra h fun x t h => onInt_use rb h fun y u h => PyProof.Rows.lt_int (Po.val S (.bool _) h)
  · exact useIS ra h (fun x t h => onInt_use rb h fun y u h => PyProof.Rows.le_int (Po.val S (.bool _) h)) (fun x t h => onStr_use rb h fun y u h => P.le_str (Po.val S (.bool _) (by simpa using h)))
  · exact onInt_use ra h fun x t h => onInt_use rb h fun y u h => PyProof.Rows.gt_int (Po.val S (.bool _) h)
  · exact onInt_use ra h fun x t h => onInt_use rb h fun y u h => PyProof.Rows.ge_int (Po.val S (.bool _) h)
  · refine onB_use h fun e0 h => ?_
    rw [isNone_eq e0] at rb
    exact rb.none_ (is_none (Po.val S (.bool _) (rep_none ra ▸ h)))
  · refine onB_use h fun e0 h => ?_
    rw [isNone_eq e0] at rb
    exact rb.none_ (isNot_none (Po.val S (.bool _) (rep_none ra ▸ h)))
  · refine useIS ra h (fun x t h => onAny_use rb h (fun _ _ z => z.elim) (fun _ _ z => z.elim) (fun _ z => z.elim) (fun ds a vs ht hr h => onSome_use h fun l e h => ?_) (fun _ _ _ z => z.elim) (fun _ _ _ z => z.elim))
      (fun x t h => onAny_use rb h (fun _ _ z => z.elim) (fun y u h => PyProof.Rows.in_str (Po.val S (.bool _) (by simpa [subIn, Str.length] using h))) (fun _ z => z.elim) (fun ds a vs ht hr h => onSome_use h fun l e h => ?_) (fun _ _ _ z => z.elim) (fun es y rb h => ?_))
    · have W := Reps.ints hr e
      refine SeqAt.in_tupleAt (isI x) ht (fun y hy => (ints_eq _ _ W y (by simpa using hy)).at _ _) (Po.val S (.bool _) ?_)
      rw [← Array.any_toList, show (List.toArray vs).toList = vs from rfl, ints_any _ W]
      exact h
    · have W := Reps.strs hr e
      refine SeqAt.in_tupleAt (isS ⟨List.toArray x⟩) ht (fun y hy => (strs_eq _ _ W y (by simpa using hy)).at _ _) (Po.val S (.bool _) ?_)
      rw [← Array.any_toList, show (List.toArray vs).toList = vs from rfl, strs_any _ W]
      exact h
    · exact in_dict hA S rb h
  · refine useIS ra h (fun x t h => onObj_use rb h fun i y rb h => onLst_use h fun ds e h => onSome_use h fun l e' h => ?_) (fun x t h => onStr_use rb h fun y u h => PyProof.Rows.notIn_str (Po.val S (.bool _) (by simpa [subIn, Str.length] using h)))
    refine S.list_ e rb fun a vs n hq g rr hl => ?_
    have W := Reps.ints rr e'
    refine SeqAt.notIn_listAt (isI x) (isL g) (fun y hy => (ints_eq _ _ W y (by simpa using hy)).at _ _) (Po.val S (.bool _) ?_)
    rw [← Array.any_toList, show (List.toArray vs).toList = vs from rfl, ints_any _ W]
    exact h
end
end
section
section
variable {c : Cx} {ρ : Pm} {σ : Store} {s : Shared} {A : Around} {n : Nat}

theorem seqIndex_lt {k : Int} {n j : Nat} (h : seqIndex? k n = some j) : j < n ∧ ((0 ≤ k ∧ j = k.toNat) ∨ (k < 0 ∧ -(n : Int) ≤ k ∧ j = (k + n).toNat)) := by
  unfold seqIndex? at h
  dsimp only at h
  by_cases hk : k < 0
  · rw [if_pos hk] at h
    by_cases q : (decide (0 ≤ k + n) && decide (k + n < n)) = true
    · rw [if_pos q] at h
      simp only [Bool.and_eq_true, decide_eq_true_eq] at q
      have := Option.some.inj h
      lia
    · rw [if_neg q] at h; cases h
  · rw [if_neg hk] at h
    by_cases q : (decide (0 ≤ k) && decide (k < n)) = true
    · rw [if_pos q] at h
      simp only [Bool.and_eq_true, decide_eq_true_eq] at q
      have := Option.some.inj h
      lia
    · rw [if_neg q] at h; cases h

noncomputable def clp (v : Option Int) (d n : Nat) : Nat := match v with
  | none => d
  | some i => (max 0 (min (if i < 0 then i + n else i) n)).toNat
theorem take_range {α : Type} (t : List α) : ∀ (m a : Nat), a + m ≤ t.length → ((List.range m).map fun k => a + k).filterMap (t[·]?) = (t.drop a).take m := by
  intro m
  induction m with
  | zero => intro a _; simp
  | succ m ih =>
    intro a h
    rw [List.range_succ, List.map_append, List.filterMap_append, ih a (by lia), List.take_add_one]
    congr 1
    simp only [List.map_cons, List.map_nil, List.getElem?_drop]
    rw [List.getElem?_eq_getElem (by lia)]
    simp [List.getElem?_eq_getElem (show a + m < t.length by lia)]
theorem sliceRange1 (a b : Nat) : sliceRange a b 1 = (List.range (b - a)).map fun k => a + k := by
  unfold sliceRange
  simp only [show (1 : Int) > 0 from by decide, if_true, Int.ediv_one, Int.one_mul]
  by_cases h : a < b
  · rw [if_pos (by lia), show ((b : Int) - a + 1 - 1).toNat = b - a by lia]
    congr 1
  · rw [if_neg (by lia), show b - a = 0 by lia]
    rfl
theorem clp_le {v : Option Int} {n : Nat} : clp v n n ≤ n := by
  unfold clp; cases v <;> dsimp only <;> lia
theorem clp0_le {v : Option Int} {n : Nat} : clp v 0 n ≤ n := by
  unfold clp; cases v <;> dsimp only <;> lia
theorem ssi (lo hi : Option Int) (n : Nat) : Builtin.Str.strSliceIndices lo hi 1 n = (List.range (clp hi n n - clp lo 0 n)).map fun k => clp lo 0 n + k := by
  rw [← sliceRange1]
  unfold Builtin.Str.strSliceIndices
  simp only [show (1 : Int) > 0 from by decide, if_true]
  congr 1
  · cases lo with
    | none => rfl
    | some i => simp only [clp]; lia
  · cases hi with
    | none => rfl
    | some i => simp only [clp]; lia
theorem slL_eq (t : List Nat) (lo hi : Option Int) : slL t lo hi = (t.drop (clp lo 0 t.length)).take (clp hi t.length t.length - clp lo 0 t.length) := by
  unfold slL
  rw [ssi]
  by_cases h : clp lo 0 t.length ≤ clp hi t.length t.length
  · have := @clp_le hi t.length
    exact take_range _ _ _ (by lia)
  · rw [show clp hi t.length t.length - clp lo 0 t.length = 0 by lia]; simp

theorem getD_get {α : Type} {l : List α} {j : Nat} {d : α} (h : j < l.length) : l[j]? = some (l.getD j d) := by
  rw [List.getElem?_eq_getElem h, List.getD_eq_getElem?_getD, List.getElem?_eq_getElem h]; rfl

theorem sub_plain {e : Expr} (h : isSlice e = false) (x y : Value) : subscripted e false x y = operate [x, y] (getItem x y) := by
  cases e <;> first | rfl | exact (Bool.false_ne_true h.symm).elim
theorem seqNeg_of {k : Int} {n j : Nat} (h : seqIndex? k n = some j) (hk : k < 0) : j < n ∧ -(n : Int) ≤ k ∧ j = (k + n).toNat :=
  have z := seqIndex_lt h
  ⟨z.1, z.2.elim (fun q => absurd hk (Int.not_lt.mpr q.1)) fun q => q.2⟩
theorem idx_sound {o i : V} {x y : Value} {Q : V → Store → Prop} {value slice : Expr} (S : Sat c ρ σ s) (ro : c.Rep s.heap ρ o x) (ri : c.Rep s.heap ρ i y) (h : idxV o i σ Q) (hs : isSlice slice = false) :
    wpAny (model c.prog c.w) A (subscriptTail value slice x y) (Po c ρ s.heap Q) No s := by
  have sub := sub_plain hs
  refine onAny_use ro h (fun _ _ z => z.elim) (fun t tk h => onInt_use ri h fun k u h => onSome_use h fun j e h => ?_) (fun _ z => z.elim) (fun ds a vs ht hr h => onInt_use ri h fun k u h => onSome_use h fun j e h => ?_)
    (fun n x ro h => onLst_use h fun ds e h => onInt_use ri h fun k u h => onSome_use h fun j e' h => ?_) (fun es x ro h => onStr_use ri h fun k t h => onSome_use h fun d hh h => ?_)
  · obtain ⟨h1, h2, h3⟩ := h
    have hj := (seqIndex_lt e).1
    refine tail_any (typeIs_str s _ _) F.slot_str_getitem.lookup (PySem.P.getItem_str (c := t.getD j 0) (by simp; lia) ?_ (Po.tk S (.str _ _) h3)) (sub _ _)
    show (seqIndex? k t.toArray.size).bind (t.toArray[·]?) = _
    rw [List.size_toArray, e, Option.bind_some, List.getElem?_toArray, getD_get hj]
  · obtain ⟨h1, h2, h3⟩ := h
    have hj := (seqIndex_lt e).1
    obtain ⟨v, hv, rv⟩ := Reps.get hr hj
    refine tail_any ht.typeIs slot_tuple_getitem.lookup (PyProof.Rows.getItem_tuple ht (by lia) (by lia) (j := j) ?_ (by rw [List.getElem?_toArray]; exact hv) (Po.val S rv h3)) (sub _ _)
    rw [List.size_toArray, Reps.length hr]; exact e
  · obtain ⟨h1, h2, h3⟩ := h
    refine S.list_ e ro fun a vs n hq g rr hl => ?_
    obtain ⟨hj, hk⟩ := seqIndex_lt e'
    obtain ⟨v, hv, rv⟩ := Reps.get rr hj
    have hlen := Reps.length rr
    refine tail_any (isL g).typeIs slot_list_getitem.lookup ?_ (sub _ _)
    rcases hk with ⟨h0, hk⟩ | ⟨h0, h4, hk⟩
    · exact wpAny_getItem_list (isL g) h0 (by lia) (by rw [List.getElem?_toArray, ← hk]; exact hv) (Po.val S rv h3)
    · exact wpAny_getItem_list_neg (isL g) h0 (by rw [List.size_toArray, hlen]; exact h4) (by lia) (by rw [List.getElem?_toArray, List.size_toArray, hlen, ← hk]; exact hv) (Po.val S rv h3)
  · cases ro with
    | dct hk hs' hl R =>
      rename_i a ents n
      have H := assoc_find k R
      have X' : c.K.In s.heap := c.X.keeps S.base
      rw [hh] at H
      obtain ⟨e, he, hr⟩ := H
      have hm := mapOf_K (prog := c.prog) X' hk hl
      refine tail_any hm.typeIs slot_dict_getitem.lookup (wpAny_getItem_of (v := e.val) (strKind_is c.prog c.w ⟨k.toArray⟩ t) hm (find_K hk (r := some e.val) (by unfold nsIn; rw [hk]; show (match ents.toArray.toList.find? _ with | some e => _ | none => _) = _; rw [he])) (Po.tk S hr h)) (sub _ _)

/-- slices of a text -/
theorem slice_sound {t : List Nat} {l u : Option (Int × Tok)} {tk : Tok} {vl vu : Value} {value : Expr} {lo hi : Option Expr} {p : Pos} {Q : V → Store → Prop} (S : Sat c ρ σ s) (hl : vl = partValue l) (hu : vu = partValue u)
    (hs : t.length ≤ 1000000) (h : Q (.str (slL t (l.map (·.1)) (u.map (·.1)))) σ) :
    wpAny (model c.prog c.w) A (subscriptTail value (.Slice lo hi none p) (.str ⟨t.toArray⟩ tk) (.ref s.heap.objs.size)) (Po c ρ s.heap Q) No { s with heap := s.heap.push { cls := .type "slice", data := .fields #[vl, vu, .none] } } := by
  subst hl; subst hu
  refine tail_any (ops := [.ref s.heap.objs.size, .str ⟨t.toArray⟩ tk]) (typeIs_str _ _ _) F.slot_str_getitem.lookup (wpAny_getItem_str_slice (l := l) (u := u) (st := none) ⟨_, Heap.get?_push_size _ rfl, rfl, rfl⟩ rfl ?_) rfl
  have S' : Sat c ρ σ { s with heap := s.heap.push { cls := .type "slice", data := .fields #[partValue l, partValue u, .none] } } := S.push _
  have P' := Stp.push ρ [] s.heap { cls := .type "slice", data := .fields #[partValue l, partValue u, .none] }
  unfold sliceMade
  split
  · rename_i q
    simp only [Option.map_none, Option.getD_none, beq_self_eq_true, Bool.true_and, beq_iff_eq] at q
    refine ⟨ρ, σ, .str (slL t (l.map (·.1)) (u.map (·.1))), S', P', ?_, h⟩
    have : slL t (l.map (·.1)) (u.map (·.1)) = t := by
      unfold slicePicked at q
      rw [show (⟨t.toArray⟩ : Str).length = t.length from by simp [Str.length]] at q
      simp only [Option.map_none, Option.getD_none] at q
      rw [ssi, List.length_map, List.length_range] at q
      rw [slL_eq, q]
      have h1 := @clp_le (u.map (·.1)) t.length
      have h2 := @clp0_le (l.map (·.1)) t.length
      rw [show clp (l.map (·.1)) 0 t.length = 0 by lia]
      simp
    rw [this]
    exact .str _ _
  · have e : ((slicePicked ⟨t.toArray⟩ l u none).filterMap ((⟨t.toArray⟩ : Str).cps[·]?)) = slL t (l.map (·.1)) (u.map (·.1)) := by
      unfold slL slicePicked
      show List.filterMap (fun i => t.toArray[i]?) (Builtin.Str.strSliceIndices _ _ 1 t.toArray.size) = _
      simp only [List.size_toArray, List.getElem?_toArray]
    rw [e]
    refine ⟨?_, ρ, σ, _, S'.toks, P', .str _ _, h⟩
    show (slL t _ _).toArray.size ≤ sizeLine
    have := sliceIndices_le (l.map (·.1)) (u.map (·.1)) t.length
    have h2 : (slL t (l.map (·.1)) (u.map (·.1))).length ≤ t.length := Nat.le_trans (List.length_filterMap_le _ _) this
    rw [List.size_toArray, sizeLine_eq]; lia
end
end
section
section
variable {c : Cx} {ρ : Pm} {σ : Store} {s : Shared} {A : Around} {n : Nat}

noncomputable def Bi.val : Bi → Value
  | .len => .builtin "len" | .ord => .builtin "ord" | .chr => .builtin "chr" | .str => .type "str" | .divmod => .builtin "divmod"
noncomputable def Mt.val : Mt → Value
  | .find => .builtin "str.find" | .join => .builtin "str.join" | .append => .builtin "list.append" | .pop => .builtin "list.pop"

theorem Po.newTup {ds : List V} {vs : List Value} {Q : V → Store → Prop} {t : Nat} (S : Sat c ρ σ s) (R : c.Reps s.heap ρ ds vs) (q : Q (.tup ds) σ) :
    Po c ρ s.heap Q (.ref s.heap.objs.size) { s with heap := s.heap.push { cls := .type "tuple", data := .seq vs.toArray }, toks := t } :=
  ⟨ρ, σ, _, S.push _, Stp.push _ _ _ _, .tup (IsTup.new _ _) (R.mono (fun b o e _ => Heap.get?_push_of_some _ e) ⟨[], by simp⟩), q⟩

theorem bi_sound {b : Bi} {ds : List V} {vs : List Value} {Q : V → Store → Prop} (S : Sat c ρ σ s) (R : c.Reps s.heap ρ ds vs) (h : biV b ds σ Q) :
    wpAny (model c.prog c.w) A (call b.val vs) (Po c ρ s.heap Q) No s := by
  cases b
  · refine onOne_use (G := fun vs => wpAny (model c.prog c.w) A (call (Bi.len).val vs) (Po c ρ s.heap Q) No s) R h fun a x r h => ?_
    refine onAny_use (R := fun x => wpAny (model c.prog c.w) A (call (Bi.len).val [x]) (Po c ρ s.heap Q) No s) r h (fun _ _ z => z.elim) (fun x t h => PySem.P.len_str (by simp [Str.length]; omega) (Po.tk S (by simp [Str.length]; exact .int _ _) h.2)) (fun _ z => z.elim) (fun ds a vs ht hr h => ?_) (fun i x r h => onLst_use h fun ds e h => ?_) (fun _ _ _ z => z.elim)
    · refine len_tuple ht (by rw [List.size_toArray, Reps.length hr]; omega) ?_
      rw [List.size_toArray, Reps.length hr]
      exact Po.tk S (.int _ _) h.2
    · refine S.list_ e r fun a vs n hq g rr hl => ?_
      refine call_len_list (isL g) (by rw [List.size_toArray, Reps.length rr]; omega) ?_
      rw [List.size_toArray, Reps.length rr]
      exact Po.tk S (.int _ _) h
  · exact onOne_use (G := fun vs => wpAny (model c.prog c.w) A (call (Bi.ord).val vs) (Po c ρ s.heap Q) No s) R h fun a x r h => onStr_use (R := fun x => wpAny (model c.prog c.w) A (call (Bi.ord).val [x]) (Po c ρ s.heap Q) No s) r h fun x t h => onOne_eq h fun y e h => by
      subst e
      exact P.ord_of_char (Po.tk S (.int _ _) h)
  · exact onOne_use (G := fun vs => wpAny (model c.prog c.w) A (call (Bi.chr).val vs) (Po c ρ s.heap Q) No s) R h fun a x r h => onInt_use (R := fun x => wpAny (model c.prog c.w) A (call (Bi.chr).val [x]) (Po c ρ s.heap Q) No s) r h fun x t h => P.chr_of_int (by simp; omega) (Po.tk S (.str [_] _) h.2.2)
  · refine onOne_use (G := fun vs => wpAny (model c.prog c.w) A (call (Bi.str).val vs) (Po c ρ s.heap Q) No s) R h fun a x r h => onInt_use (R := fun x => wpAny (model c.prog c.w) A (call (Bi.str).val [x]) (Po c ρ s.heap Q) No s) r h fun i t h => ?_
    refine P.str_of_int h.1 (Po.tk S ?_ h.2)
    have : Str.ofString (toString i) = ⟨(intS i).toArray⟩ := by unfold intS; rfl
    rw [this]
    exact .str _ _
  · refine onTwo_use (G := fun vs => wpAny (model c.prog c.w) A (call (Bi.divmod).val vs) (Po c ρ s.heap Q) No s) R h fun a b x y r r' h => onInt_use (R := fun x => wpAny (model c.prog c.w) A (call (Bi.divmod).val [x, y]) (Po c ρ s.heap Q) No s) r h fun x t h => onInt_use (R := fun y => wpAny (model c.prog c.w) A (call (Bi.divmod).val [.int x t, y]) (Po c ρ s.heap Q) No s) r' h fun y u h => ?_
    refine divmod_int (by omega) (Po.newTup S (ds := [.int (x.fdiv y), .int (x.fmod y)]) (vs := [.int (x.fdiv y) s.toks, .int (x.fmod y) (s.toks + 1)]) (.cons (.int _ _) (.cons (.int _ _) .nil)) h.2) (Or.inl (PyProof.noPylong_small (by omega)))

theorem strsTok {l : List (List Nat)} {vs : List Value} (h : StrsAre vs (l.map fun x => ⟨x.toArray⟩)) : ∃ ts : List (Str × Tok), vs = strValues ts ∧ ts.map (·.1) = l.map fun x => ⟨x.toArray⟩ := by
  generalize hy : (l.map fun x => (⟨x.toArray⟩ : Str)) = ys at h
  clear hy
  induction h with
  | nil => exact ⟨[], rfl, rfl⟩
  | cons y t _ ih =>
    obtain ⟨ts, e1, e2⟩ := ih
    exact ⟨(y, t) :: ts, by rw [e1]; rfl, by rw [List.map_cons, e2]⟩

theorem join_empty : ∀ l : List (List Nat), Str.join ⟨#[]⟩ (l.map fun x => ⟨x.toArray⟩) = ⟨l.flatten.toArray⟩
  | [] => rfl
  | [x] => by simp [Str.join]
  | x :: y :: r => by
    have ih := join_empty (y :: r)
    rw [List.map_cons, List.map_cons, Str.join, ← List.map_cons (f := fun x : List Nat => (⟨x.toArray⟩ : Str)), ih]
    · show Str.append (Str.append _ _) _ = _
      simp [Str.append]
    · simp
theorem join_len : ∀ (l : List (List Nat)) (n : Nat), (l.map fun x => (⟨x.toArray⟩ : Str)).foldl (· + ·.length + (⟨#[]⟩ : Str).length) n = n + l.flatten.length
  | [], n => by simp
  | x :: r, n => by
    rw [List.map_cons, List.foldl_cons, join_len r]
    simp [Str.length]; lia

theorem mth_sound {m : Mt} {o : V} {x : Value} {ds : List V} {vs : List Value} {Q : V → Store → Prop} (S : Sat c ρ σ s) (ro : c.Rep s.heap ρ o x) (R : c.Reps s.heap ρ ds vs) (h : mthV m o ds σ Q) :
    wpAny (model c.prog c.w) A (call m.val (x :: vs)) (Po c ρ s.heap Q) No s := by
  cases m
  · refine onStr_use (R := fun x => wpAny (model c.prog c.w) A (call (Mt.find).val (x :: vs)) (Po c ρ s.heap Q) No s) ro h fun t tt h => onTwo_use (G := fun vs => wpAny (model c.prog c.w) A (call (Mt.find).val (.str ⟨t.toArray⟩ tt :: vs)) (Po c ρ s.heap Q) No s) R h fun a b x y r r' h =>
      onStr_use (R := fun x => wpAny (model c.prog c.w) A (call (Mt.find).val [.str ⟨t.toArray⟩ tt, x, y]) (Po c ρ s.heap Q) No s) r h fun sub su h => onInt_use (R := fun y => wpAny (model c.prog c.w) A (call (Mt.find).val [.str ⟨t.toArray⟩ tt, .str ⟨sub.toArray⟩ su, y]) (Po c ρ s.heap Q) No s) r' h fun k ku h => ?_
    refine call_gives F.slot_str_find (typeIs_str _ _ _) F.entry_str_find (F.args_str_find_3 _ _ _) (gives_str_find_from _ _ k _ _ _) (Po.tk S ?_ h)
    simp only [Str.length, List.size_toArray]
    exact .int _ _
  · refine onStr_use (R := fun x => wpAny (model c.prog c.w) A (call (Mt.join).val (x :: vs)) (Po c ρ s.heap Q) No s) ro h fun t tt h => ?_
    obtain ⟨rfl, h⟩ := h
    refine onOne_use (G := fun vs => wpAny (model c.prog c.w) A (call (Mt.join).val (.str ⟨List.toArray []⟩ tt :: vs)) (Po c ρ s.heap Q) No s) R h fun a x r h => onObj_use (R := fun x => wpAny (model c.prog c.w) A (call (Mt.join).val [.str ⟨List.toArray []⟩ tt, x]) (Po c ρ s.heap Q) No s) r h fun i x r h => onLst_use h fun ds e h => onSome_use h fun l el h => ?_
    refine S.list_ e r fun a vs n hq g rr hl => ?_
    obtain ⟨ts, rfl, e2⟩ := strsTok (Reps.strs rr el)
    refine SC.join (l := ts) (texts := l.map fun x => ⟨x.toArray⟩) (isL g) e2 ?_ (fun t' k => Po.tk S ?_ h.2)
    · unfold JoinOk
      rw [Bool.not_eq_true', List.foldl_toArray, join_len]
      unfold Builtin.Str.tooLong
      simp only [decide_eq_false_iff_not, sizeLine_eq]; omega
    · have e3 : Txt.join ⟨#[]⟩ (l.map fun x => ⟨x.toArray⟩) = ⟨l.flatten.toArray⟩ := (StrLaws.glued_eq_join _ _).trans (join_empty l)
      rw [show (⟨List.toArray []⟩ : Str) = ⟨#[]⟩ from rfl, e3]
      exact .str _ _
  · refine onObj_use (R := fun x => wpAny (model c.prog c.w) A (call (Mt.append).val (x :: vs)) (Po c ρ s.heap Q) No s) ro h fun i x ro h => onOne_use (G := fun vs => wpAny (model c.prog c.w) A (call (Mt.append).val (x :: vs)) (Po c ρ s.heap Q) No s) R h fun d v r1 h => onLst_use h fun ds e h => ?_
    refine S.list_ e ro fun a vs n hq g rr hl => ?_
    have hlen := Reps.length rr
    refine call_meets F.slot_list_append ⟨_, g, rfl⟩ F.entry_list_append (F.args_list_append_2 _ _) (PySem.list_append a _ n v (by rw [List.size_toArray, sizeLine_eq]; omega)) ⟨g, ?_⟩
    have g' := IsL.update (show IsL s.heap a vs.toArray n from g) (fun xs => xs.push v)
    have im : ∀ b o, s.heap.get? b = some o → Imm o → (s.heap.update a (Obj.mapSeq fun xs => xs.push v)).get? b = some o := fun b o e z => by
      by_cases q : b = a
      · subst q; exact absurd z (S.notImm hq e)
      · rw [Heap.get?_update_other _ _ (Ne.symm q)]; exact e
    have U := S.upd (s' := { s with heap := s.heap.update a (Obj.mapSeq fun xs => xs.push v), toks := s.toks }) (cl := .list (ds ++ [d])) hq (fun b hb => Heap.get?_update_other _ _ (Ne.symm hb))
      ⟨vs ++ [v], _, rfl, by rw [show (vs ++ [v]).toArray = vs.toArray.push v from by simp]; exact g', Reps.append (rr.mono im ⟨[], by simp⟩) (.cons (r1.mono im ⟨[], by simp⟩) .nil), by simp; omega⟩ rfl rfl
    exact ⟨ρ, _, _, U.1, U.2, .none, h.2⟩
  · refine onObj_use (R := fun x => wpAny (model c.prog c.w) A (call (Mt.pop).val (x :: vs)) (Po c ρ s.heap Q) No s) ro h fun i x ro h => ?_
    obtain ⟨e0, hh⟩ := h
    subst e0
    refine onLst_use hh fun ds e h => ?_
    cases R
    refine S.list_ e ro fun a vs n hq g rr hl => ?_
    have hlen := Reps.length rr
    have hpos : 0 < ds.length := List.length_pos_iff.mpr h.1
    obtain ⟨v, hv, rv⟩ := Reps.get (j := ds.length - 1) rr (by omega)
    have el : ds.getLastD .none = ds.getD (ds.length - 1) .none := by
      rw [List.getLastD_eq_getLast?, List.getLast?_eq_getElem?, List.getD_eq_getElem?_getD]
    have g' := IsL.update (show IsL s.heap a vs.toArray n from g) (fun xs => xs.eraseIdxIfInBounds (vs.toArray.size - 1))
    have e2 : (List.toArray vs).eraseIdxIfInBounds ((List.toArray vs).size - 1) = vs.dropLast.toArray := by
      rw [List.size_toArray]
      have hv' : vs.length - 1 < vs.length := by omega
      simp only [Array.eraseIdxIfInBounds, List.size_toArray, hv', dite_true, List.eraseIdx_toArray]
      rw [List.eraseIdx_eq_dropLast (by omega)]
    refine call_meets F.slot_list_pop ⟨_, g, rfl⟩ F.entry_list_pop (F.args_list_pop_1 _) (MeetsSeq.list_pop_last a _ n v (by rw [List.size_toArray, hlen, List.getElem?_toArray]; exact hv) (by rw [List.size_toArray, sizeLine_eq]; omega)) ⟨g, ?_⟩
    have im : ∀ b o, s.heap.get? b = some o → Imm o → (s.heap.update a (Obj.mapSeq fun xs => xs.eraseIdxIfInBounds (vs.toArray.size - 1))).get? b = some o := fun b o e z => by
      by_cases q : b = a
      · subst q; exact absurd z (S.notImm hq e)
      · rw [Heap.get?_update_other _ _ (Ne.symm q)]; exact e
    have R' : c.Reps (s.heap.update a (Obj.mapSeq fun xs => xs.eraseIdxIfInBounds (vs.toArray.size - 1))) ρ ds.dropLast vs.dropLast := by
      rw [List.dropLast_eq_take, List.dropLast_eq_take, hlen]
      exact Reps.take _ (rr.mono im ⟨[], by simp⟩)
    have U := S.upd (s' := { s with heap := s.heap.update a (Obj.mapSeq fun xs => xs.eraseIdxIfInBounds (vs.toArray.size - 1)) }) (cl := .list ds.dropLast) hq (fun b hb => Heap.get?_update_other _ _ (Ne.symm hb))
      ⟨vs.dropLast, _, rfl, by rw [e2] at g'; exact g', R', by simp; omega⟩ rfl rfl
    exact ⟨ρ, _, _, U.1, U.2, by rw [el]; exact rv.mono im ⟨[], by simp⟩, h.2⟩
end
end
section
/-- a call of a def: what it brings about -/
noncomputable def CallT (c : Cx) (n : Nat) (f : Addr) (ds : List V) (σ : Store) (Q : V → Store → Prop) : Prop :=
  ∀ (A : Around) (ρ : Pm) (s : Shared) (vs : List Value), Ar n A → Sat c ρ σ s → c.Reps s.heap ρ ds vs →
    codeAny (model c.prog c.w) A (.call (.ref f) ⟨vs, []⟩) (fun r s' => match r with | .ok (.ret v) => Po c ρ s.heap Q v s' | _ => False) s

section
variable {c : Cx} {ρ : Pm} {σ : Store} {s : Shared} {A : Around} {n : Nat}

theorem CallT.use {f : Addr} {ds : List V} {vs : List Value} {Q : V → Store → Prop} (h : CallT c n f ds σ Q) (hA : Ar n A) (S : Sat c ρ σ s) (R : c.Reps s.heap ρ ds vs) :
    wpAny (model c.prog c.w) A (call (.ref f) vs) (Po c ρ s.heap Q) No s := by
  refine wpAny_call (codeAny_mono (h A ρ s vs hA S R) fun r s' z => ?_)
  rcases r with e | (v | _ | _ | _) <;> exact z

theorem handed {d : V} {v : Value} (r : c.Rep s.heap ρ d v) : handedIn v = true := by cases r <;> rfl

theorem key_is {k x : Str} {t : Tok} {e : DictEntry} (he : e.key = .str k t) : e.key.isStr x = decide (k = x) ∧ e.refKey = false := by
  refine ⟨?_, by unfold DictEntry.refKey; rw [he]⟩
  rw [he]
  show (k == x) = decide (k = x)
  rw [Bool.eq_iff_iff]; simp
theorem Ents.get (x : Str) {fs : List (Str × V)} {es : List DictEntry} {h : Heap} (E : Ents c h ρ fs es) :
    match assocF x fs with
    | some d => ∃ v, getL x es = some (some v) ∧ c.Rep h ρ d v
    | none => getL x es = some none := by
  induction E with
  | nil => rfl
  | cons he hr ht ih =>
    rename_i k d e t fs es
    obtain ⟨hk, hn⟩ := key_is (x := x) he
    unfold assocF
    by_cases q : k = x
    · rw [if_pos q]
      exact ⟨e.val, by unfold getL; rw [List.find?_cons, hk, decide_eq_true q], hr⟩
    · rw [if_neg q]
      have e1 : getL x (e :: es) = getL x es := by
        unfold getL
        rw [List.find?_cons, hk, decide_eq_false q, List.any_cons, hn, Bool.false_or]
      rw [e1]; exact ih
theorem Ents.put {x : Str} {d : V} {v : Value} {hs : Int} {t : Tok} {fs : List (Str × V)} {es : List DictEntry} {h : Heap} (E : Ents c h ρ fs es) (r : c.Rep h ρ d v) : Ents c h ρ (setF x d fs) (putL x hs (.str x t) v es) := by
  induction E with
  | nil => exact .cons rfl r .nil
  | cons he hr ht ih =>
    rename_i k d' e t' fs es
    obtain ⟨hk, hn⟩ := key_is (x := x) he
    unfold setF putL
    rw [hk]
    by_cases q : k = x
    · subst q
      rw [if_pos rfl, decide_eq_true rfl, if_pos rfl]
      exact .cons he r ht
    · rw [if_neg q, decide_eq_false q]
      exact .cons he hr ih
theorem Ents.len {fs : List (Str × V)} {es : List DictEntry} {h : Heap} (E : Ents c h ρ fs es) : es.length = fs.length := by
  induction E with
  | nil => rfl
  | cons _ _ _ ih => rw [List.length_cons, List.length_cons, ih]
theorem Ents.refs {fs : List (Str × V)} {es : List DictEntry} {h : Heap} (E : Ents c h ρ fs es) : es.any (·.refKey) = false := by
  induction E with
  | nil => rfl
  | cons he _ _ ih => rw [List.any_cons, ih, Bool.or_false]; exact (key_is (x := default) he).2
theorem setF_len (x : Str) (d : V) : ∀ fs : List (Str × V), (setF x d fs).length ≤ fs.length + 1
  | [] => Nat.le_refl _
  | (k, e) :: r => by
    unfold setF
    split
    · simp
    · simp only [List.length_cons]; have := setF_len x d r; lia

theorem instAt {r : Addr × Addr} {C : Addr} {od : Obj} (h1 : s.heap.get? r.1 = some (instObj C r.2)) (h2 : s.heap.get? r.2 = some od) : InstAt s.heap r.1 (instObj C r.2) C (some od) := ⟨h1, rfl, rfl, h2⟩

theorem attr_sound {C : Addr} {x : Str} {o : V} {ov : Value} {ex : Bool} {Q : V → Store → Prop} (S : Sat c ρ σ s) (ro : c.Rep s.heap ρ o ov) (h : attrV C x o σ Q) (h1 : clsOk c.K C = true) (h2 : attrOk c.K C x = true) :
    wpAny (model c.prog c.w) A (getAttr ov x ex) (Po c ρ s.heap Q) No s := by
  refine onObj_use ro h fun i ov ro h => onInsC_use h fun fs e h => onSome_use h fun d ed h => S.inst_ e ro fun r es n hr g1 g2 E hl => ?_
  have H := Ents.get x E
  rw [ed] at H
  exact H.elim fun v H => get_value (c.X.keeps S.base) (instAt g1 g2) (plainGet_of (and2 h1).1).1 (findObj_own (and2 h1).2 (eq_of_beq h2) rfl H.1) (handed H.2) (Po.tk S H.2 h)

theorem setattr_sound {C : Addr} {x : Str} {i : Nat} {fs : List (Str × V)} {d : V} {v ov : Value} {Q : Unit → Shared → Prop} (S : Sat c ρ σ s) (e : σ[i]? = some (.inst C fs)) (ro : c.Rep s.heap ρ (.obj i) ov) (rv : c.Rep s.heap ρ d v) (hlen : fs.length < 50)
    (h1 : clsOk c.K C = true) (h3 : setOk c.K C x = true)
    (h : ∀ s', Sat c ρ (σ.set i (.inst C (setF x d fs))) s' → Stp ρ [] s.heap ρ s'.heap → Q () s') :
    wpAny (model c.prog c.w) A (setAttr ov x v) Q No s := by
  refine S.inst_ e ro fun r es n hr g1 g2 E hl => ?_
  have X := c.X.keeps S.base
  have b1 := eq_of_beq (and2 (and2 h3).1).1
  have b2 := (and2 (and2 h3).1).2
  have b3 := eq_of_beq (and2 h3).2
  have I := instAt g1 g2
  refine set_plain X I b1 (osa_open (s := { s with toks := s.toks + 1 }) X I b2 b3 fun b => ?_)
  obtain ⟨cd, hc, hd'⟩ := any_some (and2 h1).2
  refine wpAny_bind (wpAny_pure (wpAny_bind (wpAny_bind (wpAny_loadPart g1 (wpAny_bind ((looks_clsIn X hc).here (s := { s with toks := s.toks + 1 }) ?_))))))
  rw [hd']
  refine wpAny_pure (a := some r.2) (wpAny_bind (wpAny_pure (wpAny_bind ?_)))
  unfold nsSet
  refine wpAny_bind (wpAny_bind (wpAny_askSetting (wpAny_pure (wpAny_bind (wpAny_mkText (wpAny_bind (wpAny_loadPart g2 ?_)))))))
  dsimp only
  have cc : (!es.toArray.any (·.key.isStr x) && es.toArray.any (·.refKey)) = false := by
    have h0 : es.toArray.any DictEntry.refKey = false := by rw [← Array.any_toList]; exact E.refs
    rw [h0, Bool.and_false]
  rw [aRefKeyMayBeTheName_at, cc]
  have U := putName_dict x (PyData.keyHash c.w.params x) (.str x (s.toks + 1)) v es n
  have g2' : (s.heap.update r.2 (Obj.putName x (PyData.keyHash c.w.params x) (.str x (s.toks + 1)) v)).get? r.2 = some (dictOf (putL x (PyData.keyHash c.w.params x) (.str x (s.toks + 1)) v es) (putN x es n)) := by
    rw [← U]
    exact Heap.get?_update_self _ g2 (by rw [U]; rfl)
  have im : ∀ b o, s.heap.get? b = some o → Imm o → (s.heap.update r.2 (Obj.putName x (PyData.keyHash c.w.params x) (.str x (s.toks + 1)) v)).get? b = some o := fun b o e z => by
    by_cases q : b = r.2
    · subst q; exact absurd z (S.notImm hr e)
    · rw [Heap.get?_update_other _ _ (Ne.symm q)]; exact e
  have E' := (E.mono (ρ' := ρ) im ⟨[], by simp⟩).put (x := x) (hs := PyData.keyHash c.w.params x) (t := s.toks + 1) (Rep.mono (ρ' := ρ) im ⟨[], by simp⟩ rv)
  have hl' := E'.len
  have := setF_len x d fs
  refine wpAny_updatePart g2 ?_
  refine wpAny_bind (wpAny_lookBehind g2' (pastItsLine_dict (by rw [List.size_toArray, sizeLine_eq]; lia)) ?_)
  have W := S.upd (s' := { s with heap := s.heap.update r.2 (Obj.putName x (PyData.keyHash c.w.params x) (.str x (s.toks + 1)) v), toks := s.toks + 1 + 1 }) (cl := .inst C (setF x d fs)) hr (fun b hb => Heap.get?_update_other _ _ (Ne.symm hb))
    ⟨im _ _ g1 (.inr rfl), _, _, g2', E', by lia⟩ rfl rfl
  exact wpAny_pure (h _ W.1 W.2)
end
end
section
structure PE (c : Cx) (M : Mx) (pe : Env) (L : Addr) : Prop where
  scope : pe.scope = M.sc
  kind : M.sc.kind = .function
  loc : pe.locals = L
  glb : pe.globals = mainGlobals
  blt : pe.builtins = builtinsNs
  K : M.K = c.K
  dk : M.dk = c.dk
  gt : ∀ (k : Nat) (x : Str) (v : Value), M.GT[k]? = some (x, v) → nsIn c.K mainGlobals x = some (some v)
  nd : M.names.Nodup

structure Hp (c : Cx) (n : Nat) (M : Mx) (pe : Env) (L : Addr) (A : Around) (ρ : Pm) (σ : Store) (s : Shared) (env : Lo) : Prop where
  pe : PE c M pe L
  br : Br n A
  sat : Sat c ρ σ s
  fm : Fm c s.heap ρ L M.names env

theorem Hp.step {c : Cx} {n : Nat} {M : Mx} {pe : Env} {L : Addr} {A : Around} {ρ ρ' : Pm} {σ σ' : Store} {s s' : Shared} {env : Lo} (H : Hp c n M pe L A ρ σ s env) (S : Sat c ρ' σ' s') (P : Stp ρ [] s.heap ρ' s'.heap) : Hp c n M pe L A ρ' σ' s' env :=
  ⟨H.pe, H.br, S, H.fm.stp P (by simp)⟩

inductive Pl (c : Cx) (ρ : Pm) (h : Heap) (Q : List V → Store → Prop) (vs : List Value) (s' : Shared) : Prop
  | mk (ρ' : Pm) (σ' : Store) (ds : List V) (S : Sat c ρ' σ' s') (P : Stp ρ [] h ρ' s'.heap) (R : c.Reps s'.heap ρ' ds vs) (q : Q ds σ') : Pl c ρ h Q vs s'
inductive Pp (c : Cx) (ρ : Pm) (h : Heap) (Q : Option Int → Store → Prop) (v : Value) (s' : Shared) : Prop
  | mk (ρ' : Pm) (σ' : Store) (l : Option (Int × Tok)) (S : Sat c ρ' σ' s') (P : Stp ρ [] h ρ' s'.heap) (e : v = partValue l) (q : Q (l.map (·.1)) σ') : Pp c ρ h Q v s'

theorem Pl.use {c : Cx} {ρ : Pm} {A : Around} {s : Shared} {M : Model} {t : Sem (List Value)} {h : Heap} {Q : List V → Store → Prop} {Q' : List Value → Shared → Prop} {E : Value → Shared → Prop} (x : wpAny M A t (Pl c ρ h Q) No s)
    (k : ∀ v s₁ ρ₁ σ₁ d, Sat c ρ₁ σ₁ s₁ → Stp ρ [] h ρ₁ s₁.heap → c.Reps s₁.heap ρ₁ d v → Q d σ₁ → Q' v s₁) : wpAny M A t Q' E s := wpAny_mono x (fun _ _ ⟨_, _, _, S, P, R, q⟩ => k _ _ _ _ _ S P R q) fun _ _ z => z.elim
theorem Pp.use {c : Cx} {ρ : Pm} {A : Around} {s : Shared} {M : Model} {t : Sem Value} {h : Heap} {Q : Option Int → Store → Prop} {Q' : Value → Shared → Prop} {E : Value → Shared → Prop} (x : wpAny M A t (Pp c ρ h Q) No s)
    (k : ∀ v s₁ ρ₁ σ₁ l, Sat c ρ₁ σ₁ s₁ → Stp ρ [] h ρ₁ s₁.heap → v = partValue l → Q (l.map (·.1)) σ₁ → Q' v s₁) : wpAny M A t Q' E s := wpAny_mono x (fun _ _ ⟨_, _, _, S, P, R, q⟩ => k _ _ _ _ _ S P R q) fun _ _ z => z.elim

structure Snd (c : Cx) (n : Nat) (x : X) : Prop where
  ev : ∀ {M e env σ Q A pe L ρ s}, (mt M x).e e = true → Hp c n M pe L A ρ σ s env → (wp (CallT c n) x).e env σ Q → wpAny (model c.prog c.w) A (eval e pe) (Po c ρ s.heap Q) No s
  ts : ∀ {M e env σ Q A pe L ρ s}, (mt M x).e e = true → Hp c n M pe L A ρ σ s env → (wp (CallT c n) x).c env σ Q → wpAny (model c.prog c.w) A (isTrue e pe (eval e pe)) (Pb c ρ s.heap Q) No s
  ls : ∀ {M es env σ Q A pe L ρ s pos}, (mt M x).l es = true → Hp c n M pe L A ρ σ s env → (wp (CallT c n) x).l env σ Q → wpAny (model c.prog c.w) A (spliced (backTo pos (starEach es pe))) (Pl c ρ s.heap Q) No s
  op : ∀ {M oe env σ Q A pe L ρ s}, (mt M x).o oe = true → Hp c n M pe L A ρ σ s env → (wp (CallT c n) x).o env σ Q → wpAny (model c.prog c.w) A (evalPart oe pe) (Pp c ρ s.heap Q) No s

section
variable {c : Cx} {n : Nat} {ρ ρ₁ : Pm} {h h₁ : Heap} {s : Shared}
theorem Pb.after {Q : Bool → Store → Prop} {v : Bool} (p : Stp ρ [] h ρ₁ h₁) (x : Pb c ρ₁ h₁ Q v s) : Pb c ρ h Q v s :=
  let ⟨ρ', σ', S, q, z⟩ := x
  ⟨ρ', σ', S, p.trans q, z⟩
/-- the default way of a test -/
noncomputable def dflt (e : Expr) : Prop := ∀ (pe : Env) (w : Sem Value), isTrue e pe w = (do let v ← w; standAt e.pos; holding [v] (truthy v))

structure SE (c : Cx) (n : Nat) (x : X) (g : Lo → Store → (V → Store → Prop) → Prop) (M : Mx) (e : Expr) : Prop where
  d : dflt e ∨ ∀ env σ Q, ¬ (wp (CallT c n) x).c env σ Q
  e : ∀ {env σ Q A pe L ρ s}, Hp c n M pe L A ρ σ s env → g env σ Q → wpAny (model c.prog c.w) A (eval e pe) (Po c ρ s.heap Q) No s

theorem Snd.of {x : X} {f : Mx → Expr → Bool} {g : Lo → Store → (V → Store → Prop) → Prop} (hm : ∀ M, mt M x = onlyE (f M)) (hw : wp (CallT c n) x = ofE g)
    (he : ∀ M e, f M e = true → SE c n x g M e) : Snd c n x := by
  refine ⟨fun {M e env σ Q A pe L ρ s} a b d => (he M e (by rw [hm] at a; exact a)).e b (by rw [hw] at d; exact d), fun {M e env σ Q A pe L ρ s} a b d => ?_, fun a => (by rw [hm] at a; cases a), fun {M oe env σ Q A pe L ρ s} a b d => ?_⟩
  · rw [hm] at a
    rcases (he M e a).d with q | q
    · refine wpAny_isTrue_value ?_ (q _ _)
      rw [hw] at d
      refine Po.use ((he M e a).e b d) fun v s₁ ρ₁ σ₁ dd S P R t => ?_
      exact wpAny_mono (tru_sound S R t) (fun b s₂ h₂ => let ⟨ρ₂, σ₂, S₂, P₂, q⟩ := h₂; ⟨ρ₂, σ₂, S₂, P.trans P₂, q⟩) fun _ _ z => z
    · exact absurd d (q _ _ _)
  · rw [hm] at a; rw [hw] at d
    cases oe with
    | none => cases a
    | some e =>
      rw [evalPart_some]
      refine Po.use ((he M e a).e b d) fun v s₁ ρ₁ σ₁ dd S P R t => ?_
      exact onInt_use (R := fun v => Pp c ρ s.heap Q v s₁) R t fun i tk t => ⟨ρ₁, σ₁, some (_, _), S, P, rfl, t⟩

theorem snd_loc (i : Nat) : Snd c n (.loc i) := by
  refine Snd.of (fun _ => rfl) rfl fun M e hm => onName_inv hm fun id pos hm => ⟨.inl fun _ _ => rfl, fun {env σ Q A pe L ρ s} H h => ?_⟩
  unfold Mx.isLoc at hm
  have h1 := eq_of_beq (and2 (and2 hm).1).1
  have h2 := eq_of_beq (and2 (and2 hm).1).2
  have h3 := nt (and2 hm).2
  refine onSome_use h fun o e h => onSome_use h fun d e' h => ?_
  subst e'
  rw [lget_eq] at e
  obtain ⟨m, N, hh⟩ := H.fm.ns
  obtain ⟨x, v, a1, a2, a3⟩ := hh i d e
  rw [h1] at a1; cases a1
  exact wpAny_Name (wpAny_loadName_local (by rw [H.pe.scope]; exact H.pe.kind) (by unfold Env.kindOf; rw [H.pe.scope]; exact h2) (by rw [H.pe.loc]; exact N) a2 (Po.val H.sat a3 h)) (by simpa using h3)

theorem name_glb {M : Mx} {pe : Env} {L : Addr} {A : Around} {ρ : Pm} {σ : Store} {s : Shared} {env : Lo} {id : Str} {pos : Pos} {v : Value} {Q : Value → Shared → Prop} {E : Value → Shared → Prop} (H : Hp c n M pe L A ρ σ s env) (hg : M.isGlb id = true) (hv : nsIn c.K mainGlobals id = some (some v)) (h : Q v s) :
    wpAny (model c.prog c.w) A (eval (.Name id pos) pe) Q E s := by
  unfold Mx.isGlb at hg
  simp only [Bool.and_eq_true, beq_iff_eq, Bool.not_eq_true', beq_eq_false_iff_ne] at hg
  refine Name_function_global (by rw [H.pe.scope]; exact H.pe.kind) (by unfold Env.kindOf; rw [H.pe.scope]; exact hg.1) (loadGlobal_global (by rw [H.pe.glb]; exact c.T.g.keeps H.sat.base) (mg_of c.X c.T.g hv) h) (by simpa using hg.2)
theorem name_blt {M : Mx} {pe : Env} {L : Addr} {A : Around} {ρ : Pm} {σ : Store} {s : Shared} {env : Lo} {id : Str} {pos : Pos} {v : Value} {Q : Value → Shared → Prop} {E : Value → Shared → Prop} (H : Hp c n M pe L A ρ σ s env) (hg : M.isGlb id = true) (hv : nsIn c.K mainGlobals id = some none) (hb : bootBuiltins id = some v) (hn : id ≠ "__name__") (h : Q v s) :
    wpAny (model c.prog c.w) A (eval (.Name id pos) pe) Q E s := by
  unfold Mx.isGlb at hg
  simp only [Bool.and_eq_true, beq_iff_eq, Bool.not_eq_true', beq_eq_false_iff_ne] at hg
  refine Name_function_global (by rw [H.pe.scope]; exact H.pe.kind) (by unfold Env.kindOf; rw [H.pe.scope]; exact hg.1) (loadGlobal_builtin (by rw [H.pe.glb]; exact c.T.g.keeps H.sat.base) (mg_none_of c.X c.T.g hv) (by rw [H.pe.blt]; exact c.T.b.keeps H.sat.base) ((c.T.builtins id hn).trans hb) h) (by simpa using hg.2)
theorem Mx.at_spec {M : Mx} {k : Nat} {id : Str} {v : Value} {pe : Env} {L : Addr} (hP : PE c M pe L) (h : M.at k id = some v) : M.isGlb id = true ∧ nsIn c.K mainGlobals id = some (some v) := by
  unfold Mx.at at h
  split at h
  · rename_i x v' e
    split at h
    · rename_i q
      cases h
      obtain ⟨a, b⟩ := Bool.and_eq_true_iff.mp q
      rw [beq_iff_eq] at a
      subst a
      exact ⟨b, hP.gt _ _ _ e⟩
    · cases h
  · cases h

end
end
section
section
variable {c : Cx} {n : Nat}

structure ST (c : Cx) (n : Nat) (x : X) (M : Mx) (e : Expr) : Prop where
  ev : ∀ {env σ Q A pe L ρ s}, Hp c n M pe L A ρ σ s env → (wp (CallT c n) x).e env σ Q → wpAny (model c.prog c.w) A (eval e pe) (Po c ρ s.heap Q) No s
  ts : ∀ {env σ Q A pe L ρ s}, Hp c n M pe L A ρ σ s env → (wp (CallT c n) x).c env σ Q → wpAny (model c.prog c.w) A (isTrue e pe (eval e pe)) (Pb c ρ s.heap Q) No s
theorem Snd.ofT {x : X} {f : Mx → Expr → Bool} (hm : ∀ M, mt M x = onlyE (f M)) (hw : (wp (CallT c n) x).o = (ofE (wp (CallT c n) x).e).o)
    (he : ∀ M e, f M e = true → ST c n x M e) : Snd c n x := by
  refine ⟨fun {M e env σ Q A pe L ρ s} a b d => (he M e (by rw [hm] at a; exact a)).ev b d, fun {M e env σ Q A pe L ρ s} a b d => (he M e (by rw [hm] at a; exact a)).ts b d, fun a => (by rw [hm] at a; cases a), fun {M oe env σ Q A pe L ρ s} a b d => ?_⟩
  rw [hm] at a; rw [hw] at d
  cases oe with
  | none => cases a
  | some e =>
    rw [evalPart_some]
    refine Po.use ((he M e a).ev b d) fun v s₁ ρ₁ σ₁ dd S P R t => ?_
    exact onInt_use (R := fun v => Pp c ρ s.heap Q v s₁) R t fun i tk t => ⟨ρ₁, σ₁, some (_, _), S, P, rfl, t⟩

theorem repItems_sound {h : Heap} {ρ : Pm} {f : V → Value → Bool} (hf : ∀ d v, f d v = true → c.Rep h ρ d v) (ds : List V) : ∀ vs, repItems f ds vs = true → c.Reps h ρ ds vs := by
  induction ds with
  | nil => exact fun vs e => List.isEmpty_iff.mp e ▸ .nil
  | cons d ds ih => exact fun vs e => onC_inv e fun v vs e => .cons (hf _ _ (and2 e).1) (ih _ (and2 e).2)
theorem repEnts_sound {h : Heap} {ρ : Pm} {f : V → Value → Bool} (hf : ∀ d v, f d v = true → c.Rep h ρ d v) (ds : List (List Nat × V)) : ∀ vs, repEnts f ds vs = true → Mine.RepD c.hb h c.K c.w.params ρ ds vs := by
  induction ds with
  | nil => exact fun vs e => List.isEmpty_iff.mp e ▸ .nil
  | cons p ds ih =>
    refine fun vs e => onC_inv e fun v vs e => ?_
    have key : ∃ t, v.key = .str ⟨p.1.toArray⟩ t := onStrV_inv (P := fun k => ∃ t, k = .str ⟨p.1.toArray⟩ t) (and2 e).1 fun x t e => ⟨t, eq_of_beq e ▸ rfl⟩
    exact key.elim fun t e1 => .cons e1 (hf _ _ (and2 (and2 e).2).1) (ih _ (and2 (and2 e).2).2)
theorem repK_sound {h : Heap} {ρ : Pm} (X : c.K.In h) (hb : c.hb.StaysIn h) (n : Nat) : ∀ (d : V) (v : Value), repK c.K c.dk n d v = true → c.Rep h ρ d v := by
  induction n with
  | zero => exact fun _ _ e => (Bool.false_ne_true e).elim
  | succ n ih =>
    intro d v e
    cases d with
    | none => exact of_decide_eq_true e ▸ .none
    | bool b => exact of_decide_eq_true e ▸ .bool _
    | int i => exact onIntV_inv e fun j t e => eq_of_beq e ▸ .int _ _
    | str s => exact onStrV_inv e fun x t e => eq_of_beq e ▸ .str _ _
    | tup ds =>
      refine onRef_inv e fun a e => onO_inv (P := fun o => c.K.lookup a = o → c.Rep h ρ (.tup ds) (.ref a)) e (fun o e q => ?_) rfl
      have hd : ∃ vs m, o.data = .seq (List.toArray vs) m ∧ repItems (repK c.K c.dk n) ds vs = true := onSeqD_inv (P := fun d => ∃ vs m, d = .seq (List.toArray vs) m ∧ repItems (repK c.K c.dk n) ds vs = true) (and2 e).2 fun x t e => ⟨x, t, rfl, e⟩
      exact hd.elim fun vs hd => hd.elim fun m hd => .tup ⟨o, X _ _ q, of_decide_eq_true (and2 e).1, m, hd.1⟩ (repItems_sound ih _ _ hd.2)
    | dct es =>
      refine onRef_inv e fun a e => onO_inv (P := fun o => c.K.lookup a = o → c.Rep h ρ (.dct es) (.ref a)) e (fun o e q => ?_) rfl
      obtain ⟨oc, od, ox, os⟩ := o
      have e1 : oc = .type "dict" := of_decide_eq_true (and2 e).1
      have e2 : od = Option.none := Option.isNone_iff_eq_none.mp (and2 (and2 e).2).1
      have e3 : os.toList = [] := List.isEmpty_iff.mp (and2 (and2 (and2 e).2).2).1
      refine onDicD_inv (P := fun d => c.K.lookup a = some ⟨oc, od, d, os⟩ → c.Rep h ρ (.dct es) (.ref a)) (and2 (and2 (and2 e).2).2).2 (fun ents m e q => ?_) q
      have e4 : os = #[] := Array.toList_eq_nil_iff.mp e3
      rw [e1, e2, e4] at q
      exact .dct (n := m) (ents := ents) q (nt (and2 e).1) (c.hk _ (List.contains_iff_mem.mp (and2 (and2 e).2).1) _ _ q) (repEnts_sound ih _ _ (and2 (and2 e).2).2)
    | obj _ => exact (Bool.false_ne_true e).elim
    | clist _ => exact (Bool.false_ne_true e).elim

theorem snd_glb (k : Nat) (d : V) : Snd c n (.glb k d) := by
  refine Snd.of (fun _ => rfl) rfl fun M e hm => onName_inv hm fun id pos hm => ⟨.inl fun _ _ => rfl, fun {env σ Q A pe L ρ s} H h => ?_⟩
  have key : ∀ o, M.at k id = o → onO o (fun v => repK M.K M.dk 6 d v) = true → ∃ v, M.at k id = some v ∧ repK M.K M.dk 6 d v = true := fun o e z => onO_inv (P := fun o => M.at k id = o → _) z (fun v z e => ⟨v, e, z⟩) e
  obtain ⟨v, hv, hm⟩ := key _ rfl hm
  obtain ⟨a, b⟩ := Mx.at_spec H.pe hv
  rw [H.pe.K, H.pe.dk] at hm
  exact name_glb H a b (Po.val H.sat (repK_sound (c.X.keeps H.sat.base) H.sat.base _ _ _ hm) h)

theorem cInt_eq {k : Const} {i : Int} (h : cInt k i = true) : k = .int i := by
  unfold cInt at h
  cases k <;> first | exact (Bool.false_ne_true h).elim | skip
  rw [eq_of_beq h]
theorem cStr_eq {k : Const} {l : List Nat} (h : cStr k l = true) : k = .str ⟨l.toArray⟩ := by
  unfold cStr at h
  cases k <;> first | exact (Bool.false_ne_true h).elim | skip
  rw [eq_of_beq h]
theorem cNone_eq {k : Const} (h : cNone k = true) : k = .none := by
  cases k <;> first | exact (Bool.false_ne_true h).elim | rfl
theorem cBool_eq {k : Const} {b : Bool} (h : cBool k b = true) : k = .bool b := by
  unfold cBool at h
  cases k <;> first | exact (Bool.false_ne_true h).elim | skip
  rw [eq_of_beq h]
theorem isInt_inv {e : Expr} {i : Int} {P : Expr → Prop} (h : isInt e i = true) (k1 : ∀ kd pos, P (.Constant (.int i) kd pos)) (k2 : ∀ kd p pos, P (.UnaryOp .USub (.Constant (.int (-i)) kd p) pos)) : P e := by
  rcases Bool.or_eq_true_iff.mp h with h | h
  · exact onConstant_inv h fun k kd pos h => by rw [cInt_eq h]; exact k1 kd pos
  · exact onUnaryOp_inv h fun op x pos h => by
      obtain ⟨h1, h2⟩ := and2 h
      have : op = .USub := by cases op <;> first | rfl | exact (Bool.false_ne_true h1).elim
      subst this
      exact onConstant_inv (P := fun x => P (.UnaryOp .USub x pos)) h2 fun k kd p h => by rw [cInt_eq h]; exact k2 kd p pos

theorem snd_int (i : Int) : Snd c n (.int i) := by
  refine Snd.of (fun _ => rfl) rfl fun M e hm => isInt_inv hm (fun k pos => ⟨.inl fun _ _ => rfl, fun {env σ Q A pe L ρ s} H h => ?_⟩) fun kd p pos => ⟨.inl fun _ _ => rfl, fun {env σ Q A pe L ρ s} H h => ?_⟩
  · exact wpAny_Constant_int (Po.tk H.sat (.int _ _) h)
  · refine wpAny_UnaryOp (wpAny_Constant_int (PyProof.Rows.neg_int ?_))
    rw [Int.neg_neg]
    exact ⟨ρ, σ, _, H.sat.toks, Stp.refl _ _ _, .int _ _, h⟩

theorem snd_str (l : List Nat) : Snd c n (.str l) := by
  refine Snd.of (fun _ => rfl) rfl fun M e hm => onConstant_inv hm fun k kd pos hm => ?_
  rw [cStr_eq hm]
  exact ⟨.inl fun _ _ => rfl, fun H h => wpAny_Constant_str (Po.tk H.sat (.str _ _) h)⟩

theorem snd_none : Snd c n .none := by
  refine Snd.of (fun _ => rfl) rfl fun M e hm => onConstant_inv hm fun k kd pos hm => ?_
  rw [cNone_eq hm]
  exact ⟨.inl fun _ _ => rfl, fun H h => wpAny_Constant_none (Po.val H.sat .none h)⟩

theorem snd_bool (b : Bool) : Snd c n (.bool b) := by
  refine Snd.of (fun _ => rfl) rfl fun M e hm => onConstant_inv hm fun k kd pos hm => ?_
  rw [cBool_eq hm]
  exact ⟨.inl fun _ _ => rfl, fun H h => wpAny_Constant_bool (Po.val H.sat (.bool _) h)⟩

theorem snd_bin (op : Operator) {a b : X} (ha : Snd c n a) (hb : Snd c n b) : Snd c n (.bin op a b) := by
  refine Snd.of (fun _ => rfl) rfl fun M e hm => onBinOp_inv hm fun l op' r pos hm => ⟨.inl fun _ _ => rfl, fun {env σ Q A pe L ρ s} H h => ?_⟩
  have e0 := eq_of_beq (and2 hm).1
  subst e0
  have hl := (and2 (and2 hm).2).1
  have hr := (and2 (and2 hm).2).2
  refine wpAny_BinOp (Po.use (ha.ev hl H h) fun v s₁ ρ₁ σ₁ d S P R h => ?_)
  refine Po.use (hb.ev hr (H.step S P) h) fun v s₂ ρ₂ σ₂ d₂ S₂ P₂ R₂ h => ?_
  exact wpAny_mono (bin_sound S₂ (R.stp P₂) R₂ h) (fun v s z => Po.after (P.trans P₂) z) fun _ _ z => z

theorem notMark {op : CmpOp} {e : Expr} (h : isSet e = false) : behindInMarks op e = false := by
  unfold behindInMarks
  split
  · cases h
  · rfl

theorem snd_cmp (op : CmpOp) {a b : X} (ha : Snd c n a) (hb : Snd c n b) : Snd c n (.cmp op a b) := by
  have key : ∀ {M : Mx} {l r : Expr} {env σ Q A pe L ρ s}, (mt M a).e l = true → (mt M b).e r = true → Hp c n M pe L A ρ σ s env → (wp (CallT c n) (.cmp op a b)).e env σ Q →
      wpAny (model c.prog c.w) A (eval l pe) (fun x s₁ => wpAny (model c.prog c.w) A (eval r pe) (fun y s₂ => wpAny (model c.prog c.w) A (compareOp op x y) (Po c ρ s.heap Q) No s₂) No s₁) No s := by
    intro M l r env σ Q A pe L ρ s hl hr H h
    refine Po.use (ha.ev hl H h) fun v s₁ ρ₁ σ₁ d S P R h => ?_
    refine Po.use (hb.ev hr (H.step S P) h) fun v s₂ ρ₂ σ₂ d₂ S₂ P₂ R₂ h => ?_
    exact wpAny_mono (cmp_sound H.br S₂ (R.stp P₂) R₂ h) (fun v s z => Po.after (P.trans P₂) z) fun _ _ z => z
  refine Snd.ofT (fun _ => rfl) rfl fun M e hm => onCompare_inv hm fun l ops rs pos hm => on1_inv (P := fun ops => ST c n (.cmp op a b) M (.Compare l ops rs pos)) hm fun op' hm => on1_inv (P := fun rs => ST c n (.cmp op a b) M (.Compare l [op'] rs pos)) hm fun r hm => ?_
  have e0 := eq_of_beq (and2 hm).1
  subst e0
  have m2 := (and2 hm).2
  have hl := (and2 m2).1
  have hr := (and2 (and2 m2).2).1
  have hs := nt (and2 (and2 m2).2).2
  refine ⟨fun {env σ Q A pe L ρ s} H h => wpAny_Compare1 (key hl hr H h) (notMark hs), fun {env σ Q A pe L ρ s} H h => ?_⟩
  refine wpAny_isTrue_Compare1 (wpAny_mono (key hl hr H h) (fun v s₁ h₁ => wpAny_mono h₁ (fun v s₂ h₂ => wpAny_mono h₂ (fun v s₃ h₃ => ?_) fun _ _ z => z) fun _ _ z => z) fun _ _ z => z) (notMark hs)
  obtain ⟨ρ₃, σ₃, d, S, P, R, h⟩ := h₃
  exact wpAny_mono (tru_sound S R h) (fun b s₂ h₂ => Pb.after P h₂) fun _ _ z => z

theorem snd_cmp2 (o1 o2 : CmpOp) {a b d : X} (ha : Snd c n a) (hb : Snd c n b) (hd : Snd c n d) : Snd c n (.cmp2 o1 o2 a b d) := by
  refine Snd.ofT (fun _ => rfl) rfl fun M e hm => onCompare_inv hm fun l ops rs pos hm => onC_inv (P := fun ops => ST c n (.cmp2 o1 o2 a b d) M (.Compare l ops rs pos)) hm fun p1 ops hm => on1_inv (P := fun ops => ST c n (.cmp2 o1 o2 a b d) M (.Compare l (p1 :: ops) rs pos)) hm fun p2 hm => onC_inv (P := fun rs => ST c n (.cmp2 o1 o2 a b d) M (.Compare l [p1, p2] rs pos)) hm fun m rs hm => on1_inv (P := fun rs => ST c n (.cmp2 o1 o2 a b d) M (.Compare l [p1, p2] (m :: rs) pos)) hm fun r hm => ?_
  have e1 := eq_of_beq (and2 hm).1
  have m2 := (and2 hm).2
  have e2 := eq_of_beq (and2 m2).1
  have m3 := (and2 m2).2
  have hl := (and2 m3).1
  have m4 := (and2 m3).2
  have hm' := (and2 m4).1
  have m5 := (and2 m4).2
  have hr := (and2 m5).1
  have hs1 := nt (and2 (and2 m5).2).1
  have hs2 := nt (and2 (and2 m5).2).2
  subst e1; subst e2
  refine ⟨fun {env σ Q A pe L ρ s} H h => ?_, fun {env σ Q A pe L ρ s} H h => ?_⟩
  · refine Compare_chain (rs := []) (ops := []) (Po.use (ha.ev hl H h) fun v s₁ ρ₁ σ₁ da S P R h => ?_) (by simp [lastMarks, notMark hs2])
    refine chain_link (Po.use (hb.ev hm' (H.step S P) h) fun v s₂ ρ₂ σ₂ d₂ S₂ P₂ R₂ h => ?_)
    refine Po.use (cmp_sound H.br S₂ (R.stp P₂) R₂ h) fun v s₃ ρ₃ σ₃ d₃ S₃ P₃ R₃ h => ?_
    rcases boolK_inv h with ⟨rfl, h⟩ | ⟨rfl, h⟩
    · cases R₃
      refine wpAny_truthy_bool ?_
      rw [if_pos rfl]
      have P' := (P.trans P₂).trans P₃
      refine chain_last (Po.use (hd.ev hr (H.step S₃ P') h) fun v s₄ ρ₄ σ₄ d₄ S₄ P₄ R₄ h => ?_)
      exact wpAny_mono (cmp_sound H.br S₄ ((R₂.stp P₃).stp P₄) R₄ h) (fun v s z => Po.after (P'.trans P₄) z) fun _ _ z => z
    · cases R₃
      refine wpAny_truthy_bool ?_
      rw [if_neg (by decide)]
      exact Po.after ((P.trans P₂).trans P₃) (Po.val S₃ (.bool _) h)
  · refine isTrue_chain (rs := []) (ops := []) (Po.use (ha.ev hl H h) fun v s₁ ρ₁ σ₁ da S P R h => ?_) (by simp [lastMarks, notMark hs2])
    refine test_link (Po.use (hb.ev hm' (H.step S P) h) fun v s₂ ρ₂ σ₂ d₂ S₂ P₂ R₂ h => ?_)
    refine Po.use (cmp_sound H.br S₂ (R.stp P₂) R₂ h) fun v s₃ ρ₃ σ₃ d₃ S₃ P₃ R₃ h => ?_
    rcases boolK_inv h with ⟨rfl, h⟩ | ⟨rfl, h⟩
    · cases R₃
      refine wpAny_truthy_bool ?_
      rw [if_pos rfl]
      have P' := (P.trans P₂).trans P₃
      refine test_last (Po.use (hd.ev hr (H.step S₃ P') h) fun v s₄ ρ₄ σ₄ d₄ S₄ P₄ R₄ h => ?_)
      refine Po.use (cmp_sound H.br S₄ ((R₂.stp P₃).stp P₄) R₄ h) fun v s₅ ρ₅ σ₅ d₅ S₅ P₅ R₅ h => ?_
      exact wpAny_mono (tru_sound S₅ R₅ h) (fun b s₂ h₂ => Pb.after ((P'.trans P₄).trans P₅) h₂) fun _ _ z => z
    · cases R₃
      refine wpAny_truthy_bool ?_
      rw [if_neg (by decide)]
      exact ⟨ρ₃, σ₃, S₃, (P.trans P₂).trans P₃, h⟩

/-- the rest of an and | or -/

theorem And_rest {A : Around} {E : Value → Shared → Prop} {s : Shared} {pe : Env} {x y : Expr} {r : List Expr} {pos : Pos} {Q : Value → Shared → Prop} {M : Model}
    (h : wpAny M A (eval x pe) (fun v s₁ => wpAny M A (truthy v) (fun t s₂ => if t then wpAny M A (eval (restOf .And y r pos) pe) Q E s₂ else Q v s₂) E s₁) E s) :
    wpAny M A (eval (.BoolOp .And (x :: y :: r) pos) pe) Q E s := by
  have e : eval (.BoolOp .And (x :: y :: r) pos) pe = (do
    let v ← eval x pe
    standAt pos
    let t ← holding [v] (truthy v)
    match BoolOp.And, t with
    | .And, false | .Or, true => pure v
    | _, _ => eval (restOf .And y r pos) pe) := by cases r <;> rfl
  rw [e]
  refine wpAny_bind (wpAny_mono h (fun v s₁ h₁ => wpAny_bind (wpAny_standAt (wpAny_bind (wpAny_holding (wpAny_mono h₁ (fun t s₂ h₂ => ?_) fun _ _ x => x))))) fun _ _ x => x)
  cases t with
  | false => exact wpAny_pure h₂
  | true => exact h₂
theorem Or_rest {A : Around} {E : Value → Shared → Prop} {s : Shared} {pe : Env} {x y : Expr} {r : List Expr} {pos : Pos} {Q : Value → Shared → Prop} {M : Model}
    (h : wpAny M A (eval x pe) (fun v s₁ => wpAny M A (truthy v) (fun t s₂ => if t then Q v s₂ else wpAny M A (eval (restOf .Or y r pos) pe) Q E s₂) E s₁) E s) :
    wpAny M A (eval (.BoolOp .Or (x :: y :: r) pos) pe) Q E s := by
  have e : eval (.BoolOp .Or (x :: y :: r) pos) pe = (do
    let v ← eval x pe
    standAt pos
    let t ← holding [v] (truthy v)
    match BoolOp.Or, t with
    | .And, false | .Or, true => pure v
    | _, _ => eval (restOf .Or y r pos) pe) := by cases r <;> rfl
  rw [e]
  refine wpAny_bind (wpAny_mono h (fun v s₁ h₁ => wpAny_bind (wpAny_standAt (wpAny_bind (wpAny_holding (wpAny_mono h₁ (fun t s₂ h₂ => ?_) fun _ _ x => x))))) fun _ _ x => x)
  cases t with
  | false => exact h₂
  | true => exact wpAny_pure h₂
/-- the rest's test -/
theorem rest_test {A : Around} {E : Value → Shared → Prop} {s : Shared} {pe : Env} {y : Expr} {r : List Expr} {pos : Pos} {op : BoolOp} {Q : Bool → Shared → Prop} {M : Model}
    (h : wpAny M A (isTrue (restOf op y r pos) pe (eval (restOf op y r pos) pe)) Q E s) : wpAny M A (allTrue op (y :: r) pe) Q E s := by
  cases r with
  | nil =>
    cases op
    · refine wpAny_allTrue_And_cons (wpAny_mono h (fun b s₁ h₁ => ?_) fun _ _ z => z)
      cases b
      · exact h₁
      · exact wpAny_allTrue_And_nil h₁
    · refine wpAny_allTrue_Or_cons (wpAny_mono h (fun b s₁ h₁ => ?_) fun _ _ z => z)
      cases b
      · exact wpAny_allTrue_Or_nil h₁
      · exact h₁
  | cons z r => exact h

theorem snd_and {a b : X} (ha : Snd c n a) (hb : Snd c n b) : Snd c n (.and a b) := by
  refine Snd.ofT (fun _ => rfl) rfl fun M e hm => onBoolOp_inv hm fun op vs pos hm => ?_
  have : op = .And := by cases op <;> first | rfl | exact (Bool.false_ne_true (and2 hm).1).elim
  subst this
  refine onC_inv (P := fun vs => ST c n (.and a b) M (.BoolOp .And vs pos)) (and2 hm).2 fun x vs hm => onC_inv (P := fun vs => ST c n (.and a b) M (.BoolOp .And (x :: vs) pos)) hm fun y r hm => ?_
  have h1 := (and2 hm).1
  have h2 := (and2 hm).2
  refine ⟨fun {env σ Q A pe L ρ s} H h => ?_, fun {env σ Q A pe L ρ s} H h => ?_⟩
  · refine And_rest (Po.use (ha.ev h1 H h) fun v s₁ ρ₁ σ₁ da S P R h => ?_)
    rcases boolK_inv h with ⟨rfl, h⟩ | ⟨rfl, h⟩
    · cases R
      refine wpAny_truthy_bool ?_
      rw [if_pos rfl]
      exact wpAny_mono (hb.ev h2 (H.step S P) h) (fun v s z => Po.after P z) fun _ _ z => z
    · cases R
      refine wpAny_truthy_bool ?_
      rw [if_neg (by decide)]
      exact Po.after P (Po.val S (.bool _) h)
  · refine wpAny_isTrue_BoolOp (wpAny_allTrue_And_cons (Pb.use (ha.ts h1 H h) fun v s₁ ρ₁ σ₁ S P h => ?_))
    cases v
    · rw [if_neg (by decide)] at h ⊢
      exact ⟨ρ₁, σ₁, S, P, h⟩
    · rw [if_pos rfl] at h ⊢
      exact rest_test (wpAny_mono (hb.ts h2 (H.step S P) h) (fun v s z => Pb.after P z) fun _ _ z => z)

theorem snd_or {a b : X} (ha : Snd c n a) (hb : Snd c n b) : Snd c n (.or a b) := by
  refine Snd.ofT (fun _ => rfl) rfl fun M e hm => onBoolOp_inv hm fun op vs pos hm => ?_
  have : op = .Or := by cases op <;> first | rfl | exact (Bool.false_ne_true (and2 hm).1).elim
  subst this
  refine onC_inv (P := fun vs => ST c n (.or a b) M (.BoolOp .Or vs pos)) (and2 hm).2 fun x vs hm => onC_inv (P := fun vs => ST c n (.or a b) M (.BoolOp .Or (x :: vs) pos)) hm fun y r hm => ?_
  have h1 := (and2 hm).1
  have h2 := (and2 hm).2
  refine ⟨fun {env σ Q A pe L ρ s} H h => ?_, fun {env σ Q A pe L ρ s} H h => ?_⟩
  · refine Or_rest (Po.use (ha.ev h1 H h) fun v s₁ ρ₁ σ₁ da S P R h => ?_)
    rcases boolK_inv h with ⟨rfl, h⟩ | ⟨rfl, h⟩
    · cases R
      refine wpAny_truthy_bool ?_
      rw [if_pos rfl]
      exact Po.after P (Po.val S (.bool _) h)
    · cases R
      refine wpAny_truthy_bool ?_
      rw [if_neg (by decide)]
      exact wpAny_mono (hb.ev h2 (H.step S P) h) (fun v s z => Po.after P z) fun _ _ z => z
  · refine wpAny_isTrue_BoolOp (wpAny_allTrue_Or_cons (Pb.use (ha.ts h1 H h) fun v s₁ ρ₁ σ₁ S P h => ?_))
    cases v
    · rw [if_neg (by decide)] at h ⊢
      exact rest_test (wpAny_mono (hb.ts h2 (H.step S P) h) (fun v s z => Pb.after P z) fun _ _ z => z)
    · rw [if_pos rfl] at h ⊢
      exact ⟨ρ₁, σ₁, S, P, h⟩

theorem snd_not {a : X} (ha : Snd c n a) : Snd c n (.not a) := by
  refine Snd.ofT (fun _ => rfl) rfl fun M e hm => onUnaryOp_inv hm fun op x pos hm => ?_
  have : op = .Not := by cases op <;> first | rfl | exact (Bool.false_ne_true (and2 hm).1).elim
  subst this
  have hm := (and2 hm).2
  refine ⟨fun {env σ Q A pe L ρ s} H h => ?_, fun {env σ Q A pe L ρ s} H h => wpAny_isTrue_Not (wpAny_mono (ha.ts hm H h) (fun v s₁ ⟨ρ₁, σ₁, S, P, q⟩ => ⟨ρ₁, σ₁, S, P, q⟩) fun _ _ z => z)⟩
  refine wpAny_UnaryOp (Po.use (ha.ev hm H h) fun v s₁ ρ₁ σ₁ da S P R h => ?_)
  refine not_value (Pb.use (tru_sound S R h) fun b s₂ ρ₂ σ₂ S₂ P₂ h => ?_)
  exact Po.after (P.trans P₂) (Po.val S₂ (.bool _) h)

theorem snd_ife {t a b : X} (ht : Snd c n t) (ha : Snd c n a) (hb : Snd c n b) : Snd c n (.ife t a b) := by
  refine Snd.ofT (fun _ => rfl) rfl fun M e hm => onIfExp_inv hm fun t' x y pos hm => ⟨fun {env σ Q A pe L ρ s} H h => ?_, fun {env σ Q A pe L ρ s} H h => h.elim⟩
  · have h1 := (and2 hm).1
    have h2 := (and2 (and2 hm).2).1
    have h3 := (and2 (and2 hm).2).2
    refine wpAny_IfExp (Pb.use (ht.ts h1 H h) fun v s₁ ρ₁ σ₁ S P h => ?_)
    cases v
    · rw [if_neg (by decide)] at h ⊢
      exact wpAny_mono (hb.ev h3 (H.step S P) h) (fun v s z => Po.after P z) fun _ _ z => z
    · rw [if_pos rfl] at h ⊢
      exact wpAny_mono (ha.ev h2 (H.step S P) h) (fun v s z => Po.after P z) fun _ _ z => z
end
end
section
section
variable {c : Cx} {n : Nat}

theorem mt_star (M : Mx) (x : X) (a : Expr) (b : Pos) : (mt M x).e (.Starred a b) = false := by cases x <;> rfl

theorem starEach_cons {e : Expr} {r : List Expr} {env : Env} (h : ∀ a b, e ≠ .Starred a b) : starEach (e :: r) env = (false, eval e env) :: starEach r env := by
  cases e <;> first | rfl | exact absurd rfl (h _ _)
theorem not_star {M : Mx} {x : X} {e : Expr} (h : (mt M x).e e = true) : ∀ a b, e ≠ .Starred a b := by
  rintro a b rfl
  rw [mt_star] at h; cases h

theorem star_plain {M : Mx} {env : Env} {pos : Pos} (x : X) (es : List Expr) (h : (mt M x).l es = true) : (backTo pos (starEach es env)).any (·.1) = false := by
  induction x generalizing es with
  | nil =>
    cases es with
    | nil => rfl
    | cons _ _ => cases h
  | cons a xs _ ih =>
    cases es with
    | nil => cases h
    | cons e r =>
      rw [starEach_cons (not_star (and2 h).1)]
      exact ih r (and2 h).2
  | _ => exact (Bool.false_ne_true h).elim

theorem evalArgs_any {M : Model} {A : Around} {E : Value → Shared → Prop} {s : Shared} {f : Value} {args : List (Bool × Sem Value)} {Q : Args → Shared → Prop} (hp : args.any (·.1) = false)
    (h : wpAny M A (spliced args) (fun vs s' => Q ⟨vs, []⟩ s') E s) : wpAny M A (evalArgs f true args []) Q E s := by
  cases args with
  | nil =>
    unfold evalArgs
    show wpAny M A (spliced [] >>= _) Q E s
    refine wpAny_bind (wpAny_mono h (fun vs s' h' => ?_) fun _ _ x => x)
    refine wpAny_bind (wpAny_pure ?_)
    refine wpAny_holding ?_
    exact wpAny_bind (wpAny_pure (wpAny_bind (wpAny_pure (wpAny_pure h'))))
  | cons a r =>
    obtain ⟨b, t⟩ := a
    simp only [List.any_cons, Bool.or_eq_false_iff] at hp
    obtain ⟨rfl, _⟩ := hp
    exact evalArgs_plain h

theorem snd_nil : Snd c n .nil := by
  refine ⟨fun a => (by cases a), fun a => (by cases a), fun {M es env σ Q A pe L ρ s pos} a H h => ?_, fun a => (by cases a)⟩
  cases es with
  | nil => exact wpAny_items_nil ⟨ρ, σ, [], H.sat, Stp.refl _ _ _, .nil, h⟩
  | cons _ _ => cases a

theorem snd_cons {a xs : X} (ha : Snd c n a) (hx : Snd c n xs) : Snd c n (.cons a xs) := by
  refine ⟨fun a => (by cases a), fun a => (by cases a), fun {M es env σ Q A pe L ρ s pos} a H h => ?_, fun a => (by cases a)⟩
  cases es with
  | nil => cases a
  | cons e r =>
    obtain ⟨h1, h2⟩ := Bool.and_eq_true_iff.mp a
    refine wpAny_items_cons (Po.use (ha.ev h1 H h) fun v s₁ ρ₁ σ₁ d S P R h => ?_) (starEach_cons (not_star h1))
    refine Pl.use (hx.ls h2 (H.step S P) h) fun vs s₂ ρ₂ σ₂ ds S₂ P₂ R₂ h => ?_
    exact ⟨ρ₂, σ₂, d :: ds, S₂, P.trans P₂, .cons (R.stp P₂) R₂, h⟩

theorem snd_noX : Snd c n .noX := by
  refine ⟨fun a => (by cases a), fun a => (by cases a), fun a => (by cases a), fun {M oe env σ Q A pe L ρ s} a H h => ?_⟩
  cases oe with
  | none => exact wpAny_pure ⟨ρ, σ, none, H.sat, Stp.refl _ _ _, rfl, h⟩
  | some e => cases a

theorem snd_tup {xs : X} (hx : Snd c n xs) : Snd c n (.tup xs) := by
  refine Snd.of (fun _ => rfl) rfl fun M e hm => onTuple_inv hm fun es k pos hm => ⟨.inl fun _ _ => rfl, fun {env σ Q A pe L ρ s} H h => ?_⟩
  refine wpAny_Tuple (Pl.use (hx.ls hm H h) fun vs s₁ ρ₁ σ₁ ds S P R h => ?_)
  refine ⟨by rw [Reps.length R, sizeLine_eq]; omega, ?_⟩
  exact Po.after P (Po.newTup (t := s₁.toks) S R h.2)

theorem snd_lst {xs : X} (hx : Snd c n xs) : Snd c n (.lst xs) := by
  refine Snd.of (fun _ => rfl) rfl fun M e hm => onList_inv hm fun es pos hm => ⟨.inl fun _ _ => rfl, fun {env σ Q A pe L ρ s} H h => ?_⟩
  refine wpAny_List (Pl.use (hx.ls hm H h) fun vs s₁ ρ₁ σ₁ ds S P R h => ?_)
  refine ⟨by rw [Reps.length R, sizeLine_eq]; omega, ?_⟩
  exact Po.after P (Po.newList (t := s₁.toks) S R h.1 h.2)

theorem snd_idx {o i : X} (ho : Snd c n o) (hi : Snd c n i) : Snd c n (.idx o i) := by
  refine Snd.of (fun _ => rfl) rfl fun M e hm => onSubscript_inv hm fun v sl pos hm => ⟨.inl fun _ _ => rfl, fun {env σ Q A pe L ρ s} H h => ?_⟩
  have h1 := (and2 hm).1
  have h2 := (and2 (and2 hm).2).1
  have h3 := nt (and2 (and2 hm).2).2
  refine Subscript_ (Po.use (ho.ev h1 H h) fun v s₁ ρ₁ σ₁ d S P R h => ?_)
  refine Po.use (hi.ev h2 (H.step S P) h) fun v s₂ ρ₂ σ₂ d₂ S₂ P₂ R₂ h => ?_
  exact wpAny_mono (idx_sound S₂ (R.stp P₂) R₂ h h3) (fun v s z => Po.after (P.trans P₂) z) fun _ _ z => z

theorem snd_sl {o lo hi : X} (ho : Snd c n o) (hl : Snd c n lo) (hh : Snd c n hi) : Snd c n (.sl o lo hi) := by
  refine Snd.of (fun _ => rfl) rfl fun M e hm => onSubscript_inv hm fun v sl pos hm => onSlice_inv (P := fun sl => SE c n (.sl o lo hi) _ M (.Subscript v sl pos)) hm fun l' h' st p' hm => ?_
  have m2 := (and2 hm).2
  have h1 := (and2 m2).1
  have h2 := (and2 (and2 m2).2).1
  have h3 := (and2 (and2 m2).2).2
  have e0 : st = none := Option.isNone_iff_eq_none.mp (and2 hm).1
  subst e0
  refine ⟨.inl fun _ _ => rfl, fun {env σ Q A pe L ρ s} H h => ?_⟩
  refine Subscript_ (Po.use (ho.ev h1 H h) fun v s₁ ρ₁ σ₁ d S P R h => ?_)
  refine wpAny_Slice (Pp.use (hl.op h2 (H.step S P) h) fun v₁ s₂ ρ₂ σ₂ l S₂ P₂ e₂ h => ?_)
  refine Pp.use (hh.op h3 ((H.step S P).step S₂ P₂) h) fun v₂ s₃ ρ₃ σ₃ u S₃ P₃ e₃ h => ?_
  rw [evalPart_none]
  refine wpAny_pure ?_
  have R3 := (R.stp P₂).stp P₃
  exact onStr_use (R := fun v => wpAny (model c.prog c.w) A (subscriptTail _ _ v _) (Po c ρ s.heap Q) No _) R3 h fun t tk h => wpAny_mono (slice_sound S₃ e₂ e₃ h.1 h.2) (fun v s z => Po.after ((P.trans P₂).trans P₃) z) fun _ _ z => z

theorem slice_take (vs : List Value) (k : Nat) : slicePick vs.toArray none (some (k : Int)) none = (vs.take k).toArray := by
  have e : sliceBounds none (some (k : Int)) none vs.toArray.size = (((0 : Nat) : Int), ((min k vs.toArray.size : Nat) : Int), 1) := by
    simp only [sliceBounds, Option.getD_none, show (1 : Int) > 0 by decide, if_true, if_neg (show ¬ ((k : Int) < 0) by omega)]
    congr 1
    congr 1
    omega
  rw [kmk_pick_nat _ e]
  show ((vs.drop 0).take (min k vs.toArray.size - 0)).toArray = _
  rw [List.drop_zero, Nat.sub_zero, List.size_toArray, kmk_take_min]

theorem snd_slc {o : X} (k : Nat) (ho : Snd c n o) : Snd c n (.slc o k) := by
  refine Snd.of (fun _ => rfl) rfl fun M e hm => onSubscript_inv hm fun v sl pos hm => onSlice_inv (P := fun sl => SE c n (.slc o k) _ M (.Subscript v sl pos)) hm fun l' h' st p' hm => ?_
  have m2 := (and2 hm).2
  have m3 := (and2 m2).2
  have h1 := (and2 m3).1
  have e0 : l' = none := Option.isNone_iff_eq_none.mp (and2 hm).1
  have e1 : st = none := Option.isNone_iff_eq_none.mp (and2 m2).1
  subst e0; subst e1
  refine onO_inv (P := fun h' => SE c n (.slc o k) _ M (.Subscript v (.Slice none h' none p') pos)) (and2 m3).2 fun hx h2 => ⟨.inl fun _ _ => rfl, fun {env σ Q A pe L ρ s} H h => ?_⟩
  refine Subscript_ (Po.use (ho.ev h1 H h) fun v s₁ ρ₁ σ₁ d S P R h => ?_)
  refine wpAny_Slice ?_
  rw [evalPart_none]
  refine wpAny_pure ?_
  rw [evalPart_some]
  refine Po.use ((snd_int (k : Int)).ev (Q := fun d σ' => d = .int k ∧ σ' = σ₁) h2 (H.step S P) ⟨rfl, rfl⟩) fun v₂ s₂ ρ₂ σ₂ d₂ S₂ P₂ R₂ qq => ?_
  have e1 := qq.1
  have e2 := qq.2
  subst e1; subst e2
  refine wpAny_pure ?_
  cases d <;> first | exact h.elim | skip
  rename_i ds
  have R' := R.stp P₂
  cases R' with | clist hl RR =>
    rename_i a vs
    cases R₂ with | int _ t =>
      obtain ⟨ob, g, hc, ne, hd⟩ := hl
      have g2 := S₂.base _ _ g
      have hlen := Reps.length RR
      have S' : Sat c ρ₂ σ₂ { s₂ with heap := s₂.heap.push { cls := .type "slice", data := .fields #[.none, .int k t, .none] } } := S₂.push _
      have P' := Stp.push ρ₂ [] s₂.heap { cls := .type "slice", data := .fields #[.none, .int k t, .none] }
      refine tail_any (ops := [.ref s₂.heap.objs.size, .ref a]) (⟨_, Heap.get?_push_of_some _ g2, hc⟩) slot_list_getitem.lookup ?_ rfl
      refine wpAny_getItem_list_slice (lo := none) (hi := some (k : Int)) (st := none) (items := vs.toArray) ⟨_, Heap.get?_push_of_some _ g2, hc, _, hd⟩ ⟨_, Heap.get?_push_size _ rfl, rfl, rfl⟩ ?_ ?_ ?_ (by simp) ?_ ?_
      · exact .none
      · exact .int _ _
      · exact .none
      · rw [slice_take]
        have := Po.newList (t := s₂.toks) S' (Reps.take k (RR.stp P')) (by simp; omega) h.2
        exact Po.after ((P.trans P₂).trans P') this
      · rw [List.size_toArray, hlen, sizeLine_eq]; omega

theorem base_plain {o : Expr} {name : Str} {env : Env} {t : Sem Value} (h : isCall o = false) : attributeBase o name env t = t := by
  cases o <;> first | rfl | exact (Bool.false_ne_true h.symm).elim
theorem snd_attr {C : Addr} {x : Str} {o : X} (ho : Snd c n o) : Snd c n (.attr C x o) := by
  refine Snd.of (fun _ => rfl) rfl fun M e hm => onAttribute_inv hm fun v nm pos hm => ⟨.inl fun _ _ => rfl, fun {env σ Q A pe L ρ s} H h => ?_⟩
  have e0 := eq_of_beq (and2 hm).1
  have m2 := (and2 hm).2
  have h0 := nt (and2 m2).1
  have m3 := (and2 m2).2
  have h1 := (and2 m3).1
  have h2 := (and2 (and2 m3).2).1
  have h3 := (and2 (and2 m3).2).2
  subst e0
  rw [H.pe.K] at h1 h2
  refine Attribute_any_ (Po.use (ho.ev h3 H h) fun v s₁ ρ₁ σ₁ d S P R h => ?_) (by rw [arm_eval_Attribute, base_plain h0])
  exact wpAny_mono (attr_sound S R h h1 h2) (fun v s z => Po.after P z) fun _ _ z => z

theorem args_of {xs : X} (hx : Snd c n xs) {M es env σ Q A pe L ρ s pos} {f : Value} (hm : (mt M xs).l es = true) (H : Hp c n M pe L A ρ σ s env) (h : (wp (CallT c n) xs).l env σ Q) :
    wpAny (model c.prog c.w) A (evalArgs f true (backTo pos (starEach es pe)) []) (fun a s' => a.kw = [] ∧ Pl c ρ s.heap Q a.pos s') No s :=
  evalArgs_any (star_plain xs es hm) (wpAny_mono (hx.ls hm H h) (fun vs s' z => ⟨rfl, z⟩) fun _ _ z => z)

theorem args_use {M : Model} {t : Sem Args} {A : Around} {ρ : Pm} {s : Shared} {h : Heap} {Q : List V → Store → Prop} {Q' : Args → Shared → Prop} {E : Value → Shared → Prop} (x : wpAny M A t (fun a s' => a.kw = [] ∧ Pl c ρ h Q a.pos s') No s)
    (k : ∀ a s₁, a.kw = [] → ∀ ρ₁ σ₁ d, Sat c ρ₁ σ₁ s₁ → Stp ρ [] h ρ₁ s₁.heap → c.Reps s₁.heap ρ₁ d a.pos → Q d σ₁ → Q' a s₁) : wpAny M A t Q' E s := wpAny_mono x (fun _ _ ⟨e, _, _, _, S, P, R, q⟩ => k _ _ e _ _ _ S P R q) fun _ _ z => z.elim

theorem snd_call {xs : X} (k : Nat) (f : Addr) (hx : Snd c n xs) : Snd c n (.call k f xs) := by
  refine Snd.of (fun _ => rfl) rfl fun M e hm => onCall_inv hm fun g es kw pos hm => ?_
  have e0 : kw = [] := List.isEmpty_iff.mp (and2 hm).1
  subst e0
  refine onName_inv (P := fun g => SE c n (.call k f xs) _ M (.Call g es [] pos)) (and2 hm).2 fun id ip hm => ⟨.inl fun _ _ => rfl, fun {env σ Q A pe L ρ s} H h => ?_⟩
  have h1 := eq_of_beq (and2 hm).1
  have h2 := (and2 (and2 hm).2).1
  have h3 := (and2 (and2 hm).2).2
  obtain ⟨g1, g2⟩ := Mx.at_spec H.pe h1
  rw [H.pe.K] at h2
  refine Call_ (name_glb H g1 g2 ?_)
  refine callWith_of (P := fun h => c.K.In h) (by rw [star_plain xs _ h3]; rfl) (keeps_K h2) ?_
  refine args_use (args_of hx h3 H h) fun a s₁ ek ρ₁ σ₁ ds S P R h => ?_
  refine ⟨c.X.keeps S.base, ?_⟩
  rw [ek, List.nil_append]
  exact wpAny_mono (CallT.use h H.br.ar S R) (fun v s z => Po.after P z) fun _ _ z => z

theorem bi_boot (b : Bi) : bootBuiltins b.id = some b.val := by cases b <;> decide +kernel
theorem bi_ne (b : Bi) : b.id ≠ "__name__" := by cases b <;> decide +kernel
theorem bi_keeps {M : Model} (b : Bi) (h : Heap) : ∃ k, (k = Keeper.frame ∨ k = Keeper.machine ∨ k = Keeper.boundFrame) ∧ Looks M h (keeperOf b.val) k :=
  ⟨.machine, .inr (.inl rfl), Looks.of_pure (by cases b <;> rfl)⟩
theorem mt_keeps {M : Model} (b : Mt) (h : Heap) : ∃ k, (k = Keeper.frame ∨ k = Keeper.machine ∨ k = Keeper.boundFrame) ∧ Looks M h (keeperOf b.val) k :=
  ⟨.machine, .inr (.inl rfl), Looks.of_pure (by cases b <;> rfl)⟩

theorem snd_bi {xs : X} (b : Bi) (hx : Snd c n xs) : Snd c n (.bi b xs) := by
  refine Snd.of (fun _ => rfl) rfl fun M e hm => onCall_inv hm fun g es kw pos hm => ?_
  have e0 : kw = [] := List.isEmpty_iff.mp (and2 hm).1
  subst e0
  refine onName_inv (P := fun g => SE c n (.bi b xs) _ M (.Call g es [] pos)) (and2 hm).2 fun id ip hm => ⟨.inl fun _ _ => rfl, fun {env σ Q A pe L ρ s} H h => ?_⟩
  have h1 := (and2 hm).1
  have m2 := (and2 hm).2
  have e1 := eq_of_beq (and2 m2).1
  have h2 := eq_of_beq (and2 (and2 m2).2).1
  have h3 := (and2 (and2 m2).2).2
  subst e1
  rw [H.pe.K] at h2
  refine Call_ (name_blt H h1 h2 (bi_boot b) (bi_ne b) ?_)
  refine callWith_of (P := fun h => True) (by rw [star_plain xs _ h3]; rfl) (fun h _ => bi_keeps b h) ?_
  refine args_use (args_of hx h3 H h) fun a s₁ ek ρ₁ σ₁ ds S P R h => ?_
  refine ⟨trivial, ?_⟩
  rw [ek, List.nil_append]
  exact wpAny_mono (bi_sound S R h) (fun v s z => Po.after P z) fun _ _ z => z

/-- a method's call, the method first -/
theorem Call_meth {M : Model} {A : Around} {E : Value → Shared → Prop} {s : Shared} {env : Env} {o : Expr} {name : Str} {apos pos : Pos} {args : List Expr} {Q : Value → Shared → Prop} (h0 : isCall o = false)
    (hline : (apos.endLine == pos.line) = true) (hp : (backTo pos (starEach args env)).any (·.1) = false) (hn : args.length < 29)
    (h : wpAny M A (eval o env) (fun ov s₁ => ∀ pl, wpAny M A (getMethod ov name pl) (fun p s₂ => wpAny M A (callWith pos p.1 p.2 (backTo pos (starEach args env)) []) Q E s₂) E s₁) E s) :
    wpAny M A (eval (.Call (.Attribute o name apos) args [] pos) env) Q E s := by
  have hbase : attributeBase o name env (eval o env) = eval o env := base_plain h0
  rw [arm_eval_Call, hbase]
  refine wpAny_bind (wpAny_mono h (fun ov s₁ h₁ => ?_) fun _ _ e => e)
  refine wpAny_bind (wpAny_standAt ?_)
  have hform : methodCallForm (args.length + ([] : List Keyword).length) (backTo pos (starEach args env)) (backToKw pos (keywordEach [] env)) = true := by
    have e1 : (backTo pos (starEach args env)).all (fun x => !x.1) = true := by
      rw [List.all_eq_not_any_not]; simp only [Bool.not_not]; rw [hp]; rfl
    show ((backTo pos (starEach args env)).all (fun x => !x.1) && true && decide (args.length + 0 + 0 < 30)) = true
    rw [e1, decide_eq_true (Nat.lt_succ_of_lt hn : args.length + 0 + 0 < 30)]
    rfl
  have hpos : methodCallPos true o env apos pos = pure pos := if_pos (by rw [hline]; rfl)
  unfold methodCall calleeOf
  rw [hform]
  refine wpAny_bind (wpAny_holding (wpAny_mono (h₁ _) (fun p s₂ h₂ => ?_) fun _ _ e => e))
  obtain ⟨f, first⟩ := p
  exact wpAny_bind (wpAny_of_eq hpos h₂)

noncomputable def Mt.ty : Mt → String
  | .find => "str" | .join => "str" | .append => "list" | .pop => "list"
theorem meth_get {m : Mt} {M : Model} {A : Around} {E : Value → Shared → Prop} {s : Shared} {v : Value} {pl : Sem Bool} {Q : Value × List Value → Shared → Prop} (hT : s.TypeIs v m.ty)
    (hd : ∀ a, v = .ref a → ∃ o, s.heap.get? a = some o ∧ o.dict = none) (h : Q (m.val, [v]) s) : wpAny M A (getMethod v m.id pl) Q E s := by
  cases m
  · exact getMethod_builtin hT F.plainAttrs_str F.slot_str_find F.type_str_find hd h
  · exact getMethod_builtin hT F.plainAttrs_str F.slot_str_join F.type_str_join hd h
  · exact getMethod_builtin hT F.plainAttrs_list F.slot_list_append F.type_list_append hd h
  · exact getMethod_builtin hT F.plainAttrs_list F.slot_list_pop F.type_list_pop hd h

theorem meth_obj {m : Mt} {o : V} {v : Value} {ρ : Pm} {σ : Store} {s : Shared} (S : Sat c ρ σ s) (R : c.Rep s.heap ρ o v) (h : mthO m o σ) : s.TypeIs v m.ty ∧ ∀ a, v = .ref a → ∃ o, s.heap.get? a = some o ∧ o.dict = none := by
  cases m
  · exact onStr_use (R := fun v => s.TypeIs v (Mt.find).ty ∧ ∀ a, v = .ref a → ∃ o, s.heap.get? a = some o ∧ o.dict = none) R h fun x t _ => ⟨typeIs_str _ _ _, fun _ e => nomatch e⟩
  · exact onStr_use (R := fun v => s.TypeIs v (Mt.join).ty ∧ ∀ a, v = .ref a → ∃ o, s.heap.get? a = some o ∧ o.dict = none) R h fun x t _ => ⟨typeIs_str _ _ _, fun _ e => nomatch e⟩
  · refine onObj_use (R := fun v => s.TypeIs v (Mt.append).ty ∧ ∀ a, v = .ref a → ∃ o, s.heap.get? a = some o ∧ o.dict = none) R h fun i x R h => onLst_use h fun ds e _ => ?_
    refine S.list_ e R fun a vs n hq g rr hl => ?_
    exact ⟨⟨_, g, rfl⟩, fun b e => by cases e; exact ⟨_, g, rfl⟩⟩
  · refine onObj_use (R := fun v => s.TypeIs v (Mt.pop).ty ∧ ∀ a, v = .ref a → ∃ o, s.heap.get? a = some o ∧ o.dict = none) R h fun i x R h => onLst_use h fun ds e _ => ?_
    refine S.list_ e R fun a vs n hq g rr hl => ?_
    exact ⟨⟨_, g, rfl⟩, fun b e => by cases e; exact ⟨_, g, rfl⟩⟩

theorem snd_mth {o xs : X} (m : Mt) (ho : Snd c n o) (hx : Snd c n xs) : Snd c n (.mth m o xs) := by
  refine Snd.of (fun _ => rfl) rfl fun M e hm => onCall_inv hm fun g es kw pos hm => ?_
  have e0 : kw = [] := List.isEmpty_iff.mp (and2 hm).1
  subst e0
  refine onAttribute_inv (P := fun g => SE c n (.mth m o xs) _ M (.Call g es [] pos)) (and2 hm).2 fun v nm' ap hm => ⟨.inl fun _ _ => rfl, fun {env σ Q A pe L ρ s} H h => ?_⟩
  have e0 := eq_of_beq (and2 hm).1
  have m2 := (and2 hm).2
  have h1 := eq_of_beq (and2 m2).1
  have m3 := (and2 m2).2
  have h2 := of_decide_eq_true (and2 m3).1
  have m4 := (and2 m3).2
  have h3 := nt (and2 m4).1
  have h4 := (and2 (and2 m4).2).1
  have h5 := (and2 (and2 m4).2).2
  subst e0
  have hp := fun env pos => star_plain (env := env) (pos := pos) xs _ h5
  refine Call_meth h3 (by rw [h1]; exact beq_self_eq_true _) (hp _ _) h2 (wpAny_mono (ho.ev h4 H h) (fun v s₁ h₁ => ?_) fun _ _ z => z)
  intro pl
  obtain ⟨ρ₁, σ₁, d, S, P, R, h0, h⟩ := h₁
  obtain ⟨t1, t2⟩ := meth_obj S R h0
  refine meth_get t1 t2 ?_
  refine callWith_of (P := fun h => True) (by rw [hp]; rfl) (fun h _ => mt_keeps m h) ?_
  refine args_use (args_of hx h5 (H.step S P) h) fun a s₂ ek ρ₂ σ₂ ds S₂ P₂ R₂ h => ?_
  refine ⟨trivial, ?_⟩
  rw [ek]
  exact wpAny_mono (mth_sound S₂ (R.stp P₂) R₂ h) (fun v s z => Po.after (P.trans P₂) z) fun _ _ z => z

theorem snd_ucall {o xs : X} (C f : Addr) (nm : Str) (ho : Snd c n o) (hx : Snd c n xs) : Snd c n (.ucall C f nm o xs) := by
  refine Snd.of (fun _ => rfl) rfl fun M e hm => onCall_inv hm fun g es kw pos hm => ?_
  have e0 : kw = [] := List.isEmpty_iff.mp (and2 hm).1
  subst e0
  refine onAttribute_inv (P := fun g => SE c n (.ucall C f nm o xs) _ M (.Call g es [] pos)) (and2 hm).2 fun v nm' ap hm => ⟨.inl fun _ _ => rfl, fun {env σ Q A pe L ρ s} H h => ?_⟩
  have e0 := eq_of_beq (and2 hm).1
  have m2 := (and2 hm).2
  have h1 := eq_of_beq (and2 m2).1
  have m3 := (and2 m2).2
  have h2 := of_decide_eq_true (and2 m3).1
  have m4 := (and2 m3).2
  have h3 := nt (and2 m4).1
  have m5 := (and2 m4).2
  have k1 := (and2 m5).1
  have m6 := (and2 m5).2
  have k2 := (and2 m6).1
  have m7 := (and2 m6).2
  have k3 := (and2 m7).1
  have h4 := (and2 (and2 m7).2).1
  have h5 := (and2 (and2 m7).2).2
  subst e0
  rw [H.pe.K] at k1 k2 k3
  have hp := fun env pos => star_plain (env := env) (pos := pos) xs _ h5
  refine Call_meth h3 (by rw [h1]; exact beq_self_eq_true _) (hp _ _) h2 (Po.use (ho.ev h4 H h) fun v s₁ ρ₁ σ₁ d S P R qq pl => ?_)
  have H1 := H.step S P
  have X1 := c.X.keeps S.base
  have a1 := plainGet_of (and2 k1).1
  refine (onObj_eq qq.1).elim fun i z => onInsC_use z.2 fun fs e hh0 => ?_
  rw [z.1] at R
  refine S.inst_ e R fun r es m hr g1 g2 E hl => ?_
  have E0 := E.get nm
  rw [hh0] at E0
  refine method_fn X1 (instAt g1 g2) a1.1 a1.2 (eq_of_beq (and2 k2).1) (eq_of_beq (and2 k2).2) (congrArg (Option.map _) E0) ?_
  refine callWith_of (P := fun h => c.K.In h) (by rw [hp]; rfl) (keeps_K k3) ?_
  refine args_use (args_of hx h5 H1 qq.2) fun a s₂ ek ρ₂ σ₂ ds S₂ P₂ R₂ h => ⟨c.X.keeps S₂.base, ?_⟩
  rw [ek]
  rw [z.1] at h
  exact wpAny_mono (CallT.use h H.br.ar S₂ (.cons (.stp (.obj hr) P₂) R₂)) (fun v s z => Po.after (P.trans P₂) z) fun _ _ z => z

theorem snd_new {xs : X} (k : Nat) (C f : Addr) (hx : Snd c n xs) : Snd c n (.new k C f xs) := by
  refine Snd.of (fun _ => rfl) rfl fun M e hm => onCall_inv hm fun g es kw pos hm => ?_
  have e0 : kw = [] := List.isEmpty_iff.mp (and2 hm).1
  subst e0
  refine onName_inv (P := fun g => SE c n (.new k C f xs) _ M (.Call g es [] pos)) (and2 hm).2 fun id ip hm => ⟨.inl fun _ _ => rfl, fun {env σ Q A pe L ρ s} H h => ?_⟩
  have h1 := eq_of_beq (and2 hm).1
  have m2 := (and2 hm).2
  have h2 := (and2 m2).1
  have h3 := (and2 (and2 m2).2).1
  have h4 := (and2 (and2 m2).2).2
  obtain ⟨g1, g2⟩ := Mx.at_spec H.pe h1
  rw [H.pe.K] at h2 h3
  unfold newOk at h2
  simp only [Bool.and_eq_true, beq_iff_eq] at h2
  obtain ⟨⟨n1, n2⟩, n3⟩ := h2
  refine Call_ (name_glb H g1 g2 ?_)
  refine callWith_of (P := fun h => c.K.In h) (by rw [star_plain xs _ h4]; rfl) (keeps_K h3) ?_
  refine args_use (args_of hx h4 H h) fun a s₁ ek ρ₁ σ₁ ds S P R h => ?_
  have X1 := c.X.keeps S.base
  refine ⟨X1, ?_⟩
  rw [ek, List.nil_append]
  refine wpAny_call ?_
  obtain ⟨hh, gg, dd, tt, oo⟩ := s₁
  refine make_core (makes_of X1 n1) (looks_findIn X1 n2) (fun self => bind_fn X1 self (beq_iff_eq.mp n3)) (.inl rfl) ?_
  have kk : ∀ b o, hh.get? b = some o → ((hh.push emptyDict).push (instObj C hh.objs.size)).get? b = some o := fun b o e => Heap.get?_push_of_some _ (Heap.get?_push_of_some _ e)
  have gx : ((hh.push emptyDict).push (instObj C hh.objs.size)).get? (hh.objs.size + 1) = some (instObj C hh.objs.size) := by heap_get
  have gd : ((hh.push emptyDict).push (instObj C hh.objs.size)).get? hh.objs.size = some (dictOf [] 0) := by
    refine Heap.get?_push_of_some _ (Heap.get?_push_size _ rfl)
  have G := S.grow (s' := ⟨(hh.push emptyDict).push (instObj C hh.objs.size), gg, dd, tt, oo⟩) (a := hh.objs.size + 1) (b := hh.objs.size) (cl := .inst C []) kk (Heap.get?_none_of_le (Nat.le_refl _))
    ⟨gx, [], 0, gd, .nil, by simp⟩ rfl rfl
  have Z := h (A.under (.builtin "type.__call__" ⟨.ref C :: a.pos, []⟩)) _ _ (.ref (hh.objs.size + 1) :: a.pos) ⟨H.br.ar.handled, ?_, ?_⟩ G.1
    (.cons (.obj (r := (hh.objs.size + 1, hh.objs.size)) (by rw [← S.len, List.getElem?_append_right (Nat.le_refl _), Nat.sub_self]; rfl)) (R.stp G.2))
  · refine codeAny_mono Z fun r s' z => ?_
    rcases r with e | (v | _ | _ | _) <;> first | exact z.elim | skip
    obtain ⟨ρ₂, σ₂, d, S₂, P₂, R₂, e, q⟩ := z
    subst e
    cases R₂
    refine ⟨rfl, ρ₂, σ₂, _, S₂, (P.trans G.2).trans P₂, .obj (r := (hh.objs.size + 1, hh.objs.size)) ?_, q⟩
    obtain ⟨δ, rfl⟩ := P₂.ext
    rw [List.append_assoc, ← S.len, List.getElem?_append_right (Nat.le_refl _), Nat.sub_self]
    rfl
  · have := H.br.depth
    show A.depth + 1 + _ ≤ _
    lia
  · have := H.br.units
    show A.units + 1 + _ ≤ _
    lia
end
end
section
section
variable {c : Cx} {n : Nat} {ρ : Pm} {σ : Store} {s : Shared}

/-- an address of the walk's own, none of the cells -/
structure Own (c : Cx) (ρ : Pm) (h : Heap) (a : Addr) : Prop where
  new : c.hb.get? a = none
  nin : a ∉ ρ.map (·.2)
  live : ∃ o, h.get? a = some o ∧ ¬ Imm o

theorem Own.stp {ρ' : Pm} {x : List Addr} {h h' : Heap} {a : Addr} (O : Own c ρ h a) (P : Stp ρ x h ρ' h') (hx : a ∉ x) : Own c ρ' h' a :=
  let ⟨o, e, i⟩ := O.live
  ⟨O.new, P.not e O.nin hx, o, P.keep _ _ e O.nin hx, i⟩

theorem touch {I : Addr} {h' : Heap} {t : Nat} (S : Sat c ρ σ s) (O : Own c ρ s.heap I) (sb : Heap.ExtBut I s.heap h') :
    Sat c ρ σ { s with heap := h', toks := t } ∧ Stp ρ [I] s.heap ρ h' := by
  obtain ⟨o, e, i⟩ := O.live
  have k : ∀ b o, s.heap.get? b = some o → b ∉ [I] → h'.get? b = some o := fun b o e n => sb b o (by simpa using n) e
  have im : ∀ b o, s.heap.get? b = some o → Imm o → h'.get? b = some o := fun b o' e' z => by
    by_cases q : b = I
    · subst q; rw [e] at e'; cases e'; exact (i z).elim
    · exact sb b o' q e'
  refine ⟨S.keepsBut k im (fun b hb => ?_) rfl rfl, ⟨[], by simp, fun _ hr => nomatch hr⟩, fun b o e _ n => k b o e n, im⟩
  simp only [List.mem_singleton] at hb
  subst hb
  exact ⟨O.new, O.nin⟩

theorem ns_notImm {h : Heap} {L : Addr} {m : Str → Option Value} (N : h.Ns L m) : ∃ o, h.get? L = some o ∧ ¬ Imm o := by
  obtain ⟨o, es, ep, ho, hd, _⟩ := N
  refine ⟨o, ho, ?_⟩
  rintro (⟨_, xs, n, q⟩ | q)
  · rw [hd] at q; cases q
  · rw [hd] at q; cases q

theorem Fm.own {h : Heap} {L : Addr} {names : List Str} {env : Lo} (F : Fm c h ρ L names env) : Own c ρ h L :=
  let ⟨_, N, _⟩ := F.ns
  ⟨F.new, F.nin, ns_notImm N⟩

/-- after a store -/
theorem Fm.set {h h' : Heap} {L : Addr} {names : List Str} {env : Lo} {m : Str → Option Value} {i : Nat} {id : Str} {d : V} {v : Value} (hnd : names.Nodup) (hi : names[i]? = some id)
    (hm : ∀ (i : Nat) (d : V), env[i]? = some (some d) → ∃ x v, names[i]? = some x ∧ m x = some v ∧ c.Rep h ρ d v) (N : h'.Ns L fun x => if x = id then some v else m x)
    (n1 : L ∉ ρ.map (·.2)) (n2 : c.hb.get? L = none) (mono : ∀ d v, c.Rep h ρ d v → c.Rep h' ρ d v) (R : c.Rep h ρ d v) : Fm c h' ρ L names (env.set i (some d)) := by
  refine ⟨⟨_, N, fun j e hj => ?_⟩, n1, n2⟩
  by_cases q : j = i
  · subst q
    have hl : j < env.length := by
      by_cases z : j < env.length
      · exact z
      · rw [List.getElem?_eq_none (by rw [List.length_set]; lia)] at hj; cases hj
    rw [List.getElem?_set_self hl] at hj
    cases hj
    exact ⟨id, v, hi, by simp, mono _ _ R⟩
  · rw [List.getElem?_set_ne (Ne.symm q)] at hj
    obtain ⟨x, w, a, b, r⟩ := hm j e hj
    refine ⟨x, w, a, ?_, mono _ _ r⟩
    have : x ≠ id := fun e => by
      subst e
      exact q ((List.getElem?_inj (List.getElem?_eq_some_iff.mp a).1 hnd).mp (a.trans hi.symm))
    simp [this, b]

theorem store_sound {M : Mx} {env : Lo} {A : Around} {pe : Env} {L : Addr} {i : Nat} {id : Str} {d : V} {v : Value} {Q : Unit → Shared → Prop} {E : Value → Shared → Prop} {Mo : Model} (H : Hp c n M pe L A ρ σ s env) (hi : M.isLoc i id = true) (R : c.Rep s.heap ρ d v)
    (h : ∀ s', Hp c n M pe L A ρ σ s' (lset env i (some d)) → Stp ρ [L] s.heap ρ s'.heap → Q () s') : wpAny Mo A (storeName pe id v) Q E s := by
  rw [lset_eq] at h
  unfold Mx.isLoc at hi
  simp only [Bool.and_eq_true, beq_iff_eq, Bool.not_eq_true', beq_eq_false_iff_ne] at hi
  obtain ⟨⟨h1, h2⟩, h3⟩ := hi
  obtain ⟨⟨m, N, hm⟩, nin, new⟩ := H.fm
  have O := H.fm.own
  refine wpAny_storeName_local (m := m) (by unfold Env.kindOf; rw [H.pe.scope]; exact h2) (by rw [H.pe.loc]; exact N) (fun h' N' sb => ?_) (by rw [H.pe.scope, H.pe.kind]; rfl)
  rw [H.pe.loc] at sb N'
  obtain ⟨S', P'⟩ := touch (t := s.toks + 1) H.sat O sb.extBut
  exact h _ ⟨H.pe, H.br, S', Fm.set H.pe.nd h1 hm N' nin new (fun d v r => r.stp P') R⟩ P'

/-- the flow -/
inductive FlR (c : Cx) (h : Heap) (ρ : Pm) : Flow → Fl → Prop
  | next : FlR c h ρ .next .next
  | brk : FlR c h ρ .brk .brk
  | ret {v : Value} {d : V} : c.Rep h ρ d v → FlR c h ρ (.ret v) (.ret d)

@[elab_as_elim] theorem FlR.use {c : Cx} {h : Heap} {ρ : Pm} {f : Flow} {fl : Fl} {G : Flow → Fl → Prop} (R : FlR c h ρ f fl) (a : G .next .next) (b : G .brk .brk) (d : ∀ v w, c.Rep h ρ w v → G (.ret v) (.ret w)) : G f fl :=
  FlR.casesOn (motive := fun f fl _ => G f fl) R a b fun r => d _ _ r
/-- after statements -/
inductive Ps (c : Cx) (n : Nat) (M : Mx) (pe : Env) (L : Addr) (A : Around) (ρ : Pm) (h : Heap) (Q : Fl → Lo → Store → Prop) (f : Flow) (s' : Shared) : Prop
  | mk (ρ' : Pm) (σ' : Store) (env' : Lo) (fl : Fl) (H : Hp c n M pe L A ρ' σ' s' env') (P : Stp ρ [L] h ρ' s'.heap) (F : FlR c s'.heap ρ' f fl) (q : Q fl env' σ') : Ps c n M pe L A ρ h Q f s'
theorem Ps.use {M' : Model} {t : Sem Flow} {h : Heap} {M : Mx} {pe : Env} {L : Addr} {A : Around} {Q : Fl → Lo → Store → Prop} {Q' : Flow → Shared → Prop} {E : Value → Shared → Prop} (x : wpAny M' A t (Ps c n M pe L A ρ h Q) No s)
    (k : ∀ v s₁ ρ₁ σ₁ env₁ fl, Hp c n M pe L A ρ₁ σ₁ s₁ env₁ → Stp ρ [L] h ρ₁ s₁.heap → FlR c s₁.heap ρ₁ v fl → Q fl env₁ σ₁ → Q' v s₁) : wpAny M' A t Q' E s := wpAny_mono x (fun _ _ ⟨_, _, _, _, S, P, R, q⟩ => k _ _ _ _ _ _ S P R q) fun _ _ z => z.elim
theorem Ps.after {M : Mx} {pe : Env} {L : Addr} {A : Around} {ρ₁ : Pm} {h h₁ : Heap} {Q : Fl → Lo → Store → Prop} {f : Flow} (p : Stp ρ [L] h ρ₁ h₁) (x : Ps c n M pe L A ρ₁ h₁ Q f s) : Ps c n M pe L A ρ h Q f s :=
  let ⟨ρ', σ', e, fl, S, q, r, z⟩ := x
  ⟨ρ', σ', e, fl, S, p.trans q, r, z⟩

structure SndS (c : Cx) (n : Nat) (x : S) : Prop where
  st : ∀ {M t env σ Q A pe L ρ s}, (mS M x).s t = true → Hp c n M pe L A ρ σ s env → wpS (CallT c n) x env σ Q → wpAny (model c.prog c.w) A (exec t pe) (Ps c n M pe L A ρ s.heap Q) No s
  ls : ∀ {M ts env σ Q A pe L ρ s}, (mS M x).l ts = true → Hp c n M pe L A ρ σ s env → wpS (CallT c n) x env σ Q → wpAny (model c.prog c.w) A (execs ts pe) (Ps c n M pe L A ρ s.heap Q) No s

theorem Own.again {h h' : Heap} {a : Addr} {o : Obj} (O : Own c ρ h a) (e : h'.get? a = some o) (i : ¬ Imm o) : Own c ρ h' a := ⟨O.new, O.nin, o, e, i⟩
theorem Own.listIter {h h' : Heap} {a l : Addr} {k : Nat} (O : Own c ρ h a) (e : h'.IsListIter a l k) : Own c ρ h' a := by
  obtain ⟨o, e, q, d⟩ := e
  refine O.again e ?_
  rintro (⟨_, xs, n, z⟩ | z)
  · rw [d] at z; cases z
  · rw [d] at z; cases z

/-! the comprehension -/
theorem compEnv_pe {M : Mx} {pe : Env} {L C : Addr} {sc : Scope} {x : Str} (H : PE c M pe L) (hk : sc.kind = .function) : PE c { M with sc := sc, names := [x] } { (newEnv sc C pe.globals [] pe.qual none .none (some pe) pe.builtins) with scope := sc } C := by
  refine ⟨rfl, hk, rfl, ?_, ?_, H.K, H.dk, H.gt, by simp⟩
  · exact H.glb
  · exact H.blt
/-- a comprehension's turns: what stands between two of them -/
inductive CI (c : Cx) (ρ : Pm) (σ : Store) (h0 : Heap) (a C D I : Addr) (x : Str) (f : V → V) (ds : List V) (k : Nat) (s' : Shared) : Prop
  | mk (ρ' : Pm) (i : Nat) (o : Option V) (S : Sat c ρ' (σ ++ [.list ((ds.take i).map f)]) s') (P : Stp ρ [I, C] h0 ρ' s'.heap) (hi : i ≤ ds.length) (hk : k = ds.length + 1 - i) (hit : s'.heap.IsListIter I a i) (O : Own c ρ' s'.heap I)
    (F : Fm c s'.heap ρ' C [x] [o]) (hD : ρ'[σ.length]? = some (D, D)) : CI c ρ σ h0 a C D I x f ds k s'
theorem CI.use {h0 : Heap} {a C D I : Addr} {x : Str} {f : V → V} {ds : List V} {k : Nat} {s' : Shared} {G : Prop} (z : CI c ρ σ h0 a C D I x f ds k s')
    (g : ∀ (ρ' : Pm) (i : Nat) (o : Option V), Sat c ρ' (σ ++ [.list ((ds.take i).map f)]) s' → Stp ρ [I, C] h0 ρ' s'.heap → i ≤ ds.length → k = ds.length + 1 - i → s'.heap.IsListIter I a i → Own c ρ' s'.heap I → Fm c s'.heap ρ' C [x] [o] → ρ'[σ.length]? = some (D, D) → G) : G :=
  let ⟨_, _, _, a, b, d, e, f, g', h, i⟩ := z; g _ _ _ a b d e f g' h i
theorem Stp.get {ρ ρ' : Pm} {x : List Addr} {h h' : Heap} {i : Nat} {r : Addr × Addr} (P : Stp ρ x h ρ' h') (e : ρ[i]? = some r) : ρ'[i]? = some r :=
  P.ext.elim fun δ q => q ▸ (List.getElem?_append_left (List.getElem?_eq_some_iff.mp e).1).trans e
theorem comp_app {σ : Store} {ds : List V} {f : V → V} {i : Nat} (h : i < ds.length) (hl : ds.length ≤ 1000000) : onLst (σ ++ [Cell.list ((ds.take i).map f)])[σ.length]? fun es => es.length < 1000000 ∧ (σ ++ [Cell.list ((ds.take i).map f)]).set σ.length (.list (es ++ [f (ds.getD i .none)])) = σ ++ [.list ((ds.take (i + 1)).map f)] := by
  rw [List.getElem?_append_right (Nat.le_refl _), Nat.sub_self]
  refine ⟨?_, ?_⟩
  · rw [List.length_map]; exact Nat.lt_of_le_of_lt (List.length_take_le _ _) (Nat.lt_of_lt_of_le h hl)
  · rw [List.set_append_right _ _ (Nat.le_refl _), Nat.sub_self, List.take_add_one, getD_get (d := V.none) h, List.map_append]
    rfl
theorem CI.start {a : Addr} {x : Str} {f : V → V} {ds : List V} {h₁ h₂ h₃ : Heap} {o : Obj} {m : Str → Option Value} {t : Nat} (S : Sat c ρ σ s) (e₂ : s.heap.push { cls := .type "list_iterator", data := .fields #[.ref a, .int 0 0] } = h₂)
    (e₃ : h₂.push { cls := .type "list", data := .seq #[] } = h₃) (hns : h₁.Ns h₃.objs.size m) (sb : Heap.ExtBut h₃.objs.size (h₃.push o) h₁) :
    CI c ρ σ s.heap a h₃.objs.size h₂.objs.size s.heap.objs.size x f ds (ds.length + 1) { s with heap := h₁, toks := t } ∧ h₃.objs.size ≠ s.heap.objs.size ∧ s.heap.get? h₃.objs.size = none := by
  have nI : s.heap.get? s.heap.objs.size = none := Heap.get?_none_of_le (Nat.le_refl _)
  have gI : h₂.get? s.heap.objs.size = some { cls := .type "list_iterator", data := .fields #[.ref a, .int 0 0] } := e₂ ▸ Heap.get?_push_size _ rfl
  have S2 : Sat c ρ σ { s with heap := h₂ } := e₂ ▸ S.push _
  have P2 : Stp ρ [] s.heap ρ h₂ := e₂ ▸ Stp.push _ _ _ _
  have k2 : ∀ b o, s.heap.get? b = some o → h₂.get? b = some o := fun b o e => e₂ ▸ Heap.get?_push_of_some _ e
  have nD : h₂.get? h₂.objs.size = none := Heap.get?_none_of_le (Nat.le_refl _)
  have gD : h₃.get? h₂.objs.size = some { cls := .type "list", data := .seq #[] } := e₃ ▸ Heap.get?_push_size _ rfl
  have k3 : ∀ b o, h₂.get? b = some o → h₃.get? b = some o := fun b o e => e₃ ▸ Heap.get?_push_of_some _ e
  have nC : h₃.get? h₃.objs.size = none := Heap.get?_none_of_le (Nat.le_refl _)
  have k4 : ∀ b o, h₃.get? b = some o → h₁.get? b = some o := fun b o e => sb b o (Nat.ne_of_lt (Heap.lt_size e)) (Heap.get?_push_of_some _ e)
  have G := S2.grow (s' := { s with heap := h₃ }) (a := h₂.objs.size) (b := h₂.objs.size) (cl := .list []) k3 nD ⟨[], 0, rfl, gD, .nil, Nat.zero_le _⟩ rfl rfl
  have K := G.2.trans (Stp.of_keeps k4)
  refine ⟨⟨_, 0, Option.none, G.1.keeps k4 rfl rfl, (P2.trans K).wk (fun _ z => nomatch z), Nat.zero_le _, rfl, ⟨_, k4 _ _ (k3 _ _ gI), rfl, rfl⟩, Own.stp (h := h₂) ⟨S.base_none nI, S.nin nI, _, gI, ?_⟩ K (fun h => nomatch h),
    ⟨⟨_, hns, fun i d e => by
      cases i with
      | zero => cases e
      | succ i => cases e⟩, G.1.nin nC, G.1.base_none nC⟩, by rw [← S.len, List.getElem?_append_right (Nat.le_refl _), Nat.sub_self]; rfl⟩, fun e => ?_, ?_⟩
  · rintro (⟨z, _⟩ | z)
    · exact absurd (show Value.type "list_iterator" = Value.type "tuple" from z) (by decide)
    · cases z
  · rw [e, k3 _ _ gI] at nC; cases nC
  · cases z : s.heap.get? h₃.objs.size with
    | none => rfl
    | some o => rw [k3 _ _ (k2 _ _ z)] at nC; cases nC
theorem comp_core {t : X} (ht : Snd c n t) {M : Mx} {elt iter : Expr} {x : Str} {px pos : Pos} {sc : Scope} {A : Around} {pe : Env} {L : Addr} {i₀ : Nat} {ds : List V} {xv : Value} {f : V → V} {Q' : Value → Addr → Shared → Prop}
    (hP : PE c M pe L) (hb : Br n A) (S : Sat c ρ σ s) (hi : σ[i₀]? = some (.list ds)) (R : c.Rep s.heap ρ (.obj i₀) xv)
    (hm : (mt { M with sc := sc, names := [x] } t).e elt = true) (hk : sc.kind = .function) (hcell : ∀ y ∈ sc.names, y.2 ≠ .cell) (hx : sc.names.lookup x = some .local) (hd : (x == ("__debug__" : Str)) = false)
    (hw : ∀ d ∈ ds, ∀ acc, (wp (CallT c n) t).e [some d] (σ ++ [.list acc]) fun v σ' => σ' = σ ++ [.list acc] ∧ v = f d)
    (hQ : ∀ acc C ρ' s' m, Sat c ρ' (σ ++ [.list (ds.map f)]) s' → Stp ρ [] s.heap ρ' s'.heap → c.Rep s'.heap ρ' (.obj σ.length) acc → Own c ρ' s'.heap C → s'.heap.Ns C m → s.heap.get? C = none → Q' acc C s') :
    wpAny (model c.prog c.w) A (pyIter xv) (fun it s₂ => wpAny (model c.prog c.w) A (newList []) (fun acc s₃ =>
      wpAny (model c.prog c.w) A (newFunctionEnv sc pe.globals [] [] pe.qual none .none (some pe)) (fun cenv s₄ =>
        codeAny (model c.prog c.w) A (.compStart (.ListComp elt [⟨.Name x px, iter, [], 0⟩] sc pos) 0 it acc { cenv with scope := sc }) (fun r s' => match r with | .ok _ => Q' acc cenv.locals s' | .error _ => False) s₄) No s₃) No s₂) No s := by
  refine S.list_ hi R fun a vs nn hq g rr hl => ?_
  have hloc : ({ M with sc := sc, names := [x] } : Mx).isLoc 0 x = true := by
    unfold Mx.isLoc
    simp [hx, hd]
  have hlt0 : i₀ < σ.length := (List.getElem?_eq_some_iff.mp hi).1
  have R0 : c.Rep s.heap ρ (.obj i₀) (.ref a) := .obj (r := (a, a)) hq
  -- the turns
  have tail : ∀ (C D I : Addr) (s₁ : Shared), C ≠ I → s.heap.get? C = none → s.heap.get? I = none → CI c ρ σ s.heap a C D I x f ds (ds.length + 1) s₁ →
      codeAny (model c.prog c.w) A (.compStart (.ListComp elt [⟨.Name x px, iter, [], 0⟩] sc pos) 0 (.ref I) (.ref D) { (newEnv sc C pe.globals [] pe.qual none .none (some pe) pe.builtins) with scope := sc }) (fun r s' => match r with | .ok _ => Q' (.ref D) C s' | .error _ => False) s₁ := by
    intro C D I s₁ hCI nC0 nI z₀
    have pe' := compEnv_pe (C := C) (x := x) hP hk
    have loop : codeAny (model c.prog c.w) A (.compLoop (.ListComp elt [⟨.Name x px, iter, [], 0⟩] sc pos) 0 (.ref I) (.ref D) { (newEnv sc C pe.globals [] pe.qual none .none (some pe) pe.builtins) with scope := sc })
        (fun r s' => match r with | .ok _ => Q' (.ref D) C s' | .error _ => False) s₁ := by
      refine codeAny_compLoop_list (CI c ρ σ s.heap a C D I x f ds) (fun k s' z => z.use fun ρ' i o S' P' hi' hk' hit OI' F hD' => ?_) (ds.length + 1) z₀
      refine Sat.list_ (v := .ref a) (G := fun v => v = .ref a → _) S' ((List.getElem?_append_left hlt0).trans hi) (R0.stp P') (fun a' vs' n' hq' g' rr' _ ea => ?_) rfl
      have ea : a' = a := Value.ref.inj ea
      rw [ea] at g'
      have hlen' := Reps.length rr'
      by_cases hlt : i < ds.length
      · obtain ⟨v, hv, rv⟩ := Reps.get rr' hlt
        refine wpAny_pyNext_list_item hit (isL g') (x := v) (List.getElem?_toArray.trans hv) fun h₄ hit₄ hs₄ => ?_
        have T₁ := touch (t := s'.toks) S' OI' hs₄.extBut
        refine wpAny_assign_Name (store_sound (i := 0) (M := { M with sc := sc, names := [x] }) (pe := { (newEnv sc C pe.globals [] pe.qual none .none (some pe) pe.builtins) with scope := sc }) ⟨pe', hb, T₁.1, F.stp T₁.2 (fun q => hCI (List.mem_singleton.mp q))⟩ hloc (rv.stp T₁.2) fun s₂ H₂ P₂ => ?_)
        refine Po.use (ht.ev hm H₂ (hw _ (List.mem_of_getElem? (getD_get hlt)) _)) fun y s₃ ρ₃ σ₃ dd S₃ P₃ R₃ qq => ?_
        rw [qq.1] at S₃
        rw [qq.2] at R₃
        have P13 : Stp ρ' [I, C] s'.heap ρ₃ s₃.heap := (T₁.2.wk fun b h => List.mem_cons.mpr (.inl (List.mem_singleton.mp h))).trans ((P₂.wk fun b h => List.mem_cons_of_mem _ h).trans (P₃.wk fun _ h => nomatch h))
        have hD3 := P13.get hD'
        refine Po.use (mth_sound (m := .append) (Q := fun _ σ' => σ' = σ ++ [.list ((ds.take (i + 1)).map f)]) S₃ (.obj (n := σ.length) hD3) (.cons R₃ .nil) (comp_app hlt hl)) fun _ s₅ ρ₅ σ₅ d₅ S₅ P₅ _ e₅ => ?_
        rw [e₅] at S₅
        have O4 : Own c ρ' h₄ I := OI'.listIter hit₄
        have P25 : Stp ρ' [C] h₄ ρ₅ s₅.heap := (P₂.trans (P₃.wk (fun _ z => nomatch z))).trans (P₅.wk (fun _ z => nomatch z))
        have nIC : I ∉ [C] := fun q => hCI (List.mem_singleton.mp q).symm
        refine ⟨ds.length + 1 - (i + 1), hk' ▸ Nat.sub_lt_sub_left (Nat.lt_succ_of_lt hlt) (Nat.lt_succ_self i), ρ₅, i + 1, _, S₅, (P'.trans P13).trans (P₅.wk fun _ h => nomatch h), hlt, rfl, ?_, O4.stp P25 nIC, (H₂.fm.stp P₃ (fun h => nomatch h)).stp P₅ (fun h => nomatch h), P₅.get hD3⟩
        exact hit₄.elim fun o h => ⟨o, P25.keep _ _ h.1 O4.nin nIC, h.2⟩
      · have hge := Nat.le_of_not_lt hlt
        refine wpAny_pyNext_list_end hb.handled hit (isL g') (by rw [List.getElem?_toArray, List.getElem?_eq_none (hlen' ▸ hge)]) fun h₄ he₄ => ?_
        have T₁ := touch (t := s'.toks) S' OI' he₄
        have nCI : C ∉ [I] := fun q => hCI (List.mem_singleton.mp q)
        refine (F.stp T₁.2 nCI).ns.elim fun m N => ?_
        refine hQ _ C ρ' _ m (by have := T₁.1; rw [List.take_of_length_le hge] at this; exact this) ((P'.trans (T₁.2.wk fun b h => List.mem_cons.mpr (.inl (List.mem_singleton.mp h)))).drop fun b h => .inr ?_) (.obj (r := (D, D)) hD') (F.own.stp T₁.2 nCI) N.1 nC0
        rcases List.mem_cons.mp h with h | h
        · exact h ▸ nI
        · exact List.mem_singleton.mp h ▸ nC0
    exact codeAny_compStart_list loop (z₀.use fun ρ' i o S' P' hi' hk' hit OI' F hD' => wpAny_pyIter_listiter hit loop)
  refine wpAny_pyIter_list (isL g) (wpAny_newObj_type (hd := by size_fits) (wpAny_newFunctionEnv hcell (by intro y hy; simp at hy) (fun h₁ hns₁ hsb₁ => ?_) hk))
  have nI : s.heap.get? s.heap.objs.size = none := Heap.get?_none_of_le (Nat.le_refl _)
  have z := CI.start (a := a) (x := x) (f := f) (ds := ds) (t := s.toks + ([] : List (Str × Value)).length) S rfl rfl hns₁ hsb₁.extBut
  exact tail _ _ _ _ z.2.1 z.2.2 nI z.1

theorem mt_set (M : Mx) (x : X) (a : List Expr) (k : Nat) (b : Pos) : (mt M x).e (.Set a k b) = false := by cases x <;> rfl
theorem not_set {M : Mx} {x : X} {e : Expr} {pe : Env} (h : (mt M x).e e = true) : ∀ v, foldedSetIterable e pe v = pure v := by
  intro v
  cases e <;> first | rfl | (rw [mt_set] at h; cases h)

noncomputable def CompOk (M : Mx) (t it : X) (e : Expr) : Prop := ∃ elt x px iter sc pos, e = .ListComp elt [⟨.Name x px, iter, [], 0⟩] sc pos ∧ (mt M it).e iter = true ∧
    (mt { M with sc := sc, names := [x] } t).e elt = true ∧ sc.kind = .function ∧ (∀ y ∈ sc.names, y.2 ≠ .free) ∧ (∀ y ∈ sc.names, y.2 ≠ .cell) ∧ (∀ y ∈ sc.names, y.2 = .local → sc.names.lookup y.1 = some .local) ∧
    sc.names.lookup x = some .local ∧ (x == ("__debug__" : Str)) = false
theorem comp_inv {M : Mx} {t it : X} {e : Expr} (hm : (mt M (.comp t it)).e e = true) : CompOk M t it e := by
  refine onListComp_inv (P := CompOk M t it) hm fun el gs sc pos hm => on1_inv (P := fun gs => CompOk M t it (.ListComp el gs sc pos)) hm fun g hm => ?_
  obtain ⟨tg, it', ifs, asy⟩ := g
  refine onName_inv (P := fun tg => CompOk M t it (.ListComp el [⟨tg, it', ifs, asy⟩] sc pos)) hm fun x px hm => ?_
  have e0 : ifs = [] := List.isEmpty_iff.mp (and2 hm).1
  have m2 := (and2 hm).2
  have e1 : asy = 0 := eq_of_beq (and2 m2).1
  have m3 := (and2 m2).2
  have m4 := (and2 m3).2
  have m5 := and2 (and2 m4).2
  have m6 := and2 m5.1
  have m7 := and2 m6.1
  have h6 := List.all_eq_true.mp m7.2
  subst e0; subst e1
  have key : ∀ y ∈ sc.names, (y.2 = .local ∧ sc.names.lookup y.1 = some .local) ∨ y.2 = .globalImplicit := fun y hy => (Bool.or_eq_true_iff.mp (h6 y hy)).imp (fun q => ⟨eq_of_beq (and2 q).1, eq_of_beq (and2 q).2⟩) fun q => eq_of_beq q
  refine ⟨el, x, px, it', sc, pos, rfl, (and2 m3).1, (and2 m4).1, eq_of_beq (and2 (and2 m7.1).1).1, fun y hy => ?_, fun y hy => ?_, fun y hy hl => ?_, eq_of_beq m6.2, nt m5.2⟩
  · rcases key y hy with ⟨q, _⟩ | q <;> (rw [q]; decide)
  · rcases key y hy with ⟨q, _⟩ | q <;> (rw [q]; decide)
  · rcases key y hy with ⟨_, q⟩ | q
    · exact q
    · rw [q] at hl; cases hl

theorem snd_comp {t it : X} (ht : Snd c n t) (hit : Snd c n it) : Snd c n (.comp t it) := by
  refine Snd.of (f := fun M e => (mt M (.comp t it)).e e) (fun M => rfl) rfl fun M e hm => ?_
  obtain ⟨elt, x, px, iter, sc, pos, rfl, h1, h2, h3, h4, h5, h6, h7, h8⟩ := comp_inv hm
  refine ⟨.inl fun _ _ => rfl, fun {env σ Q A pe L ρ s} H h => ?_⟩
  refine wpAny_ListComp h4 h3 h6 (Po.use (hit.ev h1 H h) fun v s₁ ρ₁ σ₁ d S P R h => ?_) (not_set h1)
  refine onObj_use R h fun i v R h => onLst_use h fun ds e h => ?_
  obtain ⟨f, hw, hq⟩ := h
  refine wpAny_mono (comp_core (Q' := fun acc C s' => ∃ m, s'.heap.Ns C m ∧ ∀ h', Heap.SameBut C s'.heap h' → Po c ρ s.heap Q acc { s' with heap := h' }) ht (M := M) H.pe H.br S e R h2 h3 h5 h7 h8 hw ?_)
    (fun it s₂ h₂ => wpAny_mono h₂ (fun acc s₃ h₃ => wpAny_mono h₃ (fun cenv s₄ h₄ => codeAny_mono h₄ fun r s' z => ?_) fun _ _ z => z) fun _ _ z => z) fun _ _ z => z
  · intro acc C ρ' s' m S' P' R' O' N' nC
    refine ⟨m, N', fun h' sb => ?_⟩
    obtain ⟨S'', P''⟩ := touch (t := s'.toks) S' O' sb.extBut
    exact ⟨ρ', _, _, S'', P.trans (((P'.wk (fun _ z => nomatch z)).trans P'').drop (by simp [nC])), R'.stp P'', hq⟩
  · cases r with
    | error _ => exact z.elim
    | ok _ =>
      exact z
end
end
section
section
variable {c : Cx} {n : Nat}

noncomputable abbrev dD (es : List (Int × List Nat)) : List (PyData × PyData) := es.map fun p => (.int p.1, .str ⟨p.2.toArray⟩)

theorem disp_lits : ∀ (es : List (Int × List Nat)) (ks : List (Option Expr)) (vs : List Expr), dispKeys es ks vs = true → litPairs ks vs = some (dD es) ∧ ks.all (·.isSome) = true ∧ ks.length = vs.length ∧ ks.length = es.length := by
  intro es
  induction es with
  | nil =>
    intro ks vs h
    cases ks <;> cases vs <;> first | exact ⟨rfl, rfl, rfl, rfl⟩ | cases h
  | cons p r ih =>
    intro ks vs h
    obtain ⟨i, l⟩ := p
    refine onC_inv (P := fun ks => litPairs ks vs = some (dD ((i, l) :: r)) ∧ ks.all (·.isSome) = true ∧ ks.length = vs.length ∧ ks.length = ((i, l) :: r).length) h fun k ks h => onC_inv (P := fun vs => litPairs (k :: ks) vs = some (dD ((i, l) :: r)) ∧ (k :: ks).all (·.isSome) = true ∧ (k :: ks).length = vs.length ∧ (k :: ks).length = ((i, l) :: r).length) h fun v vs h => ?_
    have h1 := (and2 (and2 h).1).1
    have h2 := (and2 (and2 h).1).2
    obtain ⟨a, b, d, e⟩ := ih _ _ (and2 h).2
    refine onO_inv (P := fun k => litPairs (k :: ks) (v :: vs) = some (dD ((i, l) :: r)) ∧ (k :: ks).all (·.isSome) = true ∧ (k :: ks).length = (v :: vs).length ∧ (k :: ks).length = ((i, l) :: r).length) h1 fun k h1 => onConstant_inv (P := fun k => litPairs (some k :: ks) (v :: vs) = some (dD ((i, l) :: r)) ∧ (some k :: ks).all (·.isSome) = true ∧ (some k :: ks).length = (v :: vs).length ∧ (some k :: ks).length = ((i, l) :: r).length) h1 fun c1 _ _ h1 => onConstant_inv (P := fun v => litPairs (some (.Constant c1 _ _) :: ks) (v :: vs) = some (dD ((i, l) :: r)) ∧ _) h2 fun c2 _ _ h2 => ?_
    rw [cInt_eq h1, cStr_eq h2]
    refine ⟨?_, b, congrArg (· + 1) d, congrArg (· + 1) e⟩
    exact (congrArg (fun z => z.bind fun r => some ((PyData.int i, PyData.str ⟨l.toArray⟩) :: r)) a : _)

theorem dD_keyed : ∀ es, intKeyed (dD es) = true ∧ intKeysOf (dD es) = es.map (·.1)
  | [] => ⟨rfl, rfl⟩
  | p :: r => by
    obtain ⟨a, b⟩ := dD_keyed r
    refine ⟨?_, ?_⟩
    · show intKeyed ((.int p.1, _) :: dD r) = true
      exact a
    · show p.1 :: intKeysOf (dD r) = _
      rw [b]; rfl

theorem flat_value {es : List (Int × List Nat)} {kvs : List (Int × Value)} (h : PyProof.V.FlatPairs PyData.int kvs (dD es)) (k : Int) : ∀ d, assocI k es = some d → ∃ t, valueAt kvs k = some (.str ⟨d.toArray⟩ t) := by
  induction es generalizing kvs with
  | nil => intro d e; cases e
  | cons p r ih =>
    intro d e
    obtain ⟨i, l⟩ := p
    generalize hD : dD ((i, l) :: r) = D at h
    cases h with
    | nil => cases hD
    | cons fv fr =>
      rename_i k' v d' kvs' D'
      have e1 : (PyData.int i, PyData.str ⟨l.toArray⟩) :: dD r = (PyData.int k', d') :: D' := hD
      injection e1 with e1 e2
      injection e1 with e3 e4
      injection e3 with e3
      subst e3; subst e4; subst e2
      unfold assocI at e
      unfold valueAt
      by_cases q : i = k
      · subst q
        rw [if_pos rfl] at e
        cases e
        obtain ⟨t, rfl⟩ := fv.str_inv
        exact ⟨t, by simp⟩
      · rw [if_neg q] at e
        obtain ⟨t, ht⟩ := ih fr d e
        refine ⟨t, ?_⟩
        rw [List.find?_cons, decide_eq_false q]
        exact ht

theorem snd_ddisp {i : X} (es : List (Int × List Nat)) (hi : Snd c n i) : Snd c n (.ddisp es i) := by
  refine Snd.of (fun _ => rfl) rfl fun M e hm => onSubscript_inv hm fun dd sl p1 hm => onDict_inv (P := fun dd => SE c n (.ddisp es i) _ M (.Subscript dd sl p1)) hm fun ks vs p2 hm => ⟨.inl fun _ _ => rfl, fun {env σ Q A pe L ρ s} H h => ?_⟩
  have h1 := (and2 hm).1
  have m2 := (and2 hm).2
  have h2 := (and2 m2).1
  have m3 := (and2 m2).2
  have h3 := nt (and2 m3).1
  have m4 := (and2 m3).2
  have h4 := of_decide_eq_true (and2 m4).1
  have h5 := of_decide_eq_true (and2 (and2 m4).2).1
  have h6 := nt (and2 (and2 m4).2).2
  obtain ⟨d1, d2, d3, d4⟩ := disp_lits _ _ _ h1
  obtain ⟨k1, k2⟩ := dD_keyed es
  refine Subscript_ (Dict_lits_int d1 k1 (by rw [k2]; exact h4) d2 d3 (fun z => by rw [z] at d4; cases es with | nil => cases h6 | cons _ _ => cases d4) (by omega) fun a o h₁ tk ha ho T keep => ?_)
  have S₁ : Sat c ρ σ { s with heap := h₁, toks := tk } := H.sat.keeps keep rfl rfl
  have P₁ : Stp ρ [] s.heap ρ h₁ := Stp.of_keeps keep
  refine Po.use (hi.ev h2 (H.step S₁ P₁) h) fun v s₂ ρ₂ σ₂ d S₂ P₂ R₂ h => ?_
  refine onInt_use R₂ h fun k t h => onSome_use h fun dd e h => ?_
  obtain ⟨kvs, T1, T2⟩ := T
  have hl2 : s₂.heap.get? a = some o := by
    refine P₂.keep a o ho (fun q => ?_) (by simp)
    have hn : s.heap.get? a = none := Heap.get?_none_of_le ha
    exact H.sat.nin hn q
  have DO : s₂.heap.DictOf (intKind c.prog c.w) a kvs := Heap.dictOf_iff.mpr ⟨o, hl2, T1⟩
  have hm := DO.mapOf
  obtain ⟨t', hv⟩ := flat_value T2 k dd e
  have sub := sub_plain h3 (.ref a) (.int k t)
  exact tail_any hm.typeIs slot_dict_getitem.lookup (wpAny_getItem_of (intKind_is c.prog c.w k t) hm hv (Po.after (P₁.trans P₂) (Po.tk S₂ (.str _ _) h))) sub

/-- the expressions' soundness -/
theorem sound (c : Cx) (n : Nat) : ∀ x : X, Snd c n x
  | .loc i => snd_loc i
  | .glb k d => snd_glb k d
  | .int i => snd_int i
  | .str l => snd_str l
  | .none => snd_none
  | .bool b => snd_bool b
  | .bin op a b => snd_bin op (sound c n a) (sound c n b)
  | .cmp op a b => snd_cmp op (sound c n a) (sound c n b)
  | .cmp2 o1 o2 a b d => snd_cmp2 o1 o2 (sound c n a) (sound c n b) (sound c n d)
  | .and a b => snd_and (sound c n a) (sound c n b)
  | .or a b => snd_or (sound c n a) (sound c n b)
  | .not a => snd_not (sound c n a)
  | .ife t a b => snd_ife (sound c n t) (sound c n a) (sound c n b)
  | .idx o i => snd_idx (sound c n o) (sound c n i)
  | .sl o lo hi => snd_sl (sound c n o) (sound c n lo) (sound c n hi)
  | .slc o k => snd_slc k (sound c n o)
  | .noX => snd_noX
  | .tup as => snd_tup (sound c n as)
  | .lst as => snd_lst (sound c n as)
  | .nil => snd_nil
  | .cons a as => snd_cons (sound c n a) (sound c n as)
  | .call k f as => snd_call k f (sound c n as)
  | .new k C f as => snd_new k C f (sound c n as)
  | .bi b as => snd_bi b (sound c n as)
  | .mth m o as => snd_mth m (sound c n o) (sound c n as)
  | .ucall C f nm o as => snd_ucall C f nm (sound c n o) (sound c n as)
  | .attr C nm o => snd_attr (sound c n o)
  | .comp t it => snd_comp (sound c n t) (sound c n it)
  | .ddisp es i => snd_ddisp es (sound c n i)
end
end
section
section
variable {c : Cx} {n : Nat}

theorem setItem_neg {prog : Program} {w : World} {A : Around} {E : Value → Shared → Prop} {s : Shared} {l : Addr} {items : Array Value} {k : Int} {t : Tok} {v : Value} {Q : Unit → Shared → Prop} (hl : s.heap.IsList l items)
    (h0 : k < 0) (h1 : -(items.size : Int) ≤ k) (hfit : -(2 ^ 63) ≤ k)
    (hQ : Q () { s with heap := s.heap.update l (Obj.mapSeq (·.setIfInBounds (k + items.size).toNat v)) }) :
    wpAny (model prog w) A (setItem (.ref l) (.int k t) v) Q E s := by
  obtain ⟨o, ho, hc, ne, hd⟩ := id hl
  unfold setItem
  try with_reducible refine wpAny_holding ?_
  first | refine wpAny_bind (wpAny_pure ?_) | skip
  refine wpAny_bind (wpAny_sequenceKey hl.typeIs (by decide) ?_)
  refine wpAny_bind (wpAny_callSpecial?_slot (name := Str.ofString "__setitem__") hl.typeIs slot_list_setitem
    (wpAny_call_entry slot_list_setitem hl.typeIs entry_list_setitem ?_ (args_list_setitem _ _ _)))
  show wpAny _ _ (Builtin.List.listSubscript? (.int k t) >>= _) _ _ s
  refine wpAny_bind (wpAny_listSubscript_int (fitsIndex_neg h0 hfit) ?_)
  clear hfit
  have hidx := seqIndex_neg h0 h1
  have hlt : (k + items.size).toNat < items.size := by lia
  obtain ⟨j, rfl⟩ : ∃ j : Nat, k = Int.negSucc j := by
    cases k with
    | ofNat n => exact absurd h0 (Int.not_lt.mpr (Int.natCast_nonneg n))
    | negSucc n => exact ⟨n, rfl⟩
  show wpAny _ _ ((Builtin.List.listItems (.ref l) >>= fun xs => pure ((seqIndex? (Int.negSucc j) xs.size).bind fun i => xs[i]?.map (i, ·))) >>= _) _ _ s
  refine wpAny_bind (wpAny_bind ?_)
  show wpAny _ _ (seqItems? (.ref l) >>= _) _ _ s
  refine wpAny_bind (wpAny_seqItems ho hd (wpAny_pure (wpAny_pure ?_)))
  rw [hidx]
  simp only [Option.bind_some, Array.getElem?_eq_getElem hlt, Option.map_some]
  show wpAny _ _ (setSeqItemAt l (Int.negSucc j + items.size).toNat v >>= _) _ _ s
  refine wpAny_bind (wpAny_setSeqItemAt ho hd ?_)
  first
    | exact wpAny_bind (wpAny_pure (wpAny_pure ⟨.none, rfl, wpAny_pure hQ⟩))
    | exact wpAny_pure ⟨.none, rfl, wpAny_pure hQ⟩

section
variable {ρ : Pm} {σ : Store} {s : Shared}
structure SS (c : Cx) (n : Nat) (x : S) (M : Mx) (t : Stmt) : Prop where
  st : ∀ {env σ Q A pe L ρ s}, Hp c n M pe L A ρ σ s env → wpS (CallT c n) x env σ Q → wpAny (model c.prog c.w) A (exec t pe) (Ps c n M pe L A ρ s.heap Q) No s
theorem SndS.of {x : S} {f : Mx → Stmt → Bool} (hm : ∀ M, mS M x = onlyS (f M)) (he : ∀ M t, f M t = true → SS c n x M t) : SndS c n x :=
  ⟨fun {M t env σ Q A pe L ρ s} a b d => (he M t (by rw [hm] at a; exact a)).st b d, fun a => (by rw [hm] at a; cases a)⟩

theorem Ps.here {M : Mx} {pe : Env} {L : Addr} {A : Around} {env : Lo} {Q : Fl → Lo → Store → Prop} {f : Flow} {fl : Fl} (H : Hp c n M pe L A ρ σ s env) (r : FlR c s.heap ρ f fl) (q : Q fl env σ) : Ps c n M pe L A ρ s.heap Q f s := ⟨ρ, σ, env, fl, H, Stp.refl _ _ _, r, q⟩

theorem sS_skip : SndS c n .skip := by
  refine ⟨fun a => (by cases a), fun {M ts env σ Q A pe L ρ s} a H h => ?_⟩
  cases ts with
  | nil => exact wpAny_execs_nil (Ps.here H .next h)
  | cons _ _ => cases a

theorem sS_seq {a b : S} (ha : SndS c n a) (hb : SndS c n b) : SndS c n (.seq a b) := by
  refine ⟨fun a => (by cases a), fun {M ts env σ Q A pe L ρ s} hm H h => ?_⟩
  cases ts with
  | nil => cases hm
  | cons t r =>
    obtain ⟨h1, h2⟩ := Bool.and_eq_true_iff.mp hm
    refine wpAny_execs_cons (Ps.use (ha.st h1 H h) fun f s₁ ρ₁ σ₁ env₁ fl H₁ P R h => ?_)
    revert h
    exact FlR.use R (fun h => wpAny_mono (hb.ls h2 H₁ h) (fun v s z => Ps.after P z) fun _ _ z => z) (fun h => ⟨ρ₁, σ₁, env₁, _, H₁, P, .brk, h⟩) fun v w r h => ⟨ρ₁, σ₁, env₁, _, H₁, P, .ret r, h⟩

theorem Stp.wkL {ρ₁ : Pm} {h h₁ : Heap} {L : Addr} (P : Stp ρ [] h ρ₁ h₁) : Stp ρ [L] h ρ₁ h₁ := P.wk fun _ z => nomatch z

theorem swaps_plain {e : Expr} (h : plainVal e = true) (t : Option Expr) (l : Nat) (env : Env) : swapsWith e t l env = pure false := by
  cases e <;> first | rfl | exact (Bool.false_ne_true h).elim
theorem stores_plain {v : Expr} (h : (v.ctorIdx == 25) = false) (ts : List Expr) (kk : Nat) (pt : Pos) (pe : Env) : swappedStores [.Tuple ts kk pt] v pe = pure none := by
  cases v <;> first | rfl | exact (Bool.false_ne_true h.symm).elim

theorem sS_asg (i : Nat) (e : X) : SndS c n (.asg i e) := by
  refine SndS.of (fun _ => rfl) fun M st hm => onSAssign_inv hm fun ts v pos hm => on1_inv (P := fun ts => SS c n (.asg i e) M (.Assign ts v pos)) hm fun t hm => onName_inv (P := fun t => SS c n (.asg i e) M (.Assign [t] v pos)) hm fun id ip hm => ⟨fun {env σ Q A pe L ρ s} H h => ?_⟩
  have h1 := (and2 hm).1
  have h2 := (and2 (and2 hm).2).1
  have h3 := (and2 (and2 hm).2).2
  refine wpAny_Assign_Name (Po.use ((sound c n e).ev h2 H h) fun v s₁ ρ₁ σ₁ d S P R h => ?_) (swaps_plain h3 _ _ _)
  exact store_sound (H.step S P) h1 R fun s' H' P' => ⟨ρ₁, σ₁, _, _, H', P.wkL.trans P', .next, h⟩

theorem sS_ret (e : X) : SndS c n (.ret e) := by
  refine SndS.of (fun _ => rfl) fun M st hm => onSReturn_inv hm fun o pos hm => onO_inv (P := fun o => SS c n (.ret e) M (.Return o pos)) hm fun v hm => ⟨fun {env σ Q A pe L ρ s} H h => ?_⟩
  refine wpAny_Return_some (Po.use ((sound c n e).ev hm H h) fun v s₁ ρ₁ σ₁ d S P R h => ?_)
  exact ⟨ρ₁, σ₁, _, _, H.step S P, P.wkL, .ret R, h⟩

theorem sS_brk : SndS c n .brk := by
  refine SndS.of (fun _ => rfl) fun M st hm => onSBreak_inv hm fun pos hm => ⟨fun {env σ Q A pe L ρ s} H h => ?_⟩
  exact wpAny_Break (Ps.here H .brk h)

theorem sS_rais : SndS c n .rais := SndS.of (fun _ => rfl) fun _ _ _ => ⟨fun _ h => h.elim⟩

theorem sS_expr (e : X) : SndS c n (.expr e) := by
  refine SndS.of (fun _ => rfl) fun M st hm => onSExpr_inv hm fun v pos hm => ⟨fun {env σ Q A pe L ρ s} H h => ?_⟩
  have h1 := (and2 hm).1
  have h2 := (and2 hm).2
  refine wpAny_Expr (Po.use ((sound c n e).ev h1 H h) fun v s₁ ρ₁ σ₁ d S P R h => ?_) (by unfold interactive; rw [H.pe.scope, H.pe.kind]; rfl) (by cases v <;> first | rfl | cases h2)
  have hd : onDrop d (Q .next env σ₁) → (d = .none ∨ ∃ i, d = .int i) ∧ Q .next env σ₁ := fun h => by
    cases d <;> first | exact h.elim | exact ⟨.inl rfl, h⟩ | exact ⟨.inr ⟨_, rfl⟩, h⟩
  obtain ⟨h0, h⟩ := hd h
  rcases h0 with rfl | ⟨i, rfl⟩ <;> (cases R; exact ⟨ρ₁, σ₁, _, _, H.step S P, P.wkL, .next, h⟩)

theorem sS_ifs (t : X) {a b : S} (ha : SndS c n a) (hb : SndS c n b) : SndS c n (.ifs t a b) := by
  refine SndS.of (fun _ => rfl) fun M st hm => onSIf_inv hm fun t' x y pos hm => ⟨fun {env σ Q A pe L ρ s} H h => ?_⟩
  have h1 := (and2 hm).1
  have h2 := (and2 (and2 hm).2).1
  have h3 := (and2 (and2 hm).2).2
  refine wpAny_If (Pb.use ((sound c n t).ts h1 H h) fun v s₁ ρ₁ σ₁ S P h => ?_)
  cases v
  · rw [if_neg (by decide)] at h ⊢
    exact wpAny_mono (hb.ls h3 (H.step S P) h) (fun v s z => Ps.after P.wkL z) fun _ _ z => z
  · rw [if_pos rfl] at h ⊢
    exact wpAny_mono (ha.ls h2 (H.step S P) h) (fun v s z => Ps.after P.wkL z) fun _ _ z => z

inductive WI (c : Cx) (n : Nat) (M : Mx) (pe : Env) (L : Addr) (A : Around) (ρ : Pm) (h0 : Heap) (I : Nat → Lo → Store → Prop) (k : Nat) (s' : Shared) : Prop
  | mk (ρ' : Pm) (σ' : Store) (env' : Lo) (hk : I k env' σ') (H : Hp c n M pe L A ρ' σ' s' env') (P : Stp ρ [L] h0 ρ' s'.heap) : WI c n M pe L A ρ h0 I k s'
theorem WI.use {M : Mx} {pe : Env} {L : Addr} {A : Around} {ρ : Pm} {h0 : Heap} {I : Nat → Lo → Store → Prop} {k : Nat} {s' : Shared} {Z : Prop} (z : WI c n M pe L A ρ h0 I k s') (g : ∀ (ρ' : Pm) (σ' : Store) (env' : Lo), I k env' σ' → Hp c n M pe L A ρ' σ' s' env' → Stp ρ [L] h0 ρ' s'.heap → Z) : Z :=
  let ⟨_, _, _, a, b, d⟩ := z; g _ _ _ a b d
theorem sS_whl (t : X) {b : S} (hb : SndS c n b) : SndS c n (.whl t b) := by
  refine SndS.of (fun _ => rfl) fun M st hm => onSWhile_inv hm fun t' x y pos hm => ?_
  have e0 : y = [] := List.isEmpty_iff.mp (and2 hm).1
  subst e0
  have h1 := (and2 (and2 hm).2).1
  have h2 := (and2 (and2 hm).2).2
  refine ⟨fun {env σ Q A pe L ρ s} H h => ?_⟩
  refine h.elim fun I h => h.elim fun k h => ?_
  have hI := h.2
  refine wpAny_While (codeAny_whileLoop (WI c n M pe L A ρ s.heap I) (fun k s' z => z.use fun ρ' σ' env' hk H' P' => ?_) k ⟨ρ, σ, env, h.1, H, Stp.refl _ _ _⟩)
  refine Pb.use ((sound c n t).ts h1 H' (hI _ _ _ hk)) fun v s₁ ρ₁ σ₁ S P h => ?_
  cases v
  · rw [if_neg (by decide)] at h ⊢
    exact wpAny_execs_nil ⟨ρ₁, σ₁, env', .next, H'.step S P, P'.trans P.wkL, .next, h⟩
  · rw [if_pos rfl] at h ⊢
    refine Ps.use (hb.ls h2 (H'.step S P) h) fun f s₂ ρ₂ σ₂ env₂ fl H₂ P₂ R h => ?_
    have PP := P'.trans (P.wkL.trans P₂)
    revert h
    exact FlR.use R (fun h => h.elim fun m h => ⟨m, h.1, ρ₂, σ₂, env₂, h.2, H₂, PP⟩) (fun h => ⟨ρ₂, σ₂, env₂, .next, H₂, PP, .next, h⟩) fun v w r h => ⟨ρ₂, σ₂, env₂, _, H₂, PP, .ret r, h⟩

theorem sS_asgA (C : Addr) (nm : Str) (o e : X) : SndS c n (.asgA C nm o e) := by
  refine SndS.of (fun _ => rfl) fun M st hm => onSAssign_inv hm fun ts v pos hm => on1_inv (P := fun ts => SS c n (.asgA C nm o e) M (.Assign ts v pos)) hm fun t hm => onAttribute_inv (P := fun t => SS c n (.asgA C nm o e) M (.Assign [t] v pos)) hm fun o' nm' pA hm => ⟨fun {env σ Q A pe L ρ s} H h => ?_⟩
  have e0 := eq_of_beq (and2 hm).1
  subst e0
  have m2 := (and2 hm).2
  have h1 := (and2 m2).1
  have m3 := (and2 m2).2
  have h2 := (and2 m3).1
  have m4 := (and2 m3).2
  have h3 := (and2 m4).1
  have m5 := (and2 m4).2
  have h4 := (and2 m5).1
  have h5 := (and2 (and2 m5).2).1
  have h6 := (and2 (and2 m5).2).2
  rw [H.pe.K] at h1 h2 h3
  refine wpAny_Assign_stores (Po.use ((sound c n e).ev h5 H h) fun v s₁ ρ₁ σ₁ d S P R h => ?_) (by exact swaps_plain h6 (some (.Attribute o' nm pA)) pos.line pe) rfl
  show wpAny _ _ (assign (.Attribute o' nm pA) pe v) _ _ _
  rw [arm_assign_Attribute]
  refine wpAny_bind (wpAny_holding (Po.use ((sound c n o).ev h4 (H.step S P) h) fun ov s₂ ρ₂ σ₂ d₂ S₂ P₂ R₂ h => ?_))
  refine onObj_use R₂ h fun i ov R₂ h => onIns_use h fun C' fs hc h => ?_
  obtain ⟨e1, hl, hh⟩ := h
  subst e1
  refine wpAny_bind (wpAny_standAt (wpAny_bind (wpAny_holding (setattr_sound S₂ hc R₂ (R.stp P₂) hl h1 h3 fun s' S' P' => wpAny_release ?_))))
  have PP := P.trans (P₂.trans P')
  exact ⟨ρ₂, _, env, .next, H.step S' PP, PP.wkL, .next, hh⟩

theorem tgt_sound {M : Mx} {A : Around} {pe : Env} {L : Addr} {Q : Unit → Shared → Prop} {E : Value → Shared → Prop} {Mo : Model} {env' : Lo} : ∀ (is : List Nat) (ts : List Expr) (ds : List V) (vs : List Value) (env : Lo) (s : Shared), tgtNames M is ts = true → asgs env is ds = some env' → Hp c n M pe L A ρ σ s env → c.Reps s.heap ρ ds vs →
    (∀ s', Hp c n M pe L A ρ σ s' env' → Stp ρ [L] s.heap ρ s'.heap → Q () s') → wpAny Mo A (assignInOrder ((assignEach ts pe).map (·.2)) vs) Q E s
  | [], ts, ds, vs, env, s, hm, hl, H, R, h => by
    cases ds with
    | cons _ _ => cases hl
    | nil =>
      cases R
      cases hl
      cases ts with
      | nil => exact wpAny_pure (h s H (Stp.refl _ _ _))
      | cons _ _ => cases hm
  | i :: is, ts, ds, vs, env, s, hm, hl, H, R, h => by
    cases ds with
    | nil => cases hl
    | cons d ds =>
      cases R with | cons r1 r2 =>
        cases ts with
        | nil => cases hm
        | cons t ts =>
          obtain ⟨h1, h2⟩ := and2 (a := onName t fun id _ => M.isLoc i id) (b := tgtNames M is ts) hm
          refine onName_inv (P := fun t => wpAny Mo A (assignInOrder ((assignEach (t :: ts) pe).map (·.2)) _) Q E s) h1 fun id p h1 => ?_
          show wpAny Mo A (do holding _ (assign (.Name id p) pe _); assignInOrder _ _) Q E s
          refine wpAny_bind (wpAny_holding (wpAny_assign_Name (store_sound H h1 r1 fun s' H' P' => ?_)))
          exact tgt_sound is _ ds _ _ s' h2 hl H' (r2.stp P') fun s'' H'' P'' => h s'' H'' (P'.trans P'')
theorem asgs_len : ∀ (is : List Nat) (ds : List V) (env env' : Lo), asgs env is ds = some env' → ds.length = is.length
  | [], [], _, _, _ => rfl
  | [], _ :: _, _, _, h => nomatch h
  | _ :: _, [], _, _, h => nomatch h
  | _ :: is, _ :: ds, _, _, h => congrArg (· + 1) (asgs_len is ds _ _ h)

theorem tgt_each {M : Mx} {pe : Env} : ∀ (is : List Nat) (ts : List Expr), tgtNames M is ts = true → (assignEach ts pe).length = is.length ∧ (assignEach ts pe).findIdx? (·.1) = none
  | [], ts, h => by
    cases ts with
    | nil => exact ⟨rfl, rfl⟩
    | cons _ _ => cases h
  | i :: is, ts, h => by
    cases ts with
    | nil => cases h
    | cons t ts =>
      obtain ⟨h1, h2⟩ := and2 (a := onName t fun id _ => M.isLoc i id) (b := tgtNames M is ts) h
      obtain ⟨a, b⟩ := tgt_each (pe := pe) is _ h2
      refine onName_inv (P := fun t => (assignEach (t :: ts) pe).length = is.length + 1 ∧ (assignEach (t :: ts) pe).findIdx? (·.1) = none) h1 fun id p h1 => ?_
      refine ⟨by show (assignEach ts pe).length + 1 = _; rw [a], ?_⟩
      show List.findIdx? _ ((false, _) :: assignEach ts pe) = none
      rw [List.findIdx?_cons]
      simp [b]

theorem sS_asgT (is : List Nat) (e : X) : SndS c n (.asgT is e) := by
  refine SndS.of (fun _ => rfl) fun M st hm => onSAssign_inv hm fun ts v pos hm => on1_inv (P := fun ts => SS c n (.asgT is e) M (.Assign ts v pos)) hm fun t hm => onTuple_inv (P := fun t => SS c n (.asgT is e) M (.Assign [t] v pos)) hm fun ts kk pt hm => ⟨fun {env σ Q A pe L ρ s} H h => ?_⟩
  have h1 := (and2 hm).1
  have m2 := (and2 hm).2
  have h2 := (and2 m2).1
  have h3 := (and2 (and2 m2).2).1
  have h4 := nt (and2 (and2 m2).2).2
  have hw : swappedStores [.Tuple ts kk pt] v pe = pure none := stores_plain h4 ts kk pt pe
  refine wpAny_Assign_stores (Po.use ((sound c n e).ev h2 H h) fun v s₁ ρ₁ σ₁ d S P R h => ?_) (by exact swaps_plain h3 (some (.Tuple ts kk pt)) pos.line pe) hw
  refine onAny_use R h (fun _ _ z => z.elim) (fun _ _ z => z.elim) (fun _ z => z.elim) (fun ds a vs ht hr h => onSome_use h fun env' he' h => ?_) (fun _ _ _ z => z.elim) (fun _ _ _ z => z.elim)
  have hl := asgs_len _ _ _ _ he'
  obtain ⟨t1, t2⟩ := tgt_each (M := M) (pe := pe) is ts h1
  show wpAny _ _ (assign (.Tuple ts kk pt) pe (.ref a)) _ _ _
  refine wpAny_assign_Tuple H.br.handled ht (by rw [t1, List.size_toArray, Reps.length hr, hl]) t2 fun h' he => ?_
  have kk' : ∀ b o, s₁.heap.get? b = some o → h'.get? b = some o := fun b o z => he b o (Nat.ne_of_lt (Heap.lt_size z)) z
  have S' : Sat c ρ₁ σ₁ { s₁ with heap := h' } := S.keeps kk' rfl rfl
  have P' : Stp ρ₁ [] s₁.heap ρ₁ h' := Stp.of_keeps kk'
  exact tgt_sound is ts ds _ env { s₁ with heap := h' } h1 he' ((H.step S P).step S' P') (Reps.stp hr P') fun s'' H'' P'' => ⟨ρ₁, σ₁, _, .next, H'', (P.trans P').wkL.trans P'', .next, h⟩
end
end
end
section
section
variable {c : Cx} {n : Nat} {ρ : Pm} {σ : Store} {s : Shared}

/-- what stands between two turns of a for -/
inductive FI (c : Cx) (n : Nat) (M : Mx) (pe : Env) (L : Addr) (A : Around) (ρ : Pm) (h0 : Heap) (it : Addr) (ds : List V) (I : List V → Lo → Store → Prop) (P : Nat → Heap → Prop) (G : Pm → Heap → Prop) (m : Nat) (s' : Shared) : Prop
  | mk (ρ' : Pm) (σ' : Store) (env' : Lo) (k : Nat) (hI : I (ds.drop k) env' σ') (H : Hp c n M pe L A ρ' σ' s' env') (S : Stp ρ [it, L] h0 ρ' s'.heap) (hk : k ≤ ds.length) (hm : m = ds.length + 1 - k) (p : P k s'.heap) (g : G ρ' s'.heap) (O : Own c ρ' s'.heap it) : FI c n M pe L A ρ h0 it ds I P G m s'
theorem FI.use {M : Mx} {pe : Env} {L : Addr} {A : Around} {h0 : Heap} {it : Addr} {ds : List V} {I : List V → Lo → Store → Prop} {P : Nat → Heap → Prop} {G : Pm → Heap → Prop} {m : Nat} {s' : Shared} {Z : Prop} (z : FI c n M pe L A ρ h0 it ds I P G m s')
    (g : ∀ (ρ' : Pm) (σ' : Store) (env' : Lo) (k : Nat), I (ds.drop k) env' σ' → Hp c n M pe L A ρ' σ' s' env' → Stp ρ [it, L] h0 ρ' s'.heap → k ≤ ds.length → m = ds.length + 1 - k → P k s'.heap → G ρ' s'.heap → Own c ρ' s'.heap it → Z) : Z :=
  let ⟨_, _, _, _, a, b, d, e, f, g', h, i⟩ := z; g _ _ _ _ a b d e f g' h i
inductive Pf (c : Cx) (n : Nat) (M : Mx) (pe : Env) (L : Addr) (A : Around) (ρ : Pm) (h0 : Heap) (it : Addr) (Q : Fl → Lo → Store → Prop) (f : Flow) (s' : Shared) : Prop
  | mk (ρ' : Pm) (σ' : Store) (env' : Lo) (fl : Fl) (H : Hp c n M pe L A ρ' σ' s' env') (S : Stp ρ [it, L] h0 ρ' s'.heap) (F : FlR c s'.heap ρ' f fl) (q : Q fl env' σ') : Pf c n M pe L A ρ h0 it Q f s'
theorem drop_get {ds : List V} {k : Nat} (h : k < ds.length) : ds.drop k = ds.getD k .none :: ds.drop (k + 1) := by
  rw [List.drop_eq_getElem_cons h, List.getD_eq_getElem?_getD, List.getElem?_eq_getElem h]; rfl
theorem for_core {M : Mx} {env : Lo} {A : Around} {pe : Env} {L : Addr} {b : S} (hb : SndS c n b) {i : Nat} {id : Str} {pid : Pos} {body : List Stmt} {it : Addr} {ds : List V} {Q : Fl → Lo → Store → Prop}
    (P : Nat → Heap → Prop) (G : Pm → Heap → Prop) (Z : Store → Prop) (I : List V → Lo → Store → Prop)
    (hloc : M.isLoc i id = true) (hbody : (mS M b).l body = true)
    (hPi : ∀ k h, P k h → ∃ o, h.get? it = some o ∧ ¬ Imm o)
    (hPk : ∀ k h h', P k h → (∀ o, h.get? it = some o → h'.get? it = some o) → P k h')
    (hG : ∀ ρ h ρ' h', G ρ h → Stp ρ [it, L] h ρ' h' → G ρ' h')
    (hZ : ∀ r env σ, I r env σ → Z σ)
    (item : ∀ k ρ σ s (Q' : Option Value → Shared → Prop) (E : Value → Shared → Prop), k < ds.length → Sat c ρ σ s → Z σ → G ρ s.heap → P k s.heap →
      (∀ v h' t', P (k + 1) h' → Heap.SameBut it s.heap h' → c.Rep s.heap ρ (ds.getD k .none) v → Q' (some v) { s with heap := h', toks := t' }) → wpAny (model c.prog c.w) A (pyNext (.ref it)) Q' E s)
    (fin : ∀ k ρ σ s (Q' : Option Value → Shared → Prop) (E : Value → Shared → Prop), k = ds.length → Sat c ρ σ s → Z σ → G ρ s.heap → P k s.heap →
      (∀ h' t', Heap.ExtBut it s.heap h' → Q' none { s with heap := h', toks := t' }) → wpAny (model c.prog c.w) A (pyNext (.ref it)) Q' E s)
    (step : ∀ x r env σ, I (x :: r) env σ → wpS (CallT c n) b (lset env i (some x)) σ (whlK (I r) Q))
    (done : ∀ env σ, I [] env σ → Q .next env σ)
    (h0 : I ds env σ) (H : Hp c n M pe L A ρ σ s env) (O : Own c ρ s.heap it) (hne : it ≠ L) (p0 : P 0 s.heap) (g0 : G ρ s.heap) :
    codeAny (model c.prog c.w) A (.forLoop (.Name id pid) (.ref it) body [] pe) (fun r s' => match r with
      | .ok f => Pf c n M pe L A ρ s.heap it Q f s'
      | .error _ => False) s := by
  have nit : it ∉ [L] := fun q => hne (List.mem_singleton.mp q)
  have nL : L ∉ [it] := fun q => hne (List.mem_singleton.mp q).symm
  have w1 : ∀ b ∈ [it], b ∈ [it, L] := fun b h => List.mem_cons.mpr (.inl (List.mem_singleton.mp h))
  have w2 : ∀ b ∈ [L], b ∈ [it, L] := fun b h => List.mem_cons_of_mem _ h
  refine codeAny_forLoop (FI c n M pe L A ρ s.heap it ds I P G) (fun m s' z => z.use fun ρ' σ' env' k hI H' PS hk hm hP hG' O' => ?_)
    (ds.length + 1) ⟨ρ, σ, env, 0, h0, H, Stp.refl _ _ _, Nat.zero_le _, rfl, p0, g0, O⟩
  by_cases hlt : k < ds.length
  · refine item k ρ' σ' s' _ _ hlt H'.sat (hZ _ _ _ hI) hG' hP fun v h' t' hP' sb rv => ?_
    have T₁ := touch (t := t') H'.sat O' sb.extBut
    have O₁ : Own c ρ' h' it := (hPi _ _ hP').elim fun o z => O'.again z.1 z.2
    rw [drop_get hlt] at hI
    refine wpAny_assign_Name (store_sound ⟨H'.pe, H'.br, T₁.1, H'.fm.stp T₁.2 nL⟩ hloc (rv.stp T₁.2) fun s₂ H₂ P₂ => ?_)
    refine Ps.use (hb.ls hbody H₂ (step _ _ _ _ hI)) fun f s₃ ρ₃ σ₃ env₃ fl H₃ P₃ R q => ?_
    have PB : Stp ρ' [L] h' ρ₃ s₃.heap := P₂.trans P₃
    have PT : Stp ρ' [it, L] s'.heap ρ₃ s₃.heap := (T₁.2.wk w1).trans (PB.wk w2)
    revert q
    exact FlR.use R (fun q => ⟨ds.length + 1 - (k + 1), hm ▸ Nat.sub_lt_sub_left (Nat.lt_succ_of_lt hlt) (Nat.lt_succ_self k), ρ₃, σ₃, env₃, k + 1, q, H₃, PS.trans PT, hlt, rfl, hPk _ _ _ hP' (fun o e => PB.keep _ _ e O₁.nin nit), hG _ _ _ _ hG' PT, O₁.stp PB nit⟩)
      (fun q => ⟨ρ₃, σ₃, env₃, .next, H₃, PS.trans PT, .next, q⟩) fun v w r q => ⟨ρ₃, σ₃, env₃, _, H₃, PS.trans PT, .ret r, q⟩
  · have hk' : k = ds.length := Nat.le_antisymm hk (Nat.le_of_not_lt hlt)
    refine fin k ρ' σ' s' _ _ hk' H'.sat (hZ _ _ _ hI) hG' hP fun h' t' he => ?_
    have T₁ := touch (t := t') H'.sat O' he
    rw [hk', List.drop_length] at hI
    exact wpAny_execs_nil ⟨ρ', σ', env', .next, ⟨H'.pe, H'.br, T₁.1, H'.fm.stp T₁.2 nL⟩, PS.trans (T₁.2.wk w1), .next, done _ _ hI⟩

/-- what a loop's own iterator is -/
theorem Own.fresh {h' : Heap} {o : Obj} (S : Sat c ρ σ s) (e : h' = s.heap.push o) (i : ¬ Imm o) (hf : o.isFreed = false) : Own c ρ h' s.heap.objs.size := by
  have nI : s.heap.get? s.heap.objs.size = none := Heap.get?_none_of_le (Nat.le_refl _)
  subst e
  exact ⟨S.base_none nI, S.nin nI, o, Heap.get?_push_size _ hf, i⟩

theorem Fm.ne {h : Heap} {L a : Addr} {names : List Str} {env : Lo} (F : Fm c h ρ L names env) (e : h.get? a = none) : a ≠ L := by
  obtain ⟨o, z, _⟩ := F.own.live
  rintro rfl
  rw [z] at e; cases e

theorem Pf.done {M : Mx} {pe : Env} {L : Addr} {A : Around} {ρ₁ ρ₂ : Pm} {h h₁ h₂ : Heap} {it : Addr} {Q : Fl → Lo → Store → Prop} {f : Flow} {s' : Shared} (z : Pf c n M pe L A ρ₂ h₂ it Q f s') (P : Stp ρ [] h ρ₁ h₁) (P₂ : Stp ρ₁ [] h₁ ρ₂ h₂) (nI : h₁.get? it = none) : Ps c n M pe L A ρ h Q f s' :=
  let ⟨ρ', σ', env', fl, H', P', R', q⟩ := z
  ⟨ρ', σ', env', fl, H', P.wkL.trans (((P₂.wk (fun _ z => nomatch z)).trans P').drop fun b hb => (List.mem_cons.mp hb).elim (fun e => .inr (e ▸ nI)) .inl), R', q⟩
theorem sS_forE (i : Nat) (e : X) {b : S} (hb : SndS c n b) : SndS c n (.forE i e b) := by
  refine SndS.of (fun _ => rfl) fun M st hm => onSFor_inv hm fun t v body y pos hm => ?_
  have e0 : y = [] := List.isEmpty_iff.mp (and2 hm).1
  subst e0
  refine onName_inv (P := fun t => SS c n (.forE i e b) M (.For t v body [] pos)) (and2 hm).2 fun id pid hm => ⟨fun {env σ Q A pe L ρ s} H h => ?_⟩
  have h1 := (and2 hm).1
  have h2 := (and2 (and2 hm).2).1
  have h3 := (and2 (and2 (and2 hm).2).2).1
  have h4 := (and2 (and2 (and2 hm).2).2).2
  refine wpAny_For (Po.use ((sound c n e).ev h2 H h) fun v s₁ ρ₁ σ₁ d S P R h => ?_) (not_set h2)
  have H₁ := H.step S P
  have nI : s₁.heap.get? s₁.heap.objs.size = none := Heap.get?_none_of_le (Nat.le_refl _)
  refine onAny_use R h (fun _ _ z => z.elim) (fun _ _ z => z.elim) (fun _ z => z.elim) (fun ds a vs ht hr h => ?_) (fun m v R h => onLst_use h fun ds hc h => ?_) (fun _ _ _ z => z.elim)
  · obtain ⟨I, i0, step, done⟩ := h
    have hlen := Reps.length hr
    refine wpAny_pyIter_tuple ht ?_
    have S₂ : Sat c ρ₁ σ₁ { s₁ with heap := s₁.heap.push { cls := .type "tuple_iterator", data := .fields #[.ref a, .int 0 0] } } := S.push _
    have P₂ := Stp.push ρ₁ [] s₁.heap { cls := .type "tuple_iterator", data := .fields #[.ref a, .int 0 0] }
    refine codeAny_mono (for_core (ds := ds) hb (fun k h => h.IsTupleIter s₁.heap.objs.size a k) (fun ρ h => IsTup h a vs.toArray ∧ c.Reps h ρ ds vs) (fun _ => True) I h1 h3 ?_ ?_ ?_ (fun _ _ _ _ => trivial) ?_ ?_ step done i0 (H₁.step S₂ P₂) (Own.fresh S rfl ?_ rfl) (H₁.fm.ne nI) ⟨_, Heap.get?_push_size _ rfl, rfl, rfl⟩ ⟨isTup_imm P₂.imm ht, hr.stp P₂⟩) fun r s' z => ?_
    · rintro k h ⟨o, e, q, d⟩
      exact ⟨o, e, by rintro (⟨_, _, _, z⟩ | z) <;> (rw [d] at z; cases z)⟩
    · rintro k h h' ⟨o, e, q⟩ kk
      exact ⟨o, kk _ e, q⟩
    · rintro ρ h ρ' h' ⟨g1, g2⟩ P
      exact ⟨isTup_imm P.imm g1, g2.stp P⟩
    · intro k ρ σ s Q' E hlt S _ g p q
      obtain ⟨v, hv, rv⟩ := Reps.get g.2 hlt
      exact wpAny_pyNext_tuple_item p g.1 (x := v) (by rw [List.getElem?_toArray]; exact hv) fun h' hp sb => q v h' s.toks hp sb rv
    · intro k ρ σ s Q' E hlt S _ g p q
      exact wpAny_pyNext_tuple_end H.br.handled p g.1 (by rw [List.getElem?_toArray, List.getElem?_eq_none (by omega)]) fun h' sb => q h' s.toks sb
    · rintro (⟨_, _, _, z⟩ | z) <;> cases z
    · cases r with
      | error _ => exact z.elim
      | ok f => exact z.done P P₂ nI
  · obtain ⟨I, i0, hZ, step, done⟩ := h
    refine S.list_ hc R fun a vs nn hq g rr hl => ?_
    refine wpAny_pyIter_list (isL g) ?_
    have S₂ : Sat c ρ₁ σ₁ { s₁ with heap := s₁.heap.push { cls := .type "list_iterator", data := .fields #[.ref a, .int 0 0] } } := S.push _
    have P₂ := Stp.push ρ₁ [] s₁.heap { cls := .type "list_iterator", data := .fields #[.ref a, .int 0 0] }
    refine codeAny_mono (for_core (ds := ds) hb (fun k h => h.IsListIter s₁.heap.objs.size a k) (fun ρ h => ρ[m]? = some (a, a)) (fun σ => σ[m]? = some (.list ds)) I h1 h3 ?_ ?_ ?_ hZ ?_ ?_ step done i0 (H₁.step S₂ P₂) (Own.fresh S rfl ?_ rfl) (H₁.fm.ne nI) ⟨_, Heap.get?_push_size _ rfl, rfl, rfl⟩ hq) fun r s' z => ?_
    · rintro k h ⟨o, e, q, d⟩
      exact ⟨o, e, by rintro (⟨_, _, _, z⟩ | z) <;> (rw [d] at z; cases z)⟩
    · rintro k h h' ⟨o, e, q⟩ kk
      exact ⟨o, kk _ e, q⟩
    · rintro ρ h ρ' h' g P
      obtain ⟨δ, rfl⟩ := P.ext
      rw [List.getElem?_append_left (List.getElem?_eq_some_iff.mp g).1]; exact g
    · intro k ρ σ s Q' E hlt S z g p q
      obtain ⟨a', vs', nn', ea, hq', g', rr', _⟩ := S.list z (.obj (r := (a, a)) g)
      cases ea
      obtain ⟨v, hv, rv⟩ := Reps.get rr' hlt
      exact wpAny_pyNext_list_item p (isL g') (x := v) (by rw [List.getElem?_toArray]; exact hv) fun h' hp sb => q v h' s.toks hp sb rv
    · intro k ρ σ s Q' E hlt S z g p q
      obtain ⟨a', vs', nn', ea, hq', g', rr', _⟩ := S.list z (.obj (r := (a, a)) g)
      cases ea
      have hlen := Reps.length rr'
      exact wpAny_pyNext_list_end H.br.handled p (isL g') (by rw [List.getElem?_toArray, List.getElem?_eq_none (by omega)]) fun h' sb => q h' s.toks sb
    · rintro (⟨_, _, _, z⟩ | z) <;> cases z
    · cases r with
      | error _ => exact z.elim
      | ok f => exact z.done P P₂ nI
end
end
section
theorem lookup_skip {α β : Type} [BEq α] [LawfulBEq α] (a : α) (v : β) (l : List (α × β)) (as : List α) (h : a ∉ as) : as.filterMap (fun n => (((a, v) :: l).lookup n).map fun x => (n, x)) = as.filterMap (fun n => (l.lookup n).map fun x => (n, x)) := by
  induction as with
  | nil => rfl
  | cons b as ih => rw [List.filterMap_cons, List.filterMap_cons, List.lookup_cons, beq_eq_false_iff_ne.mpr (fun (e : b = a) => h (e ▸ List.mem_cons_self)), ih fun q => h (List.mem_cons_of_mem _ q)]
theorem zip_lookup {α β : Type} [BEq α] [LawfulBEq α] (as : List α) (vs : List β) (hn : as.Nodup) (h : vs.length = as.length) : as.filterMap (fun n => ((as.zip vs).lookup n).map fun x => (n, x)) = as.zip vs := by
  induction as generalizing vs with
  | nil => rfl
  | cons a as ih =>
    cases vs with
    | nil => cases h
    | cons v vs =>
      rw [List.zip_cons_cons, List.filterMap_cons, lookup_skip a v _ as (List.nodup_cons.mp hn).1, ih vs (List.nodup_cons.mp hn).2 (Nat.succ.inj h), List.lookup_cons_self]
      rfl
theorem zip_isSome {α β : Type} [BEq α] [LawfulBEq α] (as : List α) (vs : List β) (h : vs.length = as.length) : ∀ n ∈ as, ((as.zip vs).lookup n).isNone = false := by
  induction as generalizing vs with
  | nil => exact fun _ h => nomatch h
  | cons a as ih =>
    cases vs with
    | nil => cases h
    | cons v vs =>
      intro n hn
      rw [List.zip_cons_cons, List.lookup_cons]
      cases q : n == a with
      | true => rfl
      | false => exact ih vs (Nat.succ.inj h) n ((List.mem_cons.mp hn).resolve_left (beq_eq_false_iff_ne.mp q))
theorem zip_lookup0 {α β : Type} [BEq α] [LawfulBEq α] {as : List α} {vs : List β} (hn : as.Nodup) (h : vs.length = as.length) : (as ++ []).filterMap (fun n => ((as.zip vs).lookup n).map fun x => (n, x)) = as.zip vs := by rw [List.append_nil]; exact zip_lookup as vs hn h
theorem no_missing {α β : Type} [BEq α] [LawfulBEq α] {as : List α} {vs : List β} (h : vs.length = as.length) (k : Nat) : ¬ (!((as.take k).filter (fun n => ((as.zip vs).lookup n).isNone)).isEmpty) = true := by
  rw [List.filter_eq_nil_iff.mpr fun n hn => by rw [zip_isSome _ _ h n (List.mem_of_mem_take hn)]; decide]; exact Bool.false_ne_true
theorem dec_f {p : Prop} {α : Type} {d : Decidable p} {x : ¬ p → α} {y : p → α} {z : α} (hp : ¬ p) (h : x hp = z) : Decidable.rec (motive := fun _ => α) x y d = z := by
  cases d with
  | isFalse q => exact h
  | isTrue q => exact absurd q hp
theorem bind_z {α β : Type} {x : Sem α} {k : α → Sem β} {a : α} {z : Sem β} (h : x = pure a) (h2 : k a = z) : (x >>= k) = z := by subst h; exact h2
theorem for_zip {α β γ : Type} {l : List α} {l2 : List β} {s : γ} {f : α × β → γ → Sem (ForInStep γ)} (h : l2 = []) : forIn (l.zip l2) s f = pure s := by rw [h, List.zip_nil_right]; rfl
theorem bind_plain {fd : FuncData} {vs : List Value} {as : List Arg} {kd : List (Option PySem.Expr)} {df : List PySem.Expr} (hp : fd.params = ⟨[], as, none, [], kd, none, df⟩) (hnd : (as.map (·.arg)).Nodup) (hl : vs.length = as.length) (hd : fd.defaults = .none) : bindArgs fd ⟨vs, []⟩ = pure ((as.map (·.arg)).zip vs) := by
  obtain ⟨a1, a2, a3, a4, a5, a6, a7, a8, a9, a10, a11, a12, a13, a14, a15⟩ := fd
  dsimp only at hp hd
  subst hp; subst hd
  refine dec_f (fun h => Nat.lt_irrefl _ (((List.length_map (as := as) (·.arg)).trans hl.symm) ▸ of_decide_eq_true (and2 h).1)) ?_
  refine dec_f (no_missing (as := as.map (·.arg)) (vs := vs) (by rw [List.length_map]; exact hl) _) ?_
  refine bind_z (for_zip List.drop_nil) ?_
  exact congrArg (pure : _ → Sem _) (zip_lookup0 (as := as.map (·.arg)) (vs := vs) hnd (by rw [List.length_map]; exact hl))

section
variable {c : Cx} {n : Nat} {ρ : Pm} {σ : Store} {s : Shared}

theorem rangeV_len (l h : Int) : (rangeV l h).length = (h - l).toNat := by unfold rangeV; simp
theorem rangeV_get {l h : Int} {k : Nat} (hk : k < (h - l).toNat) : ((rangeV l h).map V.int).getD k .none = .int (l + k) := by
  unfold rangeV
  rw [List.getD_eq_getElem?_getD, List.getElem?_map, List.getElem?_map, List.getElem?_range hk]
  rfl
theorem range_boot : bootBuiltins ("range" : Str) = some (.type "range") := by decide +kernel
theorem range_keeps {M : Model} (h : Heap) : ∃ k, (k = Keeper.frame ∨ k = Keeper.machine ∨ k = Keeper.boundFrame) ∧ Looks M h (keeperOf (.type "range")) k :=
  ⟨.machine, .inr (.inl rfl), Looks.of_pure rfl⟩

theorem map_int_inj : ∀ ys xs : List Int, ys.map V.int = xs.map V.int → ys = xs
  | [], [], _ => rfl
  | [], _ :: _, e => by cases e
  | _ :: _, [], e => by cases e
  | y :: ys, x :: xs, e => by
    injection e with e1 e2
    injection e1 with e1
    rw [e1, map_int_inj ys xs e2]

theorem range_loop {M : Mx} {env : Lo} {A : Around} {pe : Env} {L r : Addr} {b : S} (hb : SndS c n b) {i : Nat} {id : Str} {pid : Pos} {body : List Stmt} {l h : Int} {t u v : Tok} {Q : Fl → Lo → Store → Prop} {I : List Int → Lo → Store → Prop}
    (hloc : M.isLoc i id = true) (hbody : (mS M b).l body = true) (hs : l < 2 ^ 60 ∧ -(2 ^ 60) < l ∧ h < 2 ^ 60 ∧ -(2 ^ 60) < h) (i0 : I (rangeV l h) env σ)
    (step : ∀ x r env σ, I (x :: r) env σ → wpS (CallT c n) b (lset env i (some (.int x))) σ (whlK (I r) Q))
    (done : ∀ env σ, I [] env σ → Q .next env σ) (H : Hp c n M pe L A ρ σ s env) (hr : IsRange s.heap r l h 1 t u v) :
    wpAny (model c.prog c.w) A (pyIter (.ref r)) (fun it s₂ => codeAny (model c.prog c.w) A (.forLoop (.Name id pid) it body [] pe) (fun r s' => match r with | .ok f => Ps c n M pe L A ρ s.heap Q f s' | .error _ => False) s₂) No s := by
  have nI : s.heap.get? s.heap.objs.size = none := Heap.get?_none_of_le (Nat.le_refl _)
  have hinj : ∀ ys env σ, (∃ xs, ys.map V.int = xs.map V.int ∧ I xs env σ) = I ys env σ := fun ys env σ => propext ⟨fun ⟨xs, e, z⟩ => by
    have : ys = xs := map_int_inj ys xs e
    rw [this]; exact z, fun z => ⟨ys, rfl, z⟩⟩
  have esz : Builtin.Range.rangeSize l h 1 = ((h - l).toNat : Int) := by rw [rangeSize_one]; split <;> omega
  refine wpAny_pyIter_range hr (small_one (by omega) (by omega) (by omega) (by omega)) ?_
  rw [esz]
  have S₂ : Sat c ρ σ { s with heap := s.heap.push { cls := .type "range_iterator", data := .fields #[rawInt l, rawInt ((h - l).toNat : Int), rawInt 1] } } := H.sat.push _
  have P₂ := Stp.push ρ [] s.heap { cls := .type "range_iterator", data := .fields #[rawInt l, rawInt ((h - l).toNat : Int), rawInt 1] }
  refine codeAny_mono (for_core (Q := Q) (ds := (rangeV l h).map V.int) hb (fun k h' => IsRangeIter h' s.heap.objs.size (l + k) ((h - l).toNat - k) 1) (fun _ _ => True) (fun _ => True) (fun vs env σ => ∃ xs, vs = xs.map V.int ∧ I xs env σ) hloc hbody ?_ ?_ ?_ (fun _ _ _ _ => trivial) ?_ ?_ ?_ ?_ ⟨_, rfl, i0⟩ (H.step S₂ P₂) (Own.fresh H.sat rfl ?_ rfl) (H.fm.ne nI) ?_ trivial) fun r s' z => ?_
  · rintro k h' e
    exact ⟨_, e, by rintro (⟨_, _, _, z⟩ | z) <;> cases z⟩
  · rintro k h' h'' e kk
    exact kk _ e
  · intros; trivial
  · intro k ρ σ s Q' E hlt S _ g p q
    rw [List.length_map, rangeV_len] at hlt
    refine wpAny_pyNext_range_item p (by omega) fun h' hp sb => q (.int (l + k) s.toks) h' (s.toks + 1) ?_ sb (by rw [rangeV_get hlt]; exact .int _ _)
    have e1 : l + ↑(k + 1) = l + ↑k + 1 := by omega
    have e2 : (((h - l).toNat : Int) - ↑(k + 1)) = ((h - l).toNat : Int) - ↑k - 1 := by omega
    rw [e1, e2]
    exact hp
  · intro k ρ σ s Q' E hlt S _ g p q
    rw [List.length_map, rangeV_len] at hlt
    exact wpAny_pyNext_range_end H.br.handled p (by omega) fun h' sb => q h' s.toks sb
  · rintro x r env σ ⟨xs, e, hI⟩
    cases xs with
    | nil => cases e
    | cons y ys =>
      cases e
      have := step y ys env σ hI
      simp only [hinj]
      exact this
  · rintro env σ ⟨xs, e, hI⟩
    cases xs with
    | nil => exact done _ _ hI
    | cons _ _ => cases e
  · rintro (⟨_, _, _, z⟩ | z) <;> cases z
  · show IsRangeIter _ _ _ _ _
    simp only [Int.natCast_zero, Int.add_zero, Int.sub_zero]
    exact Heap.get?_push_size _ rfl
  · cases r with
    | error _ => exact z.elim
    | ok f => exact z.done (Stp.refl _ _ _) P₂ nI

noncomputable def rngQ (c : Cx) (n : Nat) (b : S) (i : Nat) (Q : Fl → Lo → Store → Prop) (env : Lo) (vl vh : V) (σ' : Store) : Prop := onInt vl fun l => onInt vh fun h => (l < 2 ^ 60 ∧ -(2 ^ 60) < l ∧ h < 2 ^ 60 ∧ -(2 ^ 60) < h) ∧ ∃ I : List Int → Lo → Store → Prop, I (rangeV l h) env σ' ∧
    (∀ x r env σ, I (x :: r) env σ → wpS (CallT c n) b (lset env i (some (.int x))) σ (whlK (I r) Q)) ∧
    ∀ env σ, I [] env σ → Q .next env σ

theorem sS_forR (i : Nat) (lo hi : X) {b : S} (hb : SndS c n b) : SndS c n (.forR i lo hi b) := by
  refine SndS.of (fun _ => rfl) fun M st hm => onSFor_inv hm fun t it body y pos hm => ?_
  have e0 : y = [] := List.isEmpty_iff.mp (and2 hm).1
  subst e0
  refine onName_inv (P := fun t => SS c n (.forR i lo hi b) M (.For t it body [] pos)) (and2 hm).2 fun id pid hm => onCall_inv (P := fun it => SS c n (.forR i lo hi b) M (.For (.Name id pid) it body [] pos)) hm fun g as kw pc hm => ?_
  have e0 : kw = [] := List.isEmpty_iff.mp (and2 hm).1
  subst e0
  refine onName_inv (P := fun g => SS c n (.forR i lo hi b) M (.For (.Name id pid) (.Call g as [] pc) body [] pos)) (and2 hm).2 fun f pf hm => ⟨fun {env σ Q A pe L ρ s} H h => ?_⟩
  have h1 := (and2 hm).1
  have m2 := (and2 hm).2
  have h2 := (and2 m2).1
  have m3 := (and2 m2).2
  have e1 := eq_of_beq (and2 m3).1
  have m4 := (and2 m3).2
  have h4 := eq_of_beq (and2 m4).1
  have h5 := (and2 (and2 m4).2).1
  have h6 := rngArgs_inv (and2 (and2 m4).2).2
  subst e1
  rw [H.pe.K] at h4
  have fin : ∀ {ρ₁ σ₁ s₁ l h t u v s₂ r}, Sat c ρ₁ σ₁ s₁ → Stp ρ [] s.heap ρ₁ s₁.heap → (l < 2 ^ 60 ∧ -(2 ^ 60) < l ∧ h < 2 ^ 60 ∧ -(2 ^ 60) < h) → (∃ I : List Int → Lo → Store → Prop, I (rangeV l h) env σ₁ ∧
    (∀ x r env σ, I (x :: r) env σ → wpS (CallT c n) b (lset env i (some (.int x))) σ (whlK (I r) Q)) ∧
    ∀ env σ, I [] env σ → Q .next env σ) → (∀ b o, s₁.heap.get? b = some o → s₂.heap.get? b = some o) → s₂.gens = s₁.gens → s₂.os = s₁.os → IsRange s₂.heap r l h 1 t u v →
    wpAny (model c.prog c.w) A (pyIter (.ref r)) (fun it s₂ => codeAny (model c.prog c.w) A (.forLoop (.Name id pid) it body [] pe) (fun r s' => match r with | .ok f => Ps c n M pe L A ρ s.heap Q f s' | .error e => cameBackBy (model c.prog c.w) A pe No e s') s₂) No s₂ := by
    rintro ρ₁ σ₁ s₁ l h t u v s₂ r S P hs ⟨I, i0, step, done⟩ kk kg ko hr
    have S₂ : Sat c ρ₁ σ₁ s₂ := S.keeps kk kg ko
    have P₂ : Stp ρ₁ [] s₁.heap ρ₁ s₂.heap := Stp.of_keeps kk
    refine wpAny_mono (range_loop hb h1 h5 hs i0 step done ((H.step S P).step S₂ P₂) hr) (fun it s₃ h₃ => codeAny_mono h₃ fun r s' z => ?_) fun _ _ z => z
    cases r with
    | error _ => exact z.elim
    | ok f => exact Ps.after (P.trans P₂).wkL z
  refine wpAny_For (Call_ (name_blt H h2 h4 range_boot (by decide +kernel) ?_)) (fun _ => rfl)
  rcases h6 with ⟨e1, rfl, h7, h8⟩ | ⟨e1, e2, rfl, h7, h8⟩
  · have e0 : lo = .int 0 := onXInt_inv (P := fun lo => lo = .int 0) h7 fun i h => by rw [eq_of_beq h]
    subst e0
    have hm' : (mt M (.cons hi .nil)).l [e1] = true := by
      show ((mt M hi).e e1 && true) = true
      rw [h8]; rfl
    refine callWith_of (P := fun _ => True) (by rw [star_plain (.cons hi .nil) _ hm']; rfl) (fun h _ => range_keeps h) ?_
    refine args_use (args_of (sound c n (.cons hi .nil)) (Q := fun vs σ' => onOne vs fun vh => rngQ c n b i Q env (.int 0) vh σ') hm' H h) fun a s₁ ek ρ₁ σ₁ ds S P R h => ?_
    refine ⟨trivial, ?_⟩
    rw [ek, List.nil_append]
    obtain ⟨pos, kw⟩ := a
    dsimp only at R ⊢
    exact onOne_use R h fun vh x r h => onInt_use r h fun h' t h => call_range_1 (fin S P h.1 h.2 (fun _ _ e => Heap.get?_push_of_some _ e) rfl rfl (Heap.get?_push_size _ rfl))
  · have hm' : (mt M (.cons lo (.cons hi .nil))).l [e1, e2] = true := by
      show ((mt M lo).e e1 && ((mt M hi).e e2 && true)) = true
      rw [h7, h8]; rfl
    refine callWith_of (P := fun _ => True) (by rw [star_plain (.cons lo (.cons hi .nil)) _ hm']; rfl) (fun h _ => range_keeps h) ?_
    refine args_use (args_of (sound c n (.cons lo (.cons hi .nil))) (Q := fun vs σ' => onTwo vs fun vl vh => rngQ c n b i Q env vl vh σ') hm' H h) fun a s₁ ek ρ₁ σ₁ ds S P R h => ?_
    refine ⟨trivial, ?_⟩
    rw [ek, List.nil_append]
    obtain ⟨pos, kw⟩ := a
    dsimp only at R ⊢
    exact onTwo_use R h fun vl vh x y r r' h => onInt_use r h fun l t h => onInt_use r' h fun h' u h => call_range_2 (fin S P h.1 h.2 (fun _ _ e => Heap.get?_push_of_some _ e) rfl rfl (Heap.get?_push_size _ rfl))

theorem load_loc {M : Mx} {env : Lo} {A : Around} {pe : Env} {L : Addr} {i : Nat} {id : Str} {d : V} {Q : Value → Shared → Prop} {E : Value → Shared → Prop} {Mo : Model} (H : Hp c n M pe L A ρ σ s env) (hi : M.isLoc i id = true) (e : lget env i = some (some d))
    (h : ∀ v, c.Rep s.heap ρ d v → Q v s) : wpAny Mo A (loadName pe id) Q E s := by
  unfold Mx.isLoc at hi
  rw [lget_eq] at e
  simp only [Bool.and_eq_true, beq_iff_eq, Bool.not_eq_true', beq_eq_false_iff_ne] at hi
  obtain ⟨⟨h1, h2⟩, h3⟩ := hi
  obtain ⟨m, N, hh⟩ := H.fm.ns
  obtain ⟨x, v, a1, a2, a3⟩ := hh i d e
  rw [h1] at a1; cases a1
  exact wpAny_loadName_local (by rw [H.pe.scope]; exact H.pe.kind) (by unfold Env.kindOf; rw [H.pe.scope]; exact h2) (by rw [H.pe.loc]; exact N) a2 (h v a3)

theorem sS_aug (i : Nat) (op : Operator) (e : X) : SndS c n (.aug i op e) := by
  refine SndS.of (fun _ => rfl) fun M st hm => onSAugAssign_inv hm fun t op' v pos hm => onName_inv (P := fun t => SS c n (.aug i op e) M (.AugAssign t op' v pos)) hm fun id ip hm => ⟨fun {env σ Q A pe L ρ s} H h => ?_⟩
  have h1 := (and2 hm).1
  have e0 := eq_of_beq (and2 (and2 hm).2).1
  have h3 := (and2 (and2 hm).2).2
  subst e0
  refine onSome_use h fun o ed h => onSome_use h fun d e' h => ?_
  subst e'
  refine wpAny_AugAssign_Name (load_loc H h1 ed fun v rv => ?_)
  refine Po.use ((sound c n e).ev h3 H h) fun w s₁ ρ₁ σ₁ d₁ S P R h => ?_
  have rv' := rv.stp P
  have S' : Sat c ρ₁ σ₁ { s₁ with toks := s₁.toks + 1 } := S.toks
  cases op <;> first | exact False.elim h | skip
  · exact onInt_use rv' h fun x t h => onInt_use R h fun y u h => PyProof.Rows.iadd_int (store_sound (H.step S' P) h1 (.int _ _) fun s' H' P' => ⟨ρ₁, σ₁, _, _, H', P.wkL.trans P', .next, h⟩)
  · exact onInt_use rv' h fun x t h => onInt_use R h fun y u h => PyProof.Rows.isub_int (store_sound (H.step S' P) h1 (.int _ _) fun s' H' P' => ⟨ρ₁, σ₁, _, _, H', P.wkL.trans P', .next, h⟩)

theorem list_set {a : Addr} {i j : Nat} {ds : List V} {vs : List Value} {nn : Nat} {d : V} {v : Value} (S : Sat c ρ σ s) (hq : ρ[i]? = some (a, a)) (g : s.heap.get? a = some { cls := .type "list", dict := none, data := .seq (List.toArray vs) nn, slots := #[] })
    (rr : c.Reps s.heap ρ ds vs) (hl : ds.length ≤ 1000000) (rv : c.Rep s.heap ρ d v) {t : Nat} :
    Sat c ρ (σ.set i (.list (ds.set j d))) { s with heap := s.heap.update a (Obj.mapSeq (·.setIfInBounds j v)), toks := t } ∧ Stp ρ [] s.heap ρ (s.heap.update a (Obj.mapSeq (·.setIfInBounds j v))) := by
  have g' := IsL.update (show IsL s.heap a vs.toArray nn from g) (fun xs => xs.setIfInBounds j v)
  have im : ∀ b o, s.heap.get? b = some o → Imm o → (s.heap.update a (Obj.mapSeq fun xs => xs.setIfInBounds j v)).get? b = some o := fun b o e z => by
    by_cases q : b = a
    · subst q; exact absurd z (S.notImm hq e)
    · rw [Heap.get?_update_other _ _ (Ne.symm q)]; exact e
  have rset : ∀ (ds : List V) (vs : List Value) (j : Nat), c.Reps (s.heap.update a (Obj.mapSeq fun xs => xs.setIfInBounds j v)) ρ ds vs → True := fun _ _ _ _ => trivial
  have rs : ∀ {ds : List V} {vs : List Value} (h : Heap) (k : Nat), c.Reps h ρ ds vs → c.Rep h ρ d v → c.Reps h ρ (ds.set k d) (vs.set k v) := by
    intro ds
    induction ds with
    | nil => intro vs h k r _; cases r; exact .nil
    | cons x ds ih =>
      intro vs h k r q
      cases r with | cons r1 r2 =>
        cases k with
        | zero => exact .cons q r2
        | succ k => exact .cons r1 (ih h k r2 q)
  exact S.upd (s' := { s with heap := s.heap.update a (Obj.mapSeq fun xs => xs.setIfInBounds j v), toks := t }) (cl := .list (ds.set j d)) hq (fun b hb => Heap.get?_update_other _ _ (Ne.symm hb))
    ⟨vs.set j v, _, rfl, by rw [List.setIfInBounds_toArray] at g'; exact g', rs _ j (rr.mono im ⟨[], by simp⟩) (rv.mono im ⟨[], by simp⟩), by rw [List.length_set]; exact hl⟩ rfl rfl

theorem aug_plain {i : Expr} (h : isSlice i = false) : ∀ ov iv new, augStore i ov iv new = (do holding [new, ov, iv] (setItem ov iv new); release [new, ov, iv] []; pure .next) := by
  cases i <;> first | exact fun _ _ _ => rfl | exact (Bool.false_ne_true h.symm).elim
@[elab_as_elim] theorem augV_use {op : Operator} {a b : V} {σ : Store} {Q : V → Store → Prop} {G : Operator → Prop} (h : augV op a b σ Q) (kA : (onInt a fun x => onInt b fun y => Q (.int (x + y)) σ) → G .Add) (kS : (onInt a fun x => onInt b fun y => Q (.int (x - y)) σ) → G .Sub) : G op := by
  cases op <;> first | exact kA h | exact kS h | exact h.elim
theorem sS_augI (o i : X) (op : Operator) (e : X) : SndS c n (.augI o i op e) := by
  refine SndS.of (fun _ => rfl) fun M st hm => onSAugAssign_inv hm fun t op' v pos hm => onSubscript_inv (P := fun t => SS c n (.augI o i op e) M (.AugAssign t op' v pos)) hm fun o' i' tp hm => ⟨fun {env σ Q A pe L ρ s} H h => ?_⟩
  have h1 := (and2 hm).1
  have m2 := (and2 hm).2
  have h2 := (and2 m2).1
  have e0 := eq_of_beq (and2 (and2 m2).2).1
  have h3 := (and2 (and2 (and2 m2).2).2).1
  have h4 := nt (and2 (and2 (and2 m2).2).2).2
  subst e0
  refine wpAny_AugAssign_SubscriptAny (Po.use ((sound c n o).ev h1 H h) fun ov s₁ ρ₁ σ₁ d₁ S₁ P₁ R₁ h => ?_) (aug_plain h4)
  refine Po.use ((sound c n i).ev h2 (H.step S₁ P₁) h) fun iv s₂ ρ₂ σ₂ d₂ S₂ P₂ R₂ h => ?_
  refine onObj_use R₁ h fun m ov R₁ h => onInt_use R₂ h fun k tk h => onLst_use h fun ds hc h => onSome_use h fun j ej h => S₂.list_ hc (R₁.stp P₂) fun a vs nn hq g rr hl => ?_
  have hj := seqNeg_of ej h.1
  have hlen := Reps.length rr
  refine (Reps.get rr hj.1).elim fun x hx => ?_
  refine wpAny_getItem_list_neg (isL g) h.1 (by rw [List.size_toArray, hlen]; exact hj.2.1) (Int.le_trans (by decide) (Int.le_of_lt h.2.1)) (by rw [List.getElem?_toArray, List.size_toArray, hlen, ← hj.2.2]; exact hx.1) ?_
  refine Po.use ((sound c n e).ev h3 ((H.step S₁ P₁).step S₂ P₂) h.2.2) fun w s₃ ρ₃ σ₃ d₃ S₃ P₃ R₃ qq => ?_
  rw [qq.1] at S₃
  have PP := P₁.trans (P₂.trans P₃)
  refine Sat.list_ (v := .ref a) (G := fun v => v = .ref a → _) S₃ hc (.obj (r := (a, a)) (P₃.get hq)) (fun a' vs' nn' hq' g' rr' hl' ea => ?_) rfl
  have ea := Value.ref.inj ea
  rw [ea] at g' hq'
  have hlen' := Reps.length rr'
  have fin : ∀ z : Int, Q .next env (σ₂.set m (.list (ds.set j (.int z)))) → wpAny (model c.prog c.w) A (setItem (.ref a) (.int k tk) (.int z s₃.toks)) (fun _ s' => Ps c n M pe L A ρ s.heap Q .next s') No { s₃ with toks := s₃.toks + 1 } := fun z hz => by
    have Z := list_set (j := j) (t := s₃.toks + 1) S₃ hq' g' rr' hl' (.int z s₃.toks)
    refine setItem_neg (isL g') h.1 (by rw [List.size_toArray, hlen']; exact hj.2.1) (Int.le_trans (by decide) (Int.le_of_lt h.2.1)) ?_
    rw [List.size_toArray, hlen', ← hj.2.2]
    exact ⟨ρ₃, _, env, .next, H.step Z.1 (PP.trans Z.2), (PP.trans Z.2).wkL, .next, hz⟩
  exact augV_use qq.2 (fun h => onInt_use (hx.2.stp P₃) h fun x t h => onInt_use R₃ h fun y u h => PyProof.Rows.iadd_int (fin _ h.2)) fun h => onInt_use (hx.2.stp P₃) h fun x t h => onInt_use R₃ h fun y u h => PyProof.Rows.isub_int (fin _ h.2)
end
end
section
section
variable {c : Cx} {n : Nat} {ρ : Pm} {σ : Store} {s : Shared}

theorem Ns_at {h h' : Heap} {a : Addr} {m : Str → Option Value} (N : h.Ns a m) (k : ∀ o, h.get? a = some o → h'.get? a = some o) : h'.Ns a m :=
  let ⟨o, es, ep, ho, r⟩ := N
  ⟨o, es, ep, k _ ho, r⟩

theorem sS_asgC (i : Nat) (t it : X) : SndS c n (.asgC i t it) := by
  refine SndS.of (fun _ => rfl) fun M st hm => onSAssign_inv hm fun ts v pos hm => on1_inv (P := fun ts => SS c n (.asgC i t it) M (.Assign ts v pos)) hm fun tg hm => onName_inv (P := fun tg => SS c n (.asgC i t it) M (.Assign [tg] v pos)) hm fun id p hm => ⟨fun {env σ Q A pe L ρ s} H h => ?_⟩
  have h1 := (and2 hm).1
  have h2 := (and2 (and2 hm).2).1
  have h3 := (and2 (and2 (and2 hm).2).2).1
  have h4 := (and2 (and2 (and2 hm).2).2).2
  obtain ⟨elt, x, px, iter, sc, pc, rfl, g1, g2, g3, g4, g5, g6, g7, g8⟩ := comp_inv h2
  replace h4 : (!(sc.names.any fun q => q.1 == id && (q.2 == .local || q.2 == .cell))) = true := h4
  have hloc := h1
  unfold Mx.isLoc at h1
  simp only [Bool.and_eq_true, beq_iff_eq, Bool.not_eq_true', beq_eq_false_iff_ne] at h1
  obtain ⟨⟨h1a, h1b⟩, h1c⟩ := h1
  have hsw : swapsWith (.ListComp elt [⟨.Name x px, iter, [], 0⟩] sc pc) (some (.Name id p)) pos.line pe = pure true := by
    show (pure (pe.blockKind == .function && pe.kindOf id == some .local && p.line == _ && !(sc.names.any fun q => q.1 == id && (q.2 == .local || q.2 == .cell))) : Sem Bool) = pure true
    rw [h4, h3]
    have : pe.blockKind = .function := by unfold Env.blockKind; rw [H.pe.scope, H.pe.kind]; rfl
    rw [this]
    have : pe.kindOf id = some .local := by unfold Env.kindOf; rw [H.pe.scope]; exact h1b
    rw [this]
    rfl
  rw [exec_Assign_Name_used _ _ _ _ hsw]
  refine wpAny_bind (wpAny_standAt (wpAny_bind (wpAny_bind ?_)))
  refine wpAny_mono (wpAny_comprehension_use (e := .ListComp elt [⟨.Name x px, iter, [], 0⟩] sc pc) (g := ⟨.Name x px, iter, [], 0⟩) (gs := []) (u := assign (.Name id p) pe) (Q := fun _ s' => Ps c n M pe L A ρ s.heap Q .next s') (E := No) rfl (not_set g1) g4 g3 g6 ?_) (fun _ s' z => wpAny_pure (wpAny_pure z)) fun _ _ z => z
  refine Po.use ((sound c n it).ev g1 H h) fun v s₁ ρ₁ σ₁ d S P R h => ?_
  refine onObj_use R h fun k v R h => onLst_use h fun ds e h => ?_
  obtain ⟨f, hw, hq⟩ := h
  refine wpAny_mono (comp_core (Q' := fun acc C s' => wpAny (model c.prog c.w) A (assign (.Name id p) pe acc) (fun _ s'' => ∃ m, s''.heap.Ns C m ∧ ∀ h', Heap.SameBut C s''.heap h' → Ps c n M pe L A ρ s.heap Q .next { s'' with heap := h' }) No s') (sound c n t) (M := M) H.pe H.br S e R g2 g3 g5 g7 g8 hw ?_)
    (fun it s₂ h₂ => wpAny_mono h₂ (fun acc s₃ h₃ => wpAny_mono h₃ (fun cenv s₄ h₄ => codeAny_mono h₄ fun r s' z => ?_) fun _ _ z => z) fun _ _ z => z) fun _ _ z => z
  · intro acc C ρ' s' m S' P' R' O' N' nC
    have H' := (H.step S P).step S' P'
    have hCL : C ≠ L := (H.step S P).fm.ne nC
    refine wpAny_assign_Name (store_sound H' hloc R' fun s'' H'' P'' => ?_)
    obtain ⟨o, eo, io⟩ := O'.live
    refine ⟨m, Ns_at N' fun o e => P''.keep _ _ e O'.nin (by simpa using hCL), fun h' sb => ?_⟩
    have O'' := O'.stp P'' (by simpa using hCL)
    obtain ⟨S3, P3⟩ := touch (t := s''.toks) H''.sat O'' sb.extBut
    have F3 := H''.fm.stp P3 (by simpa using Ne.symm hCL)
    refine ⟨ρ', _, _, .next, ⟨H''.pe, H''.br, S3, F3⟩, ?_, .next, hq⟩
    have PP : Stp ρ₁ [C, L] s₁.heap ρ' h' := (P'.wk (fun _ z => nomatch z)).trans ((P''.wk (by simp)).trans (P3.wk (by simp)))
    exact P.wkL.trans (PP.drop (by simp [nC]))
  · cases r with
    | error _ => exact z.elim
    | ok _ => exact z

theorem soundS (c : Cx) (n : Nat) : ∀ x : S, SndS c n x
  | .skip => sS_skip
  | .seq a b => sS_seq (soundS c n a) (soundS c n b)
  | .asg i e => sS_asg i e
  | .asgC i t it => sS_asgC i t it
  | .asgT is e => sS_asgT is e
  | .asgA C nm o e => sS_asgA C nm o e
  | .aug i op e => sS_aug i op e
  | .augI o i op e => sS_augI o i op e
  | .ifs t a b => sS_ifs t (soundS c n a) (soundS c n b)
  | .whl t b => sS_whl t (soundS c n b)
  | .forR i lo hi b => sS_forR i lo hi (soundS c n b)
  | .forE i e b => sS_forE i e (soundS c n b)
  | .ret e => sS_ret e
  | .expr e => sS_expr e
  | .brk => sS_brk
  | .rais => sS_rais

theorem lookup_none {α β : Type} [BEq α] [LawfulBEq α] {x : α} {l : List (α × β)} (h : x ∉ l.map (·.1)) : l.lookup x = none := List.lookup_eq_none_iff.mpr fun p hp => bne_iff_ne.mpr fun e => h (e ▸ List.mem_map_of_mem hp)
theorem lookup_app {α β : Type} [BEq α] [LawfulBEq α] (x : α) (b : α) (v : β) (l : List (α × β)) : (l ++ [(b, v)]).lookup x = (l.lookup x).or (if x == b then some v else none) := by
  rw [List.lookup_append, List.lookup_cons]
  cases x == b <;> rfl
theorem rev_lookup {α β : Type} [BEq α] [LawfulBEq α] {x : α} {v : β} (as : List α) (vs : List β) (i : Nat) (hn : as.Nodup) (h1 : as[i]? = some x) (h2 : vs[i]? = some v) : (as.zip vs).reverse.lookup x = some v := by
  induction as generalizing vs i with
  | nil => cases h1
  | cons a as ih =>
    cases vs with
    | nil => cases h2
    | cons w vs =>
      rw [List.zip_cons_cons, List.reverse_cons, lookup_app]
      cases i with
      | zero =>
        cases h1; cases h2
        rw [lookup_none fun q => ?_, beq_self_eq_true]
        · rfl
        · rw [List.map_reverse, List.mem_reverse] at q
          obtain ⟨p, hp, e⟩ := List.mem_map.mp q
          exact (List.nodup_cons.mp hn).1 (e ▸ (List.of_mem_zip (a := p.1) (b := p.2) hp).1)
      | succ i => rw [ih vs i (List.nodup_cons.mp hn).2 h1 h2]; rfl

noncomputable def onStmts (b : FuncBody) (f : List Stmt → Bool) : Bool := match b with | .stmts l => f l | _ => false
theorem onStmts_inv {b : FuncBody} {f : List Stmt → Bool} {P : FuncBody → Prop} (h : onStmts b f = true) (k : ∀ l, f l = true → P (.stmts l)) : P b := by
  cases b <;> first | exact k _ h | exact (Bool.false_ne_true h).elim
noncomputable def onFunc (d : Data) (f : FuncData → Bool) : Bool := match d with | .func fd => f fd | _ => false
theorem onFunc_inv {d : Data} {f : FuncData → Bool} {P : Data → Prop} (h : onFunc d f = true) (k : ∀ fd, f fd = true → P (.func fd)) : P d := by
  cases d <;> first | exact k _ h | exact (Bool.false_ne_true h).elim
noncomputable def fdOk (K : Frag) (dk : List Addr) (GT : List (Str × Value)) (fd : FuncData) (names : List Str) (np : Nat) (x : S) : Bool :=
  onStmts fd.body fun body => decide names.Nodup && (fd.scope.kind == .function && (!fd.scope.isGenerator && (!fd.scope.isCoroutine && ((fd.scope.names.all fun y => y.2 != .cell) &&
      (((names.take np).all fun y => fd.scope.names.lookup y == some .local) && (codeIn K fd.code fd.qualname && (fd.globals == mainGlobals && (fd.builtins == builtinsNs && (decide (np ≤ names.length) && (mS ⟨K, dk, GT, fd.scope, names⟩ x).l body)))))))))
noncomputable def fdPlain (fd : FuncData) (names : List Str) (np : Nat) : Bool :=
  fd.params.posonlyargs.isEmpty && (fd.params.vararg.isNone && (fd.params.kwonlyargs.isEmpty && (fd.params.kwarg.isNone && (decide (fd.defaults = .none) && (fd.params.args.map (·.arg) == names.take np && fd.params.args.length == np)))))
noncomputable def fnChk (K : Frag) (dk : List Addr) (GT : List (Str × Value)) (f : Addr) (names : List Str) (np : Nat) (x : S) : Bool := onO (K.lookup f) fun o => onFunc o.data fun fd => fdPlain fd names np && fdOk K dk GT fd names np x
theorem params_eq {p : Arguments} (h1 : p.posonlyargs = []) (h2 : p.vararg = none) (h3 : p.kwonlyargs = []) (h4 : p.kwarg = none) : p = ⟨[], p.args, none, [], p.kw_defaults, none, p.defaults⟩ := by
  cases p; cases h1; cases h2; cases h3; cases h4; rfl

noncomputable def envOf' (names : List Str) (ds : List V) : Lo := ds.map some ++ List.replicate (names.length - ds.length) none

noncomputable abbrev retQ (Q : V → Store → Prop) : Fl → Lo → Store → Prop := fun f _ σ' => match f with
  | .ret v => Q v σ'
  | .next => Q .none σ'
  | .brk => False

noncomputable abbrev envR : List Str → List V → Lo
  | [], _ => []
  | _ :: ns, [] => none :: envR ns []
  | _ :: ns, d :: ds => some d :: envR ns ds
theorem envR_eq : ∀ (ns : List Str) (ds : List V), ds.length ≤ ns.length → envR ns ds = envOf' ns ds
  | [], [], _ => rfl
  | [], _ :: _, h => nomatch h
  | _ :: ns, [], _ => congrArg (none :: ·) ((envR_eq ns [] (Nat.zero_le _)).trans (by simp [envOf']))
  | _ :: ns, d :: ds, h => by
    rw [envR, envR_eq ns ds (Nat.le_of_succ_le_succ h)]
    simp [envOf']

structure FD (K : Frag) (dk : List Addr) (GT : List (Str × Value)) (fd : FuncData) (names : List Str) (np : Nat) (x : S) (bd : List Stmt) : Prop where
  body : fd.body = .stmts bd
  nodup : names.Nodup
  kind : fd.scope.kind = .function
  gen : fd.scope.isGenerator = false
  co : fd.scope.isCoroutine = false
  cells : ∀ y ∈ fd.scope.names, y.2 ≠ .cell
  locs : ∀ y ∈ names.take np, fd.scope.names.lookup y = some .local
  code : codeIn K fd.code fd.qualname = true
  glob : fd.globals = mainGlobals
  blt : fd.builtins = builtinsNs
  np : np ≤ names.length
  ok : (mS ⟨K, dk, GT, fd.scope, names⟩ x).l bd = true
theorem fdOk_use {K : Frag} {dk : List Addr} {GT : List (Str × Value)} {fd : FuncData} {names : List Str} {np : Nat} {x : S} (h : fdOk K dk GT fd names np x = true) : ∃ body, FD K dk GT fd names np x body :=
  onStmts_inv (P := fun b => fd.body = b → ∃ body, FD K dk GT fd names np x body) h (fun body h e =>
    have h2 := (and2 h).2; have h3 := (and2 h2).2; have h4 := (and2 h3).2; have h5 := (and2 h4).2; have h6 := (and2 h5).2; have h7 := (and2 h6).2; have h8 := (and2 h7).2; have h9 := (and2 h8).2; have h10 := (and2 h9).2
    ⟨body, e, of_decide_eq_true (and2 h).1, eq_of_beq (and2 h2).1, nt (and2 h3).1, nt (and2 h4).1, fun y hy => bne_iff_ne.mp (List.all_eq_true.mp (and2 h5).1 y hy), fun y hy => eq_of_beq (List.all_eq_true.mp (and2 h6).1 y hy),
      (and2 h7).1, eq_of_beq (and2 h8).1, eq_of_beq (and2 h9).1, of_decide_eq_true (and2 h10).1, (and2 h10).2⟩) rfl

theorem envOf_get {names : List Str} {ds : List V} {i : Nat} {d : V} (e : (envOf' names ds)[i]? = some (some d)) : i < ds.length ∧ ds.getD i .none = d := by
  unfold envOf' at e
  by_cases hi : i < ds.length
  · rw [List.getElem?_append_left (by rw [List.length_map]; exact hi), List.getElem?_map, List.getElem?_eq_getElem hi] at e
    refine ⟨hi, ?_⟩
    rw [List.getD_eq_getElem?_getD, List.getElem?_eq_getElem hi]
    exact Option.some.inj (Option.some.inj e)
  · rw [List.getElem?_append_right (by rw [List.length_map]; exact Nat.le_of_not_lt hi), List.getElem?_replicate] at e
    split at e <;> cases e

theorem fn_core {GT : List (Str × Value)} {f : Addr} {o : Obj} {fd : FuncData} {names : List Str} {np : Nat} {x : S} {ds : List V} {vs vs' : List Value} {Q : V → Store → Prop} {A : Around} (hf : c.K.lookup f = some o) (hd : o.data = .func fd)
    (h : fdOk c.K c.dk GT fd names np x = true) (hGT : ∀ (k : Nat) (y : Str) (v : Value), GT[k]? = some (y, v) → nsIn c.K mainGlobals y = some (some v)) (hb : BindsTo s fd ⟨vs, []⟩ ((names.take np).zip vs'))
    (hA : Ar (n + 1) A) (S : Sat c ρ σ s) (R : c.Reps s.heap ρ ds vs') (hl : ds.length = np) (hw : wpS (CallT c n) x (envR names ds) σ (retQ Q)) :
    codeAny (model c.prog c.w) A (.call (.ref f) ⟨vs, []⟩) (fun r s' => match r with | .ok (.ret v) => Po c ρ s.heap Q v s' | _ => False) s := by
  refine (fdOk_use h).elim fun body F => ?_
  have hnp : ds.length ≤ names.length := hl ▸ F.np
  rw [envR_eq names ds hnp] at hw
  have X := c.X.keeps S.base
  have nL : s.heap.get? s.heap.objs.size = none := Heap.get?_none_of_le (Nat.le_refl _)
  refine codeAny_call_def (fd := fd) (body := body) (binds := (names.take np).zip vs') (by have := hA.depth; show A.depth < 1000; omega) (X _ _ hf) hd (c.T.nolimit.keeps S.base) (codeRec_of X F.code) F.body hb F.cells (fun y hy => F.locs _ (List.of_mem_zip (a := y.1) (b := y.2) hy).1) (fun h₀ N kk => ?_) F.co F.gen F.kind
  have P₀ : Stp ρ [] s.heap ρ h₀ := Stp.of_keeps kk
  have S₀ : Sat c ρ σ { s with heap := h₀, toks := s.toks + ((names.take np).zip vs').length } := S.keeps kk rfl rfl
  have F₀ : Fm c h₀ ρ s.heap.objs.size names (envOf' names ds) := ⟨⟨_, N, fun i d e => by
    obtain ⟨hi, e⟩ := envOf_get e
    obtain ⟨v, hv, rv⟩ := Reps.get R hi
    have hn : i < names.length := Nat.lt_of_lt_of_le hi hnp
    exact ⟨names[i], v, List.getElem?_eq_getElem hn, rev_lookup _ _ i (F.nodup.sublist (List.take_sublist _ _)) (by rw [List.getElem?_take, if_pos (hl ▸ hi), List.getElem?_eq_getElem hn]) hv, (e ▸ rv).stp P₀⟩⟩, S.nin nL, S.base_none nL⟩
  refine Ps.use ((soundS c n x).ls F.ok (M := ⟨c.K, c.dk, GT, fd.scope, names⟩) (L := s.heap.objs.size) ⟨⟨rfl, F.kind, rfl, F.glob, F.blt, rfl, rfl, hGT, F.nodup⟩, hA.deeper _, S₀, F₀⟩ hw) fun fl s₁ ρ₁ σ₁ env₁ fl' H₁ P₁ R₁ q => ?_
  have PP : Stp ρ [] s.heap ρ₁ s₁.heap := ((P₀.wk (fun _ z => nomatch z)).trans P₁).drop fun b hb => .inr (List.mem_singleton.mp hb ▸ nL)
  cases R₁ with
  | next => exact ⟨ρ₁, σ₁, .none, H₁.sat, PP, .none, q⟩
  | brk => exact q.elim
  | ret r => exact ⟨ρ₁, σ₁, _, H₁.sat, PP, r, q⟩

theorem fn_sound {GT : List (Str × Value)} {f : Addr} {names : List Str} {np : Nat} {x : S} {ds : List V} {Q : V → Store → Prop} (h : fnChk c.K c.dk GT f names np x = true) (hGT : ∀ (k : Nat) (y : Str) (v : Value), GT[k]? = some (y, v) → nsIn c.K mainGlobals y = some (some v)) (hl : ds.length = np)
    (hw : wpS (CallT c n) x (envR names ds) σ (retQ Q)) : CallT c (n + 1) f ds σ Q := by
  intro A ρ s vs hA S R
  refine onO_inv (P := fun o => c.K.lookup f = o → codeAny (model c.prog c.w) A (.call (.ref f) ⟨vs, []⟩) (fun r s' => match r with | .ok (.ret v) => Po c ρ s.heap Q v s' | _ => False) s) h (fun o h ho => ?_) rfl
  refine onFunc_inv (P := fun d => o.data = d → codeAny (model c.prog c.w) A (.call (.ref f) ⟨vs, []⟩) (fun r s' => match r with | .ok (.ret v) => Po c ρ s.heap Q v s' | _ => False) s) h (fun fd h hd => ?_) rfl
  have h1 := (and2 h).1; have h2 := (and2 h1).2; have h3 := (and2 h2).2; have h4 := (and2 h3).2; have h5 := (and2 h4).2; have h6 := (and2 h5).2
  have e1 : fd.params.args.map (·.arg) = names.take np := eq_of_beq (and2 h6).1
  have e2 : fd.params.args.length = np := eq_of_beq (and2 h6).2
  refine fn_core (vs' := vs) ho hd (and2 h).2 hGT (BindsTo.of_eq ?_) hA S R hl hw
  rw [← e1]
  refine bind_plain (params_eq (List.isEmpty_iff.mp (and2 h1).1) (Option.isNone_iff_eq_none.mp (and2 h2).1) (List.isEmpty_iff.mp (and2 h3).1) (Option.isNone_iff_eq_none.mp (and2 h4).1)) ?_ (by rw [Reps.length R, hl, e2]) (of_decide_eq_true (and2 h5).1)
  rw [e1]
  exact (fdOk_use (and2 h).2).elim fun _ F => F.nodup.sublist (List.take_sublist _ _)
end
end
section
set_option autoImplicit false

noncomputable abbrev gT_END : V := .int (0)
noncomputable abbrev gT_NAME : V := .int (1)
noncomputable abbrev gT_WORD : V := .int (2)
noncomputable abbrev gT_NUM : V := .int (3)
noncomputable abbrev gT_STR : V := .int (4)
noncomputable abbrev gT_SIGN : V := .int (5)
noncomputable abbrev gT_TPL_WHOLE : V := .int (6)
noncomputable abbrev gT_TPL_HEAD : V := .int (7)
noncomputable abbrev gT_TPL_MIDDLE : V := .int (8)
noncomputable abbrev gT_TPL_TAIL : V := .int (9)
noncomputable abbrev gMAX_NUM : V := .int (9007199254740991)
noncomputable abbrev gRESERVED : V := .dct [([98, 114, 101, 97, 107], .int (1)), ([99, 97, 115, 101], .int (1)), ([99, 97, 116, 99, 104], .int (1)), ([99, 108, 97, 115, 115], .int (1)), ([99, 111, 110, 115, 116], .int (1)), ([99, 111, 110, 116, 105, 110, 117, 101], .int (1)), ([100, 101, 98, 117, 103, 103, 101, 114], .int (1)), ([100, 101, 102, 97, 117, 108, 116], .int (1)), ([100, 101, 108, 101, 116, 101], .int (1)), ([100, 111], .int (1)), ([101, 108, 115, 101], .int (1)), ([101, 110, 117, 109], .int (1)), ([101, 120, 112, 111, 114, 116], .int (1)), ([101, 120, 116, 101, 110, 100, 115], .int (1)), ([102, 97, 108, 115, 101], .int (1)), ([102, 105, 110, 97, 108, 108, 121], .int (1)), ([102, 111, 114], .int (1)), ([102, 117, 110, 99, 116, 105, 111, 110], .int (1)), ([105, 102], .int (1)), ([105, 109, 112, 111, 114, 116], .int (1)), ([105, 110], .int (1)), ([105, 110, 115, 116, 97, 110, 99, 101, 111, 102], .int (1)), ([110, 101, 119], .int (1)), ([110, 117, 108, 108], .int (1)), ([114, 101, 116, 117, 114, 110], .int (1)), ([115, 117, 112, 101, 114], .int (1)), ([115, 119, 105, 116, 99, 104], .int (1)), ([116, 104, 105, 115], .int (1)), ([116, 104, 114, 111, 119], .int (1)), ([116, 114, 117, 101], .int (1)), ([116, 114, 121], .int (1)), ([116, 121, 112, 101, 111, 102], .int (1)), ([118, 97, 114], .int (1)), ([118, 111, 105, 100], .int (1)), ([119, 104, 105, 108, 101], .int (1)), ([119, 105, 116, 104], .int (1))]
noncomputable abbrev gSIGNS_THREE : V := .tup [.str [46, 46, 46], .str [61, 61, 61], .str [33, 61, 61], .str [42, 42, 61], .str [38, 38, 61], .str [124, 124, 61], .str [63, 63, 61]]
noncomputable abbrev gSIGNS_TWO : V := .tup [.str [61, 62], .str [61, 61], .str [33, 61], .str [62, 61], .str [60, 61], .str [38, 38], .str [124, 124], .str [63, 63], .str [63, 46], .str [43, 43], .str [45, 45], .str [43, 61], .str [45, 61], .str [42, 61], .str [37, 61], .str [42, 42]]
noncomputable abbrev gSIGNS_ONE : V := .str [123, 125, 40, 41, 91, 93, 59, 44, 60, 62, 43, 45, 42, 47, 37, 38, 124, 94, 126, 33, 63, 58, 61, 46, 64]
noncomputable abbrev gESCAPES : V := .dct [([110], .str [10]), ([116], .str [9]), ([114], .str [13]), ([98], .str [8]), ([118], .str [11]), ([102], .str [12])]
noncomputable abbrev gSTATE_FINE : V := .int (0)
noncomputable abbrev gSTATE_OPEN : V := .int (1)
noncomputable abbrev gSTATE_BAD : V := .int (2)
noncomputable abbrev g_law_words : V := .tup [.str [98, 114, 101, 97, 107], .str [99, 97, 115, 101], .str [99, 97, 116, 99, 104], .str [99, 108, 97, 115, 115], .str [99, 111, 110, 115, 116], .str [99, 111, 110, 116, 105, 110, 117, 101], .str [100, 101, 102, 97, 117, 108, 116], .str [100, 101, 108, 101, 116, 101], .str [100, 111], .str [101, 108, 115, 101], .str [101, 110, 117, 109], .str [101, 120, 112, 111, 114, 116], .str [101, 120, 116, 101, 110, 100, 115], .str [102, 97, 108, 115, 101], .str [102, 105, 110, 97, 108, 108, 121], .str [102, 111, 114], .str [102, 117, 110, 99, 116, 105, 111, 110], .str [105, 102], .str [105, 109, 112, 111, 114, 116], .str [105, 110], .str [105, 110, 115, 116, 97, 110, 99, 101, 111, 102], .str [110, 101, 119], .str [110, 117, 108, 108], .str [114, 101, 116, 117, 114, 110], .str [115, 117, 112, 101, 114], .str [115, 119, 105, 116, 99, 104], .str [116, 104, 105, 115], .str [116, 104, 114, 111, 119], .str [116, 114, 117, 101], .str [116, 114, 121], .str [116, 121, 112, 101, 111, 102], .str [118, 97, 114], .str [118, 111, 105, 100], .str [119, 104, 105, 108, 101]]
noncomputable abbrev g_law_names : V := .tup [.str [97], .str [36], .str [95], .str [108, 101, 116], .str [116, 121, 112, 101], .str [97, 115], .str [111, 102], .str [105, 110, 110], .str [105, 102, 102], .str [67, 108, 97, 115, 115], .str [120, 49], .str [117, 110, 100, 101, 102, 105, 110, 101, 100], .str [110, 101, 119, 116], .str [36, 95, 57], .str [118, 111, 105], .str [97, 115, 121, 110, 99], .str [107, 101, 121, 111, 102], .str [90], .str [116, 121, 112, 101, 111], .str [105, 115], .str [115, 116, 97, 116, 105, 99], .str [100, 111, 111], .str [78, 97, 78], .str [113, 95, 48], .str [105, 110, 116, 101, 114, 102, 97, 99, 101], .str [114, 101, 97, 100, 111, 110, 108, 121], .str [100, 101, 99, 108, 97, 114, 101], .str [122], .str [65]]
noncomputable abbrev g_law_signs : V := .tup [.str [61], .str [46, 46, 46], .str [61, 61], .str [62], .str [61, 61, 61], .str [63], .str [46], .str [33, 61, 61], .str [38], .str [42, 42, 61], .str [63, 46], .str [38, 38, 61], .str [124, 124, 61], .str [63, 63, 61], .str [61, 62], .str [33, 61], .str [62, 61], .str [60, 61], .str [38, 38], .str [124, 124], .str [63, 63], .str [43, 43], .str [45, 45], .str [43, 61], .str [45, 61], .str [42, 61], .str [37, 61], .str [42, 42], .str [40], .str [41], .str [91], .str [93], .str [59], .str [44], .str [60], .str [43], .str [45], .str [42], .str [47], .str [37], .str [124], .str [94], .str [126], .str [33], .str [58], .str [64]]
noncomputable abbrev g_law_blanks : V := .tup [.tup [.str [], .bool false], .tup [.str [32], .bool false], .tup [.str [10], .bool true], .tup [.str [], .bool false], .tup [.str [9], .bool false], .tup [.str [47, 42, 42, 47], .bool false], .tup [.str [13, 10], .bool true], .tup [.str [47, 47, 32, 120, 10], .bool true], .tup [.str [], .bool false], .tup [.str [47, 42, 32, 34, 32, 47, 47, 32, 42, 47], .bool false], .tup [.str [47, 42, 10, 42, 47], .bool true], .tup [.str [47, 42, 47, 32, 42, 47, 32], .bool false], .tup [.str [47, 47, 42, 47, 96, 13], .bool true], .tup [.str [47, 42, 42, 42, 47], .bool false], .tup [.str [47, 42, 13, 42, 47], .bool true], .tup [.str [], .bool false], .tup [.str [32, 47, 42, 32, 36, 32, 42, 47, 9], .bool false], .tup [.str [47, 42, 8233, 42, 47], .bool true]]
noncomputable abbrev g_law_bad_numbers : V := .tup [.str [49, 46, 53], .str [51, 110], .str [49, 101, 51], .str [48, 120], .str [48, 98, 50], .str [48, 111, 56], .str [49, 95, 95, 48], .str [49, 95], .str [48, 95, 49], .str [48, 49, 50], .str [48, 120, 103], .str [53, 112, 120], .str [57, 48, 48, 55, 49, 57, 57, 50, 53, 52, 55, 52, 48, 57, 57, 50], .str [48, 120, 50, 48, 48, 48, 48, 48, 48, 48, 48, 48, 48, 48, 48, 48], .str [49, 46], .str [48, 98, 49, 95], .str [48, 48], .str [48, 120, 95, 49], .str [52, 46, 122, 46, 57], .str [48, 66]]
noncomputable abbrev g_law_atoms : V := .tup [.tup [.str [97], .str [97]], .tup [.str [55], .str [55]], .tup [.str [32], .str [32]], .tup [.str [47, 47], .str [47, 47]], .tup [.str [47, 42], .str [47, 42]], .tup [.str [97, 123, 125], .str [97, 123, 125]], .tup [.str [92, 110], .str [10]], .tup [.str [92, 116], .str [9]], .tup [.str [92, 114], .str [13]], .tup [.str [92, 98], .str [8]], .tup [.str [92, 118], .str [11]], .tup [.str [92, 102], .str [12]], .tup [.str [92, 48], .str [0]], .tup [.str [92, 92], .str [92]], .tup [.str [92, 39], .str [39]], .tup [.str [92, 34], .str [34]], .tup [.str [92, 96], .str [96]], .tup [.str [92, 113], .str [113]], .tup [.str [92, 10], .str []], .tup [.str [92, 13, 10], .str []], .tup [.str [92, 13], .str []], .tup [.str [92, 36, 123], .str [36, 123]], .tup [.str [36], .str [36]], .tup [.str [92, 8232], .str []], .tup [.str [8232], .str [8232]]]
noncomputable abbrev g_law_bad_atoms : V := .tup [.str [92, 120, 103, 49], .str [92, 117, 49, 50, 32], .str [92, 117, 123, 125], .str [92, 117, 123, 49, 49, 48, 48, 48, 48, 125], .str [92, 56], .str [92, 117, 123, 49, 48, 48, 48, 48, 125], .str [92, 117, 123, 49, 50, 32], .str [92, 120, 53, 32], .str [92, 48, 49], .str [92, 117, 68, 56, 48, 48, 32], .str [70000]]
noncomputable def gnames : List Str := [("Diag" : Str), ("is_line_end" : Str), ("is_digit" : Str), ("is_name_start" : Str), ("RESERVED" : Str), ("is_wide_line_end" : Str), ("peek" : Str), ("skip_line" : Str), ("skip_block" : Str), ("digit_value" : Str), ("is_name_part" : Str), ("scanner_base_at" : Str), ("read_digits" : Str), ("MAX_NUM" : Str), ("skip_number_tail" : Str), ("is_far" : Str), ("read_hex_escape" : Str), ("read_code_point" : Str), ("ESCAPES" : Str), ("STATE_FINE" : Str), ("read_escape" : Str), ("STATE_BAD" : Str), ("STATE_OPEN" : Str), ("is_hole" : Str), ("SIGNS_THREE" : Str), ("SIGNS_TWO" : Str), ("SIGNS_ONE" : Str), ("scanner_read_name" : Str), ("T_NAME" : Str), ("is_reserved" : Str), ("T_WORD" : Str), ("Token" : Str), ("read_number" : Str), ("T_NUM" : Str), ("scan_string" : Str), ("T_STR" : Str), ("scan_template" : Str), ("name_token" : Str), ("number_token" : Str), ("string_token" : Str), ("T_TPL_HEAD" : Str), ("T_TPL_WHOLE" : Str), ("template_token" : Str), ("hash_token" : Str), ("read_sign" : Str), ("T_SIGN" : Str), ("skip_blank" : Str), ("T_END" : Str), ("read_token" : Str), ("is_brace" : Str), ("T_TPL_MIDDLE" : Str), ("T_TPL_TAIL" : Str), ("Scanner" : Str), ("follow_hole" : Str), ("_law_bad_numbers" : Str), ("_law_digits" : Str), ("_law_signs" : Str), ("_law_cut" : Str), ("_law_atoms" : Str), ("_law_bad_atoms" : Str), ("_law_body" : Str), ("_law_names" : Str), ("_law_words" : Str), ("_law_number" : Str), ("_law_run" : Str), ("_law_text" : Str), ("_law_piece" : Str), ("_law_brace" : Str), ("_law_unit" : Str), ("_law_blanks" : Str), ("_law_between" : Str), ("_law_end" : Str), ("Diags" : Str), ("scan_all" : Str)]
noncomputable abbrev n_Diag_init : List Str := [("self" : Str), ("number" : Str), ("at" : Str), ("args" : Str), ("file" : Str)]
noncomputable def b_Diag_init : S :=
  (.seq (.asgA 79 "number" (.loc 0) (.loc 1))
  (.seq (.asgA 79 "at" (.loc 0) (.loc 2))
  (.seq (.asgA 79 "args" (.loc 0) (.loc 3))
  (.seq (.asgA 79 "file" (.loc 0) (.loc 4)) .skip))))
noncomputable abbrev n_Diags_init : List Str := [("self" : Str), ("file" : Str)]
noncomputable def b_Diags_init : S :=
  (.seq (.asgA 113 "rows" (.loc 0) (.lst .nil))
  (.seq (.asgA 113 "file" (.loc 0) (.loc 1)) .skip))
noncomputable abbrev n_Diags_put : List Str := [("self" : Str), ("number" : Str), ("at" : Str), ("args" : Str)]
noncomputable def b_Diags_put : S :=
  (.seq (.expr (.mth .append (.attr 113 "rows" (.loc 0)) (.cons (.new 0 79 69 (.cons (.loc 1) (.cons (.loc 2) (.cons (.loc 3) (.cons (.attr 113 "file" (.loc 0)) .nil))))) .nil))) .skip)
noncomputable abbrev n_Diags_numbers : List Str := [("self" : Str)]
noncomputable def b_Diags_numbers : S :=
  (.seq (.ret (.comp (.attr 79 "number" (.loc 0)) (.attr 113 "rows" (.loc 0)))) .skip)
noncomputable abbrev n_Token_init : List Str := [("self" : Str), ("kind" : Str), ("text" : Str), ("num" : Str), ("at" : Str), ("end" : Str), ("line_before" : Str)]
noncomputable def b_Token_init : S :=
  (.seq (.asgA 140 "kind" (.loc 0) (.loc 1))
  (.seq (.asgA 140 "text" (.loc 0) (.loc 2))
  (.seq (.asgA 140 "num" (.loc 0) (.loc 3))
  (.seq (.asgA 140 "at" (.loc 0) (.loc 4))
  (.seq (.asgA 140 "end" (.loc 0) (.loc 5))
  (.seq (.asgA 140 "line_before" (.loc 0) (.loc 6)) .skip))))))
noncomputable abbrev n_peek : List Str := [("text" : Str), ("at" : Str)]
noncomputable def b_peek : S :=
  (.seq (.ifs (.cmp .Lt (.loc 1) (.bi .len (.cons (.loc 0) .nil))) 
    (.seq (.ret (.idx (.loc 0) (.loc 1))) .skip) .skip)
  (.seq (.ret (.str [0])) .skip))
noncomputable abbrev n_is_line_end : List Str := [("letter" : Str)]
noncomputable def b_is_line_end : S :=
  (.seq (.ret (.or (.cmp .Eq (.loc 0) (.str [10])) (.cmp .Eq (.loc 0) (.str [13])))) .skip)
noncomputable abbrev n_is_wide_line_end : List Str := [("letter" : Str)]
noncomputable def b_is_wide_line_end : S :=
  (.seq (.ret (.or (.call 1 158 (.cons (.loc 0) .nil)) (.or (.cmp .Eq (.loc 0) (.str [8232])) (.cmp .Eq (.loc 0) (.str [8233]))))) .skip)
noncomputable abbrev n_is_far : List Str := [("code" : Str)]
noncomputable def b_is_far : S :=
  (.seq (.ret (.or (.cmp2 .LtE .LtE (.int 55296) (.loc 0) (.int 57343)) (.cmp .Gt (.loc 0) (.int 65535)))) .skip)
noncomputable abbrev n_is_digit : List Str := [("letter" : Str)]
noncomputable def b_is_digit : S :=
  (.seq (.ret (.cmp2 .LtE .LtE (.str [48]) (.loc 0) (.str [57]))) .skip)
noncomputable abbrev n_is_name_start : List Str := [("letter" : Str)]
noncomputable def b_is_name_start : S :=
  (.seq (.ifs (.or (.cmp2 .LtE .LtE (.str [97]) (.loc 0) (.str [122])) (.cmp2 .LtE .LtE (.str [65]) (.loc 0) (.str [90]))) 
    (.seq (.ret (.bool true)) .skip) .skip)
  (.seq (.ret (.or (.cmp .Eq (.loc 0) (.str [95])) (.cmp .Eq (.loc 0) (.str [36])))) .skip))
noncomputable abbrev n_is_name_part : List Str := [("letter" : Str)]
noncomputable def b_is_name_part : S :=
  (.seq (.ret (.or (.call 3 186 (.cons (.loc 0) .nil)) (.call 2 179 (.cons (.loc 0) .nil)))) .skip)
noncomputable abbrev n_is_reserved : List Str := [("name" : Str)]
noncomputable def b_is_reserved : S :=
  (.seq (.ret (.cmp .In (.loc 0) (.glb 4 gRESERVED))) .skip)
noncomputable abbrev n_digit_value : List Str := [("letter" : Str)]
noncomputable def b_digit_value : S :=
  (.seq (.ifs (.cmp2 .LtE .LtE (.str [48]) (.loc 0) (.str [57])) 
    (.seq (.ret (.bin .Sub (.bi .ord (.cons (.loc 0) .nil)) (.int 48))) .skip) .skip)
  (.seq (.ifs (.cmp2 .LtE .LtE (.str [97]) (.loc 0) (.str [102])) 
    (.seq (.ret (.bin .Sub (.bi .ord (.cons (.loc 0) .nil)) (.int 87))) .skip) .skip)
  (.seq (.ifs (.cmp2 .LtE .LtE (.str [65]) (.loc 0) (.str [70])) 
    (.seq (.ret (.bin .Sub (.bi .ord (.cons (.loc 0) .nil)) (.int 55))) .skip) .skip)
  (.seq (.ret (.int 99)) .skip))))
noncomputable abbrev n_skip_line : List Str := [("text" : Str), ("at" : Str)]
noncomputable def w_skip_line_1 : S := .whl (.and (.cmp .Lt (.loc 1) (.bi .len (.cons (.loc 0) .nil))) (.not (.call 5 165 (.cons (.idx (.loc 0) (.loc 1)) .nil)))) 
  (.seq (.aug 1 .Add (.int 1)) .skip)
noncomputable def b_skip_line : S :=
  (.seq w_skip_line_1
  (.seq (.ret (.loc 1)) .skip))
noncomputable abbrev n_skip_block : List Str := [("text" : Str), ("at" : Str), ("end" : Str), ("closed" : Str), ("line" : Str), ("place" : Str)]
noncomputable def w_skip_block_1 : S := .whl (.and (.cmp .Lt (.loc 5) (.loc 2)) (.not (.loc 4))) 
  (.seq (.asg 4 (.call 5 165 (.cons (.idx (.loc 0) (.loc 5)) .nil)))
  (.seq (.aug 5 .Add (.int 1)) .skip))
noncomputable def b_skip_block : S :=
  (.seq (.asg 2 (.mth .find (.loc 0) (.cons (.str [42, 47]) (.cons (.bin .Add (.loc 1) (.int 2)) .nil))))
  (.seq (.asg 3 (.cmp .GtE (.loc 2) (.int 0)))
  (.seq (.ifs (.loc 3) 
    (.seq (.aug 2 .Add (.int 2)) .skip) 
    (.seq (.asg 2 (.bi .len (.cons (.loc 0) .nil))) .skip))
  (.seq (.asg 4 (.bool false))
  (.seq (.asg 5 (.bin .Add (.loc 1) (.int 2)))
  (.seq w_skip_block_1
  (.seq (.ret (.tup (.cons (.loc 2) (.cons (.loc 4) (.cons (.loc 3) .nil))))) .skip)))))))
noncomputable abbrev n_skip_blank : List Str := [("text" : Str), ("at" : Str), ("line" : Str), ("letter" : Str), ("seen" : Str), ("closed" : Str)]
noncomputable def w_skip_blank_1 : S := .whl (.cmp .Lt (.loc 1) (.bi .len (.cons (.loc 0) .nil))) 
  (.seq (.asg 3 (.idx (.loc 0) (.loc 1)))
  (.seq (.ifs (.call 1 158 (.cons (.loc 3) .nil)) 
    (.seq (.asg 2 (.bool true))
    (.seq (.aug 1 .Add (.int 1)) .skip)) 
    (.seq (.ifs (.or (.cmp .Eq (.loc 3) (.str [32])) (.cmp .Eq (.loc 3) (.str [9]))) 
      (.seq (.aug 1 .Add (.int 1)) .skip) 
      (.seq (.ifs (.and (.cmp .Eq (.loc 3) (.str [47])) (.cmp .Eq (.call 6 151 (.cons (.loc 0) (.cons (.bin .Add (.loc 1) (.int 1)) .nil))) (.str [47]))) 
        (.seq (.asg 1 (.call 7 214 (.cons (.loc 0) (.cons (.loc 1) .nil)))) .skip) 
        (.seq (.ifs (.and (.cmp .Eq (.loc 3) (.str [47])) (.cmp .Eq (.call 6 151 (.cons (.loc 0) (.cons (.bin .Add (.loc 1) (.int 1)) .nil))) (.str [42]))) 
          (.seq (.asgT [1, 4, 5] (.call 8 221 (.cons (.loc 0) (.cons (.loc 1) .nil))))
          (.seq (.asg 2 (.or (.loc 2) (.loc 4)))
          (.seq (.ifs (.not (.loc 5)) 
            (.seq (.ret (.tup (.cons (.loc 1) (.cons (.loc 2) (.cons (.bool false) .nil))))) .skip) .skip) .skip))) 
          (.seq .brk .skip)) .skip)) .skip)) .skip)) .skip))
noncomputable def b_skip_blank : S :=
  (.seq (.asg 2 (.bool false))
  (.seq w_skip_blank_1
  (.seq (.ret (.tup (.cons (.loc 1) (.cons (.loc 2) (.cons (.bool true) .nil))))) .skip)))
noncomputable abbrev n_scanner_base_at : List Str := [("text" : Str), ("at" : Str), ("mark" : Str)]
noncomputable def b_scanner_base_at : S :=
  (.seq (.ifs (.cmp .NotEq (.idx (.loc 0) (.loc 1)) (.str [48])) 
    (.seq (.ret (.int 10)) .skip) .skip)
  (.seq (.asg 2 (.call 6 151 (.cons (.loc 0) (.cons (.bin .Add (.loc 1) (.int 1)) .nil))))
  (.seq (.ifs (.or (.cmp .Eq (.loc 2) (.str [120])) (.cmp .Eq (.loc 2) (.str [88]))) 
    (.seq (.ret (.int 16)) .skip) .skip)
  (.seq (.ifs (.or (.cmp .Eq (.loc 2) (.str [111])) (.cmp .Eq (.loc 2) (.str [79]))) 
    (.seq (.ret (.int 8)) .skip) .skip)
  (.seq (.ifs (.or (.cmp .Eq (.loc 2) (.str [98])) (.cmp .Eq (.loc 2) (.str [66]))) 
    (.seq (.ret (.int 2)) .skip) .skip)
  (.seq (.ret (.int 10)) .skip))))))
noncomputable abbrev n_read_digits : List Str := [("text" : Str), ("at" : Str), ("base" : Str), ("n" : Str), ("count" : Str), ("ok" : Str), ("under" : Str), ("letter" : Str), ("worth" : Str)]
noncomputable def w_read_digits_1 : S := .whl (.cmp .Lt (.loc 1) (.bi .len (.cons (.loc 0) .nil))) 
  (.seq (.asg 7 (.idx (.loc 0) (.loc 1)))
  (.seq (.ifs (.cmp .Eq (.loc 7) (.str [95])) 
    (.seq (.asg 5 (.and (.loc 5) (.and (.cmp .Gt (.loc 4) (.int 0)) (.not (.loc 6)))))
    (.seq (.asg 6 (.bool true)) .skip)) 
    (.seq (.asg 8 (.call 9 207 (.cons (.loc 7) .nil)))
    (.seq (.ifs (.cmp .GtE (.loc 8) (.loc 2)) 
      (.seq .brk .skip) .skip)
    (.seq (.asg 3 (.bin .Add (.bin .Mult (.loc 3) (.loc 2)) (.loc 8)))
    (.seq (.aug 4 .Add (.int 1))
    (.seq (.asg 6 (.bool false)) .skip))))))
  (.seq (.aug 1 .Add (.int 1)) .skip)))
noncomputable def b_read_digits : S :=
  (.seq (.asg 3 (.int 0))
  (.seq (.asg 4 (.int 0))
  (.seq (.asg 5 (.bool true))
  (.seq (.asg 6 (.bool false))
  (.seq w_read_digits_1
  (.seq (.ret (.tup (.cons (.loc 3) (.cons (.loc 1) (.cons (.and (.loc 5) (.and (.cmp .Gt (.loc 4) (.int 0)) (.not (.loc 6)))) .nil))))) .skip))))))
noncomputable abbrev n_skip_number_tail : List Str := [("text" : Str), ("at" : Str)]
noncomputable def w_skip_number_tail_1 : S := .whl (.or (.call 10 193 (.cons (.call 6 151 (.cons (.loc 0) (.cons (.loc 1) .nil))) .nil)) (.cmp .Eq (.call 6 151 (.cons (.loc 0) (.cons (.loc 1) .nil))) (.str [46]))) 
  (.seq (.aug 1 .Add (.int 1)) .skip)
noncomputable def b_skip_number_tail : S :=
  (.seq w_skip_number_tail_1
  (.seq (.ret (.loc 1)) .skip))
noncomputable abbrev n_read_number : List Str := [("text" : Str), ("at" : Str), ("base" : Str), ("start" : Str), ("n" : Str), ("end" : Str), ("ok" : Str), ("tail" : Str)]
noncomputable def b_read_number : S :=
  (.seq (.asg 2 (.call 11 235 (.cons (.loc 0) (.cons (.loc 1) .nil))))
  (.seq (.asg 3 (.loc 1))
  (.seq (.ifs (.cmp .NotEq (.loc 2) (.int 10)) 
    (.seq (.asg 3 (.bin .Add (.loc 1) (.int 2))) .skip) .skip)
  (.seq (.asgT [4, 5, 6] (.call 12 242 (.cons (.loc 0) (.cons (.loc 3) (.cons (.loc 2) .nil)))))
  (.seq (.ifs (.and (.cmp .Eq (.loc 2) (.int 10)) (.and (.cmp .Eq (.idx (.loc 0) (.loc 1)) (.str [48])) (.cmp .Gt (.bin .Sub (.loc 5) (.loc 1)) (.int 1)))) 
    (.seq (.asg 6 (.bool false)) .skip) .skip)
  (.seq (.ifs (.cmp .Gt (.loc 4) (.glb 13 gMAX_NUM)) 
    (.seq (.asg 4 (.int 0))
    (.seq (.asg 6 (.bool false)) .skip)) .skip)
  (.seq (.asg 7 (.call 14 249 (.cons (.loc 0) (.cons (.loc 5) .nil))))
  (.seq (.ifs (.cmp .Gt (.loc 7) (.loc 5)) 
    (.seq (.asg 6 (.bool false)) .skip) .skip)
  (.seq (.ret (.tup (.cons (.loc 4) (.cons (.loc 7) (.cons (.loc 6) .nil))))) .skip)))))))))
noncomputable abbrev n_read_hex_escape : List Str := [("text" : Str), ("at" : Str), ("count" : Str), ("n" : Str), ("place" : Str), ("worth" : Str)]
noncomputable def w_read_hex_escape_1 : S := .forR 4 (.loc 1) (.bin .Add (.loc 1) (.loc 2)) 
  (.seq (.asg 5 (.call 9 207 (.cons (.call 6 151 (.cons (.loc 0) (.cons (.loc 4) .nil))) .nil)))
  (.seq (.ifs (.cmp .Gt (.loc 5) (.int 15)) 
    (.seq (.ret (.tup (.cons (.str []) (.cons (.int (-1)) .nil)))) .skip) .skip)
  (.seq (.asg 3 (.bin .Add (.bin .Mult (.loc 3) (.int 16)) (.loc 5))) .skip)))
noncomputable def b_read_hex_escape : S :=
  (.seq (.asg 3 (.int 0))
  (.seq w_read_hex_escape_1
  (.seq (.ifs (.call 15 172 (.cons (.loc 3) .nil)) 
    (.seq (.ret (.tup (.cons (.str []) (.cons (.int (-1)) .nil)))) .skip) .skip)
  (.seq (.ret (.tup (.cons (.bi .chr (.cons (.loc 3) .nil)) (.cons (.bin .Add (.loc 1) (.loc 2)) .nil)))) .skip))))
noncomputable abbrev n_read_code_point : List Str := [("text" : Str), ("at" : Str), ("n" : Str), ("count" : Str)]
noncomputable def w_read_code_point_1 : S := .whl (.cmp .LtE (.call 9 207 (.cons (.call 6 151 (.cons (.loc 0) (.cons (.loc 1) .nil))) .nil)) (.int 15)) 
  (.seq (.asg 2 (.bin .Add (.bin .Mult (.loc 2) (.int 16)) (.call 9 207 (.cons (.idx (.loc 0) (.loc 1)) .nil))))
  (.seq (.ifs (.call 15 172 (.cons (.loc 2) .nil)) 
    (.seq (.ret (.tup (.cons (.str []) (.cons (.int (-1)) .nil)))) .skip) .skip)
  (.seq (.aug 3 .Add (.int 1))
  (.seq (.aug 1 .Add (.int 1)) .skip))))
noncomputable def b_read_code_point : S :=
  (.seq (.asg 2 (.int 0))
  (.seq (.asg 3 (.int 0))
  (.seq w_read_code_point_1
  (.seq (.ifs (.or (.cmp .Eq (.loc 3) (.int 0)) (.cmp .NotEq (.call 6 151 (.cons (.loc 0) (.cons (.loc 1) .nil))) (.str [125]))) 
    (.seq (.ret (.tup (.cons (.str []) (.cons (.int (-1)) .nil)))) .skip) .skip)
  (.seq (.ret (.tup (.cons (.bi .chr (.cons (.loc 2) .nil)) (.cons (.bin .Add (.loc 1) (.int 1)) .nil)))) .skip)))))
noncomputable abbrev n_read_escape : List Str := [("text" : Str), ("at" : Str), ("letter" : Str)]
noncomputable def b_read_escape : S :=
  (.seq (.asg 2 (.call 6 151 (.cons (.loc 0) (.cons (.bin .Add (.loc 1) (.int 1)) .nil))))
  (.seq (.ifs (.cmp .GtE (.bin .Add (.loc 1) (.int 1)) (.bi .len (.cons (.loc 0) .nil))) 
    (.seq (.ret (.tup (.cons (.str []) (.cons (.int (-1)) .nil)))) .skip) .skip)
  (.seq (.ifs (.cmp .Eq (.loc 2) (.str [120])) 
    (.seq (.ret (.call 16 263 (.cons (.loc 0) (.cons (.bin .Add (.loc 1) (.int 2)) (.cons (.int 2) .nil))))) .skip) .skip)
  (.seq (.ifs (.cmp .Eq (.loc 2) (.str [117])) 
    (.seq (.ifs (.cmp .Eq (.call 6 151 (.cons (.loc 0) (.cons (.bin .Add (.loc 1) (.int 2)) .nil))) (.str [123])) 
      (.seq (.ret (.call 17 270 (.cons (.loc 0) (.cons (.bin .Add (.loc 1) (.int 3)) .nil)))) .skip) .skip)
    (.seq (.ret (.call 16 263 (.cons (.loc 0) (.cons (.bin .Add (.loc 1) (.int 2)) (.cons (.int 4) .nil))))) .skip)) .skip)
  (.seq (.ifs (.and (.cmp .Eq (.loc 2) (.str [13])) (.cmp .Eq (.call 6 151 (.cons (.loc 0) (.cons (.bin .Add (.loc 1) (.int 2)) .nil))) (.str [10]))) 
    (.seq (.ret (.tup (.cons (.str []) (.cons (.bin .Add (.loc 1) (.int 3)) .nil)))) .skip) .skip)
  (.seq (.ifs (.call 5 165 (.cons (.loc 2) .nil)) 
    (.seq (.ret (.tup (.cons (.str []) (.cons (.bin .Add (.loc 1) (.int 2)) .nil)))) .skip) .skip)
  (.seq (.ifs (.call 2 179 (.cons (.loc 2) .nil)) 
    (.seq (.ifs (.and (.cmp .Eq (.loc 2) (.str [48])) (.not (.call 2 179 (.cons (.call 6 151 (.cons (.loc 0) (.cons (.bin .Add (.loc 1) (.int 2)) .nil))) .nil)))) 
      (.seq (.ret (.tup (.cons (.str [0]) (.cons (.bin .Add (.loc 1) (.int 2)) .nil)))) .skip) .skip)
    (.seq (.ret (.tup (.cons (.str []) (.cons (.int (-1)) .nil)))) .skip)) .skip)
  (.seq (.ifs (.cmp .In (.loc 2) (.glb 18 gESCAPES)) 
    (.seq (.ret (.tup (.cons (.idx (.glb 18 gESCAPES) (.loc 2)) (.cons (.bin .Add (.loc 1) (.int 2)) .nil)))) .skip) .skip)
  (.seq (.ifs (.call 15 172 (.cons (.bi .ord (.cons (.loc 2) .nil)) .nil)) 
    (.seq (.ret (.tup (.cons (.str []) (.cons (.int (-1)) .nil)))) .skip) .skip)
  (.seq (.ret (.tup (.cons (.loc 2) (.cons (.bin .Add (.loc 1) (.int 2)) .nil)))) .skip))))))))))
noncomputable abbrev n_scan_string : List Str := [("text" : Str), ("at" : Str), ("quote" : Str), ("out" : Str), ("state" : Str), ("letter" : Str), ("cooked" : Str), ("end" : Str)]
noncomputable def w_scan_string_1 : S := .whl (.and (.cmp .Lt (.loc 1) (.bi .len (.cons (.loc 0) .nil))) (.not (.call 1 158 (.cons (.idx (.loc 0) (.loc 1)) .nil)))) 
  (.seq (.asg 5 (.idx (.loc 0) (.loc 1)))
  (.seq (.ifs (.cmp .Eq (.loc 5) (.loc 2)) 
    (.seq (.ret (.tup (.cons (.mth .join (.str []) (.cons (.loc 3) .nil)) (.cons (.bin .Add (.loc 1) (.int 1)) (.cons (.loc 4) .nil))))) .skip) .skip)
  (.seq (.ifs (.cmp .Eq (.loc 5) (.str [92])) 
    (.seq (.asgT [6, 7] (.call 20 277 (.cons (.loc 0) (.cons (.loc 1) .nil))))
    (.seq (.ifs (.cmp .Lt (.loc 7) (.int 0)) 
      (.seq (.asg 4 (.glb 21 gSTATE_BAD))
      (.seq (.asg 7 (.bin .Add (.loc 1) (.int 1))) .skip)) .skip)
    (.seq (.expr (.mth .append (.loc 3) (.cons (.loc 6) .nil)))
    (.seq (.asg 1 (.loc 7)) .skip)))) 
    (.seq (.ifs (.call 15 172 (.cons (.bi .ord (.cons (.loc 5) .nil)) .nil)) 
      (.seq (.asg 4 (.glb 21 gSTATE_BAD)) .skip) .skip)
    (.seq (.expr (.mth .append (.loc 3) (.cons (.loc 5) .nil)))
    (.seq (.aug 1 .Add (.int 1)) .skip)))) .skip)))
noncomputable def b_scan_string : S :=
  (.seq (.asg 2 (.idx (.loc 0) (.loc 1)))
  (.seq (.asg 3 (.lst .nil))
  (.seq (.asg 4 (.glb 19 gSTATE_FINE))
  (.seq (.aug 1 .Add (.int 1))
  (.seq w_scan_string_1
  (.seq (.ret (.tup (.cons (.mth .join (.str []) (.cons (.loc 3) .nil)) (.cons (.loc 1) (.cons (.glb 22 gSTATE_OPEN) .nil))))) .skip))))))
noncomputable abbrev n_is_hole : List Str := [("text" : Str), ("at" : Str)]
noncomputable def b_is_hole : S :=
  (.seq (.ret (.and (.cmp .Eq (.call 6 151 (.cons (.loc 0) (.cons (.loc 1) .nil))) (.str [36])) (.cmp .Eq (.call 6 151 (.cons (.loc 0) (.cons (.bin .Add (.loc 1) (.int 1)) .nil))) (.str [123])))) .skip)
noncomputable abbrev n_scan_template : List Str := [("text" : Str), ("at" : Str), ("out" : Str), ("bad" : Str), ("letter" : Str), ("cooked" : Str), ("end" : Str)]
noncomputable def w_scan_template_1 : S := .whl (.cmp .Lt (.loc 1) (.bi .len (.cons (.loc 0) .nil))) 
  (.seq (.asg 4 (.idx (.loc 0) (.loc 1)))
  (.seq (.ifs (.cmp .Eq (.loc 4) (.str [96])) 
    (.seq (.ret (.tup (.cons (.mth .join (.str []) (.cons (.loc 2) .nil)) (.cons (.bin .Add (.loc 1) (.int 1)) (.cons (.int 1) (.cons (.loc 3) .nil)))))) .skip) .skip)
  (.seq (.ifs (.call 23 291 (.cons (.loc 0) (.cons (.loc 1) .nil))) 
    (.seq (.ret (.tup (.cons (.mth .join (.str []) (.cons (.loc 2) .nil)) (.cons (.bin .Add (.loc 1) (.int 2)) (.cons (.int 0) (.cons (.loc 3) .nil)))))) .skip) .skip)
  (.seq (.ifs (.cmp .Eq (.loc 4) (.str [92])) 
    (.seq (.asgT [5, 6] (.call 20 277 (.cons (.loc 0) (.cons (.loc 1) .nil))))
    (.seq (.ifs (.cmp .Lt (.loc 6) (.int 0)) 
      (.seq (.asg 3 (.bool true))
      (.seq (.asg 6 (.bin .Add (.loc 1) (.int 1))) .skip)) .skip)
    (.seq (.expr (.mth .append (.loc 2) (.cons (.loc 5) .nil)))
    (.seq (.asg 1 (.loc 6)) .skip)))) 
    (.seq (.ifs (.cmp .Eq (.loc 4) (.str [13])) 
      (.seq (.expr (.mth .append (.loc 2) (.cons (.str [10]) .nil)))
      (.seq (.aug 1 .Add (.int 1))
      (.seq (.ifs (.cmp .Eq (.call 6 151 (.cons (.loc 0) (.cons (.loc 1) .nil))) (.str [10])) 
        (.seq (.aug 1 .Add (.int 1)) .skip) .skip) .skip))) 
      (.seq (.asg 3 (.or (.loc 3) (.call 15 172 (.cons (.bi .ord (.cons (.loc 4) .nil)) .nil))))
      (.seq (.expr (.mth .append (.loc 2) (.cons (.loc 4) .nil)))
      (.seq (.aug 1 .Add (.int 1)) .skip)))) .skip)) .skip))))
noncomputable def b_scan_template : S :=
  (.seq (.asg 2 (.lst .nil))
  (.seq (.asg 3 (.bool false))
  (.seq (.aug 1 .Add (.int 1))
  (.seq w_scan_template_1
  (.seq (.ret (.tup (.cons (.mth .join (.str []) (.cons (.loc 2) .nil)) (.cons (.loc 1) (.cons (.int 2) (.cons (.loc 3) .nil)))))) .skip)))))
noncomputable abbrev n_read_sign : List Str := [("text" : Str), ("at" : Str), ("piece" : Str)]
noncomputable def b_read_sign : S :=
  (.seq (.asg 2 (.sl (.loc 0) (.loc 1) (.bin .Add (.loc 1) (.int 3))))
  (.seq (.ifs (.cmp .In (.loc 2) (.glb 24 gSIGNS_THREE)) 
    (.seq (.ret (.loc 2)) .skip) .skip)
  (.seq (.asg 2 (.sl (.loc 0) (.loc 1) (.bin .Add (.loc 1) (.int 2))))
  (.seq (.ifs (.and (.cmp .Eq (.loc 2) (.str [63, 46])) (.call 2 179 (.cons (.call 6 151 (.cons (.loc 0) (.cons (.bin .Add (.loc 1) (.int 2)) .nil))) .nil))) 
    (.seq (.ret (.str [63])) .skip) .skip)
  (.seq (.ifs (.cmp .In (.loc 2) (.glb 25 gSIGNS_TWO)) 
    (.seq (.ret (.loc 2)) .skip) .skip)
  (.seq (.asg 2 (.sl (.loc 0) (.loc 1) (.bin .Add (.loc 1) (.int 1))))
  (.seq (.ifs (.and (.cmp .NotEq (.loc 2) (.str [])) (.cmp .In (.loc 2) (.glb 26 gSIGNS_ONE))) 
    (.seq (.ret (.loc 2)) .skip) .skip)
  (.seq (.ret (.str [])) .skip))))))))
noncomputable abbrev n_scanner_read_name : List Str := [("text" : Str), ("at" : Str)]
noncomputable def w_scanner_read_name_1 : S := .whl (.call 10 193 (.cons (.call 6 151 (.cons (.loc 0) (.cons (.loc 1) .nil))) .nil)) 
  (.seq (.aug 1 .Add (.int 1)) .skip)
noncomputable def b_scanner_read_name : S :=
  (.seq w_scanner_read_name_1
  (.seq (.ret (.loc 1)) .skip))
noncomputable abbrev n_name_token : List Str := [("text" : Str), ("at" : Str), ("line" : Str), ("end" : Str), ("name" : Str), ("kind" : Str)]
noncomputable def b_name_token : S :=
  (.seq (.asg 3 (.call 27 312 (.cons (.loc 0) (.cons (.loc 1) .nil))))
  (.seq (.asg 4 (.sl (.loc 0) (.loc 1) (.loc 3)))
  (.seq (.asg 5 (.glb 28 gT_NAME))
  (.seq (.ifs (.call 29 200 (.cons (.loc 4) .nil)) 
    (.seq (.asg 5 (.glb 30 gT_WORD)) .skip) .skip)
  (.seq (.ret (.new 31 140 137 (.cons (.loc 5) (.cons (.loc 4) (.cons (.int 0) (.cons (.loc 1) (.cons (.loc 3) (.cons (.loc 2) .nil)))))))) .skip)))))
noncomputable abbrev n_hash_token : List Str := [("text" : Str), ("diags" : Str), ("at" : Str), ("line" : Str), ("end" : Str)]
noncomputable def b_hash_token : S :=
  (.seq (.expr (.ucall 113 105 "put" (.loc 1) (.cons (.int 1127) (.cons (.loc 2) (.cons (.tup (.cons (.str [35]) .nil)) .nil)))))
  (.seq (.asg 4 (.call 27 312 (.cons (.loc 0) (.cons (.bin .Add (.loc 2) (.int 1)) .nil))))
  (.seq (.ret (.new 31 140 137 (.cons (.glb 28 gT_NAME) (.cons (.sl (.loc 0) (.loc 2) (.loc 4)) (.cons (.int 0) (.cons (.loc 2) (.cons (.loc 4) (.cons (.loc 3) .nil)))))))) .skip)))
noncomputable abbrev n_number_token : List Str := [("text" : Str), ("diags" : Str), ("at" : Str), ("line" : Str), ("n" : Str), ("end" : Str), ("ok" : Str)]
noncomputable def b_number_token : S :=
  (.seq (.asgT [4, 5, 6] (.call 32 256 (.cons (.loc 0) (.cons (.loc 2) .nil))))
  (.seq (.ifs (.not (.loc 6)) 
    (.seq (.expr (.ucall 113 105 "put" (.loc 1) (.cons (.int 1127) (.cons (.loc 2) (.cons (.tup (.cons (.sl (.loc 0) (.loc 2) (.loc 5)) .nil)) .nil))))) .skip) .skip)
  (.seq (.ret (.new 31 140 137 (.cons (.glb 33 gT_NUM) (.cons (.bi .str (.cons (.loc 4) .nil)) (.cons (.loc 4) (.cons (.loc 2) (.cons (.loc 5) (.cons (.loc 3) .nil)))))))) .skip)))
noncomputable abbrev n_string_token : List Str := [("text" : Str), ("diags" : Str), ("at" : Str), ("line" : Str), ("cooked" : Str), ("end" : Str), ("state" : Str)]
noncomputable def b_string_token : S :=
  (.seq (.asgT [4, 5, 6] (.call 34 284 (.cons (.loc 0) (.cons (.loc 2) .nil))))
  (.seq (.ifs (.cmp .Eq (.loc 6) (.glb 22 gSTATE_OPEN)) 
    (.seq (.expr (.ucall 113 105 "put" (.loc 1) (.cons (.int 1002) (.cons (.loc 2) (.cons (.tup .nil) .nil))))) .skip) 
    (.seq (.ifs (.cmp .Eq (.loc 6) (.glb 21 gSTATE_BAD)) 
      (.seq (.expr (.ucall 113 105 "put" (.loc 1) (.cons (.int 1127) (.cons (.loc 2) (.cons (.tup (.cons (.str [92]) .nil)) .nil))))) .skip) .skip) .skip))
  (.seq (.ret (.new 31 140 137 (.cons (.glb 35 gT_STR) (.cons (.loc 4) (.cons (.int 0) (.cons (.loc 2) (.cons (.loc 5) (.cons (.loc 3) .nil)))))))) .skip)))
noncomputable abbrev n_template_token : List Str := [("text" : Str), ("diags" : Str), ("at" : Str), ("line" : Str), ("hole" : Str), ("last" : Str), ("cooked" : Str), ("end" : Str), ("closed" : Str), ("bad" : Str), ("kind" : Str)]
noncomputable def b_template_token : S :=
  (.seq (.asgT [6, 7, 8, 9] (.call 36 298 (.cons (.loc 0) (.cons (.loc 2) .nil))))
  (.seq (.ifs (.cmp .Eq (.loc 8) (.int 2)) 
    (.seq (.expr (.ucall 113 105 "put" (.loc 1) (.cons (.int 1160) (.cons (.loc 2) (.cons (.tup .nil) .nil))))) .skip) 
    (.seq (.ifs (.loc 9) 
      (.seq (.expr (.ucall 113 105 "put" (.loc 1) (.cons (.int 1127) (.cons (.loc 2) (.cons (.tup (.cons (.str [92]) .nil)) .nil))))) .skip) .skip) .skip))
  (.seq (.asg 10 (.loc 5))
  (.seq (.ifs (.cmp .Eq (.loc 8) (.int 0)) 
    (.seq (.asg 10 (.loc 4)) .skip) .skip)
  (.seq (.ret (.new 31 140 137 (.cons (.loc 10) (.cons (.loc 6) (.cons (.int 0) (.cons (.loc 2) (.cons (.loc 7) (.cons (.loc 3) .nil)))))))) .skip)))))
noncomputable abbrev n_read_token : List Str := [("text" : Str), ("diags" : Str), ("at" : Str), ("line" : Str), ("letter" : Str), ("sign" : Str)]
noncomputable def b_read_token : S :=
  (.seq (.asg 4 (.idx (.loc 0) (.loc 2)))
  (.seq (.ifs (.call 3 186 (.cons (.loc 4) .nil)) 
    (.seq (.ret (.call 37 319 (.cons (.loc 0) (.cons (.loc 2) (.cons (.loc 3) .nil))))) .skip) .skip)
  (.seq (.ifs (.call 2 179 (.cons (.loc 4) .nil)) 
    (.seq (.ret (.call 38 333 (.cons (.loc 0) (.cons (.loc 1) (.cons (.loc 2) (.cons (.loc 3) .nil)))))) .skip) .skip)
  (.seq (.ifs (.or (.cmp .Eq (.loc 4) (.str [39])) (.cmp .Eq (.loc 4) (.str [34]))) 
    (.seq (.ret (.call 39 340 (.cons (.loc 0) (.cons (.loc 1) (.cons (.loc 2) (.cons (.loc 3) .nil)))))) .skip) .skip)
  (.seq (.ifs (.cmp .Eq (.loc 4) (.str [96])) 
    (.seq (.ret (.call 42 347 (.cons (.loc 0) (.cons (.loc 1) (.cons (.loc 2) (.cons (.loc 3) (.cons (.glb 40 gT_TPL_HEAD) (.cons (.glb 41 gT_TPL_WHOLE) .nil)))))))) .skip) .skip)
  (.seq (.ifs (.and (.cmp .Eq (.loc 4) (.str [35])) (.call 3 186 (.cons (.call 6 151 (.cons (.loc 0) (.cons (.bin .Add (.loc 2) (.int 1)) .nil))) .nil))) 
    (.seq (.ret (.call 43 326 (.cons (.loc 0) (.cons (.loc 1) (.cons (.loc 2) (.cons (.loc 3) .nil)))))) .skip) .skip)
  (.seq (.asg 5 (.call 44 305 (.cons (.loc 0) (.cons (.loc 2) .nil))))
  (.seq (.ifs (.cmp .Eq (.loc 5) (.str [])) 
    (.seq (.ret .none) .skip) .skip)
  (.seq (.ifs (.and (.cmp .Eq (.loc 5) (.str [46])) (.call 2 179 (.cons (.call 6 151 (.cons (.loc 0) (.cons (.bin .Add (.loc 2) (.int 1)) .nil))) .nil))) 
    (.seq (.expr (.ucall 113 105 "put" (.loc 1) (.cons (.int 1127) (.cons (.loc 2) (.cons (.tup (.cons (.loc 5) .nil)) .nil))))) .skip) .skip)
  (.seq (.ret (.new 31 140 137 (.cons (.glb 45 gT_SIGN) (.cons (.loc 5) (.cons (.int 0) (.cons (.loc 2) (.cons (.bin .Add (.loc 2) (.bi .len (.cons (.loc 5) .nil))) (.cons (.loc 3) .nil)))))))) .skip))))))))))
noncomputable abbrev n_is_brace : List Str := [("token" : Str), ("brace" : Str)]
noncomputable def b_is_brace : S :=
  (.seq (.ret (.and (.cmp .Eq (.attr 140 "kind" (.loc 0)) (.glb 45 gT_SIGN)) (.cmp .Eq (.attr 140 "text" (.loc 0)) (.loc 1)))) .skip)
noncomputable abbrev n_Scanner_init : List Str := [("self" : Str), ("text" : Str), ("diags" : Str)]
noncomputable def b_Scanner_init : S :=
  (.seq (.asgA 392 "text" (.loc 0) (.loc 1))
  (.seq (.asgA 392 "at" (.loc 0) (.int 0))
  (.seq (.asgA 392 "diags" (.loc 0) (.loc 2))
  (.seq (.asgA 392 "last" (.loc 0) .none) .skip))))
noncomputable abbrev n_Scanner_take : List Str := [("self" : Str), ("line" : Str), ("token" : Str), ("at" : Str), ("seen" : Str), ("ok" : Str)]
noncomputable def w_Scanner_take_1 : S := .whl (.cmp .Is (.loc 2) .none) 
  (.seq (.asgT [3, 4, 5] (.call 46 228 (.cons (.attr 392 "text" (.loc 0)) (.cons (.attr 392 "at" (.loc 0)) .nil))))
  (.seq (.asg 1 (.or (.loc 1) (.loc 4)))
  (.seq (.asgA 392 "at" (.loc 0) (.loc 3))
  (.seq (.ifs (.not (.loc 5)) 
    (.seq (.expr (.ucall 113 105 "put" (.attr 392 "diags" (.loc 0)) (.cons (.int 1005) (.cons (.loc 3) (.cons (.tup (.cons (.str [42, 47]) .nil)) .nil))))) .skip) .skip)
  (.seq (.ifs (.cmp .GtE (.loc 3) (.bi .len (.cons (.attr 392 "text" (.loc 0)) .nil))) 
    (.seq (.asg 2 (.new 31 140 137 (.cons (.glb 47 gT_END) (.cons (.str []) (.cons (.int 0) (.cons (.loc 3) (.cons (.loc 3) (.cons (.loc 1) .nil)))))))) .skip) 
    (.seq (.asg 2 (.call 48 354 (.cons (.attr 392 "text" (.loc 0)) (.cons (.attr 392 "diags" (.loc 0)) (.cons (.loc 3) (.cons (.loc 1) .nil)))))) .skip))
  (.seq (.ifs (.cmp .Is (.loc 2) .none) 
    (.seq (.expr (.ucall 113 105 "put" (.attr 392 "diags" (.loc 0)) (.cons (.int 1127) (.cons (.loc 3) (.cons (.tup (.cons (.idx (.attr 392 "text" (.loc 0)) (.loc 3)) .nil)) .nil)))))
    (.seq (.asgA 392 "at" (.loc 0) (.bin .Add (.loc 3) (.int 1))) .skip)) .skip) .skip))))))
noncomputable def b_Scanner_take : S :=
  (.seq (.asg 1 (.bool false))
  (.seq (.asg 2 .none)
  (.seq w_Scanner_take_1
  (.seq (.asgA 392 "at" (.loc 0) (.attr 140 "end" (.loc 2)))
  (.seq (.asgA 392 "last" (.loc 0) (.loc 2))
  (.seq (.ret (.loc 2)) .skip))))))
noncomputable abbrev n_Scanner_rescan_template : List Str := [("self" : Str), ("brace" : Str), ("token" : Str)]
noncomputable def b_Scanner_rescan_template : S :=
  (.seq (.asg 1 (.attr 392 "last" (.loc 0)))
  (.seq (.ifs (.or (.cmp .Is (.loc 1) .none) (.not (.call 49 361 (.cons (.loc 1) (.cons (.str [125]) .nil))))) 
    (.seq .rais .skip) .skip)
  (.seq (.asg 2 (.call 42 347 (.cons (.attr 392 "text" (.loc 0)) (.cons (.attr 392 "diags" (.loc 0)) (.cons (.attr 140 "at" (.loc 1)) (.cons (.attr 140 "line_before" (.loc 1)) (.cons (.glb 50 gT_TPL_MIDDLE) (.cons (.glb 51 gT_TPL_TAIL) .nil))))))))
  (.seq (.asgA 392 "at" (.loc 0) (.attr 140 "end" (.loc 2)))
  (.seq (.asgA 392 "last" (.loc 0) (.loc 2))
  (.seq (.ret (.loc 2)) .skip))))))
noncomputable abbrev n_follow_hole : List Str := [("scanner" : Str), ("token" : Str), ("holes" : Str)]
noncomputable def b_follow_hole : S :=
  (.seq (.ifs (.cmp .Eq (.attr 140 "kind" (.loc 1)) (.glb 40 gT_TPL_HEAD)) 
    (.seq (.expr (.mth .append (.loc 2) (.cons (.int 0) .nil))) .skip) .skip)
  (.seq (.ifs (.not (.loc 2)) 
    (.seq (.ret (.loc 1)) .skip) .skip)
  (.seq (.ifs (.call 49 361 (.cons (.loc 1) (.cons (.str [123]) .nil))) 
    (.seq (.augI (.loc 2) (.int (-1)) .Add (.int 1)) .skip) 
    (.seq (.ifs (.and (.call 49 361 (.cons (.loc 1) (.cons (.str [125]) .nil))) (.cmp .Gt (.idx (.loc 2) (.int (-1))) (.int 0))) 
      (.seq (.augI (.loc 2) (.int (-1)) .Sub (.int 1)) .skip) 
      (.seq (.ifs (.call 49 361 (.cons (.loc 1) (.cons (.str [125]) .nil))) 
        (.seq (.asg 1 (.ucall 392 389 "rescan_template" (.loc 0) .nil))
        (.seq (.ifs (.cmp .Eq (.attr 140 "kind" (.loc 1)) (.glb 51 gT_TPL_TAIL)) 
          (.seq (.expr (.mth .pop (.loc 2) .nil)) .skip) .skip) .skip)) .skip) .skip)) .skip))
  (.seq (.ret (.loc 1)) .skip))))
noncomputable abbrev n_scan_all : List Str := [("text" : Str), ("diags" : Str), ("scanner" : Str), ("holes" : Str), ("out" : Str)]
noncomputable def w_scan_all_1 : S := .whl (.or (.not (.loc 4)) (.cmp .NotEq (.attr 140 "kind" (.idx (.loc 4) (.int (-1)))) (.glb 47 gT_END))) 
  (.seq (.expr (.mth .append (.loc 4) (.cons (.call 53 403 (.cons (.loc 2) (.cons (.ucall 392 382 "take" (.loc 2) .nil) (.cons (.loc 3) .nil)))) .nil))) .skip)
noncomputable def b_scan_all : S :=
  (.seq (.asg 2 (.new 52 392 375 (.cons (.loc 0) (.cons (.loc 1) .nil))))
  (.seq (.asg 3 (.lst .nil))
  (.seq (.asg 4 (.lst .nil))
  (.seq w_scan_all_1
  (.seq (.ifs (.and (.loc 3) (.cmp .NotIn (.int 1160) (.ucall 113 110 "numbers" (.loc 1) .nil))) 
    (.seq (.expr (.ucall 113 105 "put" (.loc 1) (.cons (.int 1160) (.cons (.attr 140 "at" (.idx (.loc 4) (.int (-1)))) (.cons (.tup .nil) .nil))))) .skip) .skip)
  (.seq (.ret (.loc 4)) .skip))))))
noncomputable abbrev n_law_digits : List Str := [("n" : Str), ("base" : Str), ("capital" : Str), ("width" : Str), ("out" : Str), ("one" : Str)]
noncomputable def w_law_digits_1 : S := .whl (.or (.cmp .Gt (.loc 0) (.int 0)) (.cmp .Lt (.bi .len (.cons (.loc 4) .nil)) (.loc 3))) 
  (.seq (.asgT [0, 5] (.bi .divmod (.cons (.loc 0) (.cons (.loc 1) .nil))))
  (.seq (.asg 4 (.bin .Add (.idx (.str [48, 49, 50, 51, 52, 53, 54, 55, 56, 57, 97, 98, 99, 100, 101, 102, 48, 49, 50, 51, 52, 53, 54, 55, 56, 57, 65, 66, 67, 68, 69, 70]) (.bin .Add (.loc 5) (.bin .Mult (.int 16) (.loc 2)))) (.loc 4))) .skip))
noncomputable def b_law_digits : S :=
  (.seq (.asg 4 (.str []))
  (.seq w_law_digits_1
  (.seq (.ret (.loc 4)) .skip)))
noncomputable abbrev n_law_number : List Str := [("d" : Str), ("value" : Str), ("form" : Str), ("capital" : Str), ("digits" : Str), ("base" : Str), ("lead" : Str)]
noncomputable def b_law_number : S :=
  (.seq (.asg 1 (.idx (.tup (.cons (.bin .Mod (.bin .FloorDiv (.loc 0) (.int 7)) (.int 10)) (.cons (.bin .Mod (.bin .FloorDiv (.loc 0) (.int 7)) (.int 100003)) (.cons (.int 9007199254740991) (.cons (.bin .Sub (.int 9007199254740991) (.bin .Mod (.bin .FloorDiv (.loc 0) (.int 7)) (.int 1000))) .nil))))) (.bin .Mod (.bin .FloorDiv (.loc 0) (.int 35)) (.int 4))))
  (.seq (.asg 2 (.bin .Mod (.loc 0) (.int 7)))
  (.seq (.ifs (.cmp .Eq (.loc 2) (.int 6)) 
    (.seq (.ret (.lst (.cons (.tup (.cons (.idx (.glb 54 g_law_bad_numbers) (.bin .Mod (.bin .FloorDiv (.loc 0) (.int 7)) (.bi .len (.cons (.glb 54 g_law_bad_numbers) .nil)))) (.cons (.glb 33 gT_NUM) (.cons .none (.cons (.int 0) (.cons (.int 1127) .nil)))))) .nil))) .skip) .skip)
  (.seq (.asg 3 (.bin .Mod (.bin .FloorDiv (.loc 0) (.int 5)) (.int 2)))
  (.seq (.ifs (.cmp .Lt (.loc 2) (.int 2)) 
    (.seq (.asg 4 (.call 55 467 (.cons (.loc 1) (.cons (.int 10) (.cons (.int 0) (.cons (.int 1) .nil))))))
    (.seq (.ifs (.and (.cmp .Gt (.bi .len (.cons (.loc 4) .nil)) (.int 1)) (.cmp .Eq (.loc 2) (.int 1))) 
      (.seq (.asg 4 (.bin .Add (.bin .Add (.sl (.loc 4) .noX (.int 1)) (.str [95])) (.sl (.loc 4) (.int 1) .noX))) .skip) .skip)
    (.seq (.ret (.lst (.cons (.tup (.cons (.loc 4) (.cons (.glb 33 gT_NUM) (.cons (.bi .str (.cons (.loc 1) .nil)) (.cons (.loc 1) (.cons (.int 0) .nil)))))) .nil))) .skip))) .skip)
  (.seq (.asg 5 (.idx (.tup (.cons (.int 16) (.cons (.int 16) (.cons (.int 8) (.cons (.int 2) .nil))))) (.bin .Sub (.loc 2) (.int 2))))
  (.seq (.ifs (.cmp .Eq (.loc 5) (.int 2)) 
    (.seq (.asg 1 (.bin .Mod (.loc 1) (.int 64))) .skip) .skip)
  (.seq (.asg 4 (.call 55 467 (.cons (.loc 1) (.cons (.loc 5) (.cons (.loc 3) (.cons (.bin .Add (.int 1) (.bin .Mod (.bin .FloorDiv (.loc 0) (.int 3)) (.int 3))) .nil))))))
  (.seq (.ifs (.cmp .Eq (.bin .Mod (.bin .FloorDiv (.loc 0) (.int 11)) (.int 2)) (.int 1)) 
    (.seq (.asg 4 (.bin .Add (.ife (.cmp .Gt (.bi .len (.cons (.loc 4) .nil)) (.int 1)) (.bin .Add (.sl (.loc 4) .noX (.int (-1))) (.str [95])) (.str [48])) (.sl (.loc 4) (.int (-1)) .noX))) .skip) .skip)
  (.seq (.asg 6 (.idx (.ddisp [(16, [120, 88]), (8, [111, 79]), (2, [98, 66])] (.loc 5)) (.loc 3)))
  (.seq (.ret (.lst (.cons (.tup (.cons (.bin .Add (.bin .Add (.str [48]) (.loc 6)) (.loc 4)) (.cons (.glb 33 gT_NUM) (.cons (.bi .str (.cons (.loc 1) .nil)) (.cons (.loc 1) (.cons (.int 0) .nil)))))) .nil))) .skip)))))))))))
noncomputable abbrev n_law_cut : List Str := [("run" : Str), ("digit" : Str), ("out" : Str), ("size" : Str), ("more" : Str), ("fault" : Str)]
noncomputable def w_law_cut_1 : S := .forE 4 (.tup (.cons (.int 2) (.cons (.int 3) .nil))) 
  (.seq (.ifs (.and (.cmp .LtE (.loc 4) (.bi .len (.cons (.loc 0) .nil))) (.cmp .In (.sl (.loc 0) .noX (.loc 4)) (.glb 56 g_law_signs))) 
    (.seq (.asg 3 (.loc 4)) .skip) .skip) .skip)
noncomputable def w_law_cut_2 : S := .whl (.cmp .NotEq (.loc 0) (.str [])) 
  (.seq (.asg 3 (.int 1))
  (.seq w_law_cut_1
  (.seq (.ifs (.and (.loc 1) (.cmp .Eq (.loc 0) (.str [63, 46]))) 
    (.seq (.asg 3 (.int 1)) .skip) .skip)
  (.seq (.asg 5 (.int 0))
  (.seq (.ifs (.and (.loc 1) (.cmp .Eq (.loc 0) (.str [46]))) 
    (.seq (.asg 5 (.int 1127)) .skip) .skip)
  (.seq (.expr (.mth .append (.loc 2) (.cons (.tup (.cons (.sl (.loc 0) .noX (.loc 3)) (.cons (.glb 45 gT_SIGN) (.cons (.sl (.loc 0) .noX (.loc 3)) (.cons (.int 0) (.cons (.loc 5) .nil)))))) .nil)))
  (.seq (.asg 0 (.sl (.loc 0) (.loc 3) .noX)) .skip)))))))
noncomputable def b_law_cut : S :=
  (.seq (.asg 2 (.lst .nil))
  (.seq w_law_cut_2
  (.seq (.ret (.loc 2)) .skip)))
noncomputable abbrev n_law_run : List Str := [("d" : Str), ("digit" : Str), ("run" : Str), ("lap" : Str), ("more" : Str)]
noncomputable def w_law_run_1 : S := .forR 3 (.int 0) (.bin .Add (.int 1) (.bin .Mod (.loc 0) (.int 3))) 
  (.seq (.asg 4 (.idx (.glb 56 g_law_signs) (.bin .Mod (.bin .Add (.bin .FloorDiv (.loc 0) (.int 3)) (.bin .Mult (.bin .Mult (.int 11) (.loc 3)) (.loc 3))) (.bi .len (.cons (.glb 56 g_law_signs) .nil)))))
  (.seq (.ifs (.or (.cmp .NotEq (.sl (.loc 2) (.int (-1)) .noX) (.str [47])) (.cmp .NotIn (.idx (.loc 4) (.int 0)) (.str [47, 42]))) 
    (.seq (.asg 2 (.bin .Add (.loc 2) (.loc 4))) .skip) .skip) .skip))
noncomputable def b_law_run : S :=
  (.seq (.asg 2 (.str []))
  (.seq w_law_run_1
  (.seq (.ifs (.and (.loc 1) (.cmp .Eq (.bin .Mod (.bin .FloorDiv (.loc 0) (.int 5)) (.int 2)) (.int 0))) 
    (.seq (.asg 2 (.bin .Add (.loc 2) (.str [63, 46]))) .skip) .skip)
  (.seq (.ret (.call 57 481 (.cons (.loc 2) (.cons (.loc 1) .nil)))) .skip))))
noncomputable abbrev n_law_body : List Str := [("d" : Str), ("hem" : Str), ("source" : Str), ("cooked" : Str), ("broken" : Str), ("lap" : Str), ("kind" : Str), ("here" : Str), ("one" : Str), ("lead" : Str)]
noncomputable def w_law_body_1 : S := .forR 5 (.int 0) (.bin .Mod (.loc 0) (.int 4)) 
  (.seq (.asg 0 (.bin .Add (.bin .FloorDiv (.loc 0) (.int 4)) (.bin .Mult (.int 3) (.loc 5))))
  (.seq (.asg 6 (.bin .Mod (.loc 0) (.int 33)))
  (.seq (.asg 7 (.tup (.cons (.str [97]) (.cons (.str [97]) .nil))))
  (.seq (.ifs (.cmp .Lt (.loc 6) (.bi .len (.cons (.glb 58 g_law_atoms) .nil))) 
    (.seq (.asg 7 (.idx (.glb 58 g_law_atoms) (.loc 6))) .skip) 
    (.seq (.ifs (.cmp .Eq (.loc 6) (.int 25)) 
      (.seq (.asg 8 (.bin .Mod (.bin .FloorDiv (.loc 0) (.int 33)) (.int 256)))
      (.seq (.asg 7 (.tup (.cons (.bin .Add (.str [92, 120]) (.call 55 467 (.cons (.loc 8) (.cons (.int 16) (.cons (.bin .Mod (.loc 0) (.int 2)) (.cons (.int 2) .nil)))))) (.cons (.bi .chr (.cons (.loc 8) .nil)) .nil)))) .skip)) 
      (.seq (.ifs (.cmp .Eq (.loc 6) (.int 26)) 
        (.seq (.asg 8 (.bin .Mod (.bin .FloorDiv (.loc 0) (.int 33)) (.int 63488)))
        (.seq (.ifs (.cmp .GtE (.loc 8) (.int 55296)) 
          (.seq (.aug 8 .Add (.int 2048)) .skip) .skip)
        (.seq (.asg 7 (.tup (.cons (.bin .Add (.str [92, 117]) (.call 55 467 (.cons (.loc 8) (.cons (.int 16) (.cons (.bin .Mod (.loc 0) (.int 2)) (.cons (.int 4) .nil)))))) (.cons (.bi .chr (.cons (.loc 8) .nil)) .nil)))) .skip))) 
        (.seq (.ifs (.cmp .Eq (.loc 6) (.int 27)) 
          (.seq (.asg 8 (.bin .Mod (.bin .FloorDiv (.loc 0) (.int 33)) (.int 63488)))
          (.seq (.ifs (.cmp .GtE (.loc 8) (.int 55296)) 
            (.seq (.aug 8 .Add (.int 2048)) .skip) .skip)
          (.seq (.asg 7 (.tup (.cons (.bin .Add (.bin .Add (.str [92, 117, 123]) (.call 55 467 (.cons (.loc 8) (.cons (.int 16) (.cons (.bin .Mod (.loc 0) (.int 2)) (.cons (.bin .Add (.int 1) (.bin .Mod (.bin .FloorDiv (.loc 0) (.int 33)) (.int 8))) .nil)))))) (.str [125])) (.cons (.bi .chr (.cons (.loc 8) .nil)) .nil)))) .skip))) 
          (.seq (.ifs (.cmp .Eq (.loc 6) (.int 28)) 
            (.seq (.asg 4 (.bool true))
            (.seq (.asg 7 (.tup (.cons (.idx (.glb 59 g_law_bad_atoms) (.bin .Mod (.bin .FloorDiv (.loc 0) (.int 33)) (.bi .len (.cons (.glb 59 g_law_bad_atoms) .nil)))) (.cons (.str []) .nil)))) .skip)) 
            (.seq (.ifs (.and (.cmp .Eq (.loc 6) (.int 29)) (.cmp .Eq (.loc 1) (.str [96]))) 
              (.seq (.asg 7 (.tup (.cons (.str [13, 10]) (.cons (.str [10]) .nil)))) .skip) 
              (.seq (.ifs (.and (.cmp .Eq (.loc 6) (.int 30)) (.cmp .Eq (.loc 1) (.str [96]))) 
                (.seq (.asg 7 (.tup (.cons (.str [13]) (.cons (.str [10]) .nil)))) .skip) 
                (.seq (.ifs (.and (.cmp .Eq (.loc 6) (.int 31)) (.cmp .Eq (.loc 1) (.str [96]))) 
                  (.seq (.asg 7 (.tup (.cons (.str [10]) (.cons (.str [10]) .nil)))) .skip) 
                  (.seq (.ifs (.cmp .Gt (.loc 6) (.int 28)) 
                    (.seq (.asg 9 (.idx (.tup (.cons (.str [39]) (.cons (.str [34]) (.cons (.str [96]) .nil)))) (.bin .Mod (.loc 6) (.int 3))))
                    (.seq (.asg 7 (.tup (.cons (.loc 9) (.cons (.loc 9) .nil))))
                    (.seq (.ifs (.cmp .Eq (.idx (.loc 7) (.int 0)) (.loc 1)) 
                      (.seq (.asg 7 (.tup (.cons (.bin .Add (.str [92]) (.loc 1)) (.cons (.loc 1) .nil)))) .skip) 
                      (.seq (.ifs (.and (.cmp .Eq (.loc 6) (.int 32)) (.cmp .NotEq (.loc 1) (.str [96]))) 
                        (.seq (.asg 7 (.tup (.cons (.bin .Add (.str [36]) (.str [123])) (.cons (.bin .Add (.str [36]) (.str [123])) .nil)))) .skip) .skip) .skip)) .skip))) .skip) .skip)) .skip)) .skip)) .skip)) .skip)) .skip)) .skip)) .skip))
  (.seq (.ifs (.and (.cmp .Eq (.sl (.loc 2) (.int (-1)) .noX) (.str [13])) (.cmp .Eq (.idx (.idx (.loc 7) (.int 0)) (.int 0)) (.str [10]))) 
    (.seq (.asg 7 (.tup (.cons (.str [98]) (.cons (.str [98]) .nil)))) .skip) .skip)
  (.seq (.ifs (.and (.cmp .Eq (.sl (.loc 2) (.int (-2)) .noX) (.str [92, 48])) (.cmp .Eq (.idx (.loc 7) (.int 0)) (.str [55]))) 
    (.seq (.asg 4 (.bool true)) .skip) .skip)
  (.seq (.asg 2 (.bin .Add (.loc 2) (.idx (.loc 7) (.int 0))))
  (.seq (.asg 3 (.bin .Add (.loc 3) (.idx (.loc 7) (.int 1)))) .skip))))))))
noncomputable def b_law_body : S :=
  (.seq (.asg 2 (.str []))
  (.seq (.asg 3 (.str []))
  (.seq (.asg 4 (.bool false))
  (.seq w_law_body_1
  (.seq (.ifs (.loc 4) 
    (.seq (.ret (.tup (.cons (.loc 2) (.cons .none (.cons (.int 1127) .nil))))) .skip) .skip)
  (.seq (.ret (.tup (.cons (.loc 2) (.cons (.loc 3) (.cons (.int 0) .nil))))) .skip))))))
noncomputable abbrev n_law_text : List Str := [("d" : Str), ("hem" : Str), ("source" : Str), ("cooked" : Str), ("fault" : Str)]
noncomputable def b_law_text : S :=
  (.seq (.asg 1 (.idx (.str [39, 34]) (.bin .Mod (.loc 0) (.int 2))))
  (.seq (.asgT [2, 3, 4] (.call 60 495 (.cons (.bin .FloorDiv (.loc 0) (.int 16)) (.cons (.loc 1) .nil))))
  (.seq (.ifs (.cmp .Eq (.bin .Mod (.bin .FloorDiv (.loc 0) (.int 2)) (.int 8)) (.int 5)) 
    (.seq (.ifs (.cmp .IsNot (.loc 3) .none) 
      (.seq (.asg 3 (.bin .Add (.loc 3) (.str [122]))) .skip) .skip)
    (.seq (.ret (.lst (.cons (.tup (.cons (.bin .Add (.bin .Add (.loc 1) (.loc 2)) (.str [122])) (.cons (.glb 35 gT_STR) (.cons (.loc 3) (.cons (.int 0) (.cons (.int 1002) .nil)))))) .nil))) .skip)) .skip)
  (.seq (.ret (.lst (.cons (.tup (.cons (.bin .Add (.bin .Add (.loc 1) (.loc 2)) (.loc 1)) (.cons (.glb 35 gT_STR) (.cons (.loc 3) (.cons (.int 0) (.cons (.loc 4) .nil)))))) .nil))) .skip))))
noncomputable abbrev n_law_piece : List Str := [("d" : Str), ("lead" : Str), ("holes" : Str), ("source" : Str), ("cooked" : Str), ("fault" : Str), ("kinds" : Str)]
noncomputable def b_law_piece : S :=
  (.seq (.asgT [3, 4, 5] (.call 60 495 (.cons (.bin .FloorDiv (.loc 0) (.int 2)) (.cons (.str [96]) .nil))))
  (.seq (.asg 6 (.tup (.cons (.glb 41 gT_TPL_WHOLE) (.cons (.glb 40 gT_TPL_HEAD) .nil))))
  (.seq (.ifs (.cmp .Eq (.loc 1) (.str [125])) 
    (.seq (.asg 6 (.tup (.cons (.glb 51 gT_TPL_TAIL) (.cons (.glb 50 gT_TPL_MIDDLE) .nil))))
    (.seq (.expr (.mth .pop (.loc 2) .nil)) .skip)) .skip)
  (.seq (.ifs (.cmp .Eq (.bin .Mod (.loc 0) (.int 2)) (.int 0)) 
    (.seq (.ret (.lst (.cons (.tup (.cons (.bin .Add (.bin .Add (.loc 1) (.loc 3)) (.str [96])) (.cons (.idx (.loc 6) (.int 0)) (.cons (.loc 4) (.cons (.int 0) (.cons (.loc 5) .nil)))))) .nil))) .skip) .skip)
  (.seq (.expr (.mth .append (.loc 2) (.cons (.int 0) .nil)))
  (.seq (.ret (.lst (.cons (.tup (.cons (.bin .Add (.bin .Add (.bin .Add (.loc 1) (.loc 3)) (.str [36])) (.str [123])) (.cons (.idx (.loc 6) (.int 1)) (.cons (.loc 4) (.cons (.int 0) (.cons (.loc 5) .nil)))))) .nil))) .skip))))))
noncomputable abbrev n_law_brace : List Str := [("lead" : Str)]
noncomputable def b_law_brace : S :=
  (.seq (.ret (.lst (.cons (.tup (.cons (.loc 0) (.cons (.glb 45 gT_SIGN) (.cons (.loc 0) (.cons (.int 0) (.cons (.int 0) .nil)))))) .nil))) .skip)
noncomputable abbrev n_law_unit : List Str := [("x" : Str), ("holes" : Str), ("kind" : Str), ("d" : Str), ("name" : Str)]
noncomputable def b_law_unit : S :=
  (.seq (.asg 2 (.bin .Mod (.loc 0) (.int 12)))
  (.seq (.asg 3 (.bin .FloorDiv (.loc 0) (.int 12)))
  (.seq (.ifs (.cmp .Eq (.loc 2) (.int 0)) 
    (.seq (.asg 4 (.idx (.glb 61 g_law_names) (.bin .Mod (.loc 3) (.bi .len (.cons (.glb 61 g_law_names) .nil)))))
    (.seq (.ret (.lst (.cons (.tup (.cons (.loc 4) (.cons (.glb 28 gT_NAME) (.cons (.loc 4) (.cons (.int 0) (.cons (.int 0) .nil)))))) .nil))) .skip)) .skip)
  (.seq (.ifs (.cmp .Eq (.loc 2) (.int 1)) 
    (.seq (.asg 4 (.idx (.glb 62 g_law_words) (.bin .Mod (.loc 3) (.bi .len (.cons (.glb 62 g_law_words) .nil)))))
    (.seq (.ret (.lst (.cons (.tup (.cons (.loc 4) (.cons (.glb 30 gT_WORD) (.cons (.loc 4) (.cons (.int 0) (.cons (.int 0) .nil)))))) .nil))) .skip)) .skip)
  (.seq (.ifs (.cmp .Lt (.loc 2) (.int 4)) 
    (.seq (.ret (.call 63 474 (.cons (.loc 3) .nil))) .skip) .skip)
  (.seq (.ifs (.cmp .Eq (.loc 2) (.int 4)) 
    (.seq (.ret (.call 64 488 (.cons (.loc 3) (.cons (.bool false) .nil)))) .skip) .skip)
  (.seq (.ifs (.cmp .Eq (.loc 2) (.int 5)) 
    (.seq (.ret (.bin .Add (.call 64 488 (.cons (.loc 3) (.cons (.bool true) .nil))) (.lst (.cons (.tup (.cons (.bi .str (.cons (.bin .Mod (.loc 3) (.int 10)) .nil)) (.cons (.glb 33 gT_NUM) (.cons (.bi .str (.cons (.bin .Mod (.loc 3) (.int 10)) .nil)) (.cons (.bin .Mod (.loc 3) (.int 10)) (.cons (.int 0) .nil)))))) .nil)))) .skip) .skip)
  (.seq (.ifs (.cmp .Eq (.loc 2) (.int 6)) 
    (.seq (.ret (.call 65 502 (.cons (.loc 3) .nil))) .skip) .skip)
  (.seq (.ifs (.cmp .Eq (.loc 2) (.int 7)) 
    (.seq (.ret (.call 66 509 (.cons (.bin .Add (.loc 3) (.int 1)) (.cons (.str [96]) (.cons (.loc 1) .nil))))) .skip) .skip)
  (.seq (.ifs (.cmp .Eq (.loc 2) (.int 8)) 
    (.seq (.ifs (.loc 1) 
      (.seq (.augI (.loc 1) (.int (-1)) .Add (.int 1)) .skip) .skip)
    (.seq (.ret (.call 67 516 (.cons (.str [123]) .nil))) .skip)) .skip)
  (.seq (.ifs (.cmp .Lt (.loc 2) (.int 11)) 
    (.seq (.ifs (.and (.loc 1) (.cmp .Eq (.idx (.loc 1) (.int (-1))) (.int 0))) 
      (.seq (.ret (.call 66 509 (.cons (.loc 3) (.cons (.str [125]) (.cons (.loc 1) .nil))))) .skip) .skip)
    (.seq (.ifs (.loc 1) 
      (.seq (.augI (.loc 1) (.int (-1)) .Sub (.int 1)) .skip) .skip)
    (.seq (.ret (.call 67 516 (.cons (.str [125]) .nil))) .skip))) .skip)
  (.seq (.ifs (.cmp .Eq (.bin .Mod (.loc 3) (.int 2)) (.int 0)) 
    (.seq (.asg 4 (.bin .Add (.str [35]) (.idx (.glb 61 g_law_names) (.bin .Mod (.bin .FloorDiv (.loc 3) (.int 2)) (.bi .len (.cons (.glb 61 g_law_names) .nil))))))
    (.seq (.ret (.lst (.cons (.tup (.cons (.loc 4) (.cons (.glb 28 gT_NAME) (.cons (.loc 4) (.cons (.int 0) (.cons (.int 1127) .nil)))))) .nil))) .skip)) .skip)
  (.seq (.ret (.lst (.cons (.tup (.cons (.idx (.tup (.cons (.str [92]) (.cons (.bi .chr (.cons (.int 233) .nil)) (.cons (.str [35, 32]) (.cons (.bi .chr (.cons (.int 0) .nil)) (.cons (.str [92]) .nil)))))) (.bin .Mod (.bin .FloorDiv (.loc 3) (.int 2)) (.int 5))) (.cons (.int (-1)) (.cons .none (.cons (.int 0) (.cons (.int 1127) .nil)))))) .nil))) .skip)))))))))))))
noncomputable abbrev n_law_end : List Str := [("e" : Str), ("holes" : Str), ("out" : Str)]
noncomputable def w_law_end_1 : S := .whl (.loc 1) 
  (.seq (.asg 2 (.bin .Add (.bin .Add (.loc 2) (.bin .Mult (.call 67 516 (.cons (.str [125]) .nil)) (.mth .pop (.loc 1) .nil))) (.lst (.cons (.tup (.cons (.str [125, 96]) (.cons (.glb 51 gT_TPL_TAIL) (.cons (.str []) (.cons (.int 0) (.cons (.int 0) .nil)))))) .nil)))) .skip)
noncomputable def b_law_end : S :=
  (.seq (.asg 2 (.lst .nil))
  (.seq (.ifs (.cmp .Lt (.loc 0) (.int 2)) 
    (.seq w_law_end_1 .skip) .skip)
  (.seq (.ifs (.cmp .Eq (.loc 0) (.int 1)) 
    (.seq (.expr (.mth .append (.loc 2) (.cons (.tup (.cons (.str [47, 47, 32, 113]) (.cons (.int (-1)) (.cons .none (.cons (.int 0) (.cons (.int 0) .nil)))))) .nil))) .skip) .skip)
  (.seq (.ifs (.cmp .Eq (.loc 0) (.int 3)) 
    (.seq (.expr (.mth .append (.loc 2) (.cons (.tup (.cons (.str [39, 113]) (.cons (.glb 35 gT_STR) (.cons (.str [113]) (.cons (.int 0) (.cons (.int 1002) .nil)))))) .nil))) .skip) .skip)
  (.seq (.ifs (.cmp .Eq (.loc 0) (.int 4)) 
    (.seq (.expr (.mth .append (.loc 2) (.cons (.tup (.cons (.str [96, 113]) (.cons (.glb 41 gT_TPL_WHOLE) (.cons (.str [113]) (.cons (.int 0) (.cons (.int 1160) .nil)))))) .nil))) .skip) .skip)
  (.seq (.ifs (.and (.cmp .Eq (.loc 0) (.int 5)) (.and (.loc 1) (.cmp .Eq (.idx (.loc 1) (.int (-1))) (.int 0)))) 
    (.seq (.expr (.mth .pop (.loc 1) .nil))
    (.seq (.expr (.mth .append (.loc 2) (.cons (.tup (.cons (.str [125, 32, 113]) (.cons (.glb 51 gT_TPL_TAIL) (.cons (.str [32, 113]) (.cons (.int 0) (.cons (.int 1160) .nil)))))) .nil))) .skip)) .skip)
  (.seq (.ret (.loc 2)) .skip)))))))
noncomputable abbrev n_law_between : List Str := [("last" : Str), ("here" : Str), ("blank" : Str), ("word" : Str), ("need" : Str)]
noncomputable def b_law_between : S :=
  (.seq (.asg 3 (.tup (.cons (.glb 28 gT_NAME) (.cons (.glb 30 gT_WORD) (.cons (.glb 33 gT_NUM) .nil)))))
  (.seq (.asg 4 (.and (.cmp .In (.idx (.loc 0) (.int 1)) (.loc 3)) (.cmp .In (.idx (.loc 1) (.int 1)) (.loc 3))))
  (.seq (.ifs (.and (.cmp .Eq (.idx (.loc 0) (.int 1)) (.glb 33 gT_NUM)) (.cmp .Eq (.idx (.idx (.loc 1) (.int 0)) (.int 0)) (.str [46]))) 
    (.seq (.asg 4 (.bool true)) .skip) .skip)
  (.seq (.ifs (.and (.cmp .Eq (.idx (.loc 0) (.int 1)) (.glb 45 gT_SIGN)) (.and (.cmp .NotIn (.idx (.loc 0) (.int 0)) (.str [123, 125])) (.cmp .In (.idx (.loc 1) (.int 1)) (.tup (.cons (.glb 45 gT_SIGN) (.cons (.glb 33 gT_NUM) .nil)))))) 
    (.seq (.asg 4 (.bool true)) .skip) .skip)
  (.seq (.ifs (.and (.cmp .Eq (.idx (.loc 0) (.int 1)) (.glb 35 gT_STR)) (.cmp .Eq (.idx (.loc 0) (.int 4)) (.int 1002))) 
    (.seq (.ret (.tup (.cons (.bin .Add (.str [10]) (.idx (.loc 2) (.int 0))) (.cons (.bool true) .nil)))) .skip) .skip)
  (.seq (.ifs (.and (.loc 4) (.cmp .Eq (.idx (.loc 2) (.int 0)) (.str []))) 
    (.seq (.ret (.tup (.cons (.str [32]) (.cons (.bool false) .nil)))) .skip) .skip)
  (.seq (.ifs (.and (.cmp .Eq (.idx (.loc 0) (.int 0)) (.str [47])) (.cmp .Eq (.sl (.idx (.loc 2) (.int 0)) .noX (.int 1)) (.str [47]))) 
    (.seq (.ret (.tup (.cons (.bin .Add (.str [9]) (.idx (.loc 2) (.int 0))) (.cons (.idx (.loc 2) (.int 1)) .nil)))) .skip) .skip)
  (.seq (.ret (.loc 2)) .skip))))))))
noncomputable abbrev n_law : List Str := [("script" : Str), ("nums" : Str), ("holes" : Str), ("text" : Str), ("line" : Str), ("want" : Str), ("told" : Str), ("last" : Str), ("lap" : Str), ("parts" : Str), ("blank" : Str), ("e" : Str), ("part" : Str), ("diags" : Str), ("tokens" : Str), ("place" : Str), ("token" : Str), ("kind" : Str), ("cooked" : Str), ("num" : Str), ("at" : Str), ("end" : Str), ("before" : Str)]
noncomputable def w_law_1 : S := .forE 12 (.loc 9) 
  (.seq (.ifs (.cmp .Gt (.idx (.loc 12) (.int 4)) (.int 0)) 
    (.seq (.expr (.mth .append (.loc 6) (.cons (.tup (.cons (.idx (.loc 12) (.int 4)) (.cons (.bi .len (.cons (.loc 3) .nil)) .nil))) .nil))) .skip) .skip)
  (.seq (.ifs (.cmp .GtE (.idx (.loc 12) (.int 1)) (.int 0)) 
    (.seq (.expr (.mth .append (.loc 5) (.cons (.tup (.cons (.idx (.loc 12) (.int 1)) (.cons (.idx (.loc 12) (.int 2)) (.cons (.idx (.loc 12) (.int 3)) (.cons (.bi .len (.cons (.loc 3) .nil)) (.cons (.bin .Add (.bi .len (.cons (.loc 3) .nil)) (.bi .len (.cons (.idx (.loc 12) (.int 0)) .nil))) (.cons (.loc 4) .nil))))))) .nil)))
    (.seq (.asg 4 (.bool false)) .skip)) .skip)
  (.seq (.asg 3 (.bin .Add (.loc 3) (.idx (.loc 12) (.int 0))))
  (.seq (.asg 7 (.loc 12)) .skip))))
noncomputable def w_law_2 : S := .forR 8 (.int 0) (.bin .Add (.bi .len (.cons (.loc 1) .nil)) (.int 1)) 
  (.seq (.ifs (.cmp .Lt (.loc 8) (.bi .len (.cons (.loc 1) .nil))) 
    (.seq (.asg 9 (.call 68 523 (.cons (.idx (.loc 1) (.loc 8)) (.cons (.loc 2) .nil))))
    (.seq (.asg 10 (.idx (.glb 69 g_law_blanks) (.bin .Mod (.bin .Add (.bin .Add (.bin .FloorDiv (.idx (.loc 1) (.loc 8)) (.int 12)) (.bin .FloorDiv (.idx (.loc 1) (.loc 8)) (.int 300))) (.loc 8)) (.bi .len (.cons (.glb 69 g_law_blanks) .nil)))))
    (.seq (.asg 10 (.call 70 537 (.cons (.loc 7) (.cons (.idx (.loc 9) (.int 0)) (.cons (.loc 10) .nil))))) .skip))) 
    (.seq (.asg 11 (.int 4))
    (.seq (.ifs (.loc 1) 
      (.seq (.asg 11 (.bin .Mod (.bin .Add (.bin .FloorDiv (.idx (.loc 1) (.int (-1))) (.int 12)) (.bi .len (.cons (.loc 1) .nil))) (.int 6))) .skip) .skip)
    (.seq (.asg 9 (.call 71 530 (.cons (.loc 11) (.cons (.loc 2) .nil))))
    (.seq (.asg 10 (.call 70 537 (.cons (.loc 7) (.cons (.tup (.cons (.str [32]) (.cons (.int (-1)) (.cons .none (.cons (.int 0) (.cons (.int 0) .nil)))))) (.cons (.tup (.cons (.str [32]) (.cons (.bool false) .nil))) .nil))))) .skip)))))
  (.seq (.asg 3 (.bin .Add (.loc 3) (.idx (.loc 10) (.int 0))))
  (.seq (.asg 4 (.or (.loc 4) (.idx (.loc 10) (.int 1))))
  (.seq w_law_1 .skip))))
noncomputable def w_law_3 : S := .forR 15 (.int 0) (.bi .len (.cons (.loc 5) .nil)) 
  (.seq (.asg 16 (.idx (.loc 14) (.loc 15)))
  (.seq (.asgT [17, 18, 19, 20, 21, 22] (.idx (.loc 5) (.loc 15)))
  (.seq (.ifs (.or (.cmp .NotEq (.attr 140 "kind" (.loc 16)) (.loc 17)) (.or (.cmp .NotEq (.attr 140 "at" (.loc 16)) (.loc 20)) (.or (.cmp .NotEq (.attr 140 "end" (.loc 16)) (.loc 21)) (.cmp .NotEq (.attr 140 "line_before" (.loc 16)) (.loc 22))))) 
    (.seq (.ret (.bool false)) .skip) .skip)
  (.seq (.ifs (.and (.cmp .IsNot (.loc 18) .none) (.or (.cmp .NotEq (.attr 140 "text" (.loc 16)) (.loc 18)) (.cmp .NotEq (.attr 140 "num" (.loc 16)) (.loc 19)))) 
    (.seq (.ret (.bool false)) .skip) .skip) .skip))))
noncomputable def b_law : S :=
  (.seq (.asgC 1 (.loc 0) (.slc (.loc 0) 32))
  (.seq (.asg 2 (.lst .nil))
  (.seq (.asg 3 (.str []))
  (.seq (.asg 4 (.bool false))
  (.seq (.asg 5 (.lst .nil))
  (.seq (.asg 6 (.lst .nil))
  (.seq (.asg 7 (.tup (.cons (.str []) (.cons (.int (-1)) (.cons .none (.cons (.int 0) (.cons (.int 0) .nil)))))))
  (.seq w_law_2
  (.seq (.ifs (.cmp .Eq (.loc 11) (.int 2)) 
    (.seq (.asg 3 (.bin .Add (.loc 3) (.str [47, 42, 32, 113])))
    (.seq (.ifs (.cmp .Eq (.bin .Mod (.bi .len (.cons (.loc 1) .nil)) (.int 2)) (.int 0)) 
      (.seq (.asg 3 (.bin .Add (.loc 3) (.str [13])))
      (.seq (.asg 4 (.bool true)) .skip)) .skip)
    (.seq (.expr (.mth .append (.loc 6) (.cons (.tup (.cons (.int 1005) (.cons (.bi .len (.cons (.loc 3) .nil)) .nil))) .nil))) .skip))) .skip)
  (.seq (.expr (.mth .append (.loc 5) (.cons (.tup (.cons (.glb 47 gT_END) (.cons (.str []) (.cons (.int 0) (.cons (.bi .len (.cons (.loc 3) .nil)) (.cons (.bi .len (.cons (.loc 3) .nil)) (.cons (.loc 4) .nil))))))) .nil)))
  (.seq (.ifs (.and (.loc 2) (.cmp .NotIn (.int 1160) (.comp (.idx (.loc 0) (.int 0)) (.loc 6)))) 
    (.seq (.expr (.mth .append (.loc 6) (.cons (.tup (.cons (.int 1160) (.cons (.bi .len (.cons (.loc 3) .nil)) .nil))) .nil))) .skip) .skip)
  (.seq (.asg 13 (.new 72 113 98 .nil))
  (.seq (.asg 14 (.call 73 410 (.cons (.loc 3) (.cons (.loc 13) .nil))))
  (.seq (.ifs (.cmp .NotEq (.bi .len (.cons (.loc 14) .nil)) (.bi .len (.cons (.loc 5) .nil))) 
    (.seq (.ret (.bool false)) .skip) .skip)
  (.seq w_law_3
  (.seq (.ret (.cmp .Eq (.comp (.tup (.cons (.attr 79 "number" (.loc 0)) (.cons (.attr 79 "at" (.loc 0)) .nil))) (.attr 113 "rows" (.loc 13))) (.loc 6))) .skip))))))))))))))))
structure Chk (c : Cx) (GT : List (Str × Value)) : Prop where
  gt : ∀ (k : Nat) (y : Str) (v : Value), GT[k]? = some (y, v) → nsIn c.K mainGlobals y = some (some v)
  k_Diag_init : fnChk c.K c.dk GT 69 n_Diag_init 5 b_Diag_init = true
  k_Diags_put : fnChk c.K c.dk GT 105 n_Diags_put 4 b_Diags_put = true
  k_Diags_numbers : fnChk c.K c.dk GT 110 n_Diags_numbers 1 b_Diags_numbers = true
  k_Token_init : fnChk c.K c.dk GT 137 n_Token_init 7 b_Token_init = true
  k_peek : fnChk c.K c.dk GT 151 n_peek 2 b_peek = true
  k_is_line_end : fnChk c.K c.dk GT 158 n_is_line_end 1 b_is_line_end = true
  k_is_wide_line_end : fnChk c.K c.dk GT 165 n_is_wide_line_end 1 b_is_wide_line_end = true
  k_is_far : fnChk c.K c.dk GT 172 n_is_far 1 b_is_far = true
  k_is_digit : fnChk c.K c.dk GT 179 n_is_digit 1 b_is_digit = true
  k_is_name_start : fnChk c.K c.dk GT 186 n_is_name_start 1 b_is_name_start = true
  k_is_name_part : fnChk c.K c.dk GT 193 n_is_name_part 1 b_is_name_part = true
  k_is_reserved : fnChk c.K c.dk GT 200 n_is_reserved 1 b_is_reserved = true
  k_digit_value : fnChk c.K c.dk GT 207 n_digit_value 1 b_digit_value = true
  k_skip_line : fnChk c.K c.dk GT 214 n_skip_line 2 b_skip_line = true
  k_skip_block : fnChk c.K c.dk GT 221 n_skip_block 2 b_skip_block = true
  k_skip_blank : fnChk c.K c.dk GT 228 n_skip_blank 2 b_skip_blank = true
  k_scanner_base_at : fnChk c.K c.dk GT 235 n_scanner_base_at 2 b_scanner_base_at = true
  k_read_digits : fnChk c.K c.dk GT 242 n_read_digits 3 b_read_digits = true
  k_skip_number_tail : fnChk c.K c.dk GT 249 n_skip_number_tail 2 b_skip_number_tail = true
  k_read_number : fnChk c.K c.dk GT 256 n_read_number 2 b_read_number = true
  k_read_hex_escape : fnChk c.K c.dk GT 263 n_read_hex_escape 3 b_read_hex_escape = true
  k_read_code_point : fnChk c.K c.dk GT 270 n_read_code_point 2 b_read_code_point = true
  k_read_escape : fnChk c.K c.dk GT 277 n_read_escape 2 b_read_escape = true
  k_scan_string : fnChk c.K c.dk GT 284 n_scan_string 2 b_scan_string = true
  k_is_hole : fnChk c.K c.dk GT 291 n_is_hole 2 b_is_hole = true
  k_scan_template : fnChk c.K c.dk GT 298 n_scan_template 2 b_scan_template = true
  k_read_sign : fnChk c.K c.dk GT 305 n_read_sign 2 b_read_sign = true
  k_scanner_read_name : fnChk c.K c.dk GT 312 n_scanner_read_name 2 b_scanner_read_name = true
  k_name_token : fnChk c.K c.dk GT 319 n_name_token 3 b_name_token = true
  k_hash_token : fnChk c.K c.dk GT 326 n_hash_token 4 b_hash_token = true
  k_number_token : fnChk c.K c.dk GT 333 n_number_token 4 b_number_token = true
  k_string_token : fnChk c.K c.dk GT 340 n_string_token 4 b_string_token = true
  k_template_token : fnChk c.K c.dk GT 347 n_template_token 6 b_template_token = true
  k_read_token : fnChk c.K c.dk GT 354 n_read_token 4 b_read_token = true
  k_is_brace : fnChk c.K c.dk GT 361 n_is_brace 2 b_is_brace = true
  k_Scanner_init : fnChk c.K c.dk GT 375 n_Scanner_init 3 b_Scanner_init = true
  k_Scanner_take : fnChk c.K c.dk GT 382 n_Scanner_take 1 b_Scanner_take = true
  k_Scanner_rescan_template : fnChk c.K c.dk GT 389 n_Scanner_rescan_template 1 b_Scanner_rescan_template = true
  k_follow_hole : fnChk c.K c.dk GT 403 n_follow_hole 3 b_follow_hole = true
  k_scan_all : fnChk c.K c.dk GT 410 n_scan_all 2 b_scan_all = true
  k_law_digits : fnChk c.K c.dk GT 467 n_law_digits 4 b_law_digits = true
  k_law_number : fnChk c.K c.dk GT 474 n_law_number 1 b_law_number = true
  k_law_cut : fnChk c.K c.dk GT 481 n_law_cut 2 b_law_cut = true
  k_law_run : fnChk c.K c.dk GT 488 n_law_run 2 b_law_run = true
  k_law_body : fnChk c.K c.dk GT 495 n_law_body 2 b_law_body = true
  k_law_text : fnChk c.K c.dk GT 502 n_law_text 1 b_law_text = true
  k_law_piece : fnChk c.K c.dk GT 509 n_law_piece 3 b_law_piece = true
  k_law_brace : fnChk c.K c.dk GT 516 n_law_brace 1 b_law_brace = true
  k_law_unit : fnChk c.K c.dk GT 523 n_law_unit 2 b_law_unit = true
  k_law_end : fnChk c.K c.dk GT 530 n_law_end 2 b_law_end = true
  k_law_between : fnChk c.K c.dk GT 537 n_law_between 3 b_law_between = true
  k_law : fnChk c.K c.dk GT 542 n_law 1 b_law = true

end
section
set_option autoImplicit false

/-! steps: each a rule read backwards -/
noncomputable abbrev ErT (A G : Prop) : Prop := G → A → G
section
variable {CT : CTy} {env : Lo} {σ : Store} {Q : Fl → Lo → Store → Prop}
theorem st_skip (h : Q .next env σ) : wpS CT .skip env σ Q := h
theorem st_seq {a b : S} (h : wpS CT a env σ (seqK (fun env' σ' => wpS CT b env' σ' Q) Q)) : wpS CT (.seq a b) env σ Q := h
theorem st_asg {i : Nat} {e : X} (h : (wp CT e).e env σ fun v σ' => Q .next (lset env i (some v)) σ') : wpS CT (.asg i e) env σ Q := h
theorem st_asgC {i : Nat} {t e : X} (h : (wp CT (.comp t e)).e env σ fun v σ' => Q .next (lset env i (some v)) σ') : wpS CT (.asgC i t e) env σ Q := h
theorem st_asgT {is : List Nat} {e : X} (h : (wp CT e).e env σ fun v σ' => onAny v no1 no1 no1 (fun ds => onSome (asgs env is ds) fun env' => Q .next env' σ') no1 no1) : wpS CT (.asgT is e) env σ Q := h
theorem st_aug {i : Nat} {op : Operator} {e : X} (h : onSome (lget env i) fun o => onSome o fun d => (wp CT e).e env σ fun v σ₁ => augV op d v σ₁ fun w σ₂ => Q .next (lset env i (some w)) σ₂) : wpS CT (.aug i op e) env σ Q := h
theorem st_ifs {t : X} {a b : S} (h : (wp CT t).c env σ fun r σ₁ => if r = true then wpS CT a env σ₁ Q else wpS CT b env σ₁ Q) : wpS CT (.ifs t a b) env σ Q := h
theorem st_ret {e : X} (h : (wp CT e).e env σ fun v σ' => Q (.ret v) env σ') : wpS CT (.ret e) env σ Q := h
theorem st_expr {e : X} (h : (wp CT e).e env σ fun v σ' => onDrop v (Q .next env σ')) : wpS CT (.expr e) env σ Q := h
/-- a loop by its invariant -/
theorem whl_I {t : X} {b : S} (I : Nat → Lo → Store → Prop) (n : Nat) (h : I n env σ) (step : ∀ n env σ, I n env σ → (wp CT t).c env σ fun r σ₁ =>
      if r = true then wpS CT b env σ₁ (whlK (fun env' σ₂ => ∃ m, m < n ∧ I m env' σ₂) Q) else Q .next env σ₁) : wpS CT (.whl t b) env σ Q := ⟨I, n, h, step⟩
theorem st_forR {i : Nat} {lo hi : X} {b : S} (h : (wp CT lo).e env σ fun vl σ₁ => (wp CT hi).e env σ₁ fun vh σ₂ => onInt vl fun l => onInt vh fun h => (l < 2 ^ 60 ∧ -(2 ^ 60) < l ∧ h < 2 ^ 60 ∧ -(2 ^ 60) < h) ∧ ∃ I : List Int → Lo → Store → Prop, I (rangeV l h) env σ₂ ∧
      (∀ x r env σ, I (x :: r) env σ → wpS CT b (lset env i (some (.int x))) σ (whlK (I r) Q)) ∧
      ∀ env σ, I [] env σ → Q .next env σ) : wpS CT (.forR i lo hi b) env σ Q := h
end

section
variable {CT : CTy} {env : Lo} {σ : Store} {Q : V → Store → Prop}
theorem e_loc {i : Nat} {d : V} (h0 : lget env i = some (some d)) (h : Q d σ) : (wp CT (.loc i)).e env σ Q := by
  show onSome (lget env i) fun o => onSome o fun d => Q d σ
  rw [h0]; exact h
theorem e_glb {k : Nat} {d : V} (h : Q d σ) : (wp CT (.glb k d)).e env σ Q := h
theorem e_int {i : Int} (h : Q (.int i) σ) : (wp CT (.int i)).e env σ Q := h
theorem e_str {l : List Nat} (h : Q (.str l) σ) : (wp CT (.str l)).e env σ Q := h
theorem e_none (h : Q .none σ) : (wp CT .none).e env σ Q := h
theorem e_bool {b : Bool} (h : Q (.bool b) σ) : (wp CT (.bool b)).e env σ Q := h
theorem e_cmp {op : CmpOp} {a b : X} (h : (wp CT a).e env σ fun va σ₁ => (wp CT b).e env σ₁ fun vb σ₂ => cmpV op va vb σ₂ Q) : (wp CT (.cmp op a b)).e env σ Q := h
theorem e_idx {o i : X} (h : (wp CT o).e env σ fun vo σ₁ => (wp CT i).e env σ₁ fun vi σ₂ => idxV vo vi σ₂ Q) : (wp CT (.idx o i)).e env σ Q := h
theorem e_new {k : Nat} {C f : Addr} {as : X} (h : (wp CT as).l env σ fun vs σ₁ => CT f (.obj σ₁.length :: vs) (σ₁ ++ [.inst C []]) fun r σ₂ => r = .none ∧ Q (.obj σ₁.length) σ₂) : (wp CT (.new k C f as)).e env σ Q := h
theorem e_comp {t it : X} (h : (wp CT it).e env σ fun vi σ₁ => onObj vi fun i => onLst σ₁[i]? fun ds => ∃ f : V → V, (∀ d ∈ ds, ∀ acc, (wp CT t).e [some d] (σ₁ ++ [.list acc]) fun v σ' => σ' = σ₁ ++ [.list acc] ∧ v = f d) ∧ Q (.obj σ₁.length) (σ₁ ++ [.list (ds.map f)])) : (wp CT (.comp t it)).e env σ Q := h
theorem e_slc {o : X} {k : Nat} (h : (wp CT o).e env σ fun vo σ₁ => onCl vo fun ds => (k ≤ 1000 ∧ ds.length ≤ 1000) ∧ Q (.obj σ₁.length) (σ₁ ++ [.list (ds.take k)])) : (wp CT (.slc o k)).e env σ Q := h
theorem e_ddisp {es : List (Int × List Nat)} {i : X} (h : (wp CT i).e env σ fun vi σ₁ => onInt vi fun k => onSome (assocI k es) fun d => Q (.str d) σ₁) : (wp CT (.ddisp es i)).e env σ Q := h
theorem p_lst {o : Option Cell} {ds : List V} {P : List V → Prop} (h0 : o = some (.list ds)) (h : P ds) : onLst o P := by rw [h0]; exact h
theorem p_ins {o : Option Cell} {C : Addr} {fs : List (Str × V)} {P : Addr → List (Str × V) → Prop} (h0 : o = some (.inst C fs)) (h : P C fs) : onIns o P := by rw [h0]; exact h
theorem p_some {α : Type} {o : Option α} {a : α} {P : α → Prop} (h0 : o = some a) (h : P a) : onSome o P := by rw [h0]; exact h
end
section
variable {CT : CTy} {env : Lo} {σ : Store} {Q : List V → Store → Prop}
theorem l_nil (h : Q [] σ) : (wp CT .nil).l env σ Q := h
end
section
variable {CT : CTy} {env : Lo} {σ : Store} {Q : Bool → Store → Prop}
theorem c_cmp {op : CmpOp} {a b : X} (h : (wp CT (.cmp op a b)).e env σ fun v σ' => truV v σ' Q) : (wp CT (.cmp op a b)).c env σ Q := h
theorem tru_bool {b : Bool} (h : Q b σ) : truV (.bool b) σ Q := h
theorem tru_obj {i : Nat} {vs : List V} (h0 : σ[i]? = some (.list vs)) (h : Q (!vs.isEmpty) σ) : truV (.obj i) σ Q := p_lst h0 h
end
section
variable {CT : CTy} {env : Lo} {σ : Store} {Q : Option Int → Store → Prop}
end

section
variable {σ : Store} {Q : V → Store → Prop} {x y : Int} {a b : List Nat}
theorem pEqS (h : Q (.bool (decide (a = b))) σ) : cmpV .Eq (.str a) (.str b) σ Q := h
theorem pEq1 {x y : Nat} (h : Q (.bool (decide (x = y))) σ) : cmpV .Eq (.str [x]) (.str [y]) σ Q := by
  refine pEqS ?_
  rw [show decide ([x] = [y]) = decide (x = y) by simp]; exact h
theorem pNeS (h : Q (.bool (!decide (a = b))) σ) : cmpV .NotEq (.str a) (.str b) σ Q := h
theorem pNe1 {x y : Nat} (h : Q (.bool (!decide (x = y))) σ) : cmpV .NotEq (.str [x]) (.str [y]) σ Q := by
  refine pNeS ?_
  rw [show decide ([x] = [y]) = decide (x = y) by simp]; exact h
theorem one_le (x y : Nat) : (!decide ([y] < [x])) = decide (x ≤ y) := by
  rw [Bool.eq_iff_iff]
  simp only [Bool.not_eq_true', decide_eq_false_iff_not, decide_eq_true_eq]
  constructor
  · intro h; by_cases q : x ≤ y
    · exact q
    · exact absurd (List.Lex.rel (by lia)) h
  · rintro h (⟨_⟩ | ⟨q⟩ | ⟨q⟩)
    · lia
    · cases q
theorem pLe1 {x y : Nat} (h : Q (.bool (decide (x ≤ y))) σ) : cmpV .LtE (.str [x]) (.str [y]) σ Q := by
  show Q (.bool (!decide ([y] < [x]))) σ
  rw [one_le]; exact h
theorem pIs {v : V} (h : Q (.bool v.isNone) σ) : cmpV .Is v .none σ Q := h
theorem pInS (h : Q (.bool (subIn a b)) σ) : cmpV .In (.str a) (.str b) σ Q := h
theorem pNotInS (h : Q (.bool (!subIn a b)) σ) : cmpV .NotIn (.str a) (.str b) σ Q := h
theorem pInTS {ds : List V} {l : List (List Nat)} (h0 : strsOf ds = some l) (h : Q (.bool (l.contains a)) σ) : cmpV .In (.str a) (.tup ds) σ Q := p_some h0 h
theorem pInTI {ds : List V} {l : List Int} (h0 : intsOf ds = some l) (h : Q (.bool (l.contains x)) σ) : cmpV .In (.int x) (.tup ds) σ Q := p_some h0 h
theorem pInD {es : List (List Nat × V)} (h : Q (.bool (assocV a es).isSome) σ) : cmpV .In (.str a) (.dct es) σ Q := h
theorem pNotInL {i : Nat} {ds : List V} {l : List Int} (h1 : σ[i]? = some (.list ds)) (h0 : intsOf ds = some l) (h : Q (.bool (!l.contains x)) σ) : cmpV .NotIn (.int x) (.obj i) σ Q := p_lst h1 (p_some h0 h)

theorem q_cat (hl : a.length + b.length ≤ 1000000) (h : Q (.str (a ++ b)) σ) : binV .Add (.str a) (.str b) σ Q := ⟨hl, h⟩
theorem q_mod (h0 : 0 < y ∧ y < 1000000000) (h : Q (.int (x.fmod y)) σ) : binV .Mod (.int x) (.int y) σ Q := ⟨h0, h⟩
theorem q_div (h0 : 0 < y ∧ y < 1000000000) (h : Q (.int (x.fdiv y)) σ) : binV .FloorDiv (.int x) (.int y) σ Q := ⟨h0, h⟩
theorem q_mul (h0 : IntMulOk x y) (h : Q (.int (x * y)) σ) : binV .Mult (.int x) (.int y) σ Q := ⟨h0, h⟩
theorem a_add {k j : Int} (h : Q (.int (k + j)) σ) : augV .Add (.int k) (.int j) σ Q := h
theorem a_sub {k j : Int} (h : Q (.int (k - j)) σ) : augV .Sub (.int k) (.int j) σ Q := h
theorem if_t {b : Bool} {T F : Prop} (hb : b = true) (h : T) : if b = true then T else F := by rw [if_pos hb]; exact h
theorem if_f {b : Bool} {T F : Prop} (hb : b = false) (h : F) : if b = true then T else F := by subst hb; exact h
theorem if_i {b : Bool} {T F : Prop} (h : b = true → T) (h' : b = false → F) : if b = true then T else F := by
  cases b
  · exact if_f rfl (h' rfl)
  · exact if_t rfl (h rfl)
theorem if_dt {p : Prop} [Decidable p] {T F : Prop} (hb : p) (h : T) : if decide p = true then T else F := by rw [if_pos (by simpa using hb)]; exact h
theorem if_df {p : Prop} [Decidable p] {T F : Prop} (hb : ¬ p) (h : F) : if decide p = true then T else F := by rw [if_neg (by simpa using hb)]; exact h
theorem if_nt {b : Bool} {T F : Prop} (hb : b = false) (h : T) : if (!b) = true then T else F := by subst hb; exact h
theorem if_nf {b : Bool} {T F : Prop} (hb : b = true) (h : F) : if (!b) = true then T else F := by subst hb; exact if_f rfl h
theorem if_tt {T F : Prop} (h : T) : if true = true then T else F := by rw [if_pos rfl]; exact h
theorem if_ff {T F : Prop} (h : F) : if false = true then T else F := if_f rfl h
theorem if_ntt {T F : Prop} (h : F) : if (!true) = true then T else F := if_f rfl h
theorem if_nff {T F : Prop} (h : T) : if (!false) = true then T else F := if_t rfl h
theorem if_ndt {p : Prop} [Decidable p] {T F : Prop} (hb : ¬ p) (h : T) : if (!decide p) = true then T else F := by rw [if_pos (by simpa using hb)]; exact h
theorem if_ndf {p : Prop} [Decidable p] {T F : Prop} (hb : p) (h : F) : if (!decide p) = true then T else F := by rw [if_neg (by simpa using hb)]; exact h
/-- a branch without an else, joined -/
theorem seq_ifN {CT : CTy} {env : Lo} {σ : Store} {Q : Fl → Lo → Store → Prop} {t : X} {a rest : S} (b : Bool) (env' : Lo) (ht : ∀ P : Bool → Store → Prop, P b σ → (wp CT t).c env σ P) (ha : b = true → ∀ K : Fl → Lo → Store → Prop, K .next env' σ → wpS CT a env σ K) (hb : b = false → env' = env) (h : wpS CT rest env' σ Q) : wpS CT (.seq (.ifs t a .skip) rest) env σ Q := by
  refine st_seq (st_ifs (ht _ ?_))
  cases b with
  | true => exact if_tt (ha rfl _ h)
  | false => rw [hb rfl] at h; exact if_ff (st_skip h)
theorem tup_ok {vs : List V} {P : Prop} (h : Nat.ble vs.length 1000000 = true) (p : P) : vs.length ≤ 1000000 ∧ P := ⟨Nat.le_of_ble_eq_true h, p⟩
theorem sl_ok {s : List Nat} {P : Prop} (h : s.length ≤ 1000000) (p : P) : s.length ≤ 1000000 ∧ P := ⟨h, p⟩
theorem st_retN {Q : V → Store → Prop} {env : Lo} {σ : Store} (h : Q .none σ) : retQ Q .next env σ := h
theorem if_d {p : Prop} [Decidable p] {T F : Prop} (h : p → T) (h' : ¬ p → F) : if decide p = true then T else F := by
  by_cases q : p
  · rw [if_pos (by simpa using q)]; exact h q
  · rw [if_neg (by simpa using q)]; exact h' q
theorem p_chr {i : Nat} (h0 : i ≤ 0x10FFFF) (h : Q (.str [i]) σ) : biV .chr [.int (i : Nat)] σ Q := ⟨by lia, by lia, h⟩
theorem p_len {s : List Nat} (hs : s.length ≤ 1000000) (q : Q (.int (s.length : Nat)) σ) : biV .len [.str s] σ Q := ⟨by lia, q⟩
theorem p_lenT {ds : List V} (hs : ds.length ≤ 1000000) (q : Q (.int (ds.length : Nat)) σ) : biV .len [.tup ds] σ Q := ⟨by lia, q⟩
theorem p_lenL {i : Nat} {ds : List V} (h0 : σ[i]? = some (.list ds)) (q : Q (.int (ds.length : Nat)) σ) : biV .len [.obj i] σ Q := p_lst h0 q
theorem p_str {i : Int} (h0 : i.natAbs.log2 < 1920) (q : Q (.str (intS i)) σ) : biV .str [.int i] σ Q := ⟨h0, q⟩
theorem p_find {t u : List Nat} {k : Int} (h : Q (.int (findL t u k)) σ) : mthV .find (.str t) [.str u, .int k] σ Q := h
theorem p_append {i : Nat} {d : V} {ds : List V} (h0 : σ[i]? = some (.list ds)) (hl : ds.length < 1000000) (h : Q .none (σ.set i (.list (ds ++ [d])))) : mthV .append (.obj i) [d] σ Q := p_lst h0 ⟨hl, h⟩
theorem p_pop {i : Nat} {ds : List V} (h0 : σ[i]? = some (.list ds)) (hl : ds ≠ []) (h : Q (ds.getLastD .none) (σ.set i (.list ds.dropLast))) : mthV .pop (.obj i) [] σ Q := ⟨rfl, p_lst h0 ⟨hl, h⟩⟩
theorem p_join {i : Nat} {ds : List V} {l : List (List Nat)} (h0 : σ[i]? = some (.list ds)) (h1 : strsOf ds = some l) (hl : l.flatten.length ≤ 1000000) (h : Q (.str l.flatten) σ) : mthV .join (.str []) [.obj i] σ Q := ⟨rfl, p_lst h0 (p_some h1 ⟨hl, h⟩)⟩
theorem mo_list {m : Mt} {i : Nat} {ds : List V} (hm : m = .append ∨ m = .pop) (h0 : σ[i]? = some (.list ds)) : mthO m (.obj i) σ := by
  rcases hm with rfl | rfl
  · exact p_lst h0 trivial
  · exact p_lst h0 trivial
theorem p_attr {C : Addr} {n : Str} {i : Nat} {fs : List (Str × V)} {d : V} (h0 : σ[i]? = some (.inst C fs)) (h1 : assocF n fs = some d) (h : Q d σ) : attrV C n (.obj i) σ Q := p_ins h0 ⟨rfl, p_some h1 h⟩
end

theorem st_setA {CT : CTy} {env : Lo} {σ : Store} {Q : Fl → Lo → Store → Prop} {C : Addr} {n : Str} {o e : X} (h : (wp CT e).e env σ fun v σ₁ => (wp CT o).e env σ₁ fun vo σ₂ => setK C n env Q v vo σ₂) : wpS CT (.asgA C n o e) env σ Q := h
theorem p_setA {C : Addr} {n : Str} {env : Lo} {Q : Fl → Lo → Store → Prop} {v : V} {σ : Store} {i : Nat} {fs : List (Str × V)} (h0 : σ[i]? = some (.inst C fs)) (hl : fs.length < 50) (h : Q .next env (σ.set i (.inst C (setF n v fs)))) : setK C n env Q v (.obj i) σ := p_ins h0 ⟨rfl, hl, h⟩
theorem p_uok {C : Addr} {n : Str} {σ : Store} {i : Nat} {fs : List (Str × V)} {P : Prop} (h0 : σ[i]? = some (.inst C fs)) (h1 : assocF n fs = none) (h : P) : uok C n (.obj i) σ ∧ P := ⟨p_ins h0 ⟨rfl, h1⟩, h⟩

noncomputable def forK (CT : CTy) (i : Nat) (b : S) (Q : Fl → Lo → Store → Prop) (env : Lo) (v : V) (σ₁ : Store) : Prop := onAny v no1 no1 no1 (fun ds => ∃ I : List V → Lo → Store → Prop, I ds env σ₁ ∧
      (∀ x r env σ, I (x :: r) env σ → wpS CT b (lset env i (some x)) σ (whlK (I r) Q)) ∧
      ∀ env σ, I [] env σ → Q .next env σ)
    (fun n => onLst σ₁[n]? fun ds => ∃ I : List V → Lo → Store → Prop, I ds env σ₁ ∧
        (∀ r env σ, I r env σ → σ[n]? = some (.list ds)) ∧
        (∀ x r env σ, I (x :: r) env σ → wpS CT b (lset env i (some x)) σ (whlK (I r) Q)) ∧
        ∀ env σ, I [] env σ → Q .next env σ) no1
theorem st_forE {CT : CTy} {env : Lo} {σ : Store} {Q : Fl → Lo → Store → Prop} {i : Nat} {e : X} {b : S} (h : (wp CT e).e env σ fun v σ₁ => forK CT i b Q env v σ₁) : wpS CT (.forE i e b) env σ Q := h
theorem p_forT {CT : CTy} {env : Lo} {σ : Store} {Q : Fl → Lo → Store → Prop} {i : Nat} {b : S} {ds : List V} (I : List V → Lo → Store → Prop) (h0 : I ds env σ)
      (h1 : ∀ x r env σ, I (x :: r) env σ → wpS CT b (lset env i (some x)) σ (whlK (I r) Q)) (h2 : ∀ env σ, I [] env σ → Q .next env σ) : forK CT i b Q env (.tup ds) σ := ⟨I, h0, h1, h2⟩
theorem p_forL {CT : CTy} {env : Lo} {σ : Store} {Q : Fl → Lo → Store → Prop} {i n : Nat} {b : S} {ds : List V} (hn : σ[n]? = some (.list ds)) (I : List V → Lo → Store → Prop) (h0 : I ds env σ) (hk : ∀ r env σ, I r env σ → σ[n]? = some (.list ds))
      (h1 : ∀ x r env σ, I (x :: r) env σ → wpS CT b (lset env i (some x)) σ (whlK (I r) Q)) (h2 : ∀ env σ, I [] env σ → Q .next env σ) : forK CT i b Q env (.obj n) σ := p_lst hn ⟨I, h0, hk, h1, h2⟩

noncomputable def pk (t : List Nat) (k : Nat) : Nat := t.getD k 0
theorem pk_lt {t : List Nat} {k : Nat} (h : k < t.length) : t[k]? = some (pk t k) := by unfold pk; exact getD_get h
theorem pk_ge {t : List Nat} {k : Nat} (h : t.length ≤ k) : pk t k = 0 := by unfold pk; rw [List.getD_eq_getElem?_getD, List.getElem?_eq_none h]; rfl
theorem pk_hd {t : List Nat} {k : Nat} {r : List Nat} (h : t.drop k = r) : pk t k = r.headD 0 := by
  subst h
  unfold pk
  rw [List.headD_eq_head?_getD, List.head?_drop, List.getD_eq_getElem?_getD]
theorem pk_at {t : List Nat} {k : Nat} {c : Nat} {r : List Nat} (h : t.drop k = c :: r) : k < t.length ∧ pk t k = c ∧ t.drop (k + 1) = r ∧ t.length = k + 1 + r.length := by
  have hl : (t.drop k).length = r.length + 1 := by rw [h]; rfl
  rw [List.length_drop] at hl
  refine ⟨a_lt_subE hl, by rw [pk_hd h]; rfl, ?_, a_sub_eq hl⟩
  rw [← List.drop_drop, h]; rfl
theorem pk_end {t : List Nat} {k : Nat} (h : t.drop k = []) : t.length ≤ k := by simpa using h
theorem seqI {k n : Nat} (h : k < n) : seqIndex? (k : Int) n = some k := by
  unfold seqIndex?
  simp only [show ¬ ((k : Int) < 0) by lia, if_false]
  rw [if_pos (by simp; lia)]
  simp
theorem seqL {n : Nat} (h : 0 < n) : seqIndex? (-1) n = some (n - 1) := by
  unfold seqIndex?
  simp only [show ((-1 : Int) < 0) by lia, if_true]
  rw [if_pos (by simp; lia)]
  congr 1; rw [Int.add_comm]; exact Int.toNat_sub n 1
theorem p_idxS {s : List Nat} {k : Nat} {σ : Store} {Q : V → Store → Prop} (hs : s.length ≤ 1000000) (h : k < s.length) (q : Q (.str [pk s k]) σ) : idxV (.str s) (.int k) σ Q := p_some (seqI h) ⟨(i62 h hs).1, (i62 h hs).2, q⟩
theorem p_idxT {ds : List V} {k : Nat} {σ : Store} {Q : V → Store → Prop} (hs : ds.length ≤ 1000000) (h : k < ds.length) (q : Q (ds.getD k .none) σ) : idxV (.tup ds) (.int k) σ Q := p_some (seqI h) ⟨(i62 h hs).1, (i62 h hs).2, q⟩
theorem p_idxL {i : Nat} {ds : List V} {k : Nat} {σ : Store} {Q : V → Store → Prop} (h0 : σ[i]? = some (.list ds)) (hs : ds.length ≤ 1000000) (h : k < ds.length) (q : Q (ds.getD k .none) σ) : idxV (.obj i) (.int k) σ Q := p_lst h0 (p_some (seqI h) ⟨(i62 h hs).1, (i62 h hs).2, q⟩)
theorem p_idxLast {i : Nat} {ds : List V} {σ : Store} {Q : V → Store → Prop} (h0 : σ[i]? = some (.list ds)) (h : ds ≠ []) (q : Q (ds.getLastD .none) σ) : idxV (.obj i) (.int (-1)) σ Q := by
  refine p_lst h0 (p_some (seqL (List.length_pos_iff.mpr h)) ⟨by omega, by omega, ?_⟩)
  have : ds.getD (ds.length - 1) .none = ds.getLastD .none := by
    rw [List.getD_eq_getElem?_getD, ← List.getLast?_eq_getElem?, List.getLastD_eq_getLast?]
  rw [this]; exact q
theorem p_idxD {es : List (List Nat × V)} {x : List Nat} {d : V} {σ : Store} {Q : V → Store → Prop} (h0 : assocV x es = some d) (q : Q d σ) : idxV (.dct es) (.str x) σ Q := p_some h0 q
/-! the walk's rules: Rw, Rs by definition alone; Cs casts -/
inductive Rw : Prop → Prop
  | tt {T F : Prop} (h : T) : Rw (if true = true then T else F)
  | ff {T F : Prop} (h : F) : Rw (if false = true then T else F)
  | ntt {T F : Prop} (h : F) : Rw (if (!true) = true then T else F)
  | nff {T F : Prop} (h : T) : Rw (if (!false) = true then T else F)
  | lt {σ : Store} {Q : V → Store → Prop} {x y : Int} (h : Q (.bool (decide (x < y))) σ) : Rw (cmpV .Lt (.int x) (.int y) σ Q)
  | le {σ : Store} {Q : V → Store → Prop} {x y : Int} (h : Q (.bool (decide (x ≤ y))) σ) : Rw (cmpV .LtE (.int x) (.int y) σ Q)
  | gt {σ : Store} {Q : V → Store → Prop} {x y : Int} (h : Q (.bool (decide (y < x))) σ) : Rw (cmpV .Gt (.int x) (.int y) σ Q)
  | ge {σ : Store} {Q : V → Store → Prop} {x y : Int} (h : Q (.bool (decide (y ≤ x))) σ) : Rw (cmpV .GtE (.int x) (.int y) σ Q)
  | eqI {σ : Store} {Q : V → Store → Prop} {x y : Int} (h : Q (.bool (decide (x = y))) σ) : Rw (cmpV .Eq (.int x) (.int y) σ Q)
  | neI {σ : Store} {Q : V → Store → Prop} {x y : Int} (h : Q (.bool (!decide (x = y))) σ) : Rw (cmpV .NotEq (.int x) (.int y) σ Q)
  | is {σ : Store} {Q : V → Store → Prop} {v : V} (h : Q (.bool v.isNone) σ) : Rw (cmpV .Is v .none σ Q)
  | isNot {σ : Store} {Q : V → Store → Prop} {v : V} (h : Q (.bool (!v.isNone)) σ) : Rw (cmpV .IsNot v .none σ Q)
  | neB {σ : Store} {Q : V → Store → Prop} {p q : Bool} (h : Q (.bool (p != q)) σ) : Rw (cmpV .NotEq (.bool p) (.bool q) σ Q)
  | add1 {σ : Store} {Q : V → Store → Prop} {k : Nat} (h : Q (.int ((k + 1 : Nat) : Int)) σ) : Rw (binV .Add (.int (k : Nat)) (.int 1) σ Q)
  | add2 {σ : Store} {Q : V → Store → Prop} {k : Nat} (h : Q (.int ((k + 2 : Nat) : Int)) σ) : Rw (binV .Add (.int (k : Nat)) (.int 2) σ Q)
  | add3 {σ : Store} {Q : V → Store → Prop} {k : Nat} (h : Q (.int ((k + 3 : Nat) : Int)) σ) : Rw (binV .Add (.int (k : Nat)) (.int 3) σ Q)
  | addN {σ : Store} {Q : V → Store → Prop} {j k : Nat} (h : Q (.int ((j + k : Nat) : Int)) σ) : Rw (binV .Add (.int (j : Nat)) (.int (k : Nat)) σ Q)
  | sub {σ : Store} {Q : V → Store → Prop} {x y : Int} (h : Q (.int (x - y)) σ) : Rw (binV .Sub (.int x) (.int y) σ Q)
  | add {σ : Store} {Q : V → Store → Prop} {x y : Int} (h : Q (.int (x + y)) σ) : Rw (binV .Add (.int x) (.int y) σ Q)
  | ord {σ : Store} {Q : V → Store → Prop} {c : Nat} (h : Q (.int c) σ) : Rw (biV .ord [.str [c]] σ Q)
  | aug1 {σ : Store} {Q : V → Store → Prop} {k : Nat} (h : Q (.int ((k + 1 : Nat) : Int)) σ) : Rw (augV .Add (.int (k : Nat)) (.int 1) σ Q)
  | aug2 {σ : Store} {Q : V → Store → Prop} {k : Nat} (h : Q (.int ((k + 2 : Nat) : Int)) σ) : Rw (augV .Add (.int (k : Nat)) (.int 2) σ Q)
  | aug {σ : Store} {Q : V → Store → Prop} {x y : Int} (h : Q (.int (x + y)) σ) : Rw (augV .Add (.int x) (.int y) σ Q)
  | tru {σ : Store} {Q : Bool → Store → Prop} {b : Bool} (h : Q b σ) : Rw (truV (.bool b) σ Q)
theorem Rw.out {A : Prop} (r : Rw A) : A :=
  Rw.rec (motive := fun A _ => A) (fun h => h) (fun h => h) (fun h => h) (fun h => h) (fun h => h) (fun h => h) (fun h => h) (fun h => h) (fun h => h) (fun h => h) (fun h => h) (fun h => h) (fun h => h) (fun h => h) (fun h => h) (fun h => h) (fun h => h) (fun h => h) (fun h => h) (fun h => h) (fun h => h) (fun h => h) (fun h => h) (fun h => h) r
inductive Rs : Prop → Prop
  | seq {CT : CTy} {env : Lo} {σ : Store} {Q : Fl → Lo → Store → Prop} {a b : S} (h : wpS CT a env σ (seqK (fun env' σ' => wpS CT b env' σ' Q) Q)) : Rs (wpS CT (.seq a b) env σ Q)
  | asg {CT : CTy} {env : Lo} {σ : Store} {Q : Fl → Lo → Store → Prop} {i : Nat} {e : X} (h : (wp CT e).e env σ fun v σ' => Q .next (lset env i (some v)) σ') : Rs (wpS CT (.asg i e) env σ Q)
  | ifs {CT : CTy} {env : Lo} {σ : Store} {Q : Fl → Lo → Store → Prop} {t : X} {a b : S} (h : (wp CT t).c env σ fun r σ₁ => if r = true then wpS CT a env σ₁ Q else wpS CT b env σ₁ Q) : Rs (wpS CT (.ifs t a b) env σ Q)
  | ret {CT : CTy} {env : Lo} {σ : Store} {Q : Fl → Lo → Store → Prop} {e : X} (h : (wp CT e).e env σ fun v σ' => Q (.ret v) env σ') : Rs (wpS CT (.ret e) env σ Q)
  | skip {CT : CTy} {env : Lo} {σ : Store} {Q : Fl → Lo → Store → Prop}  (h : Q .next env σ) : Rs (wpS CT .skip env σ Q)
  | expr {CT : CTy} {env : Lo} {σ : Store} {Q : Fl → Lo → Store → Prop} {e : X} (h : (wp CT e).e env σ fun v σ' => onDrop v (Q .next env σ')) : Rs (wpS CT (.expr e) env σ Q)
  | augS {CT : CTy} {env : Lo} {σ : Store} {Q : Fl → Lo → Store → Prop} {i : Nat} {op : Operator} {e : X} (h : onSome (lget env i) fun o => onSome o fun d => (wp CT e).e env σ fun v σ₁ => augV op d v σ₁ fun w σ₂ => Q .next (lset env i (some w)) σ₂) : Rs (wpS CT (.aug i op e) env σ Q)
  | brk {CT : CTy} {env : Lo} {σ : Store} {Q : Fl → Lo → Store → Prop}  (h : Q .brk env σ) : Rs (wpS CT .brk env σ Q)
  | asgT {CT : CTy} {env : Lo} {σ : Store} {Q : Fl → Lo → Store → Prop} {is : List Nat} {e : X} (h : (wp CT e).e env σ fun v σ' => onAny v no1 no1 no1 (fun ds => onSome (asgs env is ds) fun env' => Q .next env' σ') no1 no1) : Rs (wpS CT (.asgT is e) env σ Q)
  | asgA {CT : CTy} {env : Lo} {σ : Store} {Q : Fl → Lo → Store → Prop} {C : Addr} {n : Str} {o e : X} (h : (wp CT e).e env σ fun v σ₁ => (wp CT o).e env σ₁ fun vo σ₂ => setK C n env Q v vo σ₂) : Rs (wpS CT (.asgA C n o e) env σ Q)
theorem Rs.out {A : Prop} (r : Rs A) : A :=
  Rs.rec (motive := fun A _ => A) (fun h => h) (fun h => h) (fun h => h) (fun h => h) (fun h => h) (fun h => h) (fun h => h) (fun h => h) (fun h => h) (fun h => h) r
inductive Cs : Prop → Prop
  | ne {a b : Nat} (h : ¬ a = @OfNat.ofNat Nat b (instOfNatNat b)) : Cs (¬ (a : Int) = @OfNat.ofNat Int b (@instOfNat b))
  | eq {a b : Nat} (h : a = @OfNat.ofNat Nat b (instOfNatNat b)) : Cs ((a : Int) = @OfNat.ofNat Int b (@instOfNat b))
  | lt {a b : Nat} (h : a < @OfNat.ofNat Nat b (instOfNatNat b)) : Cs ((a : Int) < @OfNat.ofNat Int b (@instOfNat b))
  | nlt {a b : Nat} (h : ¬ a < @OfNat.ofNat Nat b (instOfNatNat b)) : Cs (¬ (a : Int) < @OfNat.ofNat Int b (@instOfNat b))
  | gt {a b : Nat} (h : @OfNat.ofNat Nat b (instOfNatNat b) < a) : Cs (@OfNat.ofNat Int b (@instOfNat b) < (a : Int))
  | ngt {a b : Nat} (h : ¬ @OfNat.ofNat Nat b (instOfNatNat b) < a) : Cs (¬ @OfNat.ofNat Int b (@instOfNat b) < (a : Int))
  | llt {a b : Nat} (h : a < b) : Cs ((a : Int) < (b : Int))
  | nllt {a b : Nat} (h : ¬ a < b) : Cs (¬ (a : Int) < (b : Int))
theorem Cs.out {A : Prop} (r : Cs A) : A :=
  Cs.rec (motive := fun A _ => A) c_ne c_eq c_lt c_nlt c_gt (fun h z => h (Int.ofNat_lt.mp z)) Int.ofNat_lt.mpr (fun h z => h (Int.ofNat_lt.mp z)) r
/-- the shapes that the rules with a side goal take -/
inductive Nr : Prop → Prop
  | a {b : Bool} {T F : Prop} : Nr (if b = true then T else F)
  | b {op : CmpOp} {x y : V} {σ : Store} {Q : V → Store → Prop} : Nr (cmpV op x y σ Q)
  | c {op : Operator} {x y : V} {σ : Store} {Q : V → Store → Prop} : Nr (binV op x y σ Q)
  | d {x y : V} {σ : Store} {Q : V → Store → Prop} : Nr (idxV x y σ Q)
  | e {op : Bi} {x : List V} {σ : Store} {Q : V → Store → Prop} : Nr (biV op x σ Q)
  | f {n m : Nat} {P : Prop} : Nr (n ≤ m ∧ P)
theorem Nr.ok {g : Prop} (_ : Nr g) (h : g) : g := h

end
set_option autoImplicit false
set_option maxHeartbeats 0
set_option linter.unusedSimpArgs false
local macro_rules | `(tactic| walk_at "wh") => `(tactic| first | assumption | (refine Cs.out ?_; with_reducible constructor; assumption) | ((fail_if_success (fail_if_success omega)); lia) | omega | (simp only [decide_eq_true_eq, decide_eq_false_iff_not, Bool.not_eq_true', Bool.not_eq_false', Bool.true_or, Bool.or_true, Bool.false_or, Bool.or_false, *] ; done))
local macro_rules | `(tactic| walk_at "st") => `(tactic| ((refine' (?walkI : ErT _ _) ?walkJ ?walkK; (case' walkJ => ((with_reducible conv => whnf); exact ?walkK)); (case' walkI => with_reducible exact fun _ x => x)); repeat walk_at "su"))
local macro_rules | `(tactic| walk_at "se") => `(tactic| ((refine' (?walkI : ErT _ _) ?walkJ ?walkK; (case' walkJ => ((with_reducible conv => whnf); exact ?walkK)); (case' walkI => with_reducible exact fun _ x => x)); repeat walk_at "sf"))
local macro_rules | `(tactic| walk_at "n") => `(tactic| with_reducible first
  | refine if_dt (by walk_at "wh") ?_ | refine if_df (by walk_at "wh") ?_ | refine if_ndt (by walk_at "wh") ?_ | refine if_ndf (by walk_at "wh") ?_
  | refine if_t (by assumption) ?_ | refine if_f (by assumption) ?_ | refine if_nt (by assumption) ?_ | refine if_nf (by assumption) ?_
  | refine pEq1 ?_ | refine pNe1 ?_ | refine pLe1 ?_ | refine q_mod (by walk_at "wh") ?_ | refine q_div (by walk_at "wh") ?_
  | refine p_idxS (by assumption) (by walk_at "wh") ?_ | refine p_len (by assumption) ?_ | refine tup_ok (by with_unfolding_all exact rfl) ?_ | refine sl_ok (by assumption) ?_)
local macro_rules | `(tactic| walk_at "sf") => `(tactic| ((first | (refine' (?walkF : ErT _ _) ?walkC ?walkN; (case' walkC => (refine Rw.out ?_; with_reducible constructor; exact ?walkN)); (case' walkF => exact fun _ x => x)) | ((fail_if_success (fail_if_success (refine Nr.ok (by with_reducible constructor) ?_))); walk_at "n")); (refine' (?walkI : ErT _ _) ?walkJ ?walkK; (case' walkJ => ((with_reducible conv => whnf); exact ?walkK)); (case' walkI => with_reducible exact fun _ x => x))))
local macro_rules | `(tactic| walk_at "su") => `(tactic| ((first | (refine' (?walkF : ErT _ _) ?walkC ?walkN; (case' walkC => (refine Rs.out ?_; with_reducible constructor; exact ?walkN)); (case' walkF => exact fun _ x => x)) | (refine' (?walkF : ErT _ _) ?walkC ?walkN; (case' walkC => (refine Rw.out ?_; with_reducible constructor; exact ?walkN)); (case' walkF => exact fun _ x => x)) | ((fail_if_success (fail_if_success (refine Nr.ok (by with_reducible constructor) ?_))); walk_at "n")); (refine' (?walkI : ErT _ _) ?walkJ ?walkK; (case' walkJ => ((with_reducible conv => whnf); exact ?walkK)); (case' walkI => with_reducible exact fun _ x => x))))

section
section
variable {c : Cx} {GT : List (Str × Value)} (H : Chk c GT) {n : Nat} {σ : Store} {Q : V → Store → Prop}
include H
theorem peek_spec {t : List Nat} {k : Nat} (ht : t.length ≤ 1000000) (q : Q (.str [pk t k]) σ) : CallT c (n + 1) 151 [.str t, .int k] σ Q := by
  refine fn_sound H.k_peek H.gt rfl ?_; unfold b_peek
  walk_at "st"
  refine if_d (fun (h : _ < _) => ?_) (fun h => ?_)
  · walk_at "st"
    exact q
  · walk_at "st"
    rw [pk_ge (by lia)] at q
    exact q
end

noncomputable def isLE (x : Nat) : Bool := decide (x = 10) || decide (x = 13)
noncomputable def isWLE (x : Nat) : Bool := isLE x || (decide (x = 8232) || decide (x = 8233))
noncomputable def isDig (x : Nat) : Bool := decide (48 ≤ x) && decide (x ≤ 57)
noncomputable def isNS (x : Nat) : Bool := ((decide (97 ≤ x) && decide (x ≤ 122)) || (decide (65 ≤ x) && decide (x ≤ 90))) || (decide (x = 95) || decide (x = 36))
noncomputable def isNP (x : Nat) : Bool := isNS x || isDig x
noncomputable def isFar (x : Nat) : Bool := (decide (55296 ≤ x) && decide (x ≤ 57343)) || decide (65535 < x)
noncomputable def digV (x : Nat) : Nat := if 48 ≤ x ∧ x ≤ 57 then x - 48 else if 97 ≤ x ∧ x ≤ 102 then x - 87 else if 65 ≤ x ∧ x ≤ 70 then x - 55 else 99
section
variable {c : Cx} {GT : List (Str × Value)} (H : Chk c GT) {n : Nat} {σ : Store} {Q : V → Store → Prop}
include H

theorem le_spec {x : Nat} (q : Q (.bool (isLE x)) σ) : CallT c (n + 1) 158 [.str [x]] σ Q := by
  refine fn_sound H.k_is_line_end H.gt rfl ?_; unfold b_is_line_end
  walk_at "st"
  unfold isLE at q
  refine if_i (fun h => ?_) (fun h => ?_) <;> walk_at "st" <;> simpa only [h, Bool.true_or, Bool.false_or] using q
theorem wle_spec {x : Nat} (q : Q (.bool (isWLE x)) σ) : CallT c (n + 2) 165 [.str [x]] σ Q := by
  refine fn_sound H.k_is_wide_line_end H.gt rfl ?_; unfold b_is_wide_line_end
  walk_at "st"
  refine le_spec H ?_
  walk_at "st"
  unfold isWLE at q
  refine if_i (fun h => ?_) (fun h => ?_) <;> walk_at "st"
  · simpa only [h, Bool.true_or, Bool.false_or] using q
  · refine if_i (fun h' => ?_) (fun h' => ?_) <;> walk_at "st" <;> simpa only [h, h', Bool.true_or, Bool.false_or] using q
theorem dig_spec {x : Nat} (q : Q (.bool (isDig x)) σ) : CallT c (n + 1) 179 [.str [x]] σ Q := by
  refine fn_sound H.k_is_digit H.gt rfl ?_; unfold b_is_digit
  walk_at "st"
  unfold isDig at q
  refine if_i (fun h => ?_) (fun h => ?_) <;> walk_at "st" <;> simpa only [h, Bool.true_and, Bool.false_and] using q
theorem far_spec {x : Nat} (q : Q (.bool (isFar x)) σ) : CallT c (n + 1) 172 [.int (x : Nat)] σ Q := by
  refine fn_sound H.k_is_far H.gt rfl ?_; unfold b_is_far
  walk_at "st"
  unfold isFar at q
  by_cases h1 : 55296 ≤ x <;> by_cases h2 : x ≤ 57343 <;> by_cases h3 : 65535 < x <;> walk_at "st"
  all_goals simp only [h1, h2, h3, decide_true, decide_false, Bool.true_and, Bool.false_and, Bool.or_true, Bool.or_false, Bool.and_false, Bool.and_true] at q
  all_goals first | lia | exact q | (have : decide ((65535 : Int) < (x : Int)) = decide (65535 < x) := d_gt _ _); rw [this]; simp only [h3, decide_true, decide_false]; exact q
theorem ns_spec {x : Nat} (q : Q (.bool (isNS x)) σ) : CallT c (n + 1) 186 [.str [x]] σ Q := by
  refine fn_sound H.k_is_name_start H.gt rfl ?_; unfold b_is_name_start
  walk_at "st"
  unfold isNS at q
  refine if_i (fun h1 => ?_) (fun h1 => ?_) <;> simp only [h1, Bool.true_and, Bool.false_and, Bool.false_or] at q <;> walk_at "st"
  · refine if_i (fun h2 => ?_) (fun h2 => ?_) <;> simp only [h2, Bool.true_or, Bool.false_or] at q <;> walk_at "st"
    · exact q
    · refine if_i (fun h1 => ?_) (fun h1 => ?_) <;> simp only [h1, Bool.true_and, Bool.false_and, Bool.false_or] at q <;> walk_at "st"
      · refine if_i (fun h2 => ?_) (fun h2 => ?_) <;> simp only [h2, Bool.true_or, Bool.false_or] at q <;> walk_at "st"
        · exact q
        · refine if_i (fun h3 => ?_) (fun h3 => ?_) <;> simp only [h3, Bool.true_or, Bool.false_or] at q <;> walk_at "st" <;> exact q
      · refine if_i (fun h3 => ?_) (fun h3 => ?_) <;> simp only [h3, Bool.true_or, Bool.false_or] at q <;> walk_at "st" <;> exact q
  · refine if_i (fun h1 => ?_) (fun h1 => ?_) <;> simp only [h1, Bool.true_and, Bool.false_and, Bool.false_or] at q <;> walk_at "st"
    · refine if_i (fun h2 => ?_) (fun h2 => ?_) <;> simp only [h2, Bool.true_or, Bool.false_or] at q <;> walk_at "st"
      · exact q
      · refine if_i (fun h3 => ?_) (fun h3 => ?_) <;> simp only [h3, Bool.true_or, Bool.false_or] at q <;> walk_at "st" <;> exact q
    · refine if_i (fun h3 => ?_) (fun h3 => ?_) <;> simp only [h3, Bool.true_or, Bool.false_or] at q <;> walk_at "st" <;> exact q
theorem np_spec {x : Nat} (q : Q (.bool (isNP x)) σ) : CallT c (n + 2) 193 [.str [x]] σ Q := by
  refine fn_sound H.k_is_name_part H.gt rfl ?_; unfold b_is_name_part
  walk_at "st"
  refine ns_spec H ?_
  unfold isNP at q
  walk_at "st"
  refine if_i (fun h1 => ?_) (fun h1 => ?_) <;> simp only [h1, Bool.true_or, Bool.false_or] at q <;> walk_at "st"
  · exact q
  · exact dig_spec H q
theorem digv_spec {x : Nat} (q : Q (.int (digV x : Nat)) σ) : CallT c (n + 1) 207 [.str [x]] σ Q := by
  refine fn_sound H.k_digit_value H.gt rfl ?_; unfold b_digit_value
  walk_at "st"
  unfold digV at q
  by_cases a1 : 48 ≤ x <;> by_cases a2 : x ≤ 57 <;> by_cases a3 : 97 ≤ x <;> by_cases a4 : x ≤ 102 <;> by_cases a5 : 65 ≤ x <;> by_cases a6 : x ≤ 70 <;> first | lia | skip
  all_goals walk_at "st"
  all_goals simp only [a1, a2, a3, a4, a5, a6, and_self, and_true, true_and, and_false, false_and, if_true, if_false] at q
  all_goals first | exact q | skip
  all_goals first | (rw [show ((x - 48 : Nat) : Int) = (x : Int) - 48 from c_sub a1] at q; exact q) | (rw [show ((x - 87 : Nat) : Int) = (x : Int) - 87 from c_sub (Nat.le_trans (by decide) a3)] at q; exact q) | (rw [show ((x - 55 : Nat) : Int) = (x : Int) - 55 from c_sub (Nat.le_trans (by decide) a5)] at q; exact q)
end
end
section
theorem pk_drop {t : List Nat} {k : Nat} (h : k < t.length) : t.drop k = pk t k :: t.drop (k + 1) := by
  rw [List.drop_eq_getElem_cons h]
  congr 1
  have := pk_lt h
  rw [List.getElem?_eq_getElem h] at this
  exact Option.some.inj this

/-! a part's place -/
noncomputable def findSS : List Nat → Option Nat
  | [] => none
  | c :: r => if c = 42 ∧ r.head? = some 47 then some 0 else (findSS r).map (· + 1)

theorem occ_stay (s sub : Str) (hi : Nat) : ∀ (l : List Nat) (a : Nat) (free : Nat), (forIn (m := Id) l (#[a], free) (StrLaws.occBody s sub hi 1)).run.fst = #[a]
  | [], _, _ => rfl
  | x :: l, a, free => by
    rw [List.forIn_cons]
    unfold StrLaws.occBody
    rw [if_neg (by rintro ⟨⟨⟨h, _⟩, _⟩, _⟩; simp at h)]
    exact occ_stay s sub hi l a free

theorem occ_ss (t : List Nat) : ∀ (m lo free : Nat), free ≤ lo → lo + m = t.length + 1 →
    (forIn (m := Id) (List.range' lo m) ((#[] : Array Nat), free) (StrLaws.occBody ⟨t.toArray⟩ ⟨[42, 47].toArray⟩ t.length 1)).run.fst.toList = match findSS (t.drop lo) with | some j => [lo + j] | none => []
  | 0, lo, free, _, h => by
    rw [List.drop_of_length_le (by lia)]
    rfl
  | m + 1, lo, free, hf, h => by
    rw [List.range'_succ, List.forIn_cons]
    have hb : StrLaws.occBody ⟨t.toArray⟩ ⟨[42, 47].toArray⟩ t.length 1 lo ((#[] : Array Nat), free) = if ((((#[] : Array Nat), free).fst.size < 1 ∧ ((#[] : Array Nat), free).snd ≤ lo) ∧ lo + (⟨[42, 47].toArray⟩ : Str).length ≤ t.length) ∧ Builtin.Str.subAt ⟨t.toArray⟩ ⟨[42, 47].toArray⟩ lo = true
      then pure (ForInStep.yield (((#[] : Array Nat), free).fst.push lo, lo + (⟨[42, 47].toArray⟩ : Str).length)) else pure (ForInStep.yield (((#[] : Array Nat), free).fst, ((#[] : Array Nat), free).snd)) := rfl
    rw [hb]
    clear hb
    by_cases hlo : lo < t.length
    · rw [pk_drop hlo]
      unfold findSS
      have e1 : Builtin.Str.subAt ⟨t.toArray⟩ ⟨[42, 47].toArray⟩ lo = ((pk t lo :: t.drop (lo + 1)).take 2 == [42, 47]) := by
        rw [StrLaws.subAt_eq]
        show ((t.drop lo).take 2 == [42, 47]) = _
        rw [pk_drop hlo]
      have e2 : (⟨[42, 47].toArray⟩ : Str).length = 2 := rfl
      rw [e1, e2]
      by_cases hc : pk t lo = 42 ∧ (t.drop (lo + 1)).head? = some 47
      · rw [if_pos hc, if_pos]
        · show (forIn (m := Id) (List.range' (lo + 1) m) (#[lo], lo + 2) _).run.fst.toList = _
          have := occ_stay ⟨t.toArray⟩ ⟨[42, 47].toArray⟩ t.length (List.range' (lo + 1) m) lo (lo + 2)
          rw [this]
          rfl
        · obtain ⟨h1, h2⟩ := hc
          cases hd : t.drop (lo + 1) with
          | nil => rw [hd] at h2; cases h2
          | cons y r =>
            rw [hd] at h2
            cases h2
            have hl : (t.drop (lo + 1)).length = r.length + 1 := by rw [hd]; rfl
            rw [List.length_drop] at hl
            refine ⟨⟨⟨by simp, hf⟩, a_lt_subE hl⟩, ?_⟩
            rw [h1]; rfl
      · rw [if_neg hc, if_neg]
        · have ih := occ_ss t m (lo + 1) free (by lia) (by lia)
          show (forIn (m := Id) (List.range' (lo + 1) m) (#[], free) _).run.fst.toList = _
          rw [ih]
          cases findSS (t.drop (lo + 1)) with
          | none => rfl
          | some j => simp only [Option.map_some]; congr 1; lia
        · rintro ⟨_, h2⟩
          apply hc
          cases hd : t.drop (lo + 1) with
          | nil => rw [hd] at h2; simp at h2
          | cons y r => rw [hd] at h2; simpa using h2
    · have hl : lo = t.length := by lia
      have hm : m = 0 := by lia
      subst hm
      rw [List.drop_of_length_le (by lia), if_neg]
      · rfl
      · rintro ⟨⟨_, h2⟩, _⟩
        have e2 : (⟨[42, 47].toArray⟩ : Str).length = 2 := rfl
        rw [e2] at h2
        lia

theorem find_ss {t : List Nat} {lo : Nat} (h : lo ≤ t.length) : findL t [42, 47] (lo : Int) = match findSS (t.drop lo) with | some j => ((lo + j : Nat) : Int) | none => -1 := by
  have e : fromIndex t.length (lo : Int) = lo := by
    unfold fromIndex
    rw [if_neg (Int.not_lt.mpr (Int.natCast_nonneg lo))]; exact a_max0 lo
  unfold findL
  rw [e, StrLaws.occ_eq, occ_ss t (t.length + 1 - lo) lo lo (Nat.le_refl _) (a_ps (Nat.le_succ_of_le h))]
  cases findSS (t.drop lo) <;> rfl

noncomputable def skipLn : List Nat → Nat
  | [] => 0
  | c :: r => if isWLE c then 0 else skipLn r + 1


section
variable {c : Cx} {GT : List (Str × Value)} (H : Chk c GT) {n : Nat} {σ : Store} {Q : V → Store → Prop} {t : List Nat} {k : Nat} (ht : t.length ≤ 1000000)
include H ht

theorem skip_line_spec (hk : k ≤ t.length) (q : Q (.int ((k + skipLn (t.drop k) : Nat) : Int)) σ) : CallT c (n + 3) 214 [.str t, .int k] σ Q := by
  refine fn_sound H.k_skip_line H.gt rfl ?_; unfold b_skip_line
  refine st_seq ?_
  unfold w_skip_line_1
  obtain ⟨I, hI⟩ : ∃ I : Nat → Lo → Store → Prop, ∀ m env σ', I m env σ' ↔ (∀ P : Nat → Lo → Store → Prop, (∀ k', k' ≤ t.length → k' + skipLn (t.drop k') = k + skipLn (t.drop k) → P (t.length - k') [some (.str t), some (.int (k' : Nat))] σ) → P m env σ') := ⟨_, fun _ _ _ => Iff.rfl⟩
  refine whl_I I (t.length - k) ((hI _ _ _).mpr fun _ g => g k hk rfl) ?_
  intro m env σ' hz
  apply (hI _ _ _).mp hz
  intro k' hk' e
  clear hz
  walk_at "st"
  by_cases h : k' < t.length
  · walk_at "st"
    refine wle_spec H ?_
    walk_at "st"
    simp only [pk_drop h, skipLn] at e
    cases hc : isWLE (pk t k')
    · rw [hc] at e
      simp only [Bool.false_eq_true, if_false] at e
      walk_at "st"
      exact ⟨t.length - (k' + 1), a_sl (Nat.lt_succ_self _) h, (hI _ _ _).mpr fun _ g => g (k' + 1) h (by lia)⟩
    · rw [hc] at e
      simp only [if_true] at e
      walk_at "st"
      rw [Nat.add_zero] at e
      rw [e]; exact q
  · walk_at "st"
    have : k' = t.length := by lia
    subst this
    rw [List.drop_length] at e
    simp only [skipLn, Nat.add_zero] at e
    rw [e]; exact q

theorem skip_block_spec (hk : k + 2 ≤ t.length) {e : Nat} {l o : Bool} (hb : match findSS (t.drop (k + 2)) with
    | some j => e = k + 2 + (j + 2) ∧ l = ((t.drop (k + 2)).take (j + 2)).any isWLE ∧ o = true ∧ e ≤ t.length
    | none => e = t.length ∧ l = (t.drop (k + 2)).any isWLE ∧ o = false)
    (q : Q (.tup [.int (e : Nat), .bool l, .bool o]) σ) : CallT c (n + 3) 221 [.str t, .int k] σ Q := by
  have he : e ≤ t.length ∧ k + 2 ≤ e ∧ l = ((t.drop (k + 2)).take (e - (k + 2))).any isWLE := by
    cases hf : findSS (t.drop (k + 2)) with
    | some j =>
      rw [hf] at hb
      obtain ⟨e1, e2, _, h⟩ := hb
      exact ⟨h, e1 ▸ Nat.le_add_right _ _, by rw [e1, e2, a_add_sub]⟩
    | none =>
      rw [hf] at hb
      obtain ⟨e1, e2, _⟩ := hb
      refine ⟨Nat.le_of_eq e1, e1 ▸ hk, ?_⟩
      rw [e1, e2, List.take_of_length_le (Nat.le_of_eq List.length_drop)]
  have loop : ∀ (K : Fl → Lo → Store → Prop), (∀ p, K .next [some (.str t), some (.int k), some (.int e), some (.bool o), some (.bool l), some p] σ) → wpS (CallT c (n + 2)) w_skip_block_1 [some (.str t), some (.int k), some (.int e), some (.bool o), some (.bool false), some (.int ((k + 2 : Nat) : Int))] σ K := by
    intro K hK
    unfold w_skip_block_1
    obtain ⟨I, hI⟩ : ∃ I : Nat → Lo → Store → Prop, ∀ m env σ', I m env σ' ↔ (∀ P : Nat → Lo → Store → Prop, (∀ p l', p ≤ e → (l' || ((t.drop p).take (e - p)).any isWLE) = l → P (e - p) [some (.str t), some (.int k), some (.int e), some (.bool o), some (.bool l'), some (.int (p : Nat))] σ) → P m env σ') := ⟨_, fun _ _ _ => Iff.rfl⟩
    refine whl_I I (e - (k + 2)) ((hI _ _ _).mpr fun _ g => g (k + 2) false he.2.1 (by simp [he.2.2])) ?_
    intro m env σ' hz
    apply (hI _ _ _).mp hz
    intro p l' hp el
    clear hz
    walk_at "st"
    by_cases h : p < e
    · walk_at "st"
      cases l' with
      | true =>
        walk_at "st"
        rw [Bool.true_or] at el; rw [← el] at hK
        exact hK _
      | false =>
        walk_at "st"
        refine wle_spec H ?_
        walk_at "st"
        refine ⟨e - (p + 1), a_sl (Nat.lt_succ_self _) h, (hI _ _ _).mpr fun _ g => g (p + 1) _ h ?_⟩
        rw [← el, pk_drop (Nat.lt_of_lt_of_le h he.1), show e - p = (e - (p + 1)) + 1 from a_s1 h, List.take_succ_cons, List.any_cons, Bool.false_or]
    · walk_at "st"
      rw [Nat.le_antisymm hp (Nat.le_of_not_lt h), Nat.sub_self, List.take_zero, List.any_nil, Bool.or_false] at el; rw [← el] at hK
      exact hK _
  have q' : ∀ p : V, wpS (CallT c (n + 2)) (.seq (.ret (.tup (.cons (.loc 2) (.cons (.loc 4) (.cons (.loc 3) .nil))))) .skip) [some (.str t), some (.int k), some (.int e), some (.bool o), some (.bool l), some p] σ (retQ Q) := by
    intro p
    walk_at "st"
    exact q
  refine fn_sound H.k_skip_block H.gt rfl ?_; unfold b_skip_block
  walk_at "st"
  refine ⟨trivial, ?_⟩
  walk_at "st"
  refine p_find ?_
  rw [find_ss hk]
  cases hf : findSS (t.drop (k + 2)) with
  | some j =>
    rw [hf] at hb
    obtain ⟨rfl, rfl, rfl, h⟩ := hb
    dsimp only
    walk_at "st"
    rw [show decide (0 ≤ ((k + 2 + j : Nat) : Int)) = true by simp; lia]
    walk_at "st"
    exact loop _ q'
  | none =>
    rw [hf] at hb
    obtain ⟨rfl, rfl, rfl⟩ := hb
    dsimp only
    walk_at "st"
    exact loop _ q'
end
end
section
/-- what kind of blank begins here -/
noncomputable def bk : List Nat → Nat
  | [] => 0
  | c :: r => if isLE c then 1 else if c = 32 ∨ c = 9 then 2 else if c = 47 ∧ r.headD 0 = 47 then 3 else if c = 47 ∧ r.headD 0 = 42 then 4 else 0

inductive Blank : List Nat → Nat → Bool → Bool → Prop
  | stop {r : List Nat} : bk r = 0 → Blank r 0 false true
  | nl {r : List Nat} {k : Nat} {l o : Bool} : bk r = 1 → Blank (r.drop 1) k l o → Blank r (1 + k) true o
  | sp {r : List Nat} {k : Nat} {l o : Bool} : bk r = 2 → Blank (r.drop 1) k l o → Blank r (1 + k) l o
  | ln {r : List Nat} {k : Nat} {l o : Bool} : bk r = 3 → Blank (r.drop (skipLn r)) k l o → Blank r (skipLn r + k) l o
  | bl {r : List Nat} {j k : Nat} {l o : Bool} : bk r = 4 → findSS (r.drop 2) = some j → Blank (r.drop (j + 4)) k l o → Blank r (j + 4 + k) (((r.drop 2).take (j + 2)).any isWLE || l) o
  | op {r : List Nat} : bk r = 4 → findSS (r.drop 2) = none → Blank r r.length ((r.drop 2).any isWLE) false

theorem findSS_le : ∀ (r : List Nat) (j : Nat), findSS r = some j → j + 2 ≤ r.length
  | [], _, h => by cases h
  | c :: r, j, h => by
    unfold findSS at h
    split at h
    · rename_i hc
      cases h
      cases r with
      | nil => cases hc.2
      | cons _ _ => simp
    · obtain ⟨i, hi, rfl⟩ := Option.map_eq_some_iff.mp h
      have := findSS_le r i hi
      simp only [List.length_cons]; lia
theorem skipLn_le : ∀ r : List Nat, skipLn r ≤ r.length
  | [] => Nat.le_refl _
  | c :: r => by
    unfold skipLn
    have := skipLn_le r
    split
    · lia
    · simp only [List.length_cons]; lia
theorem bk_len {r : List Nat} (h : bk r ≠ 0) : 0 < r.length := by
  cases r with
  | nil => exact absurd rfl h
  | cons _ _ => simp
theorem bk_len2 {r : List Nat} (h : bk r = 3 ∨ bk r = 4) : 2 ≤ r.length := by
  cases r with
  | nil => rcases h with h | h <;> cases h
  | cons c r =>
    cases r with
    | cons _ _ => simp
    | nil =>
      unfold bk at h
      simp only [List.headD_nil] at h
      repeat' split at h
      all_goals simp_all
theorem Blank.le {r : List Nat} {k : Nat} {l o : Bool} (h : Blank r k l o) : k ≤ r.length := by
  induction h with
  | stop _ => lia
  | nl h0 _ ih => rw [List.length_drop] at ih; exact a_bl ih (bk_len (r := _) (by rw [h0]; decide))
  | sp h0 _ ih => rw [List.length_drop] at ih; exact a_bl ih (bk_len (r := _) (by rw [h0]; decide))
  | ln h0 _ ih => rename_i r _ _ _ _; rw [List.length_drop] at ih; exact a_bl ih (skipLn_le r)
  | bl h0 h1 _ ih => have := findSS_le _ _ h1; rw [List.length_drop] at this ih; exact a_bl2 ih this (bk_len2 (.inr h0))
  | op _ _ => lia


theorem bk_drop {t : List Nat} {k : Nat} (h : k < t.length) : bk (t.drop k) = if isLE (pk t k) then 1 else if pk t k = 32 ∨ pk t k = 9 then 2 else if pk t k = 47 ∧ pk t (k + 1) = 47 then 3 else if pk t k = 47 ∧ pk t (k + 1) = 42 then 4 else 0 := by
  rw [pk_drop h, bk, pk_hd rfl (k := k + 1)]

theorem bk_cs {t : List Nat} {k : Nat} (h : k < t.length) {P : Nat → Prop} (c1 : isLE (pk t k) = true → P 1) (c2 : isLE (pk t k) = false → (pk t k = 32 ∨ pk t k = 9) → P 2)
    (c3 : isLE (pk t k) = false → ¬ (pk t k = 32 ∨ pk t k = 9) → pk t k = 47 → pk t (k + 1) = 47 → P 3) (c4 : isLE (pk t k) = false → ¬ (pk t k = 32 ∨ pk t k = 9) → pk t k = 47 → pk t (k + 1) = 42 → P 4)
    (c0 : isLE (pk t k) = false → pk t k ≠ 32 → pk t k ≠ 9 → (pk t k = 47 → pk t (k + 1) ≠ 47 ∧ pk t (k + 1) ≠ 42) → P 0) : P (bk (t.drop k)) := by
  rw [bk_drop h]
  cases e : isLE (pk t k) with
  | true => exact c1 e
  | false =>
    rw [if_neg Bool.false_ne_true]
    by_cases a : pk t k = 32 ∨ pk t k = 9
    · rw [if_pos a]; exact c2 e a
    · rw [if_neg a]
      by_cases b : pk t k = 47 ∧ pk t (k + 1) = 47
      · rw [if_pos b]; exact c3 e a b.1 b.2
      · rw [if_neg b]
        by_cases d : pk t k = 47 ∧ pk t (k + 1) = 42
        · rw [if_pos d]; exact c4 e a d.1 d.2
        · rw [if_neg d]; exact c0 e (fun x => a (.inl x)) (fun x => a (.inr x)) fun x => ⟨fun y => b ⟨x, y⟩, fun y => d ⟨x, y⟩⟩
theorem Blank.nilE {m : Nat} {l o : Bool} (hB : Blank [] m l o) {C : Prop} (g : m = 0 → l = false → o = true → C) : C := by
  refine Blank.casesOn (motive := fun r m' l' o' _ => r = [] → m = m' → l = l' → o = o' → C) hB ?_ ?_ ?_ ?_ ?_ ?_ rfl rfl rfl rfl <;> clear hB
  · intro _ _ _; exact g
  · intro r _ _ _ h _ e; rw [e] at h; exact absurd h (by decide)
  · intro r _ _ _ h _ e; rw [e] at h; exact absurd h (by decide)
  · intro r _ _ _ h _ e; rw [e] at h; exact absurd h (by decide)
  · intro r _ _ _ _ h _ _ e; rw [e] at h; exact absurd h (by decide)
  · intro r h _ e; rw [e] at h; exact absurd h (by decide)
theorem Blank.see {t : List Nat} {k m : Nat} {l o : Bool} (h : k < t.length) (hB : Blank (t.drop k) m l o) {C : Prop}
    (g0 : isLE (pk t k) = false → pk t k ≠ 32 → pk t k ≠ 9 → (pk t k = 47 → pk t (k + 1) ≠ 47 ∧ pk t (k + 1) ≠ 42) → m = 0 → l = false → o = true → C)
    (g1 : ∀ m' l', isLE (pk t k) = true → Blank (t.drop (k + 1)) m' l' o → m = 1 + m' → l = true → C)
    (g2 : ∀ m', isLE (pk t k) = false → (pk t k = 32 ∨ pk t k = 9) → Blank (t.drop (k + 1)) m' l o → m = 1 + m' → C)
    (g3 : ∀ s m', isLE (pk t k) = false → ¬ (pk t k = 32 ∨ pk t k = 9) → pk t k = 47 → pk t (k + 1) = 47 → s = skipLn (t.drop k) → 1 ≤ s → k + s ≤ t.length → Blank (t.drop (k + s)) m' l o → m = s + m' → C)
    (g4 : ∀ j m' l', isLE (pk t k) = false → ¬ (pk t k = 32 ∨ pk t k = 9) → pk t k = 47 → pk t (k + 1) = 42 → findSS (t.drop (k + 2)) = some j → k + 2 + (j + 2) ≤ t.length → k + 2 ≤ t.length → Blank (t.drop (k + 2 + (j + 2))) m' l' o → m = j + 4 + m' → l = (((t.drop (k + 2)).take (j + 2)).any isWLE || l') → C)
    (g5 : isLE (pk t k) = false → ¬ (pk t k = 32 ∨ pk t k = 9) → pk t k = 47 → pk t (k + 1) = 42 → findSS (t.drop (k + 2)) = none → k + 2 ≤ t.length → k + m = t.length → l = (t.drop (k + 2)).any isWLE → o = false → C) : C := by
  have b1 := bk_cs h (P := fun n => n = 1 → isLE (pk t k) = true) (fun a _ => a) (fun _ _ e => absurd e (by decide)) (fun _ _ _ _ e => absurd e (by decide)) (fun _ _ _ _ e => absurd e (by decide)) (fun _ _ _ _ e => absurd e (by decide))
  have b2 := bk_cs h (P := fun n => n = 2 → isLE (pk t k) = false ∧ (pk t k = 32 ∨ pk t k = 9)) (fun _ e => absurd e (by decide)) (fun a b _ => ⟨a, b⟩) (fun _ _ _ _ e => absurd e (by decide)) (fun _ _ _ _ e => absurd e (by decide)) (fun _ _ _ _ e => absurd e (by decide))
  have b3 := bk_cs h (P := fun n => n = 3 → isLE (pk t k) = false ∧ ¬ (pk t k = 32 ∨ pk t k = 9) ∧ pk t k = 47 ∧ pk t (k + 1) = 47) (fun _ e => absurd e (by decide)) (fun _ _ e => absurd e (by decide)) (fun a b d e _ => ⟨a, b, d, e⟩) (fun _ _ _ _ e => absurd e (by decide)) (fun _ _ _ _ e => absurd e (by decide))
  have b4 := bk_cs h (P := fun n => n = 4 → isLE (pk t k) = false ∧ ¬ (pk t k = 32 ∨ pk t k = 9) ∧ pk t k = 47 ∧ pk t (k + 1) = 42) (fun _ e => absurd e (by decide)) (fun _ _ e => absurd e (by decide)) (fun _ _ _ _ e => absurd e (by decide)) (fun a b d e _ => ⟨a, b, d, e⟩) (fun _ _ _ _ e => absurd e (by decide))
  have b0 := bk_cs h (P := fun n => n = 0 → isLE (pk t k) = false ∧ pk t k ≠ 32 ∧ pk t k ≠ 9 ∧ (pk t k = 47 → pk t (k + 1) ≠ 47 ∧ pk t (k + 1) ≠ 42)) (fun _ e => absurd e (by decide)) (fun _ _ e => absurd e (by decide)) (fun _ _ _ _ e => absurd e (by decide)) (fun _ _ _ _ e => absurd e (by decide)) (fun a b d e _ => ⟨a, b, d, e⟩)
  refine Blank.casesOn (motive := fun r m' l' o' _ => r = t.drop k → m = m' → l = l' → o = o' → C) hB ?_ ?_ ?_ ?_ ?_ ?_ rfl rfl rfl rfl <;> clear hB
  · intro r h0 er em el eo
    rw [er] at h0
    obtain ⟨a, b, d, e⟩ := b0 h0
    exact g0 a b d e em el eo
  · intro r m' l' o' h0 hB er em el eo
    rw [er] at h0 hB; rw [List.drop_drop, ← eo] at hB
    exact g1 _ _ (b1 h0) hB em el
  · intro r m' l' o' h0 hB er em el eo
    rw [er] at h0 hB; rw [List.drop_drop, ← eo, ← el] at hB
    obtain ⟨a, b⟩ := b2 h0
    exact g2 _ a b hB em
  · intro r m' l' o' h0 hB er em el eo
    rw [er] at h0 hB em; rw [List.drop_drop, ← eo, ← el] at hB
    obtain ⟨a, b, d, e⟩ := b3 h0
    have hs : 1 ≤ skipLn (t.drop k) := by
      rw [pk_drop h, d]; unfold skipLn; rw [if_neg (by decide)]; exact Nat.le_add_left 1 _
    have hle := skipLn_le (t.drop k)
    rw [List.length_drop] at hle
    exact g3 _ _ a b d e rfl hs (a_le_subE rfl (Nat.le_of_lt h) hle) hB em
  · intro r j m' l' o' h0 h1 hB er em el eo
    rw [er] at h0 h1 hB el; rw [List.drop_drop, ← eo] at hB; rw [List.drop_drop] at h1 el
    obtain ⟨a, b, d, e⟩ := b4 h0
    have hl2 := bk_len2 (.inr h0)
    have hf := findSS_le _ _ h1
    rw [List.length_drop] at hf hl2
    have hk2 := a_le_subE rfl (Nat.le_of_lt h) hl2
    have e4 : k + (j + 4) = k + 2 + (j + 2) := by rw [Nat.add_assoc k 2, Nat.add_left_comm 2 j 2]
    rw [e4] at hB
    exact g4 j _ _ a b d e h1 (a_le_subE rfl hk2 hf) hk2 hB em el
  · intro r h0 h1 er em el eo
    rw [er] at h0 h1 em el; rw [List.drop_drop] at h1 el
    obtain ⟨a, b, d, e⟩ := b4 h0
    have hl2 := bk_len2 (.inr h0)
    rw [List.length_drop] at hl2 em
    exact g5 a b d e h1 (a_le_subE rfl (Nat.le_of_lt h) hl2) (by rw [em]; exact Nat.add_sub_of_le (Nat.le_of_lt h)) el eo

section
variable {c : Cx} {GT : List (Str × Value)} (H : Chk c GT) {n : Nat} {σ : Store} {Q : V → Store → Prop} {t : List Nat} (ht : t.length ≤ 1000000)
include H ht

theorem skip_blank_loop {K : Fl → Lo → Store → Prop} {E : Nat} {L o : Bool} (hK1 : o = true → ∀ x3 x4 x5, K .next [some (.str t), some (.int E), some (.bool L), x3, x4, x5] σ) (hK2 : o = false → ∀ env, K (.ret (.tup [.int E, .bool L, .bool false])) env σ)
    {r : List Nat} {m : Nat} {l : Bool} (hB : Blank r m l o) {k : Nat} {l' : Bool} (x3 x4 x5 : Option V) (hr : r = t.drop k) (hk : k ≤ t.length) (hE : k + m = E) (hL : (l' || l) = L) :
      wpS (CallT c (n + 4)) w_skip_blank_1 [some (.str t), some (.int k), some (.bool l'), x3, x4, x5] σ K := by
  unfold w_skip_blank_1
  obtain ⟨I, hI⟩ : ∃ I : Nat → Lo → Store → Prop, ∀ z env σ', I z env σ' ↔ (∀ P : Nat → Lo → Store → Prop, (∀ r m l k l' x3 x4 x5, Blank r m l o → r = t.drop k → k ≤ t.length → k + m = E → (l' || l) = L → P (t.length - k) [some (.str t), some (.int (k : Nat)), some (.bool l'), x3, x4, x5] σ) → P z env σ') := ⟨_, fun _ _ _ => Iff.rfl⟩
  refine whl_I I _ ((hI _ _ _).mpr fun _ g => g r m l k l' x3 x4 x5 hB hr hk hE hL) ?_
  clear hB hr hk hE hL r m l k l' x3 x4 x5
  intro z env σ' hz
  apply (hI _ _ _).mp hz
  intro r m l k l' x3 x4 x5 hB hr hk hE hL
  clear hz
  walk_at "st"
  by_cases h : k < t.length
  · walk_at "st"
    refine le_spec H ?_
    subst hr
    have go : ∀ {k' : Nat} {l'' : Bool} {m' : Nat} {l2 : Bool} (x3 x4 x5 : Option V), Blank (t.drop k') m' l2 o → k < k' → k' ≤ t.length → k' + m' = E → (l'' || l2) = L → ∃ m, m < t.length - k ∧ I m [some (V.str t), some (.int (k' : Nat)), some (V.bool l''), x3, x4, x5] σ :=
      fun x3 x4 x5 a c d e f => ⟨_, a_sl c h, (hI _ _ _).mpr fun _ g => g _ _ _ _ _ _ _ _ a rfl d e f⟩
    refine Blank.see h hB (fun a1 a2 a3 a4 em el eo => ?_) (fun m' l₁ a1 hC em el => ?_) (fun m' a1 a2 hC em => ?_) (fun s m' a1 a2 a3 a4 es hs hle hC em => ?_) (fun j m' l₁ a1 a2 a4 a5 h1 hkj hk2 hC em el => ?_) (fun a1 a2 a4 a5 h1 hk2 em el eo => ?_) <;> clear hB
    · have hK := hK1 eo
      rw [← hE, em, Nat.add_zero, ← hL, el, Bool.or_false] at hK
      clear hK1 hK2 hE hL em el eo
      walk_at "st"
      by_cases q : pk t k = 47
      · obtain ⟨a5, a6⟩ := a4 q
        walk_at "st"
        refine peek_spec H ht ?_
        walk_at "st"
        refine peek_spec H ht ?_
        walk_at "st"
        exact hK _ _ _
      · walk_at "st"
        exact hK _ _ _
    · walk_at "st"
      refine go _ _ _ hC (Nat.lt_succ_self k) h (by rw [← hE, em, Nat.add_assoc]) ?_
      rw [← hL, el]; cases l' <;> rfl
    · have e1 : k + 1 + m' = E := by rw [← hE, em, Nat.add_assoc]
      rcases a2 with q | q <;> walk_at "st" <;> exact go _ _ _ hC (Nat.lt_succ_self k) h e1 hL
    · walk_at "st"
      refine peek_spec H ht ?_
      walk_at "st"
      refine skip_line_spec H ht hk ?_
      walk_at "st"
      rw [← es]
      exact go _ _ _ hC (Nat.lt_add_of_pos_right hs) hle (by rw [← hE, em, Nat.add_assoc]) hL
    · walk_at "st"
      refine peek_spec H ht ?_
      walk_at "st"
      refine peek_spec H ht ?_
      walk_at "st"
      refine skip_block_spec H ht hk2 (e := k + 2 + (j + 2)) (l := ((t.drop (k + 2)).take (j + 2)).any isWLE) (o := true) ?_ ?_
      · rw [h1]
        exact ⟨rfl, rfl, rfl, hkj⟩
      · walk_at "st"
        have e3 : k + 2 + (j + 2) + m' = E := by lia
        have e4 : k < k + 2 + (j + 2) := by lia
        refine if_i (fun q => ?_) (fun q => ?_) <;> walk_at "st"
        · refine go _ _ _ hC e4 hkj e3 ?_
          rw [← hL, el, q, Bool.true_or, Bool.true_or]
        · refine go _ _ _ hC e4 hkj e3 ?_
          rw [← hL, el, q, Bool.false_or]
    · walk_at "st"
      refine peek_spec H ht ?_
      walk_at "st"
      refine peek_spec H ht ?_
      walk_at "st"
      refine skip_block_spec H ht hk2 (e := E) (l := l) (o := false) ?_ ?_
      · rw [h1]
        exact ⟨hE.symm.trans em, el, rfl⟩
      · walk_at "st"
        have hK := hK2 eo
        rw [← hL] at hK
        refine if_i (fun q => ?_) (fun q => ?_) <;> walk_at "st"
        · rw [q, Bool.true_or] at hK
          exact hK _
        · rw [q, Bool.false_or] at hK
          exact hK _
  · rw [List.drop_eq_nil_of_le (Nat.le_of_not_lt h)] at hr
    rw [hr] at hB
    refine Blank.nilE hB fun em el eo => ?_
    have hK := hK1 eo
    rw [← hE, em, Nat.add_zero, ← hL, el, Bool.or_false] at hK
    clear hK1 hK2 hE hL em el eo hB hr
    walk_at "st"
    exact hK _ _ _

theorem skip_blank_spec {k m : Nat} {l o : Bool} (hB : Blank (t.drop k) m l o) (hk : k ≤ t.length) (q : Q (.tup [.int ((k + m : Nat) : Int), .bool l, .bool o]) σ) : CallT c (n + 5) 228 [.str t, .int k] σ Q := by
  refine fn_sound H.k_skip_blank H.gt rfl ?_; unfold b_skip_blank
  refine st_seq ?_
  walk_at "st"
  refine skip_blank_loop H ht (E := k + m) (L := l) (o := o) (fun ho x3 x4 x5 => ?_) (fun ho env => ?_) hB _ _ _ rfl hk rfl (Bool.false_or _)
  · walk_at "st"
    rw [ho] at q
    exact q
  · walk_at "st"
    rw [ho] at q
    exact q
end
end
section
theorem mulOk {a : Int} {b : Nat} (h : b ≤ 100) : IntMulOk a (b : Int) := by
  refine IntMulOk.of_right ?_
  have : ∀ b : Nat, b < 101 → Builtin.Int.intBits ((b : Nat) : Int) ≤ 64 := by decide +kernel
  exact this b (by lia)
theorem q_mulN {σ : Store} {Q : V → Store → Prop} {x y : Nat} (hy : y ≤ 100) (h : Q (.int ((x * y : Nat) : Int)) σ) : binV .Mult (.int (x : Nat)) (.int (y : Nat)) σ Q :=
  q_mul (mulOk hy) h
theorem q_mul16 {σ : Store} {Q : V → Store → Prop} {x : Nat} (h : Q (.int ((x * 16 : Nat) : Int)) σ) : binV .Mult (.int (x : Nat)) (.int 16) σ Q :=
  q_mulN (y := 16) (by decide) h

theorem pr3 {x : Nat × Nat × Bool} {N : Nat} {O : Bool} (e1 : x.1 = N) (e3 : x.2.2 = O) : x = (N, x.2.1, O) := by rw [← e1, ← e3]

noncomputable def baseOf (c d : Nat) : Nat := if c ≠ 48 then 10 else if d = 120 ∨ d = 88 then 16 else if d = 111 ∨ d = 79 then 8 else if d = 98 ∨ d = 66 then 2 else 10
noncomputable def rdg (b : Nat) : List Nat → Nat → Nat → Bool → Bool → Nat × Nat × Bool
  | [], n, cnt, ok, un => (n, 0, ok && (decide (0 < cnt) && !un))
  | c :: r, n, cnt, ok, un =>
    if c = 95 then ((rdg b r n cnt (ok && (decide (0 < cnt) && !un)) true).1, (rdg b r n cnt (ok && (decide (0 < cnt) && !un)) true).2.1 + 1, (rdg b r n cnt (ok && (decide (0 < cnt) && !un)) true).2.2)
    else if b ≤ digV c then (n, 0, ok && (decide (0 < cnt) && !un))
    else ((rdg b r (n * b + digV c) (cnt + 1) ok false).1, (rdg b r (n * b + digV c) (cnt + 1) ok false).2.1 + 1, (rdg b r (n * b + digV c) (cnt + 1) ok false).2.2)
noncomputable def tailL : List Nat → Nat
  | [] => 0
  | c :: r => if isNP c || decide (c = 46) then tailL r + 1 else 0
noncomputable def nameL : List Nat → Nat
  | [] => 0
  | c :: r => if isNP c then nameL r + 1 else 0
theorem rdg_le (b : Nat) : ∀ (r : List Nat) (n cnt : Nat) (ok un : Bool), (rdg b r n cnt ok un).2.1 ≤ r.length
  | [], _, _, _, _ => Nat.le_refl _
  | c :: r, n, cnt, ok, un => by
    unfold rdg
    have h1 := rdg_le b r n cnt (ok && (decide (0 < cnt) && !un)) true
    have h2 := rdg_le b r (n * b + digV c) (cnt + 1) ok false
    split
    · simp only [List.length_cons]; lia
    · split
      · exact Nat.zero_le _
      · simp only [List.length_cons]; lia
section
variable {c : Cx} {GT : List (Str × Value)} (H : Chk c GT) {n : Nat} {σ : Store} {Q : V → Store → Prop} {t : List Nat} {k : Nat} (ht : t.length ≤ 1000000)
include H ht
theorem base_spec (hk : k < t.length) (q : Q (.int (baseOf (pk t k) (pk t (k + 1)) : Nat)) σ) : CallT c (n + 2) 235 [.str t, .int k] σ Q := by
  refine fn_sound H.k_scanner_base_at H.gt rfl ?_; unfold b_scanner_base_at
  walk_at "st"
  by_cases h : pk t k = 48
  · walk_at "st"
    refine peek_spec H ht ?_
    unfold baseOf at q
    rw [if_neg (by simpa using h)] at q
    generalize pk t (k + 1) = m at q ⊢
    walk_at "st"
    by_cases h1 : m = 120
    · rw [if_pos (.inl h1)] at q; walk_at "st"; exact q
    by_cases h2 : m = 88
    · rw [if_pos (.inr h2)] at q; walk_at "st"; exact q
    rw [if_neg (by lia)] at q
    by_cases h1 : m = 111
    · rw [if_pos (.inl h1)] at q; walk_at "st"; exact q
    by_cases h2 : m = 79
    · rw [if_pos (.inr h2)] at q; walk_at "st"; exact q
    rw [if_neg (by lia)] at q
    by_cases h1 : m = 98
    · rw [if_pos (.inl h1)] at q; walk_at "st"; exact q
    by_cases h2 : m = 66
    · rw [if_pos (.inr h2)] at q; walk_at "st"; exact q
    rw [if_neg (by lia)] at q
    walk_at "st"
    exact q
  · unfold baseOf at q
    rw [if_pos h] at q
    walk_at "st"
    exact q

theorem read_digits_spec {b : Nat} (hb : b ≤ 100) (hk : k ≤ t.length) {N L : Nat} {O : Bool} (hd : rdg b (t.drop k) 0 0 true false = (N, L, O)) (q : Q (.tup [.int (N : Nat), .int ((k + L : Nat) : Int), .bool O]) σ) : CallT c (n + 2) 242 [.str t, .int k, .int b] σ Q := by
  have loop : ∀ K : Fl → Lo → Store → Prop, (∀ cnt ok un x7 x8, (ok && (decide (0 < cnt) && !un)) = O → K .next [some (.str t), some (.int ((k + L : Nat) : Int)), some (.int (b : Nat)), some (.int (N : Nat)), some (.int (cnt : Nat)), some (.bool ok), some (.bool un), x7, x8] σ) →
      wpS (CallT c (n + 1)) w_read_digits_1 [some (.str t), some (.int (k : Nat)), some (.int (b : Nat)), some (.int 0), some (.int 0), some (.bool true), some (.bool false), none, none] σ K := by
    intro K hK
    unfold w_read_digits_1
    obtain ⟨I, hI⟩ : ∃ I : Nat → Lo → Store → Prop, ∀ z env σ', I z env σ' ↔ (∀ P : Nat → Lo → Store → Prop, (∀ k' m cnt ok un x7 x8 L', k' ≤ t.length → rdg b (t.drop k') m cnt ok un = (N, L', O) → k' + L' = k + L → P (t.length - k') [some (.str t), some (.int (k' : Nat)), some (.int (b : Nat)), some (.int (m : Nat)), some (.int (cnt : Nat)), some (.bool ok), some (.bool un), x7, x8] σ) → P z env σ') := ⟨_, fun _ _ _ => Iff.rfl⟩
    refine whl_I I (t.length - k) ((hI _ _ _).mpr fun _ g => g k 0 0 true false none none L hk hd rfl) ?_
    intro z env σ' hz
    apply (hI _ _ _).mp hz
    intro k' m cnt ok un x7 x8 L' hk' e eL
    clear hz
    have out : ∀ x7 x8, (m, 0, ok && (decide (0 < cnt) && !un)) = (N, L', O) → K .next
        [some (.str t), some (.int (k' : Nat)), some (.int (b : Nat)), some (.int (m : Nat)), some (.int (cnt : Nat)), some (.bool ok), some (.bool un), x7, x8] σ := by
      intro x7 x8 e
      simp only [Prod.mk.injEq] at e
      obtain ⟨rfl, rfl, e3⟩ := e
      rw [Nat.add_zero] at eL
      rw [eL]
      exact hK _ _ _ _ _ e3
    walk_at "st"
    by_cases h : k' < t.length
    · walk_at "st"
      have ed : t.drop k' = pk t k' :: t.drop (k' + 1) := by
        rw [List.drop_eq_getElem_cons h]
        congr 1
        have := pk_lt h
        rw [List.getElem?_eq_getElem h] at this
        exact Option.some.inj this
      rw [ed] at e
      unfold rdg at e
      by_cases h1 : pk t k' = 95
      · rw [if_pos h1] at e
        simp only [Prod.mk.injEq] at e
        obtain ⟨e1, e2, e3⟩ := e
        have go : ∀ ok' x8, ok' = (ok && (decide (0 < cnt) && !un)) → ∃ m_1, m_1 < t.length - k' ∧ I m_1 [some (V.str t), some (V.int ((k' + 1 : Nat) : Int)), some (V.int (b : Nat)), some (V.int (m : Nat)), some (V.int (cnt : Nat)), some (V.bool ok'), some (V.bool true), some (V.str [pk t k']), x8] σ := by
          rintro ok' x8 rfl
          exact ⟨_, by first | exact a_sl (Nat.lt_succ_self _) (by assumption) | lia, (hI _ _ _).mpr fun _ g => g _ _ _ _ _ _ _ _ (by lia) (pr3 e1 e3) (by lia)⟩
        walk_at "st"
        cases ok <;> walk_at "st"
        · exact go _ _ rfl
        by_cases hc : 0 < cnt
        · walk_at "st"
          exact go _ _ (by rw [decide_eq_true hc]; rfl)
        · walk_at "st"
          exact go _ _ (by rw [decide_eq_false hc]; rfl)
      · rw [if_neg h1] at e
        walk_at "st"
        refine digv_spec H ?_
        walk_at "st"
        by_cases h2 : b ≤ digV (pk t k')
        · walk_at "st"
          exact out _ _ (by rw [if_pos h2] at e; exact e)
        · rw [if_neg h2] at e
          simp only [Prod.mk.injEq] at e
          obtain ⟨e1, e2, e3⟩ := e
          walk_at "st"
          refine q_mulN hb ?_
          walk_at "st"
          exact ⟨_, by first | exact a_sl (Nat.lt_succ_self _) (by assumption) | lia, (hI _ _ _).mpr fun _ g => g _ _ _ _ _ _ _ _ (by lia) (pr3 e1 e3) (by lia)⟩
    · walk_at "st"
      have : t.drop k' = [] := List.drop_of_length_le (by lia)
      rw [this] at e
      exact out _ _ e
  refine fn_sound H.k_read_digits H.gt rfl ?_; unfold b_read_digits
  refine st_seq ?_; refine st_asg (e_int ?_)
  refine st_seq ?_; refine st_asg (e_int ?_)
  refine st_seq ?_; refine st_asg (e_bool ?_)
  refine st_seq ?_; refine st_asg (e_bool ?_)
  refine st_seq (loop _ fun cnt ok un x7 x8 e => ?_)
  walk_at "st"
  cases ok <;> walk_at "st"
  · rw [← e] at q; exact q
  by_cases hc : 0 < cnt
  · walk_at "st"
    rw [← e, decide_eq_true hc] at q
    exact q
  · walk_at "st"
    rw [← e, decide_eq_false hc] at q
    exact q

theorem num_tail_spec (hk : k ≤ t.length) (q : Q (.int ((k + tailL (t.drop k) : Nat) : Int)) σ) : CallT c (n + 3) 249 [.str t, .int k] σ Q := by
  obtain ⟨E, eE⟩ : ∃ E, k + tailL (t.drop k) = E := ⟨_, rfl⟩
  rw [eE] at q
  refine fn_sound H.k_skip_number_tail H.gt rfl ?_; unfold b_skip_number_tail
  refine st_seq ?_
  unfold w_skip_number_tail_1
  obtain ⟨I, hI⟩ : ∃ I : Nat → Lo → Store → Prop, ∀ m env σ', I m env σ' ↔ (∀ P : Nat → Lo → Store → Prop, (∀ k', k' ≤ t.length → k' + tailL (t.drop k') = E → P (t.length - k') [some (.str t), some (.int (k' : Nat))] σ) → P m env σ') := ⟨_, fun _ _ _ => Iff.rfl⟩
  refine whl_I I (t.length - k) ((hI _ _ _).mpr fun _ g => g k hk eE) ?_
  intro m env σ' hz
  apply (hI _ _ _).mp hz
  intro k' hk' e
  clear hz
  walk_at "st"
  refine peek_spec H ht ?_
  walk_at "st"
  refine np_spec H ?_
  cases hr : t.drop k' with
  | nil =>
    rw [hr] at e
    have := pk_hd hr
    have e0 : pk t k' = 0 := by rw [this]; rfl
    rw [e0]
    walk_at "st"
    refine if_f (by decide) ?_
    walk_at "st"
    refine peek_spec H ht ?_
    rw [e0]
    walk_at "st"
    rw [← e] at q
    exact q
  | cons x r =>
    rw [hr] at e
    obtain ⟨g1, g2, g3, g4⟩ := pk_at hr
    rw [g2]
    unfold tailL at e
    have go : (isNP x || decide (x = 46)) = true → ∃ m, m < t.length - k' ∧ I m [some (V.str t), some (.int ((k' + 1 : Nat) : Int))] σ := by
      intro h
      rw [if_pos h] at e
      exact ⟨_, by first | exact a_sl (Nat.lt_succ_self _) (by assumption) | lia, (hI _ _ _).mpr fun _ g => g _ (by lia) (by rw [g3]; lia)⟩
    cases h1 : isNP x <;> walk_at "st"
    · refine peek_spec H ht ?_
      rw [g2]
      walk_at "st"
      by_cases h2 : x = 46
      · walk_at "st"
        exact go (by simp [h2])
      · walk_at "st"
        rw [if_neg (by simp [h1, h2]), Nat.add_zero] at e
        rw [← e] at q
        exact q
    · exact go (by simp [h1])

theorem read_name_spec (hk : k ≤ t.length) (q : Q (.int ((k + nameL (t.drop k) : Nat) : Int)) σ) : CallT c (n + 3) 312 [.str t, .int k] σ Q := by
  obtain ⟨E, eE⟩ : ∃ E, k + nameL (t.drop k) = E := ⟨_, rfl⟩
  rw [eE] at q
  refine fn_sound H.k_scanner_read_name H.gt rfl ?_; unfold b_scanner_read_name
  refine st_seq ?_
  unfold w_scanner_read_name_1
  obtain ⟨I, hI⟩ : ∃ I : Nat → Lo → Store → Prop, ∀ m env σ', I m env σ' ↔ (∀ P : Nat → Lo → Store → Prop, (∀ k', k' ≤ t.length → k' + nameL (t.drop k') = E → P (t.length - k') [some (.str t), some (.int (k' : Nat))] σ) → P m env σ') := ⟨_, fun _ _ _ => Iff.rfl⟩
  refine whl_I I (t.length - k) ((hI _ _ _).mpr fun _ g => g k hk eE) ?_
  intro m env σ' hz
  apply (hI _ _ _).mp hz
  intro k' hk' e
  clear hz
  walk_at "st"
  refine peek_spec H ht ?_
  walk_at "st"
  refine np_spec H ?_
  cases hr : t.drop k' with
  | nil =>
    rw [hr] at e
    have := pk_hd hr
    have e0 : pk t k' = 0 := by rw [this]; rfl
    rw [e0]
    walk_at "st"
    refine if_f (by decide) ?_
    rw [← e] at q
    walk_at "st"
    exact q
  | cons x r =>
    rw [hr] at e
    obtain ⟨g1, g2, g3, g4⟩ := pk_at hr
    rw [g2]
    unfold nameL at e
    cases h1 : isNP x <;> walk_at "st"
    · rw [if_neg (by simp [h1]), Nat.add_zero] at e
      rw [← e] at q
      exact q
    · rw [if_pos h1] at e
      exact ⟨_, by first | exact a_sl (Nat.lt_succ_self _) (by assumption) | lia, (hI _ _ _).mpr fun _ g => g _ (by lia) (by rw [g3]; lia)⟩
end

/-- a number: value, length, well formed -/
noncomputable def numF (r : List Nat) : Nat × Nat × Bool :=
  let b := baseOf (r.headD 0) ((r.drop 1).headD 0)
  let s := if b = 10 then 0 else 2
  let d := rdg b (r.drop s) 0 0 true false
  let e := s + d.2.1
  let tl := tailL (r.drop e)
  (if 9007199254740991 < d.1 then 0 else d.1, e + tl, d.2.2 && !(decide (b = 10) && (decide (r.headD 0 = 48) && decide (1 < e))) && !decide (9007199254740991 < d.1) && !decide (0 < tl))

section
variable {c : Cx} {GT : List (Str × Value)} (H : Chk c GT) {n : Nat} {σ : Store} {Q : V → Store → Prop} {t : List Nat} {k : Nat} (ht : t.length ≤ 1000000)
include H ht
theorem read_number_spec {r : List Nat} (hr : t.drop k = r) (hk : k < t.length) (q : Q (.tup [.int ((numF r).1 : Nat), .int ((k + (numF r).2.1 : Nat) : Int), .bool (numF r).2.2]) σ) : CallT c (n + 4) 256 [.str t, .int k] σ Q := by
  have hp := pk_hd hr
  have hp1 := pk_hd (t := t) (k := k + 1) (r := r.drop 1) (by rw [← hr, List.drop_drop])
  have hlen : r.length = t.length - k := by rw [← hr, List.length_drop]
  refine fn_sound H.k_read_number H.gt rfl ?_; unfold b_read_number
  refine st_seq (st_asg ?_)
  walk_at "se"
  refine base_spec H ht hk ?_
  rw [hp1]
  obtain ⟨b, eb⟩ : ∃ b, baseOf (pk t k) ((r.drop 1).headD 0) = b := ⟨_, rfl⟩
  have hb : b = 10 ∨ b = 2 ∨ b = 8 ∨ b = 16 := by
    rw [← eb]; unfold baseOf; split
    · exact .inl rfl
    split
    · exact .inr (.inr (.inr rfl))
    split
    · exact .inr (.inr (.inl rfl))
    split
    · exact .inr (.inl rfl)
    · exact .inl rfl
  have hl2 : b ≠ 10 → k + 2 ≤ t.length := by
    intro hb'
    by_cases h : k + 2 ≤ t.length
    · exact h
    · exfalso
      have : r.drop 1 = [] := List.drop_of_length_le (by lia)
      rw [this] at eb
      apply hb'
      rw [← eb]
      unfold baseOf
      split <;> simp
  unfold numF at q
  rw [← hp, eb] at q
  rw [eb]
  obtain ⟨s, es⟩ : ∃ s, (if b = 10 then 0 else 2) = s := ⟨_, rfl⟩
  dsimp only at q
  rw [es] at q
  have hks : k + s ≤ t.length := by
    rw [← es]; split
    · lia
    · exact hl2 ‹_›
  walk_at "se"
  refine st_seq (st_asg ?_)
  walk_at "se"
  refine seq_ifN (!decide ((b : Int) = 10)) [some (.str t), some (.int (k : Nat)), some (.int (b : Nat)), some (.int ((k + s : Nat) : Int)), none, none, none, none] (fun P hP => ?_) (fun h1 K hK => ?_) (fun h1 => ?_) ?_
  · walk_at "st"
    exact hP
  · simp only [Bool.not_eq_true', decide_eq_false_iff_not] at h1
    rw [if_neg (by lia)] at es
    subst es
    walk_at "st"
    exact hK
  · simp only [Bool.not_eq_false', decide_eq_true_eq] at h1
    rw [if_pos (by lia)] at es
    subst es
    rfl
  generalize hd : rdg b (r.drop s) 0 0 true false = d at q
  obtain ⟨m, l, o⟩ := d
  have hle := rdg_le b (r.drop s) 0 0 true false
  rw [hd] at hle
  dsimp only at hle q
  rw [List.length_drop] at hle
  refine st_seq (st_asgT ?_)
  walk_at "se"
  refine read_digits_spec (N := m) (L := l) (O := o) H ht (by lia) hks (by rw [← List.drop_drop, hr]; exact hd) ?_
  walk_at "se"
  obtain ⟨o1, eo1⟩ : ∃ o1, (o && !(decide (b = 10) && (decide (pk t k = 48) && decide (1 < s + l)))) = o1 := ⟨_, rfl⟩
  obtain ⟨o2, eo2⟩ : ∃ o2, (o1 && !decide (9007199254740991 < m)) = o2 := ⟨_, rfl⟩
  obtain ⟨m2, em2⟩ : ∃ m2, (if 9007199254740991 < m then 0 else m) = m2 := ⟨_, rfl⟩
  rw [eo1, eo2, em2] at q
  refine seq_ifN (decide (b = 10) && (decide (pk t k = 48) && decide (1 < s + l))) [some (.str t), some (.int (k : Nat)), some (.int (b : Nat)), some (.int ((k + s : Nat) : Int)), some (.int (m : Nat)), some (.int ((k + s + l : Nat) : Int)), some (.bool o1), none] (fun P hP => ?_) (fun h1 K hK => ?_) (fun h1 => ?_) ?_
  · walk_at "st"
    by_cases h1 : b = 10
    · rw [decide_eq_true h1] at hP
      walk_at "st"
      by_cases h2 : pk t k = 48
      · rw [decide_eq_true h2] at hP
        walk_at "st"
        rw [show decide ((1 : Int) < ((k + s + l : Nat) : Int) - (k : Nat)) = decide (1 < s + l) by (rw [Bool.eq_iff_iff]; simp only [decide_eq_true_eq]; lia)]
        exact hP
      · rw [decide_eq_false h2] at hP
        walk_at "st"
        exact hP
    · rw [decide_eq_false h1] at hP
      walk_at "st"
      exact hP
  · rw [h1] at eo1
    rw [Bool.not_true, Bool.and_false] at eo1
    subst eo1
    walk_at "st"
    exact hK
  · rw [h1] at eo1
    rw [Bool.not_false, Bool.and_true] at eo1
    subst eo1
    rfl
  refine seq_ifN (decide (9007199254740991 < m)) [some (.str t), some (.int (k : Nat)), some (.int (b : Nat)), some (.int ((k + s : Nat) : Int)), some (.int (m2 : Nat)), some (.int ((k + s + l : Nat) : Int)), some (.bool o2), none] (fun P hP => ?_) (fun h1 K hK => ?_) (fun h1 => ?_) ?_
  · walk_at "st"
    rw [d_gt]
    exact hP
  · rw [h1] at eo2
    rw [Bool.not_true, Bool.and_false] at eo2
    rw [if_pos (by simpa using h1)] at em2
    subst eo2; subst em2
    walk_at "st"
    exact hK
  · rw [h1] at eo2
    rw [Bool.not_false, Bool.and_true] at eo2
    rw [if_neg (by simpa using h1)] at em2
    subst eo2; subst em2
    rfl
  walk_at "st"
  refine num_tail_spec H ht (by lia) ?_
  rw [show t.drop (k + s + l) = r.drop (s + l) by rw [← hr, List.drop_drop, Nat.add_assoc]]
  rw [show k + (s + l + tailL (r.drop (s + l))) = k + s + l + tailL (r.drop (s + l)) by lia] at q
  walk_at "st"
  by_cases h : 0 < tailL (r.drop (s + l))
  · rw [decide_eq_true h, Bool.not_true, Bool.and_false] at q
    walk_at "st"
    exact q
  · rw [decide_eq_false h, Bool.not_false, Bool.and_true] at q
    walk_at "st"
    exact q
end
end
section
noncomputable def hexN : List Nat → Nat → Nat → Option Nat
  | _, 0, n => some n
  | r, m + 1, n => if 15 < digV (r.headD 0) then none else hexN (r.drop 1) m (n * 16 + digV (r.headD 0))
noncomputable def hexE (r : List Nat) (m : Nat) : Option (List Nat × Nat) := match hexN r m 0 with
  | some n => if isFar n then none else some ([n], m)
  | none => none
noncomputable def cpF : List Nat → Nat → Nat → Option (List Nat × Nat)
  | [], _, _ => none
  | c :: r, n, cnt => if digV c ≤ 15 then (if isFar (n * 16 + digV c) then none else (cpF r (n * 16 + digV c) (cnt + 1)).map fun p => (p.1, p.2 + 1)) else if cnt = 0 ∨ c ≠ 125 then none else some ([n], 1)
noncomputable def esc1 (c : Nat) : Option Nat := if 110 = c then some 10 else if 116 = c then some 9 else if 114 = c then some 13 else if 98 = c then some 8 else if 118 = c then some 11 else if 102 = c then some 12 else none
/-- what stands behind a backslash -/
noncomputable def escF : List Nat → Option (List Nat × Nat)
  | [] => none
  | c :: r =>
    if c = 120 then (hexE r 2).map fun p => (p.1, p.2 + 2)
    else if c = 117 then if r.headD 0 = 123 then (cpF (r.drop 1) 0 0).map fun p => (p.1, p.2 + 3) else (hexE r 4).map fun p => (p.1, p.2 + 2)
    else if c = 13 ∧ r.headD 0 = 10 then some ([], 3)
    else if isWLE c then some ([], 2)
    else if isDig c then if c = 48 ∧ isDig (r.headD 0) = false then some ([0], 2) else none
    else match esc1 c with
      | some x => some ([x], 2)
      | none => if isFar c then none else some ([c], 2)
noncomputable def EscV (o : Option (List Nat × Nat)) (k : Nat) : V := match o with
  | none => .tup [.str [], .int (-1)]
  | some p => .tup [.str p.1, .int ((k + p.2 : Nat) : Int)]
theorem EscV_map {o : Option (List Nat × Nat)} {k j : Nat} : EscV (o.map fun p => (p.1, p.2 + j)) k = EscV o (k + j) := by
  cases o with
  | none => rfl
  | some p => unfold EscV; simp only [Option.map_some]; rw [show k + (p.2 + j) = k + j + p.2 by lia]
theorem far_le {n : Nat} (h : isFar n = false) : n ≤ 65535 := by
  unfold isFar at h
  simp only [Bool.or_eq_false_iff, decide_eq_false_iff_not] at h
  lia
theorem seqK_n {N : Lo → Store → Prop} {Q : Fl → Lo → Store → Prop} {env : Lo} {σ : Store} (h : N env σ) : seqK N Q .next env σ := h
theorem esc_assoc (c : Nat) : assocV [c] [([110], .str [10]), ([116], .str [9]), ([114], .str [13]), ([98], .str [8]), ([118], .str [11]), ([102], .str [12])] = (esc1 c).map fun x => .str [x] := by
  unfold esc1
  simp only [assocV, List.cons.injEq, and_true]
  repeat' split
  all_goals rfl

section
variable {c : Cx} {GT : List (Str × Value)} (H : Chk c GT) {n : Nat} {σ : Store} {Q : V → Store → Prop} {t : List Nat} {k : Nat} (ht : t.length ≤ 1000000)
include H ht
theorem hex_spec {m : Nat} (hm : m ≤ 10) (hk : k ≤ 1000010) (q : Q (EscV (hexE (t.drop k) m) k) σ) : CallT c (n + 2) 263 [.str t, .int k, .int m] σ Q := by
  unfold hexE at q
  obtain ⟨R, eR⟩ : ∃ R, hexN (t.drop k) m 0 = R := ⟨_, rfl⟩
  rw [eR] at q
  have loop : ∀ K : Fl → Lo → Store → Prop, (R = none → ∀ env, K (.ret (.tup [.str [], .int (-1)])) env σ) → (∀ N, R = some N → ∀ x4 x5, K .next [some (.str t), some (.int (k : Nat)), some (.int (m : Nat)), some (.int (N : Nat)), x4, x5] σ) →
      wpS (CallT c (n + 1)) w_read_hex_escape_1 [some (.str t), some (.int (k : Nat)), some (.int (m : Nat)), some (.int 0), none, none] σ K := by
    intro K k1 k2
    unfold w_read_hex_escape_1
    refine st_forR ?_
    walk_at "se"
    obtain ⟨I, hI⟩ : ∃ I : List Int → Lo → Store → Prop, ∀ l env σ', I l env σ' ↔ (∀ P : List Int → Lo → Store → Prop, (∀ i N x4 x5, i ≤ m → l = (List.range (m - i)).map (fun j : Nat => ((k + i + j : Nat) : Int)) → hexN (t.drop (k + i)) (m - i) N = R → P l [some (.str t), some (.int (k : Nat)), some (.int (m : Nat)), some (.int (N : Nat)), x4, x5] σ) → P l env σ') := ⟨_, fun _ _ _ => Iff.rfl⟩
    refine ⟨r60 (Nat.le_trans hk (by decide)) (Nat.le_trans (Nat.add_le_add hk hm) (by decide)), I, (hI _ _ _).mpr fun _ g => g 0 0 none none (Nat.zero_le _) ?_ eR, ?_, ?_⟩
    · unfold rangeV
      rw [show (((k + m : Nat) : Int) - (k : Nat)).toNat = m - 0 by lia]
      refine List.map_congr_left fun j _ => ?_
      lia
    · intro x r env σ' hz
      generalize hlx : x :: r = lx at hz
      apply (hI _ _ _).mp hz
      intro i N x4 x5 hi hl e
      rw [← hlx] at hl
      clear hlx
      have hlt : i < m := by
        by_cases h : i < m
        · exact h
        · rw [a_s0 h] at hl; cases hl
      rw [a_s1 hlt] at hl e
      rw [List.range_succ_eq_map, List.map_cons, List.map_map] at hl
      injection hl with h1 h2
      rw [Nat.add_zero] at h1
      subst h1
      unfold hexN at e
      rw [← pk_hd rfl] at e
      walk_at "st"
      refine peek_spec H ht ?_
      walk_at "st"
      refine digv_spec H ?_
      walk_at "st"
      by_cases h : 15 < digV (pk t (k + i))
      · walk_at "st"
        rw [if_pos h] at e
        exact k1 e.symm _
      · walk_at "st"
        rw [if_neg h] at e
        refine q_mul16 ?_
        walk_at "st"
        refine (hI _ _ _).mpr fun _ g => g (i + 1) _ _ _ hlt ?_ ?_
        · rw [h2]
          refine List.map_congr_left fun j _ => ?_
          show ((k + i + (j + 1) : Nat) : Int) = _
          lia
        · rw [← e, List.drop_drop, Nat.add_assoc]
    · intro env σ hz
      generalize hlx : ([] : List _) = lx at hz
      apply (hI _ _ _).mp hz
      intro i N x4 x5 hi hl e
      rw [← hlx] at hl
      clear hlx
      have : m - i = 0 := by
        cases h : m - i with
        | zero => rfl
        | succ j => rw [h, List.range_succ_eq_map] at hl; cases hl
      rw [this] at e
      exact k2 _ e.symm _ _
  refine fn_sound H.k_read_hex_escape H.gt rfl ?_; unfold b_read_hex_escape
  refine st_seq (st_asg (e_int (seqK_n ?_)))
  refine st_seq (loop _ (fun e env => ?_) (fun N e x4 x5 => ?_))
  · rw [e] at q
    exact q
  · rw [e] at q
    dsimp only at q
    walk_at "st"
    refine far_spec H ?_
    cases hf : isFar N <;> rw [hf] at q
    · rw [if_neg (by decide)] at q
      walk_at "st"
      refine p_chr (by have := far_le hf; lia) ?_
      walk_at "st"
      exact q
    · rw [if_pos rfl] at q
      walk_at "st"
      exact q

theorem cp_spec (hk : k ≤ t.length) (q : Q (EscV (cpF (t.drop k) 0 0) k) σ) : CallT c (n + 2) 270 [.str t, .int k] σ Q := by
  obtain ⟨R, eR⟩ : ∃ R, EscV (cpF (t.drop k) 0 0) k = R := ⟨_, rfl⟩
  rw [eR] at q
  have loop : ∀ K : Fl → Lo → Store → Prop, (∀ k' N cnt, N ≤ 65535 → R = (if cnt = 0 ∨ pk t k' ≠ 125 then .tup [.str [], .int (-1)] else .tup [.str [N], .int ((k' + 1 : Nat) : Int)]) → K .next [some (.str t), some (.int (k' : Nat)), some (.int (N : Nat)), some (.int (cnt : Nat))] σ) →
      (R = .tup [.str [], .int (-1)] → ∀ env, K (.ret (.tup [.str [], .int (-1)])) env σ) →
      wpS (CallT c (n + 1)) w_read_code_point_1 [some (.str t), some (.int (k : Nat)), some (.int 0), some (.int 0)] σ K := by
    intro K k1 k2
    unfold w_read_code_point_1
    obtain ⟨I, hI⟩ : ∃ I : Nat → Lo → Store → Prop, ∀ z env σ', I z env σ' ↔ (∀ P : Nat → Lo → Store → Prop, (∀ k' N cnt, k' ≤ t.length → N ≤ 65535 → EscV (cpF (t.drop k') N cnt) k' = R → P (t.length - k') [some (.str t), some (.int (k' : Nat)), some (.int (N : Nat)), some (.int (cnt : Nat))] σ) → P z env σ') := ⟨_, fun _ _ _ => Iff.rfl⟩
    refine whl_I I (t.length - k) ((hI _ _ _).mpr fun _ g => g k 0 0 hk (by decide) eR) ?_
    intro z env σ' hz
    apply (hI _ _ _).mp hz
    intro k' N cnt hk' hN e
    clear hz
    walk_at "st"
    refine peek_spec H ht ?_
    walk_at "st"
    refine digv_spec H ?_
    cases hr : t.drop k' with
    | nil =>
      have e0 : pk t k' = 0 := by rw [pk_hd hr]; rfl
      rw [hr] at e
      have : digV 0 = 99 := by decide
      rw [e0, this]
      walk_at "st"
      exact k1 _ _ _ hN (by rw [← e, if_pos (.inr (by rw [e0]; decide))]; rfl)
    | cons x r =>
      obtain ⟨g1, g2, g3, g4⟩ := pk_at hr
      rw [hr] at e
      rw [g2]
      unfold cpF at e
      walk_at "st"
      by_cases h : digV x ≤ 15
      · rw [if_pos h] at e
        walk_at "st"
        refine q_mul16 ?_
        walk_at "st"
        rw [g2]
        refine digv_spec H ?_
        walk_at "st"
        refine far_spec H ?_
        cases hf : isFar (N * 16 + digV x) <;> rw [hf] at e
        · rw [if_neg (by decide), EscV_map] at e
          walk_at "st"
          exact ⟨_, by first | exact a_sl (Nat.lt_succ_self _) (by assumption) | lia, (hI _ _ _).mpr fun _ g => g _ _ _ (by lia) (far_le hf) (by rw [g3]; exact e)⟩
        · rw [if_pos rfl] at e
          walk_at "st"
          exact k2 e.symm _
      · rw [if_neg h] at e
        walk_at "st"
        refine k1 _ _ _ hN ?_
        rw [← e, g2]
        split <;> rfl
  refine fn_sound H.k_read_code_point H.gt rfl ?_; unfold b_read_code_point
  refine st_seq (st_asg (e_int ?_))
  refine st_seq (st_asg (e_int ?_))
  refine st_seq (loop _ (fun k' N cnt hN e => ?_) (fun e env => ?_))
  · rw [e] at q
    walk_at "st"
    by_cases h : cnt = 0
    · rw [if_pos (.inl h)] at q
      walk_at "st"
      exact q
    · walk_at "st"
      refine peek_spec H ht ?_
      walk_at "st"
      by_cases h' : pk t k' = 125
      · rw [if_neg (by lia)] at q
        walk_at "st"
        refine p_chr (by lia) ?_
        walk_at "st"
        exact q
      · rw [if_pos (.inr h')] at q
        walk_at "st"
        exact q
  · rw [e] at q
    exact q

theorem escape_spec {r : List Nat} (hr : t.drop (k + 1) = r) (hk : k < t.length) (q : Q (EscV (escF r) k) σ) : CallT c (n + 3) 277 [.str t, .int k] σ Q := by
  refine fn_sound H.k_read_escape H.gt rfl ?_; unfold b_read_escape
  refine st_seq (st_asg ?_)
  walk_at "se"
  refine peek_spec H ht ?_
  walk_at "se"
  cases r with
  | nil =>
    have := pk_end hr
    walk_at "st"
    exact q
  | cons x r =>
    obtain ⟨g1, g2, g3, g4⟩ := pk_at hr
    rw [g2]
    have g5 := pk_hd g3
    unfold escF at q
    dsimp only at q
    walk_at "st"
    by_cases h1 : x = 120
    · rw [if_pos h1, EscV_map, ← g3] at q
      walk_at "st"
      exact hex_spec (m := 2) H ht (by decide) (by lia) q
    rw [if_neg h1] at q
    walk_at "st"
    by_cases h2 : x = 117
    · rw [if_pos h2] at q
      walk_at "st"
      refine peek_spec H ht ?_
      rw [g5]
      walk_at "st"
      by_cases h3 : r.headD 0 = 123
      · rw [if_pos h3, EscV_map] at q
        walk_at "st"
        have : r ≠ [] := by rintro rfl; cases h3
        have hl : 0 < r.length := List.length_pos_iff.mpr this
        refine cp_spec H ht (by lia) ?_
        rw [show t.drop (k + 3) = r.drop 1 by rw [← g3, List.drop_drop]]
        exact q
      · rw [if_neg h3, EscV_map, ← g3] at q
        walk_at "st"
        exact hex_spec (m := 4) H ht (by decide) (by lia) q
    rw [if_neg h2] at q
    walk_at "st"
    by_cases h3 : x = 13 ∧ r.headD 0 = 10
    · rw [if_pos h3] at q
      obtain ⟨h3, h4⟩ := h3
      walk_at "st"
      refine peek_spec H ht ?_
      rw [g5]
      walk_at "st"
      exact q
    rw [if_neg h3] at q
    have fin : wpS (CallT c (n + 2)) (.seq (.ifs (.call 5 165 (.cons (.loc 2) .nil)) 
    (.seq (.ret (.tup (.cons (.str []) (.cons (.bin .Add (.loc 1) (.int 2)) .nil)))) .skip) .skip)
  (.seq (.ifs (.call 2 179 (.cons (.loc 2) .nil)) 
    (.seq (.ifs (.and (.cmp .Eq (.loc 2) (.str [48])) (.not (.call 2 179 (.cons (.call 6 151 (.cons (.loc 0) (.cons (.bin .Add (.loc 1) (.int 2)) .nil))) .nil)))) 
      (.seq (.ret (.tup (.cons (.str [0]) (.cons (.bin .Add (.loc 1) (.int 2)) .nil)))) .skip) .skip)
    (.seq (.ret (.tup (.cons (.str []) (.cons (.int (-1)) .nil)))) .skip)) .skip)
  (.seq (.ifs (.cmp .In (.loc 2) (.glb 18 gESCAPES)) 
    (.seq (.ret (.tup (.cons (.idx (.glb 18 gESCAPES) (.loc 2)) (.cons (.bin .Add (.loc 1) (.int 2)) .nil)))) .skip) .skip)
  (.seq (.ifs (.call 15 172 (.cons (.bi .ord (.cons (.loc 2) .nil)) .nil)) 
    (.seq (.ret (.tup (.cons (.str []) (.cons (.int (-1)) .nil)))) .skip) .skip)
  (.seq (.ret (.tup (.cons (.loc 2) (.cons (.bin .Add (.loc 1) (.int 2)) .nil)))) .skip))))) [some (.str t), some (.int (k : Nat)), some (.str [x])] σ (retQ Q) := by
      walk_at "st"
      refine wle_spec H ?_
      cases h4 : isWLE x <;> rw [h4] at q
      · rw [if_neg (by decide)] at q
        walk_at "st"
        refine dig_spec H ?_
        cases h5 : isDig x <;> rw [h5] at q
        · rw [if_neg (by decide)] at q
          walk_at "st"
          refine pInD ?_
          rw [show (gESCAPES : V) = .dct [([110], .str [10]), ([116], .str [9]), ([114], .str [13]), ([98], .str [8]), ([118], .str [11]), ([102], .str [12])] from rfl] at *
          rw [esc_assoc]
          cases h6 : esc1 x with
          | some y =>
            rw [h6] at q
            dsimp only [Option.map_some, Option.isSome_some]
            walk_at "st"
            refine p_idxD (by rw [esc_assoc, h6]; rfl) ?_
            walk_at "st"
            exact q
          | none =>
            rw [h6] at q
            dsimp only [Option.map_none, Option.isSome_none] at q ⊢
            walk_at "st"
            refine far_spec H ?_
            cases h7 : isFar x <;> rw [h7] at q
            · rw [if_neg (by decide)] at q
              walk_at "st"
              exact q
            · rw [if_pos rfl] at q
              walk_at "st"
              exact q
        · rw [if_pos rfl] at q
          walk_at "st"
          by_cases h6 : x = 48
          · walk_at "st"
            refine peek_spec H ht ?_
            rw [g5]
            walk_at "st"
            refine dig_spec H ?_
            cases h7 : isDig (r.headD 0)
            · rw [if_pos ⟨h6, h7⟩] at q
              walk_at "st"
              exact q
            · rw [if_neg (by rw [h7]; simp)] at q
              walk_at "st"
              exact q
          · rw [if_neg (fun h => h6 h.1)] at q
            walk_at "st"
            exact q
      · rw [if_pos rfl] at q
        walk_at "st"
        exact q
    by_cases h4 : x = 13
    · walk_at "st"
      refine peek_spec H ht ?_
      rw [g5]
      have h5 : ¬ r.headD 0 = 10 := fun h => h3 ⟨h4, h⟩
      walk_at "se"
      exact st_skip fin
    · walk_at "se"
      exact st_skip fin
end
end
section
inductive StrR (q : Nat) : List Nat → List Nat → Nat → Bool → Bool → Prop
  | close {r : List Nat} : StrR q (q :: r) [] 1 false false
  | eof : StrR q [] [] 0 false true
  | le {c : Nat} {r : List Nat} : isLE c = true → StrR q (c :: r) [] 0 false true
  | esc {r x ck : List Nat} {m len : Nat} {b o : Bool} : escF r = some (x, m + 1) → StrR q (r.drop m) ck len b o → StrR q (92 :: r) (x ++ ck) (m + 1 + len) b o
  | bad {r ck : List Nat} {len : Nat} {b o : Bool} : escF r = none → StrR q r ck len b o → StrR q (92 :: r) ck (1 + len) true o
  | pl {c : Nat} {r ck : List Nat} {len : Nat} {b o : Bool} : c ≠ q → c ≠ 92 → isLE c = false → StrR q r ck len b o → StrR q (c :: r) (c :: ck) (1 + len) (isFar c || b) o
inductive TplR : List Nat → List Nat → Nat → Nat → Bool → Prop
  | close {r : List Nat} : TplR (96 :: r) [] 1 1 false
  | hole {r : List Nat} : TplR (36 :: 123 :: r) [] 2 0 false
  | eof : TplR [] [] 0 2 false
  | esc {r x ck : List Nat} {m len cl : Nat} {b : Bool} : escF r = some (x, m + 1) → TplR (r.drop m) ck len cl b → TplR (92 :: r) (x ++ ck) (m + 1 + len) cl b
  | bad {r ck : List Nat} {len cl : Nat} {b : Bool} : escF r = none → TplR r ck len cl b → TplR (92 :: r) ck (1 + len) cl true
  | crlf {r ck : List Nat} {len cl : Nat} {b : Bool} : TplR r ck len cl b → TplR (13 :: 10 :: r) (10 :: ck) (2 + len) cl b
  | cr {r ck : List Nat} {len cl : Nat} {b : Bool} : r.headD 0 ≠ 10 → TplR r ck len cl b → TplR (13 :: r) (10 :: ck) (1 + len) cl b
  | pl {c : Nat} {r ck : List Nat} {len cl : Nat} {b : Bool} : c ≠ 96 → c ≠ 92 → c ≠ 13 → ¬ (c = 36 ∧ r.headD 0 = 123) → TplR r ck len cl b → TplR (c :: r) (c :: ck) (1 + len) cl (isFar c || b)

theorem hexN_len : ∀ (m : Nat) (r : List Nat) (n N : Nat), hexN r m n = some N → m ≤ r.length
  | 0, _, _, _, _ => Nat.zero_le _
  | m + 1, r, n, N, h => by
    unfold hexN at h
    split at h
    · cases h
    · rename_i hd
      have ih := hexN_len m _ _ _ h
      cases r with
      | nil => exact absurd (show 15 < digV 0 by decide) hd
      | cons x r => simp only [List.drop_succ_cons, List.drop_zero, List.length_cons] at ih ⊢; lia
theorem cpF_len : ∀ (r : List Nat) (n cnt : Nat) (p : List Nat × Nat), cpF r n cnt = some p → p.1.length = 1 ∧ p.2 ≤ r.length
  | [], _, _, _, h => by cases h
  | c :: r, n, cnt, p, h => by
    unfold cpF at h
    split at h
    · split at h
      · cases h
      · obtain ⟨p', hp, rfl⟩ := Option.map_eq_some_iff.mp h
        obtain ⟨h1, h2⟩ := cpF_len r _ _ p' hp
        exact ⟨h1, by simp only [List.length_cons]; lia⟩
    · split at h
      · cases h
      · cases h
        exact ⟨rfl, by simp⟩
theorem hexE_len {m : Nat} {r : List Nat} {p : List Nat × Nat} (h : hexE r m = some p) : p.1.length = 1 ∧ p.2 ≤ r.length := by
  unfold hexE at h
  split at h
  · rename_i e
    have := hexN_len _ _ _ _ e
    split at h
    · cases h
    · cases h; exact ⟨rfl, this⟩
  · cases h
noncomputable def EL (b : Nat) (o : Option (List Nat × Nat)) : Prop := ∀ (x : List Nat) (m : Nat), o = some (x, m) → x.length ≤ 1 ∧ m ≤ b
theorem EL_n {b : Nat} : EL b none := nofun
theorem EL_s {b m : Nat} {x : List Nat} (h : x.length ≤ 1) (h2 : m ≤ b) : EL b (some (x, m)) := fun y n e => by
  injection e with e; injection e with e1 e2
  rw [← e1, ← e2]; exact ⟨h, h2⟩
theorem EL_i {b : Nat} {p : Prop} [Decidable p] {o o' : Option (List Nat × Nat)} (h1 : p → EL b o) (h2 : ¬ p → EL b o') : EL b (if p then o else o') := by
  by_cases h : p
  · rw [if_pos h]; exact h1 h
  · rw [if_neg h]; exact h2 h
theorem EL_m {b b' j : Nat} {o : Option (List Nat × Nat)} (h : ∀ p, o = some p → p.1.length = 1 ∧ p.2 ≤ b') (hb : b' + j ≤ b) : EL b (o.map fun p => (p.1, p.2 + j)) := by
  cases o with
  | none => exact EL_n
  | some p => exact EL_s (Nat.le_of_eq (h p rfl).1) (Nat.le_trans (Nat.add_le_add_right (h p rfl).2 j) hb)
theorem escF_EL (c : Nat) (r : List Nat) : EL (r.length + 2) (escF (c :: r)) := by
  have l2 : 2 ≤ r.length + 2 := Nat.le_add_left _ _
  unfold escF
  refine EL_i (fun _ => EL_m (fun _ e => hexE_len e) (Nat.le_refl _)) fun _ => EL_i (fun _ => EL_i (fun q => ?_) (fun _ => EL_m (fun _ e => hexE_len e) (Nat.le_refl _))) fun _ => EL_i (fun q => ?_) fun _ => EL_i (fun _ => EL_s (Nat.zero_le _) l2) fun _ => EL_i (fun _ => EL_i (fun _ => EL_s (Nat.le_refl _) l2) fun _ => EL_n) fun _ => ?_
  · cases r with
    | nil => exact absurd q (by decide)
    | cons y r => exact EL_m (b' := r.length) (fun _ e => cpF_len _ _ _ _ e) (Nat.le_refl _)
  · cases r with
    | nil => exact absurd q.2 (by decide)
    | cons y r => exact EL_s (Nat.zero_le _) (Nat.le_add_left _ _)
  · cases esc1 c with
    | some x => exact EL_s (Nat.le_refl _) l2
    | none => exact EL_i (fun _ => EL_n) fun _ => EL_s (Nat.le_refl _) l2
theorem escF_len {r : List Nat} {x : List Nat} {m : Nat} (h : escF r = some (x, m)) : x.length ≤ 1 ∧ m ≤ r.length + 1 := by
  cases r with
  | nil => cases h
  | cons c r => exact escF_EL c r _ _ h

theorem strsOf_map : ∀ l : List (List Nat), strsOf (l.map V.str) = some l
  | [] => rfl
  | x :: l => by rw [List.map_cons, strsOf, strsOf_map l]; rfl
theorem flat_len : ∀ {l : List (List Nat)}, (∀ x ∈ l, x.length ≤ 1) → l.flatten.length ≤ l.length
  | [], _ => Nat.le_refl _
  | x :: l, h => by
    rw [List.flatten_cons, List.length_append, List.length_cons]
    have := flat_len (l := l) fun y hy => h y (by simp [hy])
    have := h x (by simp)
    lia
theorem at_new {σ : Store} {cl : Cell} : (σ ++ [cl])[σ.length]? = some cl := by rw [List.getElem?_append_right (Nat.le_refl _), Nat.sub_self]; rfl
theorem set_new {σ : Store} {cl cl' : Cell} : (σ ++ [cl]).set σ.length cl' = σ ++ [cl'] := by rw [List.set_append_right _ _ (Nat.le_refl _), Nat.sub_self]; rfl

section
variable {c : Cx} {GT : List (Str × Value)} (H : Chk c GT) {n : Nat} {σ : Store} {Q : V → Store → Prop} {t : List Nat} {k : Nat} (ht : t.length ≤ 1000000)
include H ht
theorem scan_string_loop {q0 : Nat} (hq : q0 = 39 ∨ q0 = 34) {K : Fl → Lo → Store → Prop} {r ck : List Nat} {len : Nat} {b o : Bool} (hR : StrR q0 r ck len b o) {k : Nat} (hk : 0 < k) (hr : t.drop k = r) (hkt : k ≤ t.length)
    (k1 : o = false → ∀ L env, K (.ret (.tup [.str ck, .int ((k + len : Nat) : Int), .int (if b then 2 else 0)])) env (σ ++ [.list L]))
    (k2 : o = true → ∀ (p : List (List Nat)) (x4 x5 x6 x7 : Option V), p.flatten = ck → (∀ x ∈ p, x.length ≤ 1) → p.length ≤ 1000000 → K .next [some (.str t), some (.int ((k + len : Nat) : Int)), some (.str [q0]), some (.obj σ.length), x4, x5, x6, x7] (σ ++ [.list (p.map V.str)])) :
    wpS (CallT c (n + 4)) w_scan_string_1 [some (.str t), some (.int (k : Nat)), some (.str [q0]), some (.obj σ.length), some (.int 0), none, none, none] (σ ++ [.list []]) K := by
  unfold w_scan_string_1
  obtain ⟨I, hI⟩ : ∃ I : Nat → Lo → Store → Prop, ∀ z env σ', I z env σ' ↔ (∀ P : Nat → Lo → Store → Prop, (∀ (k' : Nat) (r' ck' : List Nat) (len' : Nat) (b0 b' : Bool) (p : List (List Nat)) (x5 x6 x7 : Option V), StrR q0 r' ck' len' b' o → t.drop k' = r' → k' ≤ t.length → p.length < k' → (∀ x ∈ p, x.length ≤ 1) → p.flatten ++ ck' = ck → k' + len' = k + len → (b0 || b') = b → P (t.length - k') [some (.str t), some (.int (k' : Nat)), some (.str [q0]), some (.obj σ.length), some (.int (if b0 then 2 else 0)), x5, x6, x7] (σ ++ [.list (p.map V.str)])) → P z env σ') := ⟨_, fun _ _ _ => Iff.rfl⟩
  refine whl_I I (t.length - k) ((hI _ _ _).mpr fun _ g => g k r ck len false b [] none none none hR hr hkt hk (by simp) rfl rfl rfl) ?_
  clear hR hr hkt hk
  intro z env σ' hz
  apply (hI _ _ _).mp hz
  intro k' r' ck' len' b0 b' p x5 x6 x7 hR hr hkt hp hpl ep eE eb
  clear hz
  rw [← eE] at k1 k2
  have out : ck' = [] → len' = 0 → b' = false → o = true → ∀ x4 x5 x6 x7 : Option V, K .next [some (.str t), some (.int (k' : Nat)), some (.str [q0]), some (.obj σ.length), x4, x5, x6, x7] (σ ++ [.list (p.map V.str)]) := by
    rintro rfl rfl rfl rfl x4 x5 x6 x7
    rw [List.append_nil] at ep
    exact k2 rfl p _ _ _ _ ep hpl (by lia)
  have hj : (σ ++ [Cell.list (p.map V.str)])[σ.length]? = some (.list (p.map V.str)) := at_new
  have app : ∀ (x : List Nat) (Q' : V → Store → Prop), k' < t.length → Q' .none (σ ++ [.list ((p ++ [x]).map V.str)]) → mthV .append (.obj σ.length) [.str x] (σ ++ [Cell.list (p.map V.str)]) Q' := by
    intro x Q' hk z
    refine p_append hj (by rw [List.length_map]; lia) ?_
    rw [set_new]
    simpa using z
  have go : ∀ {r' ck₂ : List Nat} {m len₂ : Nat} {b₂ : Bool} (b1 : Bool) (x : List Nat) (x5 x6 x7 : Option V), StrR q0 r' ck₂ len₂ b₂ o → t.drop (k' + m) = r' → 0 < m → k' + m ≤ t.length → k' < t.length → x.length ≤ 1 → x ++ ck₂ = ck' → m + len₂ = len' → (b1 || b₂) = (b0 || b') →
      ∃ m', m' < t.length - k' ∧ I m' [some (.str t), some (.int ((k' + m : Nat) : Int)), some (.str [q0]), some (.obj σ.length), some (.int (if b1 then 2 else 0)), x5, x6, x7] (σ ++ [.list ((p ++ [x]).map V.str)]) := by
    intro r' ck₂ m len₂ b₂ b1 x x5 x6 x7 a1 a2 a3 a4 a5 a6 a7 a8 a9
    refine ⟨_, ?_, (hI _ _ _).mpr fun _ g => g (k' + m) _ _ _ b1 _ (p ++ [x]) x5 x6 x7 a1 a2 a4 (by rw [List.length_append]; simp only [List.length_cons, List.length_nil]; lia) ?_ ?_ (by lia) (a9.trans eb)⟩
    · first | exact a_sl (Nat.lt_add_of_pos_right (by assumption)) (by assumption) | lia
    · intro y hy
      rcases List.mem_append.mp hy with h | h
      · exact hpl y h
      · rw [List.mem_singleton.mp h]; exact a6
    · rw [← ep, ← a7]; simp
  walk_at "st"
  induction hR using StrR.casesOn with
  | eof =>
    have hl := pk_end hr
    walk_at "st"
    exact out rfl rfl rfl rfl _ _ _ _
  | le hc =>
    obtain ⟨g1, g2, g3, g4⟩ := pk_at hr
    walk_at "st"
    rw [g2]
    refine le_spec H ?_
    walk_at "st"
    exact out rfl rfl rfl rfl _ _ _ _
  | close =>
    obtain ⟨g1, g2, g3, g4⟩ := pk_at hr
    walk_at "st"
    rw [g2]
    refine le_spec H ?_
    have hc : isLE q0 = false := by rcases hq with rfl | rfl <;> rfl
    walk_at "st"
    refine ⟨trivial, ?_⟩
    walk_at "st"
    refine p_join (l := p) hj (strsOf_map p) (by have := flat_len hpl; lia) ?_
    walk_at "st"
    rw [List.append_nil] at ep
    rw [ep]
    rw [Bool.or_false] at eb
    rw [eb]
    exact k1 rfl _ _
  | @esc r x ck₂ m len₂ b₂ o₂ h1 h2 =>
    obtain ⟨g1, g2, g3, g4⟩ := pk_at hr
    have hm := escF_len h1
    walk_at "st"
    rw [g2]
    refine le_spec H ?_
    have hc : isLE 92 = false := rfl
    have hq' : ¬ 92 = q0 := by lia
    walk_at "st"
    refine escape_spec H ht g3 g1 ?_
    rw [h1]
    unfold EscV
    dsimp only
    walk_at "st"
    refine ⟨mo_list (.inl rfl) hj, ?_⟩
    walk_at "st"
    refine app x _ g1 ?_
    walk_at "st"
    exact go b0 x _ _ _ h2 (by rw [← g3, List.drop_drop]; congr 1; lia) (by lia) (by lia) g1 hm.1 rfl (by lia) rfl
  | bad h1 h2 =>
    obtain ⟨g1, g2, g3, g4⟩ := pk_at hr
    walk_at "st"
    rw [g2]
    refine le_spec H ?_
    have hc : isLE 92 = false := rfl
    have hq' : ¬ 92 = q0 := by lia
    walk_at "st"
    refine escape_spec H ht g3 g1 ?_
    rw [h1]
    unfold EscV
    dsimp only
    walk_at "st"
    refine ⟨mo_list (.inl rfl) hj, ?_⟩
    walk_at "st"
    refine app [] _ g1 ?_
    walk_at "st"
    exact go true [] _ _ _ h2 g3 (by decide) (by lia) g1 (Nat.zero_le _) rfl (by lia) (by simp)
  | @pl x r ck₂ len₂ b₂ o₂ h1 h2 h3 h4 =>
    obtain ⟨g1, g2, g3, g4⟩ := pk_at hr
    walk_at "st"
    rw [g2]
    refine le_spec H ?_
    walk_at "st"
    rw [g2]
    refine far_spec H ?_
    cases hf : isFar x
    · walk_at "st"
      refine ⟨mo_list (.inl rfl) hj, ?_⟩
      walk_at "st"
      refine app [x] _ g1 ?_
      walk_at "st"
      exact go b0 [x] _ _ _ h4 g3 (by decide) (by lia) g1 (Nat.le_refl _) rfl (by lia) (by rw [hf, Bool.false_or])
    · walk_at "st"
      refine ⟨mo_list (.inl rfl) hj, ?_⟩
      walk_at "st"
      refine app [x] _ g1 ?_
      walk_at "st"
      exact go true [x] _ _ _ h4 g3 (by decide) (by lia) g1 (Nat.le_refl _) rfl (by lia) (by rw [hf]; simp)

theorem scan_string_spec {q0 : Nat} (hq : q0 = 39 ∨ q0 = 34) {r ck : List Nat} {len : Nat} {b o : Bool} (hR : StrR q0 r ck len b o) (hr : t.drop k = q0 :: r)
    (q : ∀ L, Q (.tup [.str ck, .int ((k + (1 + len) : Nat) : Int), .int (if o then 1 else if b then 2 else 0)]) (σ ++ [.list L])) : CallT c (n + 5) 284 [.str t, .int k] σ Q := by
  obtain ⟨g1, g2, g3, g4⟩ := pk_at hr
  refine fn_sound H.k_scan_string H.gt rfl ?_; unfold b_scan_string
  refine st_seq (st_asg ?_)
  walk_at "se"
  rw [g2]
  refine st_seq (st_asg ?_)
  walk_at "se"
  refine st_seq (st_asg ?_)
  walk_at "se"
  refine st_seq (st_aug ?_)
  walk_at "se"
  rw [show k + (1 + len) = k + 1 + len by lia] at q
  refine st_seq (scan_string_loop H ht hq hR (Nat.succ_pos _) g3 g1 (fun ho L env => ?_) (fun ho p x4 x5 x6 x7 e1 e2 e3 => ?_))
  · rw [ho] at q
    exact q L
  · rw [ho] at q
    walk_at "st"
    refine ⟨trivial, ?_⟩
    walk_at "st"
    refine p_join (l := p) at_new (strsOf_map p) (by have := flat_len e2; lia) ?_
    rw [e1]
    walk_at "st"
    exact q _

theorem is_hole_spec (q : Q (.bool (decide (pk t k = 36) && decide (pk t (k + 1) = 123))) σ) : CallT c (n + 2) 291 [.str t, .int k] σ Q := by
  refine fn_sound H.k_is_hole H.gt rfl ?_; unfold b_is_hole
  walk_at "st"
  refine peek_spec H ht ?_
  walk_at "st"
  by_cases h : pk t k = 36
  · rw [decide_eq_true h] at q
    walk_at "st"
    refine peek_spec H ht ?_
    walk_at "st"
    exact q
  · rw [decide_eq_false h] at q
    walk_at "st"
    exact q
end
end
section
section
variable {c : Cx} {GT : List (Str × Value)} (H : Chk c GT) {n : Nat} {σ : Store} {Q : V → Store → Prop} {t : List Nat} {k : Nat} (ht : t.length ≤ 1000000)
include H ht
theorem scan_tpl_loop {K : Fl → Lo → Store → Prop} {r ck : List Nat} {len cl : Nat} {b : Bool} (hR : TplR r ck len cl b) {k : Nat} (hk : 0 < k) (hr : t.drop k = r) (hkt : k ≤ t.length)
    (k1 : cl ≠ 2 → ∀ L env, K (.ret (.tup [.str ck, .int ((k + len : Nat) : Int), .int (cl : Nat), .bool b])) env (σ ++ [.list L]))
    (k2 : cl = 2 → ∀ (p : List (List Nat)) (x4 x5 x6 : Option V), p.flatten = ck → (∀ x ∈ p, x.length ≤ 1) → p.length ≤ 1000000 → K .next [some (.str t), some (.int ((k + len : Nat) : Int)), some (.obj σ.length), some (.bool b), x4, x5, x6] (σ ++ [.list (p.map V.str)])) :
    wpS (CallT c (n + 4)) w_scan_template_1 [some (.str t), some (.int (k : Nat)), some (.obj σ.length), some (.bool false), none, none, none] (σ ++ [.list []]) K := by
  unfold w_scan_template_1
  obtain ⟨I, hI⟩ : ∃ I : Nat → Lo → Store → Prop, ∀ z env σ', I z env σ' ↔ (∀ P : Nat → Lo → Store → Prop, (∀ (k' : Nat) (r' ck' : List Nat) (len' : Nat) (b0 b' : Bool) (p : List (List Nat)) (x4 x5 x6 : Option V), TplR r' ck' len' cl b' → t.drop k' = r' → k' ≤ t.length → p.length < k' → (∀ x ∈ p, x.length ≤ 1) → p.flatten ++ ck' = ck → k' + len' = k + len → (b0 || b') = b → P (t.length - k') [some (.str t), some (.int (k' : Nat)), some (.obj σ.length), some (.bool b0), x4, x5, x6] (σ ++ [.list (p.map V.str)])) → P z env σ') := ⟨_, fun _ _ _ => Iff.rfl⟩
  refine whl_I I (t.length - k) ((hI _ _ _).mpr fun _ g => g k r ck len false b [] none none none hR hr hkt hk (by simp) rfl rfl rfl) ?_
  clear hR hr hkt hk
  intro z env σ' hz
  apply (hI _ _ _).mp hz
  intro k' r' ck' len' b0 b' p x4 x5 x6 hR hr hkt hp hpl ep eE eb
  clear hz
  rw [← eE] at k1 k2
  have hj : (σ ++ [Cell.list (p.map V.str)])[σ.length]? = some (.list (p.map V.str)) := at_new
  have app : ∀ (x : List Nat) (Q' : V → Store → Prop), k' < t.length → Q' .none (σ ++ [.list ((p ++ [x]).map V.str)]) → mthV .append (.obj σ.length) [.str x] (σ ++ [Cell.list (p.map V.str)]) Q' := by
    intro x Q' hk z
    refine p_append hj (by rw [List.length_map]; lia) ?_
    rw [set_new]
    simpa using z
  have nxt : ∀ {k₂ : Nat} {r₂ ck₂ : List Nat} {len₂ : Nat} {b1 b₂ : Bool} {x : List Nat} (x4 x5 x6 : Option V), TplR r₂ ck₂ len₂ cl b₂ → t.drop k₂ = r₂ → k' < k₂ → k₂ ≤ t.length → x.length ≤ 1 → x ++ ck₂ = ck' → k₂ + len₂ = k' + len' → (b1 || b₂) = b →
      ∃ m, m < t.length - k' ∧ I m [some (.str t), some (.int (k₂ : Nat)), some (.obj σ.length), some (.bool b1), x4, x5, x6] (σ ++ [.list ((p ++ [x]).map V.str)]) := by
    intro k₂ r₂ ck₂ len₂ b1 b₂ x x4 x5 x6 h1 h2 h3 h4 h5 h6 h7 h8
    refine ⟨t.length - k₂, a_sl h3 (Nat.lt_of_lt_of_le h3 h4), (hI _ _ _).mpr fun _ g => g k₂ r₂ ck₂ len₂ b1 b₂ (p ++ [x]) _ _ _ h1 h2 h4 (by rw [List.length_append]; simp only [List.length_cons, List.length_nil]; lia) ?_ ?_ (by lia) h8⟩
    · intro y hy
      rcases List.mem_append.mp hy with h | h
      · exact hpl y h
      · rw [List.mem_singleton.mp h]; exact h5
    · rw [← ep, ← h6]; simp
  walk_at "st"
  induction hR using TplR.casesOn with
  | eof =>
    have hl := pk_end hr
    walk_at "st"
    rw [Bool.or_false] at eb
    rw [List.append_nil] at ep
    rw [eb]
    exact k2 rfl p _ _ _ ep hpl (by lia)
  | close =>
    obtain ⟨g1, g2, g3, g4⟩ := pk_at hr
    walk_at "st"
    refine ⟨trivial, ?_⟩
    walk_at "st"
    refine p_join (l := p) hj (strsOf_map p) (by have := flat_len hpl; lia) ?_
    walk_at "st"
    rw [List.append_nil] at ep
    rw [Bool.or_false] at eb
    rw [ep, eb]
    exact k1 (by decide) _ _
  | hole =>
    obtain ⟨g1, g2, g3, g4⟩ := pk_at hr
    obtain ⟨g5, g6, g7, g8⟩ := pk_at g3
    walk_at "st"
    refine is_hole_spec H ht ?_
    rw [g2, g6]
    walk_at "st"
    refine ⟨trivial, ?_⟩
    walk_at "st"
    refine p_join (l := p) hj (strsOf_map p) (by have := flat_len hpl; lia) ?_
    walk_at "st"
    rw [List.append_nil] at ep
    rw [Bool.or_false] at eb
    rw [ep, eb]
    exact k1 (by decide) _ _
  | @esc r x ck₂ m len₂ cl₂ b₂ h1 h2 =>
    obtain ⟨g1, g2, g3, g4⟩ := pk_at hr
    have hm := escF_len h1
    walk_at "st"
    refine is_hole_spec H ht ?_
    rw [g2]
    walk_at "st"
    refine escape_spec H ht g3 g1 ?_
    rw [h1]
    unfold EscV
    dsimp only
    walk_at "st"
    refine ⟨mo_list (.inl rfl) hj, ?_⟩
    walk_at "st"
    refine app x _ g1 ?_
    walk_at "st"
    exact nxt _ _ _ h2 (by rw [← g3, List.drop_drop]; congr 1; lia) (by lia) (show k' + (m + 1) ≤ t.length by lia) hm.1 rfl (by lia) eb
  | bad h1 h2 =>
    obtain ⟨g1, g2, g3, g4⟩ := pk_at hr
    walk_at "st"
    refine is_hole_spec H ht ?_
    rw [g2]
    walk_at "st"
    refine escape_spec H ht g3 g1 ?_
    rw [h1]
    unfold EscV
    dsimp only
    walk_at "st"
    refine ⟨mo_list (.inl rfl) hj, ?_⟩
    walk_at "st"
    refine app [] _ g1 ?_
    walk_at "st"
    exact nxt _ _ _ h2 g3 (by lia) g1 (by simp) rfl (by lia) (by rw [← eb]; simp)
  | crlf h2 =>
    obtain ⟨g1, g2, g3, g4⟩ := pk_at hr
    obtain ⟨g5, g6, g7, g8⟩ := pk_at g3
    walk_at "st"
    refine is_hole_spec H ht ?_
    rw [g2]
    walk_at "st"
    refine ⟨mo_list (.inl rfl) hj, ?_⟩
    walk_at "st"
    refine app [10] _ g1 ?_
    walk_at "st"
    refine peek_spec H ht ?_
    rw [g6]
    walk_at "st"
    exact nxt _ _ _ h2 g7 (by lia) g5 (by simp) rfl (by lia) eb
  | cr h1 h2 =>
    obtain ⟨g1, g2, g3, g4⟩ := pk_at hr
    have g5 := pk_hd g3
    rw [← g5] at h1
    walk_at "st"
    refine is_hole_spec H ht ?_
    rw [g2]
    walk_at "st"
    refine ⟨mo_list (.inl rfl) hj, ?_⟩
    walk_at "st"
    refine app [10] _ g1 ?_
    walk_at "st"
    refine peek_spec H ht ?_
    walk_at "st"
    exact nxt _ _ _ h2 g3 (by lia) g1 (by simp) rfl (by lia) eb
  | @pl x r ck₂ len₂ cl₂ b₂ h1 h2 h3 h4 h5 =>
    obtain ⟨g1, g2, g3, g4⟩ := pk_at hr
    have g5 := pk_hd g3
    rw [← g5] at h4
    walk_at "st"
    refine is_hole_spec H ht ?_
    have h6 : (decide (pk t k' = 36) && decide (pk t (k' + 1) = 123)) = false := by
      rw [g2]
      by_cases h : x = 36
      · rw [decide_eq_false (fun h' => h4 ⟨h, h'⟩), Bool.and_false]
      · rw [decide_eq_false h, Bool.false_and]
    rw [h6]
    walk_at "st"
    have fin : ∀ (b1 : Bool), b1 = (b0 || isFar x) → wpS (CallT c (n + 4)) (.seq (.expr (.mth .append (.loc 2) (.cons (.loc 4) .nil))) (.seq (.aug 1 .Add (.int 1)) .skip)) [some (.str t), some (.int (k' : Nat)), some (.obj σ.length), some (.bool b1), some (.str [pk t k']), x5, x6] (σ ++ [.list (p.map V.str)]) (whlK (fun env' σ₂ => ∃ m, m < t.length - k' ∧ I m env' σ₂) K) := by
      rintro b1 rfl
      walk_at "st"
      refine ⟨mo_list (.inl rfl) hj, ?_⟩
      walk_at "st"
      refine app [pk t k'] _ g1 ?_
      walk_at "st"
      exact nxt _ _ _ h5 g3 (by lia) g1 (by simp) (by rw [g2]; rfl) (by lia) (by rw [← eb]; cases b0 <;> rfl)
    cases b0 with
    | true =>
      walk_at "se"
      exact fin true rfl
    | false =>
      walk_at "se"
      refine far_spec H ?_
      exact fin _ (by rw [g2, Bool.false_or])

theorem scan_tpl_spec {r ck : List Nat} {len cl : Nat} {b : Bool} {x : Nat} (hR : TplR r ck len cl b) (hr : t.drop k = x :: r)
    (q : ∀ L, Q (.tup [.str ck, .int ((k + (1 + len) : Nat) : Int), .int (cl : Nat), .bool b]) (σ ++ [.list L])) : CallT c (n + 5) 298 [.str t, .int k] σ Q := by
  obtain ⟨g1, g2, g3, g4⟩ := pk_at hr
  refine fn_sound H.k_scan_template H.gt rfl ?_; unfold b_scan_template
  refine st_seq (st_asg ?_)
  walk_at "se"
  refine st_seq (st_asg ?_)
  walk_at "se"
  refine st_seq (st_aug ?_)
  walk_at "se"
  rw [show k + (1 + len) = k + 1 + len by lia] at q
  refine st_seq (scan_tpl_loop H ht hR (Nat.succ_pos _) g3 g1 (fun ho L env => ?_) (fun ho p x4 x5 x6 e1 e2 e3 => ?_))
  · exact q L
  · rw [ho] at q
    walk_at "st"
    refine ⟨trivial, ?_⟩
    walk_at "st"
    refine p_join (l := p) at_new (strsOf_map p) (by have := flat_len e2; lia) ?_
    rw [e1]
    walk_at "st"
    exact q _
end
end
section
/-! signs -/
theorem sl_take {t : List Nat} {k m : Nat} (hk : k ≤ t.length) : slL t (some (k : Nat)) (some ((k + m : Nat) : Int)) = (t.drop k).take m := by
  rw [slL_eq]
  have e1 : clp (some ((k : Nat) : Int)) 0 t.length = k := by unfold clp; exact (clamp_pos _ _).trans (Nat.min_eq_left hk)
  have e2 : clp (some ((k + m : Nat) : Int)) t.length t.length = min (k + m) t.length := by unfold clp; exact clamp_pos _ _
  rw [e1, e2]
  by_cases h : k + m ≤ t.length
  · rw [Nat.min_eq_left h, a_add_sub]
  · rw [Nat.min_eq_right (Nat.le_of_lt (Nat.lt_of_not_le h)), List.take_of_length_le (Nat.le_of_eq List.length_drop), List.take_of_length_le (by rw [List.length_drop]; exact Nat.sub_le_of_le_add (Nat.add_comm k m ▸ Nat.le_of_lt (Nat.lt_of_not_le h)))]

theorem occ_any (s sub : List Nat) : ∀ (m lo free : Nat), free ≤ lo →
    (forIn (m := Id) (List.range' lo m) ((#[] : Array Nat), free) (StrLaws.occBody ⟨s.toArray⟩ ⟨sub.toArray⟩ s.length 1)).run.fst.isEmpty = !((List.range' lo m).any fun i => decide (i + sub.length ≤ s.length) && ((s.drop i).take sub.length == sub))
  | 0, lo, free, _ => rfl
  | m + 1, lo, free, hf => by
    rw [List.range'_succ, List.forIn_cons, List.any_cons]
    have hb : StrLaws.occBody ⟨s.toArray⟩ ⟨sub.toArray⟩ s.length 1 lo ((#[] : Array Nat), free) = if ((((#[] : Array Nat), free).fst.size < 1 ∧ ((#[] : Array Nat), free).snd ≤ lo) ∧ lo + (⟨sub.toArray⟩ : Str).length ≤ s.length) ∧ Builtin.Str.subAt ⟨s.toArray⟩ ⟨sub.toArray⟩ lo = true
      then pure (ForInStep.yield (((#[] : Array Nat), free).fst.push lo, lo + (⟨sub.toArray⟩ : Str).length)) else pure (ForInStep.yield (((#[] : Array Nat), free).fst, ((#[] : Array Nat), free).snd)) := rfl
    rw [hb]
    clear hb
    have e1 : Builtin.Str.subAt ⟨s.toArray⟩ ⟨sub.toArray⟩ lo = ((s.drop lo).take sub.length == sub) := by
      rw [StrLaws.subAt_eq]
      show ((s.drop lo).take sub.toArray.size == sub) = _
      rw [List.size_toArray]
    have e2 : (⟨sub.toArray⟩ : Str).length = sub.length := by simp [Str.length]
    rw [e1, e2]
    cases hc : (decide (lo + sub.length ≤ s.length) && ((s.drop lo).take sub.length == sub)) with
    | true =>
      rw [Bool.and_eq_true, decide_eq_true_eq] at hc
      rw [if_pos ⟨⟨⟨by simp, hf⟩, hc.1⟩, hc.2⟩]
      show (forIn (m := Id) (List.range' (lo + 1) m) (#[lo], lo + sub.length) _).run.fst.isEmpty = _
      rw [occ_stay]
      rfl
    | false =>
      rw [if_neg (by
        rintro ⟨⟨_, h1⟩, h2⟩
        rw [h2, decide_eq_true h1] at hc
        cases hc)]
      exact occ_any s sub m (lo + 1) free (by lia)
theorem subIn_any (x y : List Nat) : subIn x y = (List.range' 0 (y.length + 1)).any fun i => decide (i + x.length ≤ y.length) && ((y.drop i).take x.length == x) := by
  unfold subIn
  rw [StrLaws.occ_eq]
  have := occ_any y x (y.length + 1 - 0) 0 0 (Nat.le_refl _)
  rw [Nat.sub_zero] at this
  rw [← Array.isEmpty_toList] at this
  rw [show y.length + 1 - 0 = y.length + 1 from rfl]
  rw [this, Bool.not_not]
theorem subIn_one (c : Nat) (y : List Nat) : subIn [c] y = y.contains c := by
  rw [subIn_any, Bool.eq_iff_iff, List.any_eq_true, List.contains_iff_mem]
  constructor
  · rintro ⟨i, hi, h⟩
    simp only [Bool.and_eq_true, decide_eq_true_eq, List.length_cons, List.length_nil, beq_iff_eq] at h
    obtain ⟨h1, h2⟩ := h
    rw [List.drop_eq_getElem_cons (by lia)] at h2
    simp only [Nat.zero_add, List.take_succ_cons, List.take_zero, List.cons.injEq, and_true] at h2
    rw [← h2]
    exact List.getElem_mem _
  · intro h
    obtain ⟨i, hi, e⟩ := List.mem_iff_getElem.mp h
    refine ⟨i, by simp; lia, ?_⟩
    simp only [Bool.and_eq_true, decide_eq_true_eq, List.length_cons, List.length_nil, beq_iff_eq]
    refine ⟨by lia, ?_⟩
    rw [List.drop_eq_getElem_cons hi, e]
    rfl

noncomputable def lst3 : List (List Nat) := [[46, 46, 46], [61, 61, 61], [33, 61, 61], [42, 42, 61], [38, 38, 61], [124, 124, 61], [63, 63, 61]]
noncomputable def lst2 : List (List Nat) := [[61, 62], [61, 61], [33, 61], [62, 61], [60, 61], [38, 38], [124, 124], [63, 63], [63, 46], [43, 43], [45, 45], [43, 61], [45, 61], [42, 61], [37, 61], [42, 42]]
noncomputable def lst1 : List Nat := [123, 125, 40, 41, 91, 93, 59, 44, 60, 62, 43, 45, 42, 47, 37, 38, 124, 94, 126, 33, 63, 58, 61, 46, 64]
noncomputable def sign1 : List Nat → List Nat
  | [] => []
  | c :: _ => if lst1.contains c = true then [c] else []
noncomputable def signF (r : List Nat) : List Nat :=
  if lst3.contains (r.take 3) = true then r.take 3
  else if r.take 2 = [63, 46] ∧ isDig ((r.drop 2).headD 0) = true then [63]
  else if lst2.contains (r.take 2) = true then r.take 2
  else sign1 r

section
variable {c : Cx} {GT : List (Str × Value)} (H : Chk c GT) {n : Nat} {σ : Store} {Q : V → Store → Prop} {t : List Nat} {k : Nat} (ht : t.length ≤ 1000000)
include H ht
theorem sign_spec {r : List Nat} (hr : t.drop k = r) (hk : k < t.length) (q : Q (.str (signF r)) σ) : CallT c (n + 2) 305 [.str t, .int k] σ Q := by
  refine fn_sound H.k_read_sign H.gt rfl ?_; unfold b_read_sign
  refine st_seq (st_asg ?_)
  walk_at "se"
  rw [sl_take (by lia), hr]
  unfold signF at q
  refine st_seq (st_ifs ?_)
  walk_at "se"
  refine pInTS (l := lst3) rfl ?_
  walk_at "se"
  cases h3 : lst3.contains (r.take 3) <;> rw [h3] at q
  · rw [if_neg (by decide)] at q
    walk_at "se"
    refine st_skip ?_
    refine st_seq (st_asg ?_)
    walk_at "se"
    rw [sl_take (by lia), hr]
    have rest : (Q (.str (if lst2.contains (r.take 2) = true then r.take 2 else sign1 r)) σ) → wpS (CallT c (n + 1)) (.seq (.ifs (.cmp .In (.loc 2) (.glb 25 gSIGNS_TWO)) 
    (.seq (.ret (.loc 2)) .skip) .skip)
  (.seq (.asg 2 (.sl (.loc 0) (.loc 1) (.bin .Add (.loc 1) (.int 1))))
  (.seq (.ifs (.and (.cmp .NotEq (.loc 2) (.str [])) (.cmp .In (.loc 2) (.glb 26 gSIGNS_ONE))) 
    (.seq (.ret (.loc 2)) .skip) .skip)
  (.seq (.ret (.str [])) .skip)))) [some (.str t), some (.int (k : Nat)), some (.str (r.take 2))] σ (retQ Q) := by
      intro q
      refine st_seq (st_ifs ?_)
      walk_at "se"
      refine pInTS (l := lst2) rfl ?_
      walk_at "se"
      cases h2 : lst2.contains (r.take 2) <;> rw [h2] at q
      · rw [if_neg (by decide)] at q
        walk_at "se"
        refine st_skip ?_
        refine st_seq (st_asg ?_)
        walk_at "se"
        rw [sl_take (by lia), hr]
        cases r with
        | nil => exact absurd (pk_end hr) (by lia)
        | cons x r =>
          dsimp only [List.take_succ_cons, List.take_zero, sign1] at q ⊢
          refine st_seq (st_ifs ?_)
          walk_at "se"
          refine pNeS ?_
          rw [show decide ([x] = ([] : List Nat)) = false by simp]
          walk_at "se"
          refine pInS ?_
          rw [subIn_one]
          show truV (.bool (lst1.contains x)) _ _
          cases h1 : lst1.contains x <;> rw [h1] at q
          · rw [if_neg (by decide)] at q
            walk_at "st"
            exact q
          · rw [if_pos rfl] at q
            walk_at "st"
            exact q
      · rw [if_pos rfl] at q
        walk_at "st"
        exact q
    refine st_seq (st_ifs ?_)
    walk_at "se"
    refine pEqS ?_
    walk_at "se"
    by_cases h : r.take 2 = [63, 46]
    · walk_at "se"
      refine peek_spec H ht ?_
      walk_at "se"
      refine dig_spec H ?_
      rw [pk_hd (t := t) (k := k + 2) (r := r.drop 2) (by rw [← hr, List.drop_drop])]
      walk_at "se"
      cases hd : isDig ((r.drop 2).headD 0) <;> rw [hd] at q
      · rw [if_neg (by simp)] at q
        walk_at "se"
        exact st_skip (rest q)
      · rw [if_pos ⟨h, rfl⟩] at q
        walk_at "st"
        exact q
    · rw [if_neg (fun z => h z.1)] at q
      walk_at "se"
      exact st_skip (rest q)
  · rw [if_pos rfl] at q
    walk_at "st"
    exact q
end
end
section
structure TK where
  kind : Nat
  text : List Nat
  num : Nat
  at_ : Nat
  end_ : Nat
  line : Bool
noncomputable def tokC (k : TK) : Cell := .inst 140 [("kind", .int (k.kind : Nat)), ("text", .str k.text), ("num", .int (k.num : Nat)), ("at", .int (k.at_ : Nat)), ("end", .int (k.end_ : Nat)), ("line_before", .bool k.line)]
noncomputable def dsC (jr : Nat) : Cell := .inst 113 [("rows", .obj jr), ("file", .str [])]
noncomputable def dgC (a b : Nat) (args : V) : Cell := .inst 79 [("number", .int (a : Nat)), ("at", .int (b : Nat)), ("args", args), ("file", .str [])]

inductive Rows (σ : Store) : List V → List (Nat × Nat) → Prop
  | nil : Rows σ [] []
  | cons {o a b : Nat} {args : V} {vs : List V} {td : List (Nat × Nat)} : σ[o]? = some (dgC a b args) → Rows σ vs td → Rows σ (.obj o :: vs) ((a, b) :: td)
structure Ext (J : List Nat) (σ σ' : Store) : Prop where
  len : σ.length ≤ σ'.length
  keep : ∀ (i : Nat) (cl : Cell), σ[i]? = some cl → i ∉ J → σ'[i]? = some cl
  inst : ∀ (i : Nat) (C : Addr) (fs : List (Str × V)), C ≠ 392 → σ[i]? = some (Cell.inst C fs) → σ'[i]? = some (Cell.inst C fs)
theorem Ext.refl (J : List Nat) (σ : Store) : Ext J σ σ := ⟨Nat.le_refl _, fun _ _ h _ => h, fun _ _ _ _ h => h⟩
theorem Ext.trans {J : List Nat} {σ σ₁ σ₂ : Store} (a : Ext J σ σ₁) (b : Ext J σ₁ σ₂) : Ext J σ σ₂ :=
  ⟨Nat.le_trans a.len b.len, fun i cl h hj => b.keep i cl (a.keep i cl h hj) hj, fun i C fs hC h => b.inst i C fs hC (a.inst i C fs hC h)⟩
theorem sb_0 {L : List Nat} : ∀ j ∈ ([] : List Nat), j ∈ L := nofun
theorem sb_c {a : Nat} {J L : List Nat} (h : a ∈ L) (g : ∀ j ∈ J, j ∈ L) : ∀ j ∈ a :: J, j ∈ L := fun j q => (List.mem_cons.mp q).elim (fun e => e ▸ h) (g j)
theorem nm_0 {i : Nat} : i ∉ ([] : List Nat) := nofun
theorem nm_c {i a : Nat} {J : List Nat} (h : i ≠ a) (g : i ∉ J) : i ∉ a :: J := fun q => (List.mem_cons.mp q).elim h g
theorem Ext.wk {J J' : List Nat} {σ σ' : Store} (a : Ext J σ σ') (h : ∀ j ∈ J, j ∈ J') : Ext J' σ σ' :=
  ⟨a.len, fun i cl e hj => a.keep i cl e fun q => hj (h _ q), a.inst⟩
theorem lt_get {σ : Store} {i : Nat} {cl : Cell} (h : σ[i]? = some cl) : i < σ.length := (List.getElem?_eq_some_iff.mp h).1
theorem get_app {σ : Store} {i : Nat} {cl cl' : Cell} (h : σ[i]? = some cl) : (σ ++ [cl'])[i]? = some cl := by
  rw [List.getElem?_append_left (lt_get h)]; exact h
theorem get_set {σ : Store} {i : Nat} {cl cl' : Cell} (h : σ[i]? = some cl) : (σ.set i cl')[i]? = some cl' := List.getElem?_set_self (lt_get h)
theorem get_set_ne {σ : Store} {i j : Nat} {cl cl' : Cell} (h : σ[i]? = some cl) (hn : i ≠ j) : (σ.set j cl')[i]? = some cl := by rw [List.getElem?_set_ne (Ne.symm hn)]; exact h
theorem Ext.push (J : List Nat) (σ : Store) (cl : Cell) : Ext J σ (σ ++ [cl]) := ⟨by simp, fun _ _ h _ => get_app h, fun _ _ _ _ h => get_app h⟩
theorem Ext.setL {J : List Nat} {σ : Store} {j : Nat} {ds ds' : List V} (h : σ[j]? = some (.list ds)) (hj : j ∈ J) : Ext J σ (σ.set j (.list ds')) := by
  refine ⟨by simp, fun i cl e hi => get_set_ne e (fun q => hi (q ▸ hj)), fun i C fs _ e => get_set_ne e ?_⟩
  rintro rfl
  rw [h] at e; cases e
theorem Ext.setS {J : List Nat} {σ : Store} {j : Nat} {fs fs' : List (Str × V)} (h : σ[j]? = some (.inst 392 fs)) (hj : j ∈ J) : Ext J σ (σ.set j (.inst 392 fs')) := by
  refine ⟨by simp, fun i cl e hi => get_set_ne e (fun q => hi (q ▸ hj)), fun i C fs hC e => get_set_ne e ?_⟩
  rintro rfl
  rw [h] at e; cases e; exact hC rfl
theorem Rows.ext {J : List Nat} {σ σ' : Store} (E : Ext J σ σ') {vs : List V} {td : List (Nat × Nat)} (h : Rows σ vs td) : Rows σ' vs td := by
  induction h with
  | nil => exact .nil
  | cons e _ ih => exact .cons (E.inst _ _ _ (by decide) e) ih
theorem Rows.snoc {σ : Store} {vs : List V} {td : List (Nat × Nat)} (h : Rows σ vs td) {o a b : Nat} {args : V} (e : σ[o]? = some (dgC a b args)) : Rows σ (vs ++ [.obj o]) (td ++ [(a, b)]) := by
  induction h with
  | nil => exact .cons e .nil
  | cons e' _ ih => exact .cons e' ih
theorem Rows.len {σ : Store} {vs : List V} {td : List (Nat × Nat)} (h : Rows σ vs td) : vs.length = td.length := by
  induction h with
  | nil => rfl
  | cons _ _ ih => rw [List.length_cons, List.length_cons, ih]
structure DS (σ : Store) (jd jr : Nat) (td : List (Nat × Nat)) : Prop where
  hd : σ[jd]? = some (dsC jr)
  hr : ∃ rows, σ[jr]? = some (.list rows) ∧ Rows σ rows td
theorem DS.ext {J : List Nat} {σ σ' : Store} {jd jr : Nat} {td : List (Nat × Nat)} (D : DS σ jd jr td) (E : Ext J σ σ') (hj : jr ∉ J) : DS σ' jd jr td := by
  obtain ⟨rows, h1, h2⟩ := D.hr
  exact ⟨E.inst _ _ _ (by decide) D.hd, rows, E.keep _ _ h1 hj, h2.ext E⟩
noncomputable def TokQ (σ : Store) (jd jr : Nat) (td f : List (Nat × Nat)) (tk : TK) (Q : V → Store → Prop) : Prop := ∀ σ' i, Ext [jr] σ σ' → DS σ' jd jr (td ++ f) → σ'[i]? = some (tokC tk) → Q (.obj i) σ'

theorem p_setN {C : Addr} {n : Str} {env : Lo} {Q : Fl → Lo → Store → Prop} {v : V} {σ : Store} {fs : List (Str × V)} (hl : fs.length < 50) (h : Q .next env (σ ++ [.inst C (setF n v fs)])) : setK C n env Q v (.obj σ.length) (σ ++ [.inst C fs]) := by
  refine p_setA at_new hl ?_
  rw [set_new]; exact h

section
variable {c : Cx} {GT : List (Str × Value)} (H : Chk c GT) {n : Nat} {σ : Store} {Q : V → Store → Prop}
include H
theorem token_init {k tx m a e l : V} (q : Q .none (σ ++ [.inst 140 [("kind", k), ("text", tx), ("num", m), ("at", a), ("end", e), ("line_before", l)]])) : CallT c (n + 1) 137 [.obj σ.length, k, tx, m, a, e, l] (σ ++ [.inst 140 []]) Q := by
  refine fn_sound H.k_Token_init H.gt rfl ?_; unfold b_Token_init
  refine st_seq (st_setA ?_)
  walk_at "se"
  refine p_setN (Nat.le_of_ble_eq_true rfl) ?_
  refine st_seq (st_setA ?_)
  walk_at "se"
  refine p_setN (Nat.le_of_ble_eq_true rfl) ?_
  refine st_seq (st_setA ?_)
  walk_at "se"
  refine p_setN (Nat.le_of_ble_eq_true rfl) ?_
  refine st_seq (st_setA ?_)
  walk_at "se"
  refine p_setN (Nat.le_of_ble_eq_true rfl) ?_
  refine st_seq (st_setA ?_)
  walk_at "se"
  refine p_setN (Nat.le_of_ble_eq_true rfl) ?_
  refine st_seq (st_setA ?_)
  walk_at "se"
  refine p_setN (Nat.le_of_ble_eq_true rfl) ?_
  refine st_skip (st_retN ?_)
  exact q
theorem diag_init {a b args f : V} (q : Q .none (σ ++ [.inst 79 [("number", a), ("at", b), ("args", args), ("file", f)]])) : CallT c (n + 1) 69 [.obj σ.length, a, b, args, f] (σ ++ [.inst 79 []]) Q := by
  refine fn_sound H.k_Diag_init H.gt rfl ?_; unfold b_Diag_init
  refine st_seq (st_setA ?_)
  walk_at "se"
  refine p_setN (Nat.le_of_ble_eq_true rfl) ?_
  refine st_seq (st_setA ?_)
  walk_at "se"
  refine p_setN (Nat.le_of_ble_eq_true rfl) ?_
  refine st_seq (st_setA ?_)
  walk_at "se"
  refine p_setN (Nat.le_of_ble_eq_true rfl) ?_
  refine st_seq (st_setA ?_)
  walk_at "se"
  refine p_setN (Nat.le_of_ble_eq_true rfl) ?_
  refine st_skip (st_retN ?_)
  exact q
/-- a new token at a return or a store -/
theorem tok_new {k m a e : Nat} {tx : List Nat} {l : Bool} (q : Q (.obj σ.length) (σ ++ [tokC ⟨k, tx, m, a, e, l⟩])) : CallT c (n + 1) 137 (.obj σ.length :: [.int (k : Nat), .str tx, .int (m : Nat), .int (a : Nat), .int (e : Nat), .bool l]) (σ ++ [.inst 140 []]) fun r σ₂ => r = .none ∧ Q (.obj σ.length) σ₂ :=
  token_init H ⟨rfl, q⟩
theorem put_spec {jd jr : Nat} {td : List (Nat × Nat)} {a b : Nat} {args : V} (D : DS σ jd jr td) (hl : td.length < 900000) (q : ∀ σ', Ext [jr] σ σ' → DS σ' jd jr (td ++ [(a, b)]) → Q .none σ') : CallT c (n + 2) 105 [.obj jd, .int (a : Nat), .int (b : Nat), args] σ Q := by
  obtain ⟨rows, h1, h2⟩ := D.hr
  have hlen := h2.len
  refine fn_sound H.k_Diags_put H.gt rfl ?_; unfold b_Diags_put
  walk_at "st"
  refine p_attr D.hd (by rfl) ?_
  refine ⟨mo_list (.inl rfl) h1, ?_⟩
  walk_at "st"
  refine p_attr D.hd (d := .str []) (by rfl) ?_
  walk_at "st"
  refine diag_init H ⟨rfl, ?_⟩
  walk_at "st"
  have h1' : (σ ++ [dgC a b args])[jr]? = some (.list rows) := get_app h1
  refine p_append h1' (by lia) ?_
  walk_at "st"
  refine (q _ ((Ext.push _ _ _).trans (Ext.setL h1' (by simp))) ⟨?_, _, get_set h1', ?_⟩)
  · refine get_set_ne (get_app D.hd) ?_
    rintro rfl
    rw [D.hd] at h1; cases h1
  · exact (h2.ext ((Ext.push [jr] σ (dgC a b args)).trans (Ext.setL h1' (by simp)))).snoc (args := args) (get_set_ne at_new (by
      intro e
      exact absurd (lt_get h1) (by lia)))
end
end
section
noncomputable def resL : List (List Nat × V) := match gRESERVED with
  | .dct es => es
  | _ => []
noncomputable def isRes (x : List Nat) : Bool := (assocV x resL).isSome
noncomputable def fl1 (f : Option Nat) (a : Nat) : List (Nat × Nat) := match f with
  | some x => [(x, a)]
  | none => []
inductive Tok : List Nat → Nat → List Nat → Nat → Nat → Option Nat → Prop
  | name {c m : Nat} {r : List Nat} : isNS c = true → nameL (c :: r) = m → Tok (c :: r) (if isRes ((c :: r).take m) then 2 else 1) ((c :: r).take m) 0 m none
  | num {c m l : Nat} {r : List Nat} {o : Bool} : isNS c = false → isDig c = true → numF (c :: r) = (m, l, o) → Tok (c :: r) 3 (intS (m : Nat)) m l (if o then none else some 1127)
  | str {q : Nat} {r ck : List Nat} {len : Nat} {b o : Bool} : (q = 39 ∨ q = 34) → StrR q r ck len b o → Tok (q :: r) 4 ck 0 (1 + len) (if o then some 1002 else if b then some 1127 else none)
  | tpl {r ck : List Nat} {len cl : Nat} {b : Bool} : TplR r ck len cl b → Tok (96 :: r) (if cl = 0 then 7 else 6) ck 0 (1 + len) (if cl = 2 then some 1160 else if b then some 1127 else none)
  | hash {c m : Nat} {r : List Nat} : isNS c = true → nameL (c :: r) = m → Tok (35 :: c :: r) 1 (35 :: (c :: r).take m) 0 (1 + m) (some 1127)
  | sign {c : Nat} {r s : List Nat} : isNS c = false → isDig c = false → c ≠ 39 → c ≠ 34 → c ≠ 96 → ¬ (c = 35 ∧ isNS (r.headD 0) = true) → signF (c :: r) = s → s ≠ [] →
      Tok (c :: r) 5 s 0 s.length (if s = [46] ∧ isDig (r.headD 0) = true then some 1127 else none)
noncomputable def NoTok : List Nat → Prop
  | [] => False
  | c :: r => isNS c = false ∧ isDig c = false ∧ c ≠ 39 ∧ c ≠ 34 ∧ c ≠ 96 ∧ ¬ (c = 35 ∧ isNS (r.headD 0) = true) ∧ signF (c :: r) = []

theorem log2_small {n : Nat} (h : n ≤ 9007199254740991) : ((n : Int)).natAbs.log2 < 1920 := by
  rw [Int.natAbs_natCast]
  by_cases h0 : n = 0
  · subst h0; decide
  · rw [Nat.log2_lt h0]
    exact Nat.lt_of_le_of_lt h (by decide +kernel)
theorem ite_le (x m : Nat) : (if m < x then 0 else x) ≤ m := by split <;> lia
theorem numF_le (r : List Nat) : (numF r).1 ≤ 9007199254740991 := ite_le _ _

section
variable {c : Cx} {GT : List (Str × Value)} (H : Chk c GT) {n : Nat} {σ : Store} {Q : V → Store → Prop} {t : List Nat} {k : Nat} (ht : t.length ≤ 1000000) {jd jr : Nat} {td : List (Nat × Nat)} {l : Bool}
include H ht

theorem tokq_here {f : List (Nat × Nat)} {tk : TK} {σ' : Store} (q : TokQ σ jd jr td f tk Q) (E : Ext [jr] σ σ') (D : DS σ' jd jr (td ++ f)) : Q (.obj σ'.length) (σ' ++ [tokC tk]) := by
  obtain ⟨rows, h1, h2⟩ := D.hr
  exact q _ _ (E.trans (Ext.push _ _ _)) ⟨get_app D.hd, rows, get_app h1, h2.ext (Ext.push [jr] _ _)⟩ at_new

theorem name_token_spec {r : List Nat} (hr : t.drop k = r) (hk : k < t.length) (D : DS σ jd jr td) (q : TokQ σ jd jr td [] ⟨if isRes (r.take (nameL r)) then 2 else 1, r.take (nameL r), 0, k, k + nameL r, l⟩ Q) : CallT c (n + 4) 319 [.str t, .int k, .bool l] σ Q := by
  refine fn_sound H.k_name_token H.gt rfl ?_; unfold b_name_token
  refine st_seq (st_asg ?_)
  walk_at "se"
  refine read_name_spec H ht (by lia) ?_
  rw [hr]
  refine st_seq (st_asg ?_)
  walk_at "se"
  rw [sl_take (by lia), hr]
  refine st_seq (st_asg (e_glb ?_))
  refine seq_ifN (isRes (r.take (nameL r))) [some (.str t), some (.int (k : Nat)), some (.bool l), some (.int ((k + nameL r : Nat) : Int)), some (.str (r.take (nameL r))), some (.int (((if isRes (r.take (nameL r)) then 2 else 1 : Nat)) : Int))] (fun P hP => ?_) (fun h1 K hK => ?_) (fun h1 => ?_) ?_
  · walk_at "se"
    refine fn_sound H.k_is_reserved H.gt rfl ?_; unfold b_is_reserved
    walk_at "st"
    refine pInD ?_
    walk_at "st"
    exact hP
  · rw [h1] at hK
    walk_at "st"
    exact hK
  · rw [h1]; rfl
  walk_at "st"
  refine tok_new H ?_
  walk_at "st"
  exact tokq_here H ht q (Ext.refl _ _) (by rw [List.append_nil]; exact D)

theorem hash_token_spec {r : List Nat} (hr : t.drop (k + 1) = r) (hk : k < t.length) (h0 : pk t k = 35) (hl : td.length < 900000) (D : DS σ jd jr td) (q : TokQ σ jd jr td [(1127, k)] ⟨1, 35 :: r.take (nameL r), 0, k, k + (1 + nameL r), l⟩ Q) : CallT c (n + 4) 326 [.str t, .obj jd, .int k, .bool l] σ Q := by
  refine fn_sound H.k_hash_token H.gt rfl ?_; unfold b_hash_token
  refine st_seq (st_expr ?_)
  walk_at "se"
  refine p_uok D.hd (by rfl) ?_
  walk_at "se"
  refine put_spec (a := 1127) H D hl fun σ' E D' => ?_
  walk_at "se"
  refine st_seq (st_asg ?_)
  walk_at "se"
  refine read_name_spec H ht (by lia) ?_
  rw [hr]
  walk_at "st"
  rw [show k + 1 + nameL r = k + (1 + nameL r) by lia, sl_take (by lia)]
  have e : (t.drop k).take (1 + nameL r) = 35 :: r.take (nameL r) := by
    have : t.drop k = 35 :: r := by
      rw [← hr, ← h0]
      exact pk_drop hk
    rw [this, Nat.add_comm, List.take_succ_cons]
  rw [e]
  walk_at "st"
  refine tok_new (m := 0) (k := 1) H ?_
  walk_at "st"
  exact tokq_here H ht q E D'

theorem number_token_spec {r : List Nat} {m len : Nat} {o : Bool} (hr : t.drop k = r) (hk : k < t.length) (hn : numF r = (m, len, o)) (hl : td.length < 900000) (D : DS σ jd jr td) (q : TokQ σ jd jr td (fl1 (if o then none else some 1127) k) ⟨3, intS (m : Nat), m, k, k + len, l⟩ Q) : CallT c (n + 5) 333 [.str t, .obj jd, .int k, .bool l] σ Q := by
  have hm := numF_le r
  rw [hn] at hm
  refine fn_sound H.k_number_token H.gt rfl ?_; unfold b_number_token
  refine st_seq (st_asgT ?_)
  walk_at "se"
  refine read_number_spec H ht hr hk ?_
  rw [hn]
  walk_at "se"
  have fin : ∀ σ', Ext [jr] σ σ' → DS σ' jd jr (td ++ fl1 (if o then none else some 1127) k) → ∀ env, env = [some (.str t), some (.obj jd), some (.int (k : Nat)), some (.bool l), some (.int (m : Nat)), some (.int ((k + len : Nat) : Int)), some (.bool o)] → wpS (CallT c (n + 4)) (.seq (.ret (.new 31 140 137 (.cons (.glb 33 gT_NUM) (.cons (.bi .str (.cons (.loc 4) .nil)) (.cons (.loc 4) (.cons (.loc 2) (.cons (.loc 5) (.cons (.loc 3) .nil)))))))) .skip) env σ' (retQ Q) := by
    rintro σ' E D' env rfl
    walk_at "st"
    refine p_str (log2_small hm) ?_
    walk_at "st"
    refine tok_new (k := 3) H ?_
    walk_at "st"
    exact tokq_here H ht q E D'
  refine st_seq (st_ifs ?_)
  walk_at "se"
  cases o with
  | true =>
    walk_at "se"
    exact st_skip (fin _ (Ext.refl _ _) (by show DS σ jd jr (td ++ []); rw [List.append_nil]; exact D) _ rfl)
  | false =>
    walk_at "se"
    refine st_seq (st_expr ?_)
    walk_at "se"
    refine p_uok D.hd (by rfl) ?_
    walk_at "se"
    refine put_spec (a := 1127) H D hl fun σ' E D' => ?_
    walk_at "se"
    exact st_skip (fin _ E D' _ rfl)

theorem string_token_spec {q0 : Nat} {r ck : List Nat} {len : Nat} {b o : Bool} (hq : q0 = 39 ∨ q0 = 34) (hR : StrR q0 r ck len b o) (hr : t.drop k = q0 :: r) (hl : td.length < 900000) (D : DS σ jd jr td) (q : TokQ σ jd jr td (fl1 (if o then some 1002 else if b then some 1127 else none) k) ⟨4, ck, 0, k, k + (1 + len), l⟩ Q) : CallT c (n + 6) 340 [.str t, .obj jd, .int k, .bool l] σ Q := by
  obtain ⟨st, est⟩ : ∃ st : Int, (if o = true then 1 else if b = true then 2 else 0) = st := ⟨_, rfl⟩
  refine fn_sound H.k_string_token H.gt rfl ?_; unfold b_string_token
  refine st_seq (st_asgT ?_)
  walk_at "se"
  refine scan_string_spec H ht hq hR hr fun L => ?_
  rw [est]
  walk_at "se"
  have D1 : DS (σ ++ [.list L]) jd jr td := by
    obtain ⟨rows, h1, h2⟩ := D.hr
    exact ⟨get_app D.hd, rows, get_app h1, h2.ext (Ext.push [jr] _ _)⟩
  have fin : ∀ σ', Ext [jr] (σ ++ [.list L]) σ' → DS σ' jd jr (td ++ fl1 (if o then some 1002 else if b then some 1127 else none) k) → ∀ env x, env = [some (.str t), some (.obj jd), some (.int (k : Nat)), some (.bool l), some (.str ck), some (.int ((k + (1 + len) : Nat) : Int)), some x] → wpS (CallT c (n + 5)) (.seq (.ret (.new 31 140 137 (.cons (.glb 35 gT_STR) (.cons (.loc 4) (.cons (.int 0) (.cons (.loc 2) (.cons (.loc 5) (.cons (.loc 3) .nil)))))))) .skip) env σ' (retQ Q) := by
    rintro σ' E D' env x rfl
    walk_at "st"
    refine tok_new (k := 4) (m := 0) H ?_
    walk_at "st"
    exact tokq_here H ht q ((Ext.push _ _ _).trans E) D'
  refine st_seq (st_ifs ?_)
  walk_at "se"
  cases o with
  | true =>
    have est : st = 1 := by rw [← est]; rfl
    walk_at "se"
    refine st_seq (st_expr ?_)
    walk_at "se"
    refine p_uok D1.hd (by rfl) ?_
    walk_at "se"
    refine put_spec (a := 1002) H D1 hl fun σ' E D' => ?_
    walk_at "se"
    exact st_skip (fin _ E D' _ _ rfl)
  | false =>
    cases b with
    | true =>
      have est : st = 2 := by rw [← est]; rfl
      walk_at "se"
      refine st_seq (st_ifs ?_)
      walk_at "se"
      refine st_seq (st_expr ?_)
      walk_at "se"
      refine p_uok D1.hd (by rfl) ?_
      walk_at "se"
      refine put_spec (a := 1127) H D1 hl fun σ' E D' => ?_
      walk_at "se"
      exact st_skip (st_skip (fin _ E D' _ _ rfl))
    | false =>
      have est : st = 0 := by rw [← est]; rfl
      walk_at "se"
      refine st_seq (st_ifs ?_)
      walk_at "se"
      exact st_skip (st_skip (fin _ (Ext.refl _ _) (by show DS _ jd jr (td ++ []); rw [List.append_nil]; exact D1) _ _ rfl))

theorem template_token_spec {x kh kl : Nat} {r ck : List Nat} {len cl : Nat} {b : Bool} (hR : TplR r ck len cl b) (hr : t.drop k = x :: r) (hl : td.length < 900000) (D : DS σ jd jr td) (q : TokQ σ jd jr td (fl1 (if cl = 2 then some 1160 else if b then some 1127 else none) k) ⟨if cl = 0 then kh else kl, ck, 0, k, k + (1 + len), l⟩ Q) : CallT c (n + 6) 347 [.str t, .obj jd, .int k, .bool l, .int (kh : Nat), .int (kl : Nat)] σ Q := by
  refine fn_sound H.k_template_token H.gt rfl ?_; unfold b_template_token
  refine st_seq (st_asgT ?_)
  walk_at "se"
  refine scan_tpl_spec H ht hR hr fun L => ?_
  walk_at "se"
  have D1 : DS (σ ++ [.list L]) jd jr td := by
    obtain ⟨rows, h1, h2⟩ := D.hr
    exact ⟨get_app D.hd, rows, get_app h1, h2.ext (Ext.push [jr] _ _)⟩
  have fin : ∀ σ', Ext [jr] (σ ++ [.list L]) σ' → DS σ' jd jr (td ++ fl1 (if cl = 2 then some 1160 else if b then some 1127 else none) k) → ∀ env, env = [some (.str t), some (.obj jd), some (.int (k : Nat)), some (.bool l), some (.int (kh : Nat)), some (.int (kl : Nat)), some (.str ck), some (.int ((k + (1 + len) : Nat) : Int)), some (.int (cl : Nat)), some (.bool b), none] →
     wpS (CallT c (n + 5)) (.seq (.asg 10 (.loc 5)) (.seq (.ifs (.cmp .Eq (.loc 8) (.int 0)) (.seq (.asg 10 (.loc 4)) .skip) .skip) (.seq (.ret (.new 31 140 137 (.cons (.loc 10) (.cons (.loc 6) (.cons (.int 0) (.cons (.loc 2) (.cons (.loc 7) (.cons (.loc 3) .nil)))))))) .skip))) env σ' (retQ Q) := by
    rintro σ' E D' env rfl
    refine st_seq (st_asg (e_loc rfl ?_))
    by_cases h : cl = 0
    · rw [if_pos h] at q
      walk_at "st"
      refine tok_new (k := kh) (m := 0) H ?_
      walk_at "st"
      exact tokq_here H ht q ((Ext.push _ _ _).trans E) D'
    · rw [if_neg h] at q
      walk_at "st"
      refine tok_new (k := kl) (m := 0) H ?_
      walk_at "st"
      exact tokq_here H ht q ((Ext.push _ _ _).trans E) D'
  refine st_seq (st_ifs ?_)
  walk_at "se"
  by_cases h : cl = 2
  · walk_at "se"
    rw [if_pos h] at fin
    refine st_seq (st_expr ?_)
    walk_at "se"
    refine p_uok D1.hd (by rfl) ?_
    walk_at "se"
    refine put_spec (a := 1160) H D1 hl fun σ' E D' => ?_
    walk_at "se"
    exact st_skip (fin _ E D' _ rfl)
  · rw [if_neg h] at fin
    cases b with
    | true =>
      walk_at "se"
      refine st_seq (st_ifs ?_)
      walk_at "se"
      refine st_seq (st_expr ?_)
      walk_at "se"
      refine p_uok D1.hd (by rfl) ?_
      walk_at "se"
      refine put_spec (a := 1127) H D1 hl fun σ' E D' => ?_
      walk_at "se"
      exact st_skip (st_skip (fin _ E D' _ rfl))
    | false =>
      walk_at "se"
      refine st_seq (st_ifs ?_)
      walk_at "se"
      exact st_skip (st_skip (fin _ (Ext.refl _ _) (by show DS _ jd jr (td ++ []); rw [List.append_nil]; exact D1) _ rfl))
end
end
section
noncomputable def scC (t : List Nat) (a jd : Nat) (last : V) : Cell := .inst 392 [("text", .str t), ("at", .int (a : Nat)), ("diags", .obj jd), ("last", last)]
section
variable {c : Cx} {GT : List (Str × Value)} (H : Chk c GT) {n : Nat} {σ : Store} {Q : V → Store → Prop} {t : List Nat} {k : Nat} (ht : t.length ≤ 1000000) {jd jr : Nat} {td : List (Nat × Nat)} {l : Bool}
include H ht
theorem read_token_spec {r : List Nat} {kd nm len : Nat} {tx : List Nat} {f : Option Nat} (hr : t.drop k = r) (hT : Tok r kd tx nm len f) (hl : td.length < 900000) (D : DS σ jd jr td) (q : TokQ σ jd jr td (fl1 f k) ⟨kd, tx, nm, k, k + len, l⟩ Q) : CallT c (n + 7) 354 [.str t, .obj jd, .int k, .bool l] σ Q := by
  have D0 : DS σ jd jr (td ++ []) := by rw [List.append_nil]; exact D
  have hne : ∃ x r', r = x :: r' := by cases hT <;> exact ⟨_, _, rfl⟩
  obtain ⟨x₀, r₀, e₀⟩ := hne
  obtain ⟨g1, g2, g3, g4⟩ := pk_at (hr.trans e₀)
  have g5 := pk_hd g3
  refine fn_sound H.k_read_token H.gt rfl ?_; unfold b_read_token
  refine st_seq (st_asg ?_)
  walk_at "se"
  rw [g2]
  induction hT using Tok.casesOn with
  | name h1 h2 =>
    cases e₀
    walk_at "st"
    refine ns_spec H ?_
    walk_at "st"
    subst h2
    exact name_token_spec H ht hr g1 D q
  | num h1 h2 h3 =>
    cases e₀
    walk_at "st"
    refine ns_spec H ?_
    walk_at "st"
    refine dig_spec H ?_
    walk_at "st"
    exact number_token_spec H ht hr g1 h3 hl D q
  | str h1 h2 =>
    cases e₀
    have a1 : isNS x₀ = false := by rcases h1 with rfl | rfl <;> rfl
    have a2 : isDig x₀ = false := by rcases h1 with rfl | rfl <;> rfl
    walk_at "st"
    refine ns_spec H ?_
    walk_at "st"
    refine dig_spec H ?_
    walk_at "st"
    rcases h1 with rfl | rfl
    · walk_at "st"
      exact string_token_spec H ht (.inl rfl) h2 hr hl D q
    · walk_at "st"
      exact string_token_spec H ht (.inr rfl) h2 hr hl D q
  | tpl h2 =>
    cases e₀
    have a1 : isNS 96 = false := rfl
    have a2 : isDig 96 = false := rfl
    walk_at "st"
    refine ns_spec H ?_
    walk_at "st"
    refine dig_spec H ?_
    walk_at "st"
    exact template_token_spec (kh := 7) (kl := 6) H ht h2 hr hl D q
  | hash h1 h2 =>
    cases e₀
    rename_i x m r
    have g5 : pk t (k + 1) = x := g5
    have a1 : isNS 35 = false := rfl
    have a2 : isDig 35 = false := rfl
    walk_at "st"
    refine ns_spec H ?_
    walk_at "st"
    refine dig_spec H ?_
    walk_at "st"
    refine peek_spec H ht ?_
    rw [g5]
    walk_at "st"
    refine ns_spec H ?_
    walk_at "st"
    subst h2
    exact hash_token_spec H ht g3 g1 g2 hl D q
  | @sign _ _ tx h1 h2 h3 h4 h5 h6 h7 h8 =>
    cases e₀
    walk_at "st"
    refine ns_spec H ?_
    walk_at "st"
    refine dig_spec H ?_
    walk_at "st"
    have rest : wpS (CallT c (n + 6)) (.seq (.asg 5 (.call 44 305 (.cons (.loc 0) (.cons (.loc 2) .nil))))
  (.seq (.ifs (.cmp .Eq (.loc 5) (.str [])) 
    (.seq (.ret .none) .skip) .skip)
  (.seq (.ifs (.and (.cmp .Eq (.loc 5) (.str [46])) (.call 2 179 (.cons (.call 6 151 (.cons (.loc 0) (.cons (.bin .Add (.loc 2) (.int 1)) .nil))) .nil))) 
    (.seq (.expr (.ucall 113 105 "put" (.loc 1) (.cons (.int 1127) (.cons (.loc 2) (.cons (.tup (.cons (.loc 5) .nil)) .nil))))) .skip) .skip)
  (.seq (.ret (.new 31 140 137 (.cons (.glb 45 gT_SIGN) (.cons (.loc 5) (.cons (.int 0) (.cons (.loc 2) (.cons (.bin .Add (.loc 2) (.bi .len (.cons (.loc 5) .nil))) (.cons (.loc 3) .nil)))))))) .skip)))) [some (.str t), some (.obj jd), some (.int (k : Nat)), some (.bool l), some (.str [x₀]), none] σ (retQ Q) := by
      refine st_seq (st_asg ?_)
      walk_at "se"
      refine sign_spec H ht hr g1 ?_
      rw [h7]
      have h8 : ¬ tx = [] := h8
      walk_at "se"
      refine st_seq (st_ifs ?_)
      walk_at "se"
      refine pEqS ?_
      walk_at "se"
      refine if_df h8 ?_
      refine st_skip ?_
      have hlen : tx.length ≤ 1000000 := by
        rw [← h7]
        unfold signF
        split
        · rw [List.length_take]; lia
        split
        · simp
        split
        · rw [List.length_take]; lia
        · unfold sign1; split
          · simp
          · split <;> simp
      have fin : ∀ σ' f', fl1 f' k = fl1 (if tx = [46] ∧ isDig (r₀.headD 0) = true then some 1127 else none) k → Ext [jr] σ σ' → DS σ' jd jr (td ++ fl1 f' k) → ∀ env x, env = [some (.str t), some (.obj jd), some (.int (k : Nat)), some (.bool l), x, some (.str tx)] → wpS (CallT c (n + 6)) (.seq (.ret (.new 31 140 137 (.cons (.glb 45 gT_SIGN) (.cons (.loc 5) (.cons (.int 0) (.cons (.loc 2) (.cons (.bin .Add (.loc 2) (.bi .len (.cons (.loc 5) .nil))) (.cons (.loc 3) .nil)))))))) .skip) env σ' (retQ Q) := by
        rintro σ' f' ef E D' env x rfl
        rw [← ef] at q
        walk_at "st"
        refine tok_new (k := 5) (m := 0) H ?_
        walk_at "st"
        exact tokq_here H ht q E D'
      refine st_seq (st_ifs ?_)
      walk_at "se"
      refine pEqS ?_
      walk_at "se"
      by_cases h9 : tx = [46]
      · walk_at "se"
        refine peek_spec H ht ?_
        rw [g5]
        walk_at "se"
        refine dig_spec H ?_
        walk_at "se"
        cases h10 : isDig (r₀.headD 0)
        · walk_at "se"
          refine st_skip (fin σ none ?_ (Ext.refl _ _) D0 _ _ rfl)
          rw [if_neg (by rw [h10]; simp)]
        · walk_at "se"
          refine st_seq (st_expr ?_)
          walk_at "se"
          refine p_uok D.hd (by rfl) ?_
          walk_at "se"
          refine put_spec (a := 1127) H D hl fun σ' E D' => ?_
          walk_at "se"
          refine st_skip (fin σ' (some 1127) ?_ E D' _ _ rfl)
          rw [if_pos ⟨h9, h10⟩]
      · walk_at "se"
        refine st_skip (fin σ none ?_ (Ext.refl _ _) D0 _ _ rfl)
        rw [if_neg (fun z => h9 z.1)]
    by_cases h9 : x₀ = 35
    · have h10 : isNS (r₀.headD 0) = false := by
        cases h : isNS (r₀.headD 0) with
        | false => rfl
        | true => exact absurd ⟨h9, h⟩ h6
      walk_at "se"
      refine peek_spec H ht ?_
      rw [g5]
      walk_at "se"
      refine ns_spec H ?_
      walk_at "se"
      exact st_skip rest
    · walk_at "se"
      exact st_skip rest

theorem no_token_spec {r : List Nat} (hr : t.drop k = r) (hT : NoTok r) (q : Q .none σ) : CallT c (n + 7) 354 [.str t, .obj jd, .int k, .bool l] σ Q := by
  cases r with
  | nil => exact hT.elim
  | cons x r =>
    obtain ⟨h1, h2, h3, h4, h5, h6, h7⟩ := hT
    obtain ⟨g1, g2, g3, g4⟩ := pk_at hr
    have g5 := pk_hd g3
    refine fn_sound H.k_read_token H.gt rfl ?_; unfold b_read_token
    refine st_seq (st_asg ?_)
    walk_at "se"
    rw [g2]
    walk_at "st"
    refine ns_spec H ?_
    walk_at "st"
    refine dig_spec H ?_
    walk_at "st"
    by_cases h9 : x = 35
    · have h10 : isNS (r.headD 0) = false := by
        cases h : isNS (r.headD 0) with
        | false => rfl
        | true => exact absurd ⟨h9, h⟩ h6
      walk_at "st"
      refine peek_spec H ht ?_
      rw [g5]
      walk_at "st"
      refine ns_spec H ?_
      walk_at "st"
      refine sign_spec H ht hr g1 ?_
      rw [h7]
      walk_at "st"
      refine pEqS ?_
      walk_at "st"
      exact q
    · walk_at "st"
      refine sign_spec H ht hr g1 ?_
      rw [h7]
      walk_at "st"
      refine pEqS ?_
      walk_at "st"
      exact q

theorem is_brace_spec {i : Nat} {tk : TK} {x : List Nat} (hi : σ[i]? = some (tokC tk)) (q : Q (.bool (decide (tk.kind = 5) && decide (tk.text = x))) σ) : CallT c (n + 1) 361 [.obj i, .str x] σ Q := by
  refine fn_sound H.k_is_brace H.gt rfl ?_; unfold b_is_brace
  walk_at "st"
  refine p_attr hi (by rfl) ?_
  walk_at "st"
  by_cases h : tk.kind = 5
  · rw [decide_eq_true h] at q
    walk_at "st"
    refine p_attr hi (d := .str tk.text) (by rfl) ?_
    walk_at "st"
    refine pEqS ?_
    walk_at "st"
    exact q
  · rw [decide_eq_false h] at q
    walk_at "st"
    exact q
theorem scanner_init (q : Q .none (σ ++ [scC t 0 jd .none])) : CallT c (n + 1) 375 [.obj σ.length, .str t, .obj jd] (σ ++ [.inst 392 []]) Q := by
  refine fn_sound H.k_Scanner_init H.gt rfl ?_; unfold b_Scanner_init
  refine st_seq (st_setA ?_)
  walk_at "se"
  refine p_setN (Nat.le_of_ble_eq_true rfl) ?_
  refine st_seq (st_setA ?_)
  walk_at "se"
  refine p_setN (Nat.le_of_ble_eq_true rfl) ?_
  refine st_seq (st_setA ?_)
  walk_at "se"
  refine p_setN (Nat.le_of_ble_eq_true rfl) ?_
  refine st_seq (st_setA ?_)
  walk_at "se"
  refine p_setN (Nat.le_of_ble_eq_true rfl) ?_
  refine st_skip (st_retN ?_)
  exact q
end
end
section
inductive Take : Bool → List Nat → Nat → TK → List (Nat × Nat) → Prop
  | fin {line l o : Bool} {r : List Nat} {k m : Nat} : Blank r m l o → m = r.length → Take line r k ⟨0, [], 0, k + m, k + m, line || l⟩ (if o then [] else [(1005, k + m)])
  | tok {line l : Bool} {r tx : List Nat} {k m kd nm len : Nat} {f : Option Nat} : Blank r m l true → m < r.length → Tok (r.drop m) kd tx nm len f → Take line r k ⟨kd, tx, nm, k + m, k + m + len, line || l⟩ (fl1 f (k + m))
  | bad {line l : Bool} {r : List Nat} {k m : Nat} {tk : TK} {f : List (Nat × Nat)} : Blank r m l true → m < r.length → NoTok (r.drop m) → Take (line || l) (r.drop (m + 1)) (k + m + 1) tk f → Take line r k tk ((1127, k + m) :: f)

theorem Take.see {line : Bool} {r : List Nat} {k : Nat} {tk : TK} {f : List (Nat × Nat)} (h : Take line r k tk f) : ∃ m l o, Blank r m l o ∧ (match (motive := Bool → Prop) decide (m = r.length) with
    | true => tk = ⟨0, [], 0, k + m, k + m, line || l⟩ ∧ f = (if o then [] else [(1005, k + m)])
    | false => o = true ∧ m < r.length ∧ ((∃ kd tx nm len f₀, Tok (r.drop m) kd tx nm len f₀ ∧ tk = ⟨kd, tx, nm, k + m, k + m + len, line || l⟩ ∧ f = fl1 f₀ (k + m)) ∨
       (NoTok (r.drop m) ∧ ∃ f₁, Take (line || l) (r.drop (m + 1)) (k + m + 1) tk f₁ ∧ f = (1127, k + m) :: f₁))) := by
  induction h using Take.casesOn with
  | fin h1 h2 =>
    refine ⟨_, _, _, h1, ?_⟩
    rw [decide_eq_true h2]
    exact ⟨rfl, rfl⟩
  | tok h1 h2 h3 =>
    refine ⟨_, _, true, h1, ?_⟩
    rw [decide_eq_false (Nat.ne_of_lt h2)]
    exact ⟨rfl, h2, .inl ⟨_, _, _, _, _, h3, rfl, rfl⟩⟩
  | bad h1 h2 h3 h4 =>
    refine ⟨_, _, true, h1, ?_⟩
    rw [decide_eq_false (Nat.ne_of_lt h2)]
    exact ⟨rfl, h2, .inr ⟨h3, _, h4, rfl⟩⟩

section
variable {c : Cx} {GT : List (Str × Value)} (H : Chk c GT) {n : Nat} {σ : Store} {Q : V → Store → Prop} {t : List Nat} {k : Nat} (ht : t.length ≤ 1000000) {jd jr js : Nat} {td : List (Nat × Nat)}
include H ht
theorem take_spec {tk : TK} {f : List (Nat × Nat)} {last : V} (hT : Take false (t.drop k) k tk f) (hk : k ≤ t.length) (hl : (td ++ f).length < 800000) (D : DS σ jd jr td) (hs : σ[js]? = some (scC t k jd last))
    (q : ∀ σ' i, Ext [jr, js] σ σ' → DS σ' jd jr (td ++ f) → σ'[i]? = some (tokC tk) → σ'[js]? = some (scC t tk.end_ jd (.obj i)) → Q (.obj i) σ') : CallT c (n + 8) 382 [.obj js] σ Q := by
  refine fn_sound H.k_Scanner_take H.gt rfl ?_; unfold b_Scanner_take
  refine st_seq (st_asg (e_bool ?_))
  refine st_seq (st_asg (e_none ?_))
  have hjr : ∀ σ', DS σ' jd jr td → True := fun _ _ => trivial
  have loop : ∀ K : Fl → Lo → Store → Prop, (∀ σ' i l' x3 x4 x5 a last, Ext [jr, js] σ σ' → DS σ' jd jr (td ++ f) → σ'[i]? = some (tokC tk) → σ'[js]? = some (scC t a jd last) → K .next [some (.obj js), some (.bool l'), some (.obj i), x3, x4, x5] σ') →
      wpS (CallT c (n + 7)) w_Scanner_take_1 [some (.obj js), some (.bool false), some .none, none, none, none] σ K := by
    intro K hK
    unfold w_Scanner_take_1
    obtain ⟨I, hI⟩ : ∃ I : Nat → Lo → Store → Prop, ∀ z env σ', I z env σ' ↔ (∀ G : Nat → Lo → Prop, (∀ (k' : Nat) (l' : Bool) (f' td' : List (Nat × Nat)) (x3 x4 x5 : Option V) (last : V), Take l' (t.drop k') k' tk f' → Ext [jr, js] σ σ' → DS σ' jd jr td' → td' ++ f' = td ++ f → σ'[js]? = some (scC t k' jd last) → k' ≤ t.length → G (t.length - k' + 1) [some (.obj js), some (.bool l'), some .none, x3, x4, x5]) →
        (∀ (i : Nat) (l' : Bool) (x3 x4 x5 : Option V) (a : Nat) (last : V), Ext [jr, js] σ σ' → DS σ' jd jr (td ++ f) → σ'[i]? = some (tokC tk) → σ'[js]? = some (scC t a jd last) → G 0 [some (.obj js), some (.bool l'), some (.obj i), x3, x4, x5]) → G z env) := ⟨_, fun _ _ _ => Iff.rfl⟩
    refine whl_I I _ ((hI _ _ _).mpr fun _ g _ => g k false f td none none none last hT (Ext.refl _ _) D rfl hs hk) ?_
    intro z env σ' hz
    apply (hI _ _ _).mp hz
    · intro k' l' f' td' x3 x4 x5 last hT E D ef hs hk
      clear hz
      have hl' : td'.length < 800000 := by
        rw [← ef, List.length_append] at hl; lia
      refine c_cmp (e_cmp (e_loc rfl (e_none (pIs (tru_bool (if_t rfl ?_))))))
      refine st_seq (st_asgT ?_)
      walk_at "se"
      refine p_attr hs (d := .str t) (by rfl) ?_
      walk_at "se"
      refine p_attr hs (d := .int (k' : Nat)) (by rfl) ?_
      walk_at "se"
      obtain ⟨m, l, o, hB, hm⟩ := hT.see
      rw [List.drop_drop, List.drop_drop] at hm
      have hBl := hB.le
      rw [List.length_drop] at hBl
      refine skip_blank_spec H ht hB hk ?_
      walk_at "se"
      have s1 : ∀ K' : Fl → Lo → Store → Prop, K' .next [some (.obj js), some (.bool (l' || l)), some .none, some (.int ((k' + m : Nat) : Int)), some (.bool l), some (.bool o)] σ' → wpS (CallT c (n + 7)) (.asg 1 (.or (.loc 1) (.loc 4))) [some (.obj js), some (.bool l'), some .none, some (.int ((k' + m : Nat) : Int)), some (.bool l), some (.bool o)] σ' K' := by
        intro K' hK'
        refine st_asg ?_
        cases l' with
        | true => walk_at "se"; exact hK'
        | false => walk_at "se"; exact hK'
      refine st_seq (s1 _ ?_)
      refine st_seq (st_setA ?_)
      walk_at "se"
      refine p_setA hs (Nat.le_of_ble_eq_true rfl) ?_
      obtain ⟨σ₁, eσ₁⟩ : ∃ σ₁, σ'.set js (.inst 392 (setF "at" (.int ((k' + m : Nat) : Int)) [("text", .str t), ("at", .int (k' : Nat)), ("diags", .obj jd), ("last", last)])) = σ₁ := ⟨_, rfl⟩
      have E₁ : Ext [jr, js] σ' σ₁ := by rw [← eσ₁]; exact Ext.setS hs (by simp)
      have hs₁ : σ₁[js]? = some (scC t (k' + m) jd last) := by rw [← eσ₁]; exact get_set hs
      have hne : jr ≠ js := by
        rintro rfl
        obtain ⟨rows, h1, h2⟩ := D.hr
        rw [hs] at h1; cases h1
      have D₁ : DS σ₁ jd jr td' := by
        have : Ext [js] σ' σ₁ := by rw [← eσ₁]; exact Ext.setS hs (by simp)
        exact D.ext this (by simpa using hne)
      rw [eσ₁]
      have Es : ∀ {a b : Store}, Ext [jr] a b → Ext [jr, js] a b := fun e => e.wk (by repeat' first | exact sb_0 | exact .head _ | refine sb_c ?_ ?_ | apply List.Mem.tail)
      have put1 : ∀ K' : Fl → Lo → Store → Prop, (∀ σ₂, Ext [jr, js] σ₁ σ₂ → DS σ₂ jd jr (td' ++ (if o then [] else [(1005, k' + m)])) → σ₂[js]? = some (scC t (k' + m) jd last) → K' .next [some (.obj js), some (.bool (l' || l)), some .none, some (.int ((k' + m : Nat) : Int)), some (.bool l), some (.bool o)] σ₂) →
         wpS (CallT c (n + 7)) (.ifs (.not (.loc 5)) (.seq (.expr (.ucall 113 105 "put" (.attr 392 "diags" (.loc 0)) (.cons (.int 1005) (.cons (.loc 3) (.cons (.tup (.cons (.str [42, 47]) .nil)) .nil))))) .skip) .skip) [some (.obj js), some (.bool (l' || l)), some .none, some (.int ((k' + m : Nat) : Int)), some (.bool l), some (.bool o)] σ₁ K' := by
        intro K' hK'
        refine st_ifs ?_
        walk_at "se"
        cases o with
        | true =>
          walk_at "se"
          exact st_skip (hK' _ (Ext.refl _ _) (by rw [if_pos rfl, List.append_nil]; exact D₁) hs₁)
        | false =>
          walk_at "se"
          refine st_seq (st_expr ?_)
          walk_at "se"
          refine p_attr hs₁ (d := .obj jd) (by rfl) ?_
          refine p_uok D₁.hd (by rfl) ?_
          walk_at "se"
          refine put_spec (a := 1005) H D₁ (by lia) fun σ₂ E₂ D₂ => ?_
          walk_at "se"
          exact st_skip (hK' _ (Es E₂) D₂ (E₂.keep _ _ hs₁ (by simpa using Ne.symm hne)))
      refine st_seq (put1 _ fun σ₂ E₂ D₂ hs₂ => ?_)
      refine st_seq (st_ifs ?_)
      walk_at "se"
      refine p_attr hs₂ (d := .str t) (by rfl) ?_
      walk_at "se"
      by_cases he : m = (t.drop k').length
      · rw [decide_eq_true he] at hm
        obtain ⟨rfl, rfl⟩ := hm
        rw [List.length_drop] at he
        walk_at "se"
        refine st_seq (st_asg ?_)
        walk_at "se"
        refine token_init H ⟨rfl, ?_⟩
        refine st_skip ?_
        refine st_seq (st_ifs ?_)
        walk_at "se"
        refine if_f rfl ?_
        refine st_skip (st_skip ⟨0, by lia, (hI _ _ _).mpr fun _ _ g => g σ₂.length _ _ _ _ _ _ ((E.trans E₁).trans (E₂.trans (Ext.push _ _ _))) ?_ at_new (get_app hs₂)⟩)
        rw [← ef]
        obtain ⟨rows, h1, h2⟩ := D₂.hr
        exact ⟨get_app D₂.hd, rows, get_app h1, h2.ext (Ext.push [jr] _ _)⟩
      · rw [decide_eq_false he] at hm
        obtain ⟨rfl, hlt, hm⟩ := hm
        rw [List.length_drop] at hlt
        rw [if_pos rfl, List.append_nil] at D₂
        walk_at "se"
        refine st_seq (st_asg ?_)
        walk_at "se"
        refine p_attr hs₂ (d := .str t) (by rfl) ?_
        walk_at "se"
        refine p_attr hs₂ (d := .obj jd) (by rfl) ?_
        walk_at "se"
        rcases hm with ⟨kd, tx, nm, len, f₀, h1, rfl, rfl⟩ | ⟨h1, f₁, h2, rfl⟩
        · refine read_token_spec H ht rfl h1 (by lia) D₂ fun σ₃ i E₃ D₃ hi => ?_
          refine st_skip ?_
          refine st_seq (st_ifs ?_)
          walk_at "se"
          refine if_f rfl ?_
          refine st_skip (st_skip ⟨0, by lia, (hI _ _ _).mpr fun _ _ g => g i _ _ _ _ _ _ ((E.trans E₁).trans (E₂.trans (Es E₃))) ?_ hi (E₃.keep _ _ hs₂ (by simpa using Ne.symm hne))⟩)
          rw [← ef]
          exact D₃
        · refine no_token_spec (jd := jd) H ht rfl h1 ?_
          refine st_skip ?_
          refine st_seq (st_ifs ?_)
          walk_at "se"
          refine if_t rfl ?_
          refine st_seq (st_expr ?_)
          walk_at "se"
          refine p_attr hs₂ (d := .obj jd) (by rfl) ?_
          refine p_uok D₂.hd (by rfl) ?_
          walk_at "se"
          refine p_attr hs₂ (d := .str t) (by rfl) ?_
          walk_at "se"
          refine put_spec (a := 1127) H D₂ (by lia) fun σ₃ E₃ D₃ => ?_
          walk_at "se"
          have hs₃ := E₃.keep _ _ hs₂ (by simpa using Ne.symm hne)
          refine st_seq (st_setA ?_)
          walk_at "se"
          refine p_setA hs₃ (Nat.le_of_ble_eq_true rfl) ?_
          have E₄ : Ext [js] σ₃ _ := Ext.setS (fs' := setF "at" (.int ((k' + m + 1 : Nat) : Int)) [("text", .str t), ("at", .int ((k' + m : Nat) : Int)), ("diags", .obj jd), ("last", last)]) hs₃ (by simp)
          refine st_skip (st_skip ⟨t.length - (k' + m + 1) + 1, Nat.succ_lt_succ (a_sl (Nat.lt_succ_of_le (Nat.le_add_right k' m)) (Nat.lt_of_sub_pos (Nat.zero_lt_of_lt hlt))), (hI _ _ _).mpr fun _ g _ => g (k' + m + 1) (l' || l) f₁ (td' ++ [(1127, k' + m)]) _ _ _ last h2 ((E.trans E₁).trans (E₂.trans ((Es E₃).trans (E₄.wk (by repeat' first | exact sb_0 | exact .head _ | refine sb_c ?_ ?_ | apply List.Mem.tail))))) (D₃.ext E₄ (by simpa using hne)) ?_ (get_set hs₃) (by lia)⟩)
          rw [← ef]; simp
    · intro i l' x3 x4 x5 a last E D hi hs
      refine c_cmp (e_cmp (e_loc rfl (e_none (pIs (tru_bool (if_f rfl ?_))))))
      exact hK _ _ _ _ _ _ _ _ E D hi hs
  refine st_seq (loop _ fun σ' i l' x3 x4 x5 a last E D' hi hs' => ?_)
  refine st_seq (st_setA ?_)
  walk_at "se"
  refine p_attr hi (d := .int (tk.end_ : Nat)) (by rfl) ?_
  walk_at "se"
  refine p_setA hs' (Nat.le_of_ble_eq_true rfl) ?_
  have hne : jr ≠ js := by
    rintro rfl
    obtain ⟨rows, h1, h2⟩ := D'.hr
    rw [hs'] at h1; cases h1
  have hs₂ := get_set (cl' := .inst 392 (setF "at" (.int (tk.end_ : Nat)) [("text", .str t), ("at", .int (a : Nat)), ("diags", .obj jd), ("last", last)])) hs'
  have E₂ : Ext [js] σ' _ := Ext.setS (fs' := setF "at" (.int (tk.end_ : Nat)) [("text", .str t), ("at", .int (a : Nat)), ("diags", .obj jd), ("last", last)]) hs' (by simp)
  refine st_seq (st_setA ?_)
  walk_at "se"
  refine p_setA hs₂ (Nat.le_of_ble_eq_true rfl) ?_
  have E₃ := Ext.setS (J := [js]) (fs' := setF "last" (.obj i) (setF "at" (.int (tk.end_ : Nat)) [("text", .str t), ("at", .int (a : Nat)), ("diags", .obj jd), ("last", last)])) hs₂ (by simp)
  walk_at "st"
  exact q _ i (E.trans ((E₂.trans E₃).wk (by repeat' first | exact sb_0 | exact .head _ | refine sb_c ?_ ?_ | apply List.Mem.tail))) (D'.ext (E₂.trans E₃) (by simpa using hne)) ((E₂.trans E₃).inst _ _ _ (by decide) hi) (get_set hs₂)
end
end
section
inductive Hole : List Nat → TK → List Nat → Prop
  | head {hs : List Nat} {tk : TK} : tk.kind = 7 → Hole hs tk (hs ++ [0])
  | none {tk : TK} : tk.kind ≠ 7 → Hole [] tk []
  | opn {hs : List Nat} {h : Nat} {tk : TK} : tk.kind = 5 → tk.text = [123] → Hole (hs ++ [h]) tk (hs ++ [h + 1])
  | cls {hs : List Nat} {h : Nat} {tk : TK} : tk.kind = 5 → tk.text = [125] → Hole (hs ++ [h + 1]) tk (hs ++ [h])
  | oth {hs : List Nat} {h : Nat} {tk : TK} : tk.kind ≠ 7 → ¬ (tk.kind = 5 ∧ (tk.text = [123] ∨ tk.text = [125])) → Hole (hs ++ [h]) tk (hs ++ [h])
noncomputable def holV (hs : List Nat) : Cell := .list (hs.map fun h => .int (h : Nat))

inductive Run : Bool → List Nat → List Nat → Nat → List TK → List (Nat × Nat) → List Nat → Prop
  | fin {line : Bool} {hs r : List Nat} {k : Nat} {tk : TK} {f : List (Nat × Nat)} : Take line r k tk f → tk.kind = 0 → Run line hs r k [tk] f hs
  | step {line : Bool} {hs hs' hf r : List Nat} {k : Nat} {tk : TK} {tks : List TK} {f f' : List (Nat × Nat)} : Take line r k tk f → tk.kind ≠ 0 → Hole hs tk hs' → k ≤ tk.end_ → tk.end_ ≤ k + r.length → Run false hs' (r.drop (tk.end_ - k)) tk.end_ tks f' hf → Run line hs r k (tk :: tks) (f ++ f') hf
  | rescan {line b : Bool} {hs hf r r1 ck : List Nat} {k len cl x : Nat} {tk : TK} {tks : List TK} {f f' : List (Nat × Nat)} : Take line r k tk f → tk.kind = 5 → tk.text = [125] → k ≤ tk.at_ → r.drop (tk.at_ - k) = x :: r1 → TplR r1 ck len cl b → tk.at_ + (1 + len) ≤ k + r.length →
      Run false (if cl = 0 then hs ++ [0] else hs) (r.drop (tk.at_ - k + (1 + len))) (tk.at_ + (1 + len)) tks f' hf →
      Run line (hs ++ [0]) r k (⟨if cl = 0 then 8 else 9, ck, 0, tk.at_, tk.at_ + (1 + len), tk.line⟩ :: tks) (f ++ fl1 (if cl = 2 then some 1160 else if b then some 1127 else none) tk.at_ ++ f') hf

inductive Toks (σ : Store) : List V → List TK → Prop
  | nil : Toks σ [] []
  | cons {o : Nat} {tk : TK} {vs : List V} {tks : List TK} : σ[o]? = some (tokC tk) → Toks σ vs tks → Toks σ (.obj o :: vs) (tk :: tks)
theorem Toks.ext {J : List Nat} {σ σ' : Store} (E : Ext J σ σ') {vs : List V} {td : List TK} (h : Toks σ vs td) : Toks σ' vs td := by
  induction h with
  | nil => exact .nil
  | cons e _ ih => exact .cons (E.inst _ _ _ (by decide) e) ih
theorem Toks.snoc {σ : Store} {vs : List V} {td : List TK} (h : Toks σ vs td) {o : Nat} {tk : TK} (e : σ[o]? = some (tokC tk)) : Toks σ (vs ++ [.obj o]) (td ++ [tk]) := by
  induction h with
  | nil => exact .cons e .nil
  | cons e' _ ih => exact .cons e' ih
theorem Toks.len {σ : Store} {vs : List V} {td : List TK} (h : Toks σ vs td) : vs.length = td.length := by
  induction h with
  | nil => rfl
  | cons _ _ ih => rw [List.length_cons, List.length_cons, ih]
theorem Toks.last {σ : Store} {vs : List V} {td : List TK} {tk : TK} (h : Toks σ vs (td ++ [tk])) : ∃ ws o, vs = ws ++ [.obj o] ∧ σ[o]? = some (tokC tk) := by
  generalize e : td ++ [tk] = l at h
  induction h generalizing td with
  | nil => simp at e
  | cons e' h ih =>
    rename_i o tk' vs tks
    cases td with
    | nil =>
      simp only [List.nil_append, List.cons.injEq] at e
      obtain ⟨rfl, rfl⟩ := e
      cases h
      exact ⟨[], o, rfl, e'⟩
    | cons a td =>
      simp only [List.cons_append, List.cons.injEq] at e
      obtain ⟨ws, o', rfl, h'⟩ := ih e.2
      exact ⟨.obj o :: ws, o', rfl, h'⟩

theorem getLastD_snoc {α : Type} (l : List α) (a d : α) : (l ++ [a]).getLastD d = a := by simp

theorem map_snoc (hs : List Nat) (h : Nat) : (hs ++ [h]).map (fun h => V.int (h : Nat)) = hs.map (fun h => V.int (h : Nat)) ++ [.int (h : Nat)] := by simp
/-- one more, one less at the last place -/
theorem p_augLast {CT : CTy} {env : Lo} {σ : Store} {K : Fl → Lo → Store → Prop} {o : X} {j : Nat} {ws : List V} {x y : Int} {op : Operator} (ho : ∀ P : V → Store → Prop, P (.obj j) σ → (wp CT o).e env σ P) (hj : σ[j]? = some (.list (ws ++ [.int x])))
    (hop : (op = .Add ∧ y = x + 1) ∨ (op = .Sub ∧ y = x - 1)) (h : K .next env (σ.set j (.list (ws ++ [.int y])))) : wpS CT (.augI o (.int (-1)) op (.int 1)) env σ K := by
  show (wp CT o).e env σ _
  refine ho _ ?_
  refine e_int (p_lst hj (p_some (seqL (by simp)) ⟨by lia, by lia, e_int ⟨rfl, ?_⟩⟩))
  have e1 : (ws ++ [V.int x]).length - 1 = ws.length := by simp
  have e2 : (ws ++ [V.int x]).getD ws.length .none = .int x := by simp
  have e3 : ∀ y, (ws ++ [V.int x]).set ws.length (.int y) = ws ++ [.int y] := by intro y; simp
  rw [e1, e2]
  rcases hop with ⟨rfl, rfl⟩ | ⟨rfl, rfl⟩
  · refine a_add ⟨rfl, ?_⟩
    rw [e3]; exact h
  · refine a_sub ⟨rfl, ?_⟩
    rw [e3]; exact h


section
variable {c : Cx} {GT : List (Str × Value)} (H : Chk c GT) {n : Nat} {σ : Store} {Q : V → Store → Prop} {t : List Nat} {k : Nat} (ht : t.length ≤ 1000000) {jd jr js : Nat} {td : List (Nat × Nat)}
include H ht
theorem rescan_spec {x a i : Nat} {tk : TK} {r ck : List Nat} {len cl : Nat} {b : Bool} (hs : σ[js]? = some (scC t a jd (.obj i))) (hi : σ[i]? = some (tokC tk)) (h5 : tk.kind = 5) (hx : tk.text = [125]) (hr : t.drop tk.at_ = x :: r) (hR : TplR r ck len cl b)
    (hl : td.length < 800000) (D : DS σ jd jr td)
    (q : ∀ σ' i', Ext [jr, js] σ σ' → DS σ' jd jr (td ++ fl1 (if cl = 2 then some 1160 else if b then some 1127 else none) tk.at_) → σ'[i']? = some (tokC ⟨if cl = 0 then 8 else 9, ck, 0, tk.at_, tk.at_ + (1 + len), tk.line⟩) → σ'[js]? = some (scC t (tk.at_ + (1 + len)) jd (.obj i')) → Q (.obj i') σ') : CallT c (n + 7) 389 [.obj js] σ Q := by
  have hne : jr ≠ js := by
    rintro rfl
    obtain ⟨rows, h1, h2⟩ := D.hr
    rw [hs] at h1; cases h1
  refine fn_sound H.k_Scanner_rescan_template H.gt rfl ?_; unfold b_Scanner_rescan_template
  refine st_seq (st_asg ?_)
  walk_at "se"
  refine p_attr hs (d := .obj i) (by rfl) ?_
  refine st_seq (st_ifs ?_)
  walk_at "se"
  refine if_f rfl ?_
  walk_at "se"
  refine is_brace_spec H ht hi ?_
  rw [decide_eq_true h5, decide_eq_true hx]
  walk_at "se"
  refine if_f rfl ?_
  refine st_skip ?_
  refine st_seq (st_asg ?_)
  walk_at "se"
  refine p_attr hs (d := .str t) (by rfl) ?_
  walk_at "se"
  refine p_attr hs (d := .obj jd) (by rfl) ?_
  walk_at "se"
  refine p_attr hi (d := .int (tk.at_ : Nat)) (by rfl) ?_
  walk_at "se"
  refine p_attr hi (d := .bool tk.line) (by rfl) ?_
  walk_at "se"
  refine template_token_spec (kh := 8) (kl := 9) H ht hR hr (by lia) D fun σ' i' E D' hi' => ?_
  have hs' := E.keep _ _ hs (by simpa using Ne.symm hne)
  refine st_seq (st_setA ?_)
  walk_at "se"
  refine p_attr hi' (d := .int ((tk.at_ + (1 + len) : Nat) : Int)) (by rfl) ?_
  walk_at "se"
  refine p_setA hs' (Nat.le_of_ble_eq_true rfl) ?_
  have hs₂ := get_set (cl' := .inst 392 (setF "at" (.int ((tk.at_ + (1 + len) : Nat) : Int)) [("text", .str t), ("at", .int (a : Nat)), ("diags", .obj jd), ("last", .obj i)])) hs'
  have E₂ : Ext [js] σ' _ := Ext.setS (fs' := setF "at" (.int ((tk.at_ + (1 + len) : Nat) : Int)) [("text", .str t), ("at", .int (a : Nat)), ("diags", .obj jd), ("last", .obj i)]) hs' (by simp)
  refine st_seq (st_setA ?_)
  walk_at "se"
  refine p_setA hs₂ (Nat.le_of_ble_eq_true rfl) ?_
  have E₃ := Ext.setS (J := [js]) (fs' := setF "last" (.obj i') (setF "at" (.int ((tk.at_ + (1 + len) : Nat) : Int)) [("text", .str t), ("at", .int (a : Nat)), ("diags", .obj jd), ("last", .obj i)])) hs₂ (by simp)
  walk_at "st"
  exact q _ i' ((E.wk (by repeat' first | exact sb_0 | exact .head _ | refine sb_c ?_ ?_ | apply List.Mem.tail)).trans ((E₂.trans E₃).wk (by repeat' first | exact sb_0 | exact .head _ | refine sb_c ?_ ?_ | apply List.Mem.tail))) (D'.ext (E₂.trans E₃) (by simpa using hne)) ((E₂.trans E₃).inst _ _ _ (by decide) hi') (get_set hs₂)

theorem follow_spec {i jh : Nat} {tk : TK} {hs hs' : List Nat} (hi : σ[i]? = some (tokC tk)) (hj : σ[jh]? = some (holV hs)) (hH : Hole hs tk hs') (hl : hs.length < 900000)
    (q : ∀ σ', Ext [jh] σ σ' → σ'[jh]? = some (holV hs') → Q (.obj i) σ') : CallT c (n + 8) 403 [.obj js, .obj i, .obj jh] σ Q := by
  unfold holV at hj
  have attrK : ∀ {σ : Store} {Q : V → Store → Prop}, σ[i]? = some (tokC tk) → Q (.int (tk.kind : Nat)) σ → attrV 140 "kind" (.obj i) σ Q := fun hi q => p_attr hi (d := .int (tk.kind : Nat)) (by rfl) q
  refine fn_sound H.k_follow_hole H.gt rfl ?_; unfold b_follow_hole
  refine st_seq (st_ifs ?_)
  walk_at "se"
  refine attrK hi ?_
  walk_at "se"
  cases hH with
  | head h7 =>
    walk_at "se"
    refine st_seq (st_expr ?_)
    walk_at "se"
    refine ⟨mo_list (.inl rfl) hj, ?_⟩
    walk_at "se"
    refine p_append hj (by rw [List.length_map]; lia) ?_
    have hj' := get_set (cl' := .list (hs.map (fun h => V.int (h : Nat)) ++ [.int 0])) hj
    have E : Ext [jh] σ _ := Ext.setL (ds' := hs.map (fun h => V.int (h : Nat)) ++ [.int 0]) hj (by simp)
    have hi' := E.inst _ _ _ (by decide) hi
    walk_at "se"
    refine st_skip ?_
    refine st_seq (st_ifs ?_)
    walk_at "se"
    refine tru_obj hj' ?_
    rw [show (hs.map (fun h => V.int (h : Nat)) ++ [V.int 0]).isEmpty = false by simp]
    refine if_f rfl ?_
    refine st_skip ?_
    refine st_seq (st_ifs ?_)
    walk_at "se"
    refine is_brace_spec H ht hi' ?_
    rw [decide_eq_false (show ¬ tk.kind = 5 by lia)]
    walk_at "se"
    refine if_f rfl ?_
    refine st_seq (st_ifs ?_)
    walk_at "se"
    refine is_brace_spec H ht hi' ?_
    rw [decide_eq_false (show ¬ tk.kind = 5 by lia)]
    walk_at "se"
    refine if_f rfl (if_ff ?_)
    refine st_seq (st_ifs ?_)
    walk_at "se"
    refine is_brace_spec H ht hi' ?_
    rw [decide_eq_false (show ¬ tk.kind = 5 by lia)]
    walk_at "se"
    refine if_f rfl ?_
    walk_at "st"
    refine q _ E ?_
    rw [hj']; unfold holV; rw [map_snoc]; rfl
  | none h7 =>
    walk_at "se"
    refine st_skip ?_
    refine st_seq (st_ifs ?_)
    walk_at "se"
    refine tru_obj hj ?_
    refine if_t rfl ?_
    walk_at "st"
    exact q _ (Ext.refl _ _) hj
  | opn h5 hx =>
    rename_i hs h
    rw [map_snoc] at hj
    walk_at "se"
    refine st_skip ?_
    refine st_seq (st_ifs ?_)
    walk_at "se"
    refine tru_obj hj ?_
    rw [show (hs.map (fun h => V.int (h : Nat)) ++ [V.int (h : Nat)]).isEmpty = false by simp]
    refine if_f rfl ?_
    refine st_skip ?_
    refine st_seq (st_ifs ?_)
    walk_at "se"
    refine is_brace_spec H ht hi ?_
    rw [decide_eq_true h5, decide_eq_true hx]
    walk_at "se"
    refine if_t rfl ?_
    refine st_seq (p_augLast (y := ((h + 1 : Nat) : Int)) (fun P hP => e_loc rfl hP) hj (.inl ⟨rfl, rfl⟩) ?_)
    walk_at "st"
    refine q _ (Ext.setL hj (by simp)) ?_
    rw [get_set hj]; unfold holV; rw [map_snoc]
  | cls h5 hx =>
    rename_i hs h
    rw [map_snoc] at hj
    walk_at "se"
    refine st_skip ?_
    refine st_seq (st_ifs ?_)
    walk_at "se"
    refine tru_obj hj ?_
    rw [show (hs.map (fun h => V.int (h : Nat)) ++ [V.int ((h + 1 : Nat) : Int)]).isEmpty = false by simp]
    refine if_f rfl ?_
    refine st_skip ?_
    refine st_seq (st_ifs ?_)
    walk_at "se"
    refine is_brace_spec H ht hi ?_
    rw [decide_eq_true h5, hx]
    walk_at "se"
    refine if_f rfl ?_
    refine st_seq (st_ifs ?_)
    walk_at "se"
    refine is_brace_spec H ht hi ?_
    rw [decide_eq_true h5, decide_eq_true hx]
    walk_at "se"
    refine if_t rfl ?_
    walk_at "se"
    refine p_idxLast hj (by simp) ?_
    rw [getLastD_snoc]
    walk_at "se"
    refine st_seq (p_augLast (y := (h : Int)) (fun P hP => e_loc rfl hP) hj (.inr ⟨rfl, by lia⟩) ?_)
    walk_at "st"
    refine q _ (Ext.setL hj (by simp)) ?_
    rw [get_set hj]; unfold holV; rw [map_snoc]
  | oth h7 hx =>
    rename_i hs h
    rw [map_snoc] at hj
    have a1 : (decide (tk.kind = 5) && decide (tk.text = [123])) = false := by
      by_cases h5 : tk.kind = 5
      · rw [decide_eq_false (fun z => hx ⟨h5, .inl z⟩), Bool.and_false]
      · rw [decide_eq_false h5, Bool.false_and]
    have a2 : (decide (tk.kind = 5) && decide (tk.text = [125])) = false := by
      by_cases h5 : tk.kind = 5
      · rw [decide_eq_false (fun z => hx ⟨h5, .inr z⟩), Bool.and_false]
      · rw [decide_eq_false h5, Bool.false_and]
    walk_at "se"
    refine st_skip ?_
    refine st_seq (st_ifs ?_)
    walk_at "se"
    refine tru_obj hj ?_
    rw [show (hs.map (fun h => V.int (h : Nat)) ++ [V.int (h : Nat)]).isEmpty = false by simp]
    refine if_f rfl ?_
    refine st_skip ?_
    refine st_seq (st_ifs ?_)
    walk_at "se"
    refine is_brace_spec H ht hi ?_
    rw [a1]
    walk_at "se"
    refine st_seq (st_ifs ?_)
    walk_at "se"
    refine is_brace_spec H ht hi ?_
    rw [a2]
    walk_at "se"
    refine st_seq (st_ifs ?_)
    walk_at "se"
    refine is_brace_spec H ht hi ?_
    rw [a2]
    walk_at "st"
    refine q _ (Ext.refl _ _) ?_
    rw [hj]; unfold holV; rw [map_snoc]

theorem follow_rescan {x a i jh : Nat} {tk : TK} {hs r ck : List Nat} {len cl : Nat} {b : Bool} (hs' : σ[js]? = some (scC t a jd (.obj i))) (hi : σ[i]? = some (tokC tk)) (hj : σ[jh]? = some (holV (hs ++ [0]))) (h5 : tk.kind = 5) (hx : tk.text = [125]) (hr : t.drop tk.at_ = x :: r) (hR : TplR r ck len cl b)
    (hl : td.length < 800000) (D : DS σ jd jr td) (hne : jh ≠ jr)
    (q : ∀ σ' i', Ext [jr, js, jh] σ σ' → DS σ' jd jr (td ++ fl1 (if cl = 2 then some 1160 else if b then some 1127 else none) tk.at_) → σ'[i']? = some (tokC ⟨if cl = 0 then 8 else 9, ck, 0, tk.at_, tk.at_ + (1 + len), tk.line⟩) → σ'[js]? = some (scC t (tk.at_ + (1 + len)) jd (.obj i')) → σ'[jh]? = some (holV (if cl = 0 then hs ++ [0] else hs)) → Q (.obj i') σ') : CallT c (n + 8) 403 [.obj js, .obj i, .obj jh] σ Q := by
  unfold holV at hj
  rw [map_snoc] at hj
  have hne2 : jh ≠ js := by
    rintro rfl
    rw [hs'] at hj; cases hj
  refine fn_sound H.k_follow_hole H.gt rfl ?_; unfold b_follow_hole
  refine st_seq (st_ifs ?_)
  walk_at "se"
  refine p_attr hi (d := .int (tk.kind : Nat)) (by rfl) ?_
  walk_at "se"
  refine st_skip ?_
  refine st_seq (st_ifs ?_)
  walk_at "se"
  refine tru_obj hj ?_
  rw [show (hs.map (fun h => V.int (h : Nat)) ++ [V.int ((0 : Nat) : Int)]).isEmpty = false by simp]
  refine if_f rfl ?_
  refine st_skip ?_
  refine st_seq (st_ifs ?_)
  walk_at "se"
  refine is_brace_spec H ht hi ?_
  rw [decide_eq_true h5, hx]
  walk_at "se"
  refine if_f rfl ?_
  refine st_seq (st_ifs ?_)
  walk_at "se"
  refine is_brace_spec H ht hi ?_
  rw [decide_eq_true h5, decide_eq_true hx]
  walk_at "se"
  refine if_t rfl ?_
  walk_at "se"
  refine p_idxLast hj (by simp) ?_
  rw [getLastD_snoc]
  walk_at "se"
  refine st_seq (st_ifs ?_)
  walk_at "se"
  refine is_brace_spec H ht hi ?_
  rw [decide_eq_true h5, decide_eq_true hx]
  walk_at "se"
  refine if_t rfl ?_
  refine st_seq (st_asg ?_)
  walk_at "se"
  refine p_uok hs' (by rfl) ?_
  walk_at "se"
  refine rescan_spec H ht hs' hi h5 hx hr hR hl D fun σ' i' E D' hi' hs'' => ?_
  have hj' := E.keep _ _ hj (by simpa using ⟨hne, hne2⟩)
  refine st_seq (st_ifs ?_)
  walk_at "se"
  refine p_attr hi' (d := .int (((if cl = 0 then 8 else 9 : Nat)) : Int)) (by rfl) ?_
  walk_at "se"
  by_cases h : cl = 0
  · rw [if_pos h, if_pos h] at q
    rw [if_pos h] at hi'
    rw [if_pos h]
    walk_at "st"
    refine q _ _ (E.wk (by repeat' first | exact sb_0 | exact .head _ | refine sb_c ?_ ?_ | apply List.Mem.tail)) D' hi' hs'' ?_
    rw [hj']; unfold holV; rw [map_snoc]
  · rw [if_neg h, if_neg h] at q
    rw [if_neg h] at hi'
    rw [if_neg h]
    refine if_t rfl ?_
    refine st_seq (st_expr ?_)
    walk_at "se"
    refine ⟨mo_list (.inr rfl) hj', ?_⟩
    walk_at "se"
    refine p_pop hj' (by simp) ?_
    rw [getLastD_snoc]
    walk_at "st"
    have E₂ : Ext [jh] σ' _ := Ext.setL (ds' := (hs.map (fun h => V.int (h : Nat)) ++ [V.int ((0 : Nat) : Int)]).dropLast) hj' (by simp)
    refine q _ _ ((E.wk (by repeat' first | exact sb_0 | exact .head _ | refine sb_c ?_ ?_ | apply List.Mem.tail)).trans (E₂.wk (by repeat' first | exact sb_0 | exact .head _ | refine sb_c ?_ ?_ | apply List.Mem.tail))) (D'.ext E₂ (by simpa using Ne.symm hne)) (E₂.inst _ _ _ (by decide) hi') (E₂.keep _ _ hs'' (by simpa using Ne.symm hne2)) ?_
    rw [get_set hj']; unfold holV; simp
end
end
section
noncomputable def dgNum (σ : Store) (v : V) : V := match v with
  | .obj o => match σ[o]? with
    | some (.inst _ ((_, x) :: _)) => x
    | _ => .none
  | _ => .none
theorem hideG {g : Prop} (h : ∀ P : Prop, (g → P) → P) : g := h g id
theorem Rows.nums {σ : Store} {vs : List V} {td : List (Nat × Nat)} (h : Rows σ vs td) : vs.map (dgNum σ) = td.map (fun p => V.int (p.1 : Nat)) := by
  induction h with
  | nil => rfl
  | cons e _ ih =>
    rw [List.map_cons, List.map_cons, ih]
    congr 1
    show (match σ[_]? with
    | some (Cell.inst _ ((_, x) :: _)) => x
    | _ => V.none) = _
    rw [e]
    rfl
theorem intsOf_map {α : Type} (f : α → Nat) : ∀ l : List α, intsOf (l.map fun p => V.int (f p : Nat)) = some (l.map fun p => ((f p : Nat) : Int))
  | [] => rfl
  | x :: l => by rw [List.map_cons, intsOf, intsOf_map f l]; rfl
theorem Rows.mem {σ : Store} {vs : List V} {td : List (Nat × Nat)} (h : Rows σ vs td) : ∀ v ∈ vs, ∃ o a b args, v = .obj o ∧ σ[o]? = some (dgC a b args) := by
  induction h with
  | nil => exact fun _ h => nomatch h
  | cons e _ ih =>
    intro v hv
    rcases List.mem_cons.mp hv with rfl | hv
    · exact ⟨_, _, _, _, rfl, e⟩
    · exact ih v hv

theorem Run.use {G : Prop} {line : Bool} {hs hf r : List Nat} {k : Nat} {tks : List TK} {f : List (Nat × Nat)} (h : Run line hs r k tks f hf)
    (a : ∀ tk, Take line r k tk f → tk.kind = 0 → tks = [tk] → hs = hf → G)
    (b : ∀ hs' tk tks' f1 f2, Take line r k tk f1 → tk.kind ≠ 0 → Hole hs tk hs' → k ≤ tk.end_ → tk.end_ ≤ k + r.length → Run false hs' (r.drop (tk.end_ - k)) tk.end_ tks' f2 hf → tks = tk :: tks' → f = f1 ++ f2 → G)
    (d : ∀ (b : Bool) hs' r1 ck len cl x tk tks' f1 f2, Take line r k tk f1 → tk.kind = 5 → tk.text = [125] → k ≤ tk.at_ → r.drop (tk.at_ - k) = x :: r1 → TplR r1 ck len cl b → tk.at_ + (1 + len) ≤ k + r.length →
      Run false (if cl = 0 then hs' ++ [0] else hs') (r.drop (tk.at_ - k + (1 + len))) (tk.at_ + (1 + len)) tks' f2 hf → hs = hs' ++ [0] →
      tks = ⟨if cl = 0 then 8 else 9, ck, 0, tk.at_, tk.at_ + (1 + len), tk.line⟩ :: tks' → f = f1 ++ fl1 (if cl = 2 then some 1160 else if b then some 1127 else none) tk.at_ ++ f2 → G) : G := by
  induction h using Run.casesOn with
  | fin h1 h2 => exact a _ h1 h2 rfl rfl
  | step h1 h2 h3 h4 h5 h6 => exact b _ _ _ _ _ h1 h2 h3 h4 h5 h6 rfl rfl
  | rescan h1 h2 h3 h4 h5 h6 h7 h8 => exact d _ _ _ _ _ _ _ _ _ _ _ h1 h2 h3 h4 h5 h6 h7 h8 rfl rfl rfl

section
variable {c : Cx} {GT : List (Str × Value)} (H : Chk c GT) {n : Nat} {σ : Store} {Q : V → Store → Prop} {t : List Nat} {k : Nat} (ht : t.length ≤ 1000000) {jd jr js : Nat} {td : List (Nat × Nat)}
include H
theorem numbers_spec (D : DS σ jd jr td) (q : Q (.obj σ.length) (σ ++ [.list (td.map fun p => .int (p.1 : Nat))])) : CallT c (n + 1) 110 [.obj jd] σ Q := by
  obtain ⟨rows, h1, h2⟩ := D.hr
  refine fn_sound H.k_Diags_numbers H.gt rfl ?_; unfold b_Diags_numbers
  refine st_seq (st_ret (e_comp ?_))
  walk_at "se"
  refine p_attr D.hd (d := .obj jr) (by rfl) ?_
  refine p_lst h1 ⟨dgNum σ, fun d hd acc => ?_, ?_⟩
  · obtain ⟨o, a, b, args, rfl, ho⟩ := h2.mem d hd
    walk_at "se"
    refine p_attr (get_app ho) (d := .int (a : Nat)) (by rfl) ⟨rfl, ?_⟩
    unfold dgNum
    dsimp only
    rw [ho]
    rfl
  · rw [h2.nums]
    exact q
include ht
noncomputable def finF (hf : List Nat) (f : List (Nat × Nat)) (e : Nat) : List (Nat × Nat) := if hf ≠ [] ∧ 1160 ∉ f.map (·.1) then f ++ [(1160, e)] else f

theorem scan_all_spec {toks : List TK} {lt : TK} {f : List (Nat × Nat)} {hf : List Nat} (hR : Run false [] t 0 (toks ++ [lt]) f hf) (hl1 : toks.length < 800000) (hl2 : f.length < 790000) (D : DS σ jd jr [])
    (q : ∀ σ' jo os, Ext [jr] σ σ' → DS σ' jd jr (finF hf f lt.at_) → σ'[jo]? = some (.list os) → Toks σ' os (toks ++ [lt]) → Q (.obj jo) σ') : CallT c (n + 9) 410 [.str t, .obj jd] σ Q := by
  have hjr : jr < σ.length := by obtain ⟨rows, h1, _⟩ := D.hr; exact lt_get h1
  refine fn_sound H.k_scan_all H.gt rfl ?_; unfold b_scan_all
  refine st_seq (st_asg ?_)
  walk_at "se"
  refine scanner_init H ht ⟨rfl, ?_⟩
  refine st_seq (st_asg ?_)
  walk_at "se"
  refine st_seq (st_asg ?_)
  walk_at "se"
  obtain ⟨js, ejs⟩ : ∃ js, σ.length = js := ⟨_, rfl⟩
  obtain ⟨jh, ejh⟩ : ∃ jh, (σ ++ [scC t 0 jd V.none]).length = jh := ⟨_, rfl⟩
  obtain ⟨jo, ejo⟩ : ∃ jo, (σ ++ [scC t 0 jd V.none] ++ [Cell.list []]).length = jo := ⟨_, rfl⟩
  have hjs : (σ ++ [scC t 0 jd V.none])[js]? = some (scC t 0 jd .none) := by rw [← ejs]; exact at_new
  have hjh : (σ ++ [scC t 0 jd V.none] ++ [Cell.list []])[jh]? = some (holV []) := by rw [← ejh]; exact at_new
  have hjo : (σ ++ [scC t 0 jd V.none] ++ [Cell.list []] ++ [Cell.list []])[jo]? = some (.list []) := by rw [← ejo]; exact at_new
  have n1 : js < jh ∧ jh < jo ∧ jr < js := by
    rw [List.length_append] at ejh ejo
    rw [List.length_append] at ejo
    simp only [List.length_cons, List.length_nil] at ejh ejo
    lia
  rw [ejs, ejh, ejo]
  obtain ⟨σ₀, eσ₀⟩ : ∃ σ₀, σ ++ [scC t 0 jd V.none] ++ [Cell.list []] ++ [Cell.list []] = σ₀ := ⟨_, rfl⟩
  have E₀ : Ext [jr] σ σ₀ := by rw [← eσ₀]; exact ((Ext.push _ _ _).trans (Ext.push _ _ _)).trans (Ext.push _ _ _)
  have D₀ : DS σ₀ jd jr [] := by
    rw [← eσ₀]
    exact D.ext (J := []) (((Ext.push _ _ _).trans (Ext.push _ _ _)).trans (Ext.push _ _ _)) (by simp)
  have hjs₀ : σ₀[js]? = some (scC t 0 jd .none) := by rw [← eσ₀]; exact get_app (get_app hjs)
  have hjh₀ : σ₀[jh]? = some (holV []) := by rw [← eσ₀]; exact get_app hjh
  have hjo₀ : σ₀[jo]? = some (.list []) := by rw [← eσ₀]; exact hjo
  rw [eσ₀]
  have loop : ∀ K : Fl → Lo → Store → Prop, (∀ σ' os, Ext [jr, js, jh, jo] σ₀ σ' → DS σ' jd jr f → σ'[jh]? = some (holV hf) → σ'[jo]? = some (.list os) → Toks σ' os (toks ++ [lt]) → K .next [some (.str t), some (.obj jd), some (.obj js), some (.obj jh), some (.obj jo)] σ') →
      wpS (CallT c (n + 8)) w_scan_all_1 [some (.str t), some (.obj jd), some (.obj js), some (.obj jh), some (.obj jo)] σ₀ K := by
    intro K hK
    unfold w_scan_all_1
    obtain ⟨I, hI⟩ : ∃ I : Nat → Lo → Store → Prop, ∀ z env σ', I z env σ' ↔ (∀ G : Nat → Lo → Prop, (∀ (k : Nat) (hs : List Nat) (tks done : List TK) (f' fd : List (Nat × Nat)) (os : List V) (last : V), Ext [jr, js, jh, jo] σ₀ σ' → DS σ' jd jr fd → fd ++ f' = f → done ++ tks = toks ++ [lt] → σ'[js]? = some (scC t k jd last) → σ'[jh]? = some (holV hs) → σ'[jo]? = some (.list os) → Toks σ' os done → hs.length ≤ done.length →
        ((tks = [] ∧ f' = [] ∧ hs = hf ∧ lt.kind = 0) ∨ ((∀ tk ∈ done, tk.kind ≠ 0) ∧ k ≤ t.length ∧ Run false hs (t.drop k) k tks f' hf)) → G tks.length [some (.str t), some (.obj jd), some (.obj js), some (.obj jh), some (.obj jo)]) → G z env) := ⟨_, fun _ _ _ => Iff.rfl⟩
    refine whl_I I _ ((hI _ _ _).mpr fun _ g => g 0 [] (toks ++ [lt]) [] f [] [] V.none (Ext.refl _ _) D₀ rfl rfl hjs₀ hjh₀ hjo₀ .nil (Nat.zero_le _) (.inr ⟨(fun _ h => nomatch h), Nat.zero_le _, hR⟩)) ?_
    intro z env σ' hz
    apply (hI _ _ _).mp hz
    intro k hs tks done f' fd os last E D' ef et hs' hh' ho' hT hsl hcase
    clear hz
    have hol := hT.len
    have hlen : done.length + tks.length = toks.length + 1 := by
      have := congrArg List.length et
      simpa using this
    have hfl : fd.length + f'.length = f.length := by
      have := congrArg List.length ef
      simpa using this
    walk_at "se"
    refine tru_obj ho' ?_
    refine hideG fun P hP => ?_
    (rcases hcase with ⟨e1, e2, e3, h0⟩ | ⟨hd, hk, hR'⟩ <;> (refine hP ?_; clear hP P))
    · rw [e1, List.append_nil] at et
      rw [e2, List.append_nil] at ef
      rw [et] at hT
      rw [ef] at D'
      rw [e3] at hh'
      refine hideG fun P hP => ?_
      obtain ⟨ws, o, rfl, ho⟩ := hT.last
      refine hP ?_
      clear hP P
      rw [show (ws ++ [V.obj o]).isEmpty = false by simp]
      refine if_f rfl ?_
      walk_at "se"
      refine p_idxLast ho' (by simp) ?_
      rw [getLastD_snoc]
      refine p_attr ho (d := .int (lt.kind : Nat)) (by rfl) ?_
      walk_at "se"
      walk_at "se"
      exact hK _ _ E D' hh' ho' hT
    · have body : wpS (CallT c (n + 8)) (.seq (.expr (.mth .append (.loc 4) (.cons (.call 53 403 (.cons (.loc 2) (.cons (.ucall 392 382 "take" (.loc 2) .nil) (.cons (.loc 3) .nil)))) .nil))) .skip) [some (.str t), some (.obj jd), some (.obj js), some (.obj jh), some (.obj jo)] σ' (whlK (fun env' σ₂ => ∃ m, m < tks.length ∧ I m env' σ₂) K) := by
        refine st_seq (st_expr ?_)
        walk_at "se"
        refine ⟨mo_list (.inl rfl) ho', ?_⟩
        walk_at "se"
        refine p_uok hs' (by rfl) ?_
        walk_at "se"
        have app : ∀ (σ₃ : Store) (i' : Nat) (tk' : TK) (tks' : List TK) (fd' f'' : List (Nat × Nat)) (hs'' : List Nat) (k' : Nat) (last' : V), Ext [jr, js, jh] σ' σ₃ → DS σ₃ jd jr fd' → fd' ++ f'' = f → tks = tk' :: tks' → σ₃[i']? = some (tokC tk') → σ₃[js]? = some (scC t k' jd last') → σ₃[jh]? = some (holV hs'') → hs''.length ≤ hs.length + 1 →
            ((tks' = [] ∧ f'' = [] ∧ hs'' = hf ∧ tk'.kind = 0) ∨ (tk'.kind ≠ 0 ∧ k' ≤ t.length ∧ Run false hs'' (t.drop k') k' tks' f'' hf)) →
            mthV .append (.obj jo) [.obj i'] σ₃ (fun v σ' => onDrop v (seqK (fun env' σ' => wpS (CallT c (n + 8)) .skip env' σ' (whlK (fun env' σ₂ => ∃ m, m < tks.length ∧ I m env' σ₂) K)) (whlK (fun env' σ₂ => ∃ m, m < tks.length ∧ I m env' σ₂) K) .next [some (.str t), some (.obj jd), some (.obj js), some (.obj jh), some (.obj jo)] σ')) := by
          intro σ₃ i' tk' tks' fd' f'' hs'' k' last' E₃ D₃ e1 e2 hi hs₃ hh₃ hsl' hc
          subst e2
          have ho₃ := E₃.keep _ _ ho' (by (repeat' first | exact nm_0 | refine nm_c ?_ ?_) <;> lia)
          refine p_append ho₃ (by simp only [List.length_cons] at hlen; lia) ?_
          have E₄ : Ext [jo] σ₃ _ := Ext.setL (ds' := os ++ [.obj i']) ho₃ (by simp)
          refine st_skip ⟨tks'.length, by simp, (hI _ _ _).mpr fun _ g => g k' hs'' tks' (done ++ [tk']) f'' fd' (os ++ [.obj i']) last' ((E.trans (E₃.wk (by repeat' first | exact sb_0 | exact .head _ | refine sb_c ?_ ?_ | apply List.Mem.tail))).trans (E₄.wk (by repeat' first | exact sb_0 | exact .head _ | refine sb_c ?_ ?_ | apply List.Mem.tail))) (D₃.ext E₄ (by (repeat' first | exact nm_0 | refine nm_c ?_ ?_) <;> lia)) e1 (by rw [← et]; simp) (E₄.keep _ _ hs₃ (by (repeat' first | exact nm_0 | refine nm_c ?_ ?_) <;> lia)) (E₄.keep _ _ hh₃ (by (repeat' first | exact nm_0 | refine nm_c ?_ ?_) <;> lia)) (get_set ho₃) (((hT.ext E₃).ext E₄).snoc (E₄.inst _ _ _ (by decide) hi)) (by rw [List.length_append]; simp only [List.length_cons, List.length_nil]; lia) ?_⟩
          rcases hc with ⟨rfl, rfl, rfl, h0⟩ | ⟨h0, h1, h2⟩
          · refine .inl ⟨rfl, rfl, rfl, ?_⟩
            have := congrArg List.getLast? et
            simp at this
            rw [← this]; exact h0
          · refine .inr ⟨fun tk h => ?_, h1, h2⟩
            rcases List.mem_append.mp h with h | h
            · exact hd tk h
            · rw [List.mem_singleton.mp h]; exact h0
        refine hR'.use (fun tk hT1 h0 e1 e2 => ?_) (fun hs₁ tk tks₁ f₁ f₂ hT1 h0 hH h1 h2 h3 e1 e2 => ?_) (fun b hs₀ r1 ck len cl x tk tks₁ f₁ f₂ hT1 h5 hx h1 h2 h3 h4 h6 e3 e1 e2 => ?_)
        · refine take_spec H ht hT1 hk (by rw [← ef, List.length_append] at hl2; rw [List.length_append]; lia) D' hs' fun σ₂ i E₂ D₂ hi₂ hs₂ => ?_
          walk_at "se"
          have hh₂ := E₂.keep _ _ hh' (by (repeat' first | exact nm_0 | refine nm_c ?_ ?_) <;> lia)
          have hH : Hole hs tk hs := by
            rcases List.eq_nil_or_concat hs with rfl | ⟨ws, w, rfl⟩
            · exact .none (by lia)
            · rw [List.concat_eq_append]; exact .oth (by lia) (by lia)
          refine follow_spec H ht hi₂ hh₂ hH (by lia) fun σ₃ E₃ hh₃ => ?_
          walk_at "se"
          exact app σ₃ i tk [] (fd ++ f') [] hs tk.end_ (.obj i) ((E₂.wk (by repeat' first | exact sb_0 | exact .head _ | refine sb_c ?_ ?_ | apply List.Mem.tail)).trans (E₃.wk (by repeat' first | exact sb_0 | exact .head _ | refine sb_c ?_ ?_ | apply List.Mem.tail))) (D₂.ext E₃ (by (repeat' first | exact nm_0 | refine nm_c ?_ ?_) <;> lia)) (by rw [List.append_nil]; exact ef) e1 (E₃.inst _ _ _ (by decide) hi₂) (E₃.keep _ _ hs₂ (by (repeat' first | exact nm_0 | refine nm_c ?_ ?_) <;> lia)) hh₃ (by lia) (.inl ⟨rfl, rfl, e2, h0⟩)
        · rw [e2] at ef
          rw [e1] at hlen
          rw [List.length_drop] at h2
          refine take_spec H ht hT1 hk (by rw [← ef, List.length_append, List.length_append] at hl2; rw [List.length_append]; lia) D' hs' fun σ₂ i E₂ D₂ hi₂ hs₂ => ?_
          walk_at "se"
          have hh₂ := E₂.keep _ _ hh' (by (repeat' first | exact nm_0 | refine nm_c ?_ ?_) <;> lia)
          refine follow_spec H ht hi₂ hh₂ hH (by simp only [List.length_cons] at hlen; lia) fun σ₃ E₃ hh₃ => ?_
          walk_at "se"
          rw [List.drop_drop, a_ps (show k ≤ tk.end_ from h1)] at h3
          have hl' : hs₁.length ≤ hs.length + 1 := by
            cases hH <;> simp
          exact app σ₃ i tk tks₁ (fd ++ f₁) f₂ hs₁ tk.end_ (.obj i) ((E₂.wk (by repeat' first | exact sb_0 | exact .head _ | refine sb_c ?_ ?_ | apply List.Mem.tail)).trans (E₃.wk (by repeat' first | exact sb_0 | exact .head _ | refine sb_c ?_ ?_ | apply List.Mem.tail))) (D₂.ext E₃ (by (repeat' first | exact nm_0 | refine nm_c ?_ ?_) <;> lia)) (by rw [List.append_assoc]; exact ef) e1 (E₃.inst _ _ _ (by decide) hi₂) (E₃.keep _ _ hs₂ (by (repeat' first | exact nm_0 | refine nm_c ?_ ?_) <;> lia)) hh₃ hl' (.inr ⟨h0, by lia, h3⟩)
        · rw [e2] at ef
          rw [e1] at hlen
          rw [e3] at hh'
          have hsl₁ : hs.length = hs₀.length + 1 := by rw [e3, List.length_append]; rfl
          rw [List.length_drop] at h4
          have hl3 : (fd ++ f₁).length < 800000 := by rw [← ef, List.length_append, List.length_append] at hl2; rw [List.length_append]; simp only [List.length_append] at hl2; lia
          refine take_spec H ht hT1 hk hl3 D' hs' fun σ₂ i E₂ D₂ hi₂ hs₂ => ?_
          walk_at "se"
          have hh₂ := E₂.keep _ _ hh' (by (repeat' first | exact nm_0 | refine nm_c ?_ ?_) <;> lia)
          rw [List.drop_drop, a_ps (show k ≤ tk.at_ from h1)] at h2
          rw [List.drop_drop, a_psl (show k ≤ tk.at_ from h1)] at h6
          refine follow_rescan H ht hs₂ hi₂ hh₂ h5 hx h2 h3 hl3 D₂ (by lia) fun σ₃ i' E₃ D₃ hi₃ hs₃ hh₃ => ?_
          walk_at "se"
          exact app σ₃ i' _ tks₁ _ f₂ _ _ _ ((E₂.wk (by repeat' first | exact sb_0 | exact .head _ | refine sb_c ?_ ?_ | apply List.Mem.tail)).trans (E₃.wk (by repeat' first | exact sb_0 | exact .head _ | refine sb_c ?_ ?_ | apply List.Mem.tail))) D₃ (by rw [List.append_assoc, ← ef]; simp) e1 hi₃ hs₃ hh₃ (by rw [hsl₁]; split <;> simp (config := { failIfUnchanged := false }) <;> lia) (.inr ⟨by dsimp only; split <;> decide, by lia, h6⟩)
      cases os with
      | nil =>
        refine if_t rfl (if_t rfl ?_)
        exact body
      | cons v vs =>
        refine if_f rfl ?_
        have hne : done ≠ [] := by
          rintro rfl
          cases hT
        obtain ⟨ds, tk, rfl⟩ : ∃ ds tk, done = ds ++ [tk] := by
          rcases List.eq_nil_or_concat done with rfl | ⟨ws, w, rfl⟩
          · exact absurd rfl hne
          · exact ⟨ws, w, by rw [List.concat_eq_append]⟩
        refine hideG fun P hP => ?_
        obtain ⟨ws, o, e, ho⟩ := hT.last
        refine hP ?_
        clear hP P
        rw [e] at ho' hT
        walk_at "se"
        refine p_idxLast ho' (by simp) ?_
        rw [getLastD_snoc]
        refine p_attr ho (d := .int (tk.kind : Nat)) (by rfl) ?_
        have h0 := hd tk (by simp)
        walk_at "se"
        exact body
  refine st_seq (loop _ fun σ' os E D' hh' ho' hT => ?_)
  have fin : ∀ σ₂, Ext [jr] σ' σ₂ → DS σ₂ jd jr (finF hf f lt.at_) → wpS (CallT c (n + 8)) (.seq (.ret (.loc 4)) .skip) [some (.str t), some (.obj jd), some (.obj js), some (.obj jh), some (.obj jo)] σ₂ (retQ Q) := by
    intro σ₂ E₂ D₂
    walk_at "st"
    refine q σ₂ jo os ?_ D₂ (E₂.keep _ _ ho' (by (repeat' first | exact nm_0 | refine nm_c ?_ ?_) <;> lia)) (hT.ext E₂)
    have E₅ := (E₀.wk (J' := [jr, js, jh, jo]) (by simp)).trans (E.trans (E₂.wk (by repeat' first | exact sb_0 | exact .head _ | refine sb_c ?_ ?_ | apply List.Mem.tail)))
    refine ⟨E₅.len, fun i cl e hi => E₅.keep i cl e ?_, E₅.inst⟩
    have := lt_get e
    simp only [List.mem_cons, List.not_mem_nil, or_false] at hi ⊢
    rintro (rfl | rfl | rfl | rfl)
    · exact hi rfl
    · lia
    · lia
    · lia
  refine hideG fun P hP => ?_
  obtain ⟨ws, o, rfl, ho⟩ := hT.last
  refine hP ?_
  clear hP P
  unfold finF at fin
  refine st_seq (st_ifs ?_)
  walk_at "se"
  refine tru_obj hh' ?_
  rcases List.eq_nil_or_concat hf with rfl | ⟨hs₀, h₀, rfl⟩
  · rw [if_neg (fun z => z.1 rfl)] at fin
    refine if_f rfl (if_ff ?_)
    exact st_skip (fin σ' (Ext.refl _ _) D')
  · rw [List.concat_eq_append] at fin hh' ⊢
    rw [show ((hs₀ ++ [h₀]).map fun h => V.int (h : Nat)).isEmpty = false by simp]
    refine if_t rfl ?_
    walk_at "se"
    refine p_uok D'.hd (by rfl) ?_
    walk_at "se"
    refine numbers_spec H D' ?_
    refine pNotInL (l := f.map fun p => ((p.1 : Nat) : Int)) at_new (intsOf_map _ _) ?_
    walk_at "se"
    have E₂ : Ext [jr] σ' _ := Ext.push [jr] σ' (.list (f.map fun p => .int (p.1 : Nat)))
    have D₂ : DS (σ' ++ [.list (f.map fun p => .int (p.1 : Nat))]) jd jr f := D'.ext (J := []) (Ext.push _ _ _) (by simp)
    have hc : (f.map fun p => ((p.1 : Nat) : Int)).contains 1160 = decide (1160 ∈ f.map (·.1)) := by
      rw [Bool.eq_iff_iff, List.contains_iff_mem, decide_eq_true_eq, List.mem_map, List.mem_map]
      constructor
      · rintro ⟨p, h1, h2⟩; exact ⟨p, h1, by lia⟩
      · rintro ⟨p, h1, h2⟩; exact ⟨p, h1, by lia⟩
    rw [hc]
    by_cases h : 1160 ∈ f.map (·.1)
    · rw [if_neg (fun z => z.2 h)] at fin
      refine if_ndf h ?_
      exact st_skip (fin _ E₂ D₂)
    · rw [if_pos ⟨by simp, h⟩] at fin
      refine if_ndt h ?_
      refine st_seq (st_expr ?_)
      walk_at "se"
      refine p_uok D₂.hd (by rfl) ?_
      walk_at "se"
      refine p_idxLast (get_app ho') (by simp) ?_
      rw [getLastD_snoc]
      refine p_attr (get_app ho) (d := .int (lt.at_ : Nat)) (by rfl) ?_
      walk_at "se"
      refine put_spec (a := 1160) H D₂ (by lia) fun σ₃ E₃ D₃ => ?_
      walk_at "se"
      exact st_skip (fin σ₃ (E₂.trans E₃) D₃)
end
end
section
set_option maxHeartbeats 200000
structure Part where
  src : List Nat
  kind : Int
  cooked : Option (List Nat)
  num : Nat
  fault : Nat
structure WT where
  kind : Nat
  cooked : Option (List Nat)
  num : Nat
  at_ : Nat
  end_ : Nat
  line : Bool
noncomputable def Mat (t : TK) (w : WT) : Prop := t.kind = w.kind ∧ t.at_ = w.at_ ∧ t.end_ = w.end_ ∧ t.line = w.line ∧ ∀ c, w.cooked = some c → t.text = c ∧ t.num = w.num
inductive Mats : List TK → List WT → Prop
  | nil : Mats [] []
  | cons {t : TK} {w : WT} {ts : List TK} {ws : List WT} : Mat t w → Mats ts ws → Mats (t :: ts) (w :: ws)
theorem Mats.app {ts ts' : List TK} {ws ws' : List WT} (h : Mats ts ws) (h' : Mats ts' ws') : Mats (ts ++ ts') (ws ++ ws') := by
  induction h with
  | nil => exact h'
  | cons a _ ih => exact .cons a ih
theorem Mats.len {ts : List TK} {ws : List WT} (h : Mats ts ws) : ts.length = ws.length := by
  induction h with
  | nil => rfl
  | cons _ _ ih => rw [List.length_cons, List.length_cons, ih]

noncomputable def srcs : List Part → List Nat
  | [] => []
  | p :: ps => p.src ++ srcs ps
noncomputable def lineOf : List Part → Bool → Bool
  | [], l => l
  | p :: ps, l => lineOf ps (if 0 ≤ p.kind then false else l)
noncomputable def wantsOf : List Part → Nat → Bool → List WT
  | [], _, _ => []
  | p :: ps, k, l => (if 0 ≤ p.kind then [⟨p.kind.toNat, p.cooked, p.num, k, k + p.src.length, l⟩] else []) ++ wantsOf ps (k + p.src.length) (if 0 ≤ p.kind then false else l)
noncomputable def toldOf : List Part → Nat → List (Nat × Nat)
  | [], _ => []
  | p :: ps, k => (if 0 < p.fault then [(p.fault, k)] else []) ++ toldOf ps (k + p.src.length)

noncomputable def EatL (hs : List Nat) (ps : List Part) (hs' : List Nat) (F : List Nat → Prop) : Prop :=
  ∀ (line : Bool) (k : Nat) (rest : List Nat) (toks : List TK) (f : List (Nat × Nat)) (hf : List Nat), F rest → Run (lineOf ps line) hs' rest (k + (srcs ps).length) toks f hf →
    ∃ ts, Mats ts (wantsOf ps k line) ∧ Run line hs (srcs ps ++ rest) k (ts ++ toks) (toldOf ps k ++ f) hf

theorem EatL.nil {hs : List Nat} {F : List Nat → Prop} : EatL hs [] hs F := fun line k rest toks f hf _ h => ⟨[], .nil, h⟩
theorem EatL.wk {hs hs' : List Nat} {ps : List Part} {F G : List Nat → Prop} (h : EatL hs ps hs' F) (g : ∀ r, G r → F r) : EatL hs ps hs' G := fun line k rest toks f hf hF hR => h line k rest toks f hf (g _ hF) hR
theorem EatL.cons {hs hs₁ hs' : List Nat} {p : Part} {ps : List Part} {F G : List Nat → Prop} (h : EatL hs [p] hs₁ F) (h' : EatL hs₁ ps hs' G) (g : ∀ r, G r → F (srcs ps ++ r)) : EatL hs (p :: ps) hs' G := by
  intro line k rest toks f hf hG hR
  have e1 : (srcs [p]).length = p.src.length := by simp [srcs]
  obtain ⟨ts, m1, r1⟩ := h' (if 0 ≤ p.kind then false else line) (k + p.src.length) rest toks f hf hG (by
    rw [show k + p.src.length + (srcs ps).length = k + (srcs (p :: ps)).length by simp [srcs, Nat.add_assoc]]
    exact hR)
  obtain ⟨ts', m2, r2⟩ := h line k (srcs ps ++ rest) (ts ++ toks) (toldOf ps (k + p.src.length) ++ f) hf (g _ hG) (by rw [e1]; exact r1)
  refine ⟨ts' ++ ts, ?_, ?_⟩
  · have := m2.app m1
    simpa [wantsOf] using this
  · have : Run line hs (srcs [p] ++ (srcs ps ++ rest)) k (ts' ++ (ts ++ toks)) (toldOf [p] k ++ (toldOf ps (k + p.src.length) ++ f)) hf := r2
    simpa [srcs, toldOf, List.append_assoc] using this
theorem EatL.app {hs₁ hs' : List Nat} {qs : List Part} {G : List Nat → Prop} (h' : EatL hs₁ qs hs' G) : ∀ {ps : List Part} {hs : List Nat} {F : List Nat → Prop}, EatL hs ps hs₁ F → (∀ r, G r → F (srcs qs ++ r)) → EatL hs (ps ++ qs) hs' G := by
  intro ps hs F h g line k rest toks f hf hG hR
  have e1 : ∀ ps, srcs (ps ++ qs) = srcs ps ++ srcs qs := by
    intro ps
    induction ps with
    | nil => rfl
    | cons p ps ih => simp [srcs, ih]
  have e2 : ∀ ps l, lineOf (ps ++ qs) l = lineOf qs (lineOf ps l) := by
    intro ps
    induction ps with
    | nil => intro l; rfl
    | cons p ps ih => intro l; exact ih _
  have e3 : ∀ ps k l, wantsOf (ps ++ qs) k l = wantsOf ps k l ++ wantsOf qs (k + (srcs ps).length) (lineOf ps l) := by
    intro ps
    induction ps with
    | nil => intro k l; simp [wantsOf, srcs, lineOf]
    | cons p ps ih => intro k l; simp [wantsOf, srcs, lineOf, ih, Nat.add_assoc]
  have e4 : ∀ ps k, toldOf (ps ++ qs) k = toldOf ps k ++ toldOf qs (k + (srcs ps).length) := by
    intro ps
    induction ps with
    | nil => intro k; simp [toldOf, srcs]
    | cons p ps ih => intro k; simp [toldOf, srcs, ih, Nat.add_assoc]
  rw [e2, e1, List.length_append, ← Nat.add_assoc] at hR
  obtain ⟨ts, m1, r1⟩ := h' _ _ _ _ _ _ hG hR
  obtain ⟨ts', m2, r2⟩ := h line k _ _ _ _ (g _ hG) r1
  refine ⟨ts' ++ ts, ?_, ?_⟩
  · rw [e3]; exact m2.app m1
  · rw [e1, e4, List.append_assoc, List.append_assoc, List.append_assoc]; exact r2

/-! blanks -/
noncomputable def BP (b : List Nat) (bl : Bool) : Prop := ∀ (r : List Nat) (m : Nat) (l o : Bool), Blank r m l o → Blank (b ++ r) (b.length + m) (bl || l) o
theorem BP.nil : BP [] false := fun r m l o h => by simpa using h
theorem BP.app {a b : List Nat} {x y : Bool} (h : BP a x) (h' : BP b y) : BP (a ++ b) (x || y) := by
  intro r m l o hB
  have := h _ _ _ _ (h' _ _ _ _ hB)
  rw [List.append_assoc, List.length_append, Nat.add_assoc, Bool.or_assoc]
  exact this
theorem drop_app (b r : List Nat) (m : Nat) : (b ++ r).drop (b.length + m) = r.drop m := by
  rw [List.drop_append, List.drop_eq_nil_of_le (by lia), List.nil_append, a_add_sub]
theorem Take.blank {b r : List Nat} {bl line : Bool} (h : BP b bl) {k : Nat} {tk : TK} {f : List (Nat × Nat)} (hT : Take (line || bl) r (k + b.length) tk f) : Take line (b ++ r) k tk f := by
  cases hT with
  | fin h1 h2 =>
    rename_i l o m
    have := Take.fin (line := line) (k := k) (h _ _ _ _ h1) (by rw [List.length_append, h2])
    rw [← Nat.add_assoc, ← Bool.or_assoc] at this
    exact this
  | tok h1 h2 h3 =>
    rename_i l tx m kd nm len f₀
    have := Take.tok (line := line) (k := k) (h _ _ _ _ h1) (by rw [List.length_append]; lia) (by rw [drop_app]; exact h3)
    rw [← Nat.add_assoc, ← Bool.or_assoc] at this
    exact this
  | bad h1 h2 h3 h4 =>
    rename_i l m f₁
    have := Take.bad (line := line) (k := k) (tk := tk) (f := f₁) (h _ _ _ _ h1) (by rw [List.length_append]; lia) (by rw [drop_app]; exact h3) (by
      rw [Nat.add_assoc, drop_app, ← Nat.add_assoc, ← Bool.or_assoc]
      exact h4)
    rw [← Nat.add_assoc] at this
    exact this
/-- what the next token's scan may skip -/
theorem Run.skip {line line' : Bool} {a r : List Nat} {k : Nat} {g : List (Nat × Nat)} (ht : ∀ tk f, Take line' r (k + a.length) tk f → Take line (a ++ r) k tk (g ++ f)) {hs hf : List Nat} {toks : List TK} {f : List (Nat × Nat)} (h : Run line' hs r (k + a.length) toks f hf) : Run line hs (a ++ r) k toks (g ++ f) hf := by
  have dr : ∀ n, k + a.length ≤ n → (a ++ r).drop (n - k) = r.drop (n - (k + a.length)) := by
    intro n hn
    rw [a_sa hn, drop_app]
  have hl : (a ++ r).length = a.length + r.length := List.length_append
  refine h.use (fun tk h1 h2 e1 e2 => ?_) (fun hs' tk tks' f1 f2 h1 h2 h3 h4 h5 h6 e1 e2 => ?_) (fun b hs' r1 ck len cl x tk tks' f1 f2 h1 h2 h3 h4 h5 h6 h7 h8 e3 e1 e2 => ?_) <;> rw [e1, e2]
  · exact e2 ▸ .fin (ht _ _ h1) h2
  · rw [← List.append_assoc]
    refine .step (ht _ _ h1) h2 h3 (Nat.le_trans (Nat.le_add_right _ _) h4) (by rw [hl, ← Nat.add_assoc]; exact h5) ?_
    rw [dr _ h4]; exact h6
  · rw [e3, List.append_assoc f1, ← List.append_assoc g, ← List.append_assoc (g ++ f1)]
    refine .rescan (ht _ _ h1) h2 h3 (Nat.le_trans (Nat.le_add_right _ _) h4) (by rw [dr _ h4]; exact h5) h6 (by rw [hl, ← Nat.add_assoc k]; exact h7) ?_
    rw [← a_as (Nat.le_trans (Nat.le_add_right _ _) h4), dr _ (Nat.le_add_right_of_le h4), a_as h4]
    exact h8
theorem Run.blank {b r : List Nat} {bl line : Bool} (hb : BP b bl) {k : Nat} {hs hf : List Nat} {toks : List TK} {f : List (Nat × Nat)} (h : Run (line || bl) hs r (k + b.length) toks f hf) : Run line hs (b ++ r) k toks f hf :=
  Run.skip (g := []) (fun _ _ t => Take.blank hb t) h

theorem Run.tok {line : Bool} {src rest tx : List Nat} {k kd nm : Nat} {fo : Option Nat} {hs hs' hf : List Nat} {toks : List TK} {f : List (Nat × Nat)} (h0 : bk (src ++ rest) = 0) (hn : src ≠ []) (hT : Tok (src ++ rest) kd tx nm src.length fo) (hk : kd ≠ 0)
    (hH : Hole hs ⟨kd, tx, nm, k, k + src.length, line⟩ hs') (hR : Run false hs' rest (k + src.length) toks f hf) : Run line hs (src ++ rest) k (⟨kd, tx, nm, k, k + src.length, line⟩ :: toks) (fl1 fo k ++ f) hf := by
  have hl : 0 < src.length := List.length_pos_iff.mpr hn
  have := Take.tok (line := line) (k := k) (Blank.stop h0) (by rw [List.length_append]; lia) (by rw [List.drop_zero]; exact hT)
  rw [Nat.add_zero, Bool.or_false] at this
  refine .step this hk hH (by dsimp only; lia) (by dsimp only; rw [List.length_append]; lia) ?_
  dsimp only
  rw [show k + src.length - k = src.length + 0 by lia, drop_app, List.drop_zero]
  exact hR
theorem Hole.same {hs : List Nat} {tk : TK} (h7 : tk.kind ≠ 7) (h5 : ¬ (tk.kind = 5 ∧ (tk.text = [123] ∨ tk.text = [125]))) : Hole hs tk hs := by
  rcases List.eq_nil_or_concat hs with rfl | ⟨ws, w, rfl⟩
  · exact .none h7
  · rw [List.concat_eq_append]; exact .oth h7 h5
/-- one part that is one token -/
theorem EatL.one {hs hs' : List Nat} {src tx : List Nat} {ck : Option (List Nat)} {kd nm nm' fault : Nat} {F : List Nat → Prop} (hk : kd ≠ 0) (hn : src ≠ []) (hck : ∀ c, ck = some c → tx = c ∧ nm = nm')
    (h : ∀ rest, F rest → bk (src ++ rest) = 0 ∧ Tok (src ++ rest) kd tx nm src.length (if 0 < fault then some fault else none)) (hH : ∀ k e l, Hole hs ⟨kd, tx, nm, k, e, l⟩ hs') : EatL hs [⟨src, (kd : Nat), ck, nm', fault⟩] hs' F := by
  intro line k rest toks f hf hF hR
  obtain ⟨h1, h2⟩ := h rest hF
  have e1 : srcs [(⟨src, (kd : Nat), ck, nm', fault⟩ : Part)] = src := by simp [srcs]
  have hp : (0 : Int) ≤ ((kd : Nat) : Int) := Int.natCast_nonneg _
  rw [e1] at hR ⊢
  simp only [lineOf, hp, if_true] at hR
  refine ⟨[⟨kd, tx, nm, k, k + src.length, line⟩], ?_, ?_⟩
  · simp only [wantsOf, hp, if_true, List.append_nil]
    exact .cons ⟨by simp, rfl, rfl, rfl, fun c e => hck c e⟩ .nil
  · have := Run.tok (line := line) h1 hn h2 hk (hH _ _ _) hR
    have e2 : fl1 (if 0 < fault then some fault else none) k = toldOf [(⟨src, (kd : Nat), ck, nm', fault⟩ : Part)] k := by
      simp only [toldOf, List.append_nil]
      split <;> rfl
    rw [← e2]
    exact this
end
section
set_option maxHeartbeats 200000
noncomputable def contL : List Nat := [46, 61, 62, 38, 124, 63, 43, 45, 42]
theorem cont_no {p : Nat → Bool} {x : Nat} (h : contL.all (fun y => !p y) = true) (hx : p x = true) : contL.contains x = false := by
  cases hc : contL.contains x with
  | false => rfl
  | true =>
    have := List.all_eq_true.mp h x (List.contains_iff_mem.mp hc)
    rw [hx] at this
    cases this
noncomputable def Fol (p : Part) (rest : List Nat) : Prop :=
  (p.kind = 1 ∨ p.kind = 2 → isNP (rest.headD 0) = false) ∧
  (p.kind = 3 → isNP (rest.headD 0) = false ∧ rest.headD 0 ≠ 46) ∧
  (p.kind = 5 → subIn p.src [123, 125] = true ∨ (contL.contains (rest.headD 0) = false ∧ isDig (rest.headD 0) = false ∧ (p.src = [47] → rest.headD 0 ≠ 47))) ∧
  (p.kind = 4 → p.fault = 1002 → rest = [] ∨ isLE (rest.headD 0) = true)

theorem nameL_app {rest : List Nat} (hr : isNP (rest.headD 0) = false) : ∀ s : List Nat, s.all isNP = true → nameL (s ++ rest) = s.length
  | [], _ => by
    cases rest with
    | nil => rfl
    | cons c r => unfold nameL; rw [List.nil_append]; dsimp only; rw [if_neg (by rw [show (c :: r).headD 0 = c from rfl] at hr; rw [hr]; decide)]; rfl
  | c :: s, h => by
    rw [List.all_cons, Bool.and_eq_true] at h
    rw [List.cons_append, nameL, if_pos h.1, nameL_app hr s h.2]; rfl

theorem ns_facts {x : Nat} (h : isNS x = true) : isLE x = false ∧ x ≠ 32 ∧ x ≠ 9 ∧ x ≠ 47 ∧ isDig x = false ∧ isNP x = true := by
  unfold isNS at h
  simp only [Bool.or_eq_true, Bool.and_eq_true, decide_eq_true_eq] at h
  refine ⟨?_, by lia, by lia, by lia, ?_, ?_⟩
  · unfold isLE; simp; lia
  · unfold isDig
    by_cases h1 : 48 ≤ x <;> by_cases h2 : x ≤ 57 <;> simp only [h1, h2, decide_true, decide_false, Bool.and_true, Bool.and_false]
    lia
  · unfold isNP isNS; simp only [Bool.or_eq_true, Bool.and_eq_true, decide_eq_true_eq]; exact .inl h
theorem bk_none {c : Nat} {r : List Nat} (h1 : isLE c = false) (h2 : c ≠ 32) (h3 : c ≠ 9) (h4 : c = 47 → r.headD 0 ≠ 47 ∧ r.headD 0 ≠ 42) : bk (c :: r) = 0 := by
  unfold bk
  dsimp only
  rw [if_neg (by rw [h1]; decide), if_neg (by lia), if_neg (fun h => (h4 h.1).1 h.2), if_neg (fun h => (h4 h.1).2 h.2)]

noncomputable def nameOK (x : List Nat) : Bool := isNS (x.headD 0) && x.all isNP && !isRes x
noncomputable def wordOK (x : List Nat) : Bool := isNS (x.headD 0) && x.all isNP && isRes x
theorem eat_ident {x : List Nat} {b : Bool} (h1 : isNS (x.headD 0) = true) (h2 : x.all isNP = true) (h3 : isRes x = b) {hs : List Nat} : EatL hs [⟨x, ((if b then 2 else 1 : Nat) : Int), some x, 0, 0⟩] hs (fun rest => isNP (rest.headD 0) = false) := by
  cases x with
  | nil => cases h1
  | cons c r =>
    have h1 : isNS c = true := h1
    obtain ⟨f1, f2, f3, f4, f5, f6⟩ := ns_facts h1
    refine EatL.one (kd := if b then 2 else 1) (tx := c :: r) (nm := 0) (by split <;> decide) (by simp) (fun c' e => by cases e; exact ⟨rfl, rfl⟩) (fun rest hF => ⟨bk_none f1 f2 f3 (fun e => absurd e f4), ?_⟩) (fun k e l => Hole.same (by dsimp only; split <;> decide) (by rintro ⟨e, _⟩; dsimp only at e; split at e <;> lia))
    have hn := nameL_app hF (c :: r) h2
    have ht : (c :: r ++ rest).take (c :: r).length = c :: r := List.take_left' rfl
    have := Tok.name (c := c) (r := r ++ rest) h1 hn
    rw [show c :: (r ++ rest) = c :: r ++ rest from rfl, ht, h3] at this
    exact this
theorem eat_name {x : List Nat} (h : nameOK x = true) {hs : List Nat} : EatL hs [⟨x, 1, some x, 0, 0⟩] hs (Fol ⟨x, 1, some x, 0, 0⟩) := by
  unfold nameOK at h
  simp only [Bool.and_eq_true, Bool.not_eq_true'] at h
  exact (eat_ident h.1.1 h.1.2 h.2).wk fun r hr => hr.1 (.inl rfl)
theorem eat_word {x : List Nat} (h : wordOK x = true) {hs : List Nat} : EatL hs [⟨x, 2, some x, 0, 0⟩] hs (Fol ⟨x, 2, some x, 0, 0⟩) := by
  unfold wordOK at h
  simp only [Bool.and_eq_true, Bool.not_eq_true'] at h
  exact (eat_ident h.1.1 h.1.2 h.2).wk fun r hr => hr.1 (.inr rfl)
theorem eat_hash {x : List Nat} (h : nameOK x = true) {hs : List Nat} : EatL hs [⟨35 :: x, 1, some (35 :: x), 0, 1127⟩] hs (Fol ⟨35 :: x, 1, some (35 :: x), 0, 1127⟩) := by
  unfold nameOK at h
  simp only [Bool.and_eq_true, Bool.not_eq_true'] at h
  obtain ⟨⟨h1, h2⟩, _⟩ := h
  cases x with
  | nil => cases h1
  | cons c r =>
    refine EatL.one (kd := 1) (tx := 35 :: c :: r) (nm := 0) (by decide) (by simp) (fun c' e => by cases e; exact ⟨rfl, rfl⟩) (fun rest hF => ⟨bk_none rfl (by decide) (by decide) (fun e => by cases e), ?_⟩) (fun k e l => Hole.same (by dsimp only; decide) (by rintro ⟨e, _⟩; cases e))
    have hn := nameL_app (hF.1 (.inl rfl)) (c :: r) h2
    have ht : (c :: r ++ rest).take (c :: r).length = c :: r := List.take_left' rfl
    have := Tok.hash (c := c) (r := r ++ rest) h1 hn
    rw [show c :: (r ++ rest) = c :: r ++ rest from rfl, ht, Nat.add_comm 1] at this
    exact this

/-! numbers -/
theorem np_stop {c : Nat} (h : isNP c = false) : c ≠ 95 ∧ digV c = 99 ∧ c ≠ 120 ∧ c ≠ 88 ∧ c ≠ 111 ∧ c ≠ 79 ∧ c ≠ 98 ∧ c ≠ 66 := by
  have ne : ∀ k, isNP k = true → c ≠ k := fun k hk e => Bool.false_ne_true (h.symm.trans (e ▸ hk))
  unfold isNP isNS isDig at h
  simp only [Bool.or_eq_false_iff, Bool.and_eq_false_iff, decide_eq_false_iff_not] at h
  refine ⟨ne 95 rfl, ?_, ne 120 rfl, ne 88 rfl, ne 111 rfl, ne 79 rfl, ne 98 rfl, ne 66 rfl⟩
  unfold digV
  rw [if_neg fun q => h.2.elim (· q.1) (· q.2), if_neg fun q => h.1.1.1.elim (· q.1) (· (Nat.le_trans q.2 (by decide))), if_neg fun q => h.1.1.2.elim (· q.1) (· (Nat.le_trans q.2 (by decide)))]
theorem rdg_app {b : Nat} (hb : b ≤ 99) {rest : List Nat} (hr : isNP (rest.headD 0) = false) : ∀ (s : List Nat) (n cnt : Nat) (ok un : Bool), rdg b (s ++ rest) n cnt ok un = rdg b s n cnt ok un
  | [], n, cnt, ok, un => by
    cases rest with
    | nil => rfl
    | cons c r =>
      obtain ⟨h1, h2, _⟩ := np_stop (show isNP c = false from hr)
      rw [List.nil_append]
      unfold rdg
      rw [if_neg h1, if_pos (by lia)]
  | c :: s, n, cnt, ok, un => by
    rw [List.cons_append, rdg, rdg]
    simp only [rdg_app hb hr s]
theorem tailL_app {rest : List Nat} (hr : isNP (rest.headD 0) = false) (h46 : rest.headD 0 ≠ 46) : ∀ s : List Nat, tailL (s ++ rest) = tailL s
  | [] => by
    cases rest with
    | nil => rfl
    | cons c r =>
      rw [List.nil_append]
      unfold tailL
      rw [if_neg]
      rw [show isNP c = false from hr, Bool.false_or, decide_eq_true_eq]; exact h46
  | c :: s => by rw [List.cons_append, tailL, tailL, tailL_app hr h46 s]
theorem base_app {rest src : List Nat} (hn : src ≠ []) (hr : isNP (rest.headD 0) = false) : baseOf ((src ++ rest).headD 0) (((src ++ rest).drop 1).headD 0) = baseOf (src.headD 0) ((src.drop 1).headD 0) := by
  cases src with
  | nil => exact absurd rfl hn
  | cons c s =>
    cases s with
    | cons d s => rfl
    | nil =>
      show baseOf c (rest.headD 0) = baseOf c 0
      obtain ⟨_, _, h1, h2, h3, h4, h5, h6⟩ := np_stop hr
      unfold baseOf
      rw [if_neg (show ¬ (rest.headD 0 = 120 ∨ rest.headD 0 = 88) by lia), if_neg (show ¬ (rest.headD 0 = 111 ∨ rest.headD 0 = 79) by lia), if_neg (show ¬ (rest.headD 0 = 98 ∨ rest.headD 0 = 66) by lia)]
      simp
theorem numF_app {rest src : List Nat} (hn : src ≠ []) (hr : isNP (rest.headD 0) = false) (h46 : rest.headD 0 ≠ 46) : numF (src ++ rest) = numF src := by
  have hb := base_app hn hr
  have hh : (src ++ rest).headD 0 = src.headD 0 := by
    cases src with
    | nil => exact absurd rfl hn
    | cons c s => rfl
  unfold numF
  rw [hb, hh]
  generalize eb : baseOf (src.headD 0) ((src.drop 1).headD 0) = b
  have hb99 : b ≤ 99 := by
    rw [← eb]; unfold baseOf; repeat' split
    all_goals lia
  have hs : (if b = 10 then 0 else 2) ≤ src.length := by
    split
    · exact Nat.zero_le _
    · rename_i hb10
      cases src with
      | nil => exact absurd rfl hn
      | cons c s =>
        cases s with
        | cons d s => simp
        | nil =>
          exfalso
          apply hb10
          rw [← eb]
          unfold baseOf
          split <;> simp
  dsimp only
  generalize (if b = 10 then 0 else 2) = s at hs
  have e1 : (src ++ rest).drop s = src.drop s ++ rest := by rw [List.drop_append_of_le_length hs]
  rw [e1, rdg_app hb99 hr]
  have hle := rdg_le b (src.drop s) 0 0 true false
  rw [List.length_drop] at hle
  generalize rdg b (src.drop s) 0 0 true false = d at hle
  have e2 : (src ++ rest).drop (s + d.2.1) = src.drop (s + d.2.1) ++ rest := by rw [List.drop_append_of_le_length (by lia)]
  rw [e2, tailL_app hr h46]
theorem dig_facts {x : Nat} (h : isDig x = true) : isLE x = false ∧ x ≠ 32 ∧ x ≠ 9 ∧ x ≠ 47 ∧ isNS x = false := by
  unfold isDig at h
  simp only [Bool.and_eq_true, decide_eq_true_eq] at h
  refine ⟨?_, by lia, by lia, by lia, ?_⟩
  · unfold isLE; simp; lia
  · cases hc : isNS x with
    | false => rfl
    | true =>
      unfold isNS at hc
      simp only [Bool.or_eq_true, Bool.and_eq_true, decide_eq_true_eq] at hc
      lia
theorem eat_num {src : List Nat} {v : Nat} {o : Bool} {ck : Option (List Nat)} {v' fault : Nat} (h : numF src = (v, src.length, o)) (hd : isDig (src.headD 0) = true) (hck : ∀ c, ck = some c → intS (v : Nat) = c ∧ v = v') (hf : (if 0 < fault then some fault else none) = (if o then none else some 1127)) {hs : List Nat} :
    EatL hs [⟨src, 3, ck, v', fault⟩] hs (Fol ⟨src, 3, ck, v', fault⟩) := by
  cases src with
  | nil => cases hd
  | cons c r =>
    have hd : isDig c = true := hd
    obtain ⟨f1, f2, f3, f4, f5⟩ := dig_facts hd
    refine EatL.one (kd := 3) (tx := intS (v : Nat)) (nm := v) (by decide) (by simp) hck (fun rest hF => ⟨bk_none f1 f2 f3 (fun e => absurd e f4), ?_⟩) (fun k e l => Hole.same (by dsimp only; decide) (by rintro ⟨e, _⟩; cases e))
    obtain ⟨g1, g2⟩ := hF.2.1 rfl
    have := Tok.num (c := c) (r := r ++ rest) f5 hd (by rw [← h]; exact numF_app (src := c :: r) (by simp) g1 g2)
    rw [hf]
    exact this

/-! digits -/
noncomputable def valF (b : Nat) : Nat → List Nat → Nat
  | n, [] => n
  | n, c :: r => valF b (n * b + digV c) r
theorem valF_app (b : Nat) : ∀ (s : List Nat) (n : Nat) (s2 : List Nat), valF b n (s ++ s2) = valF b (valF b n s) s2
  | [], _, _ => rfl
  | c :: s, n, s2 => by rw [List.cons_append, valF, valF, valF_app b s]
noncomputable def DigL (b : Nat) (s : List Nat) : Prop := ∀ c ∈ s, c ≠ 95 ∧ digV c < b
theorem rdg_pre {b : Nat} : ∀ (s : List Nat) (s2 : List Nat) (n cnt : Nat) (un : Bool), DigL b s → s ≠ [] →
    rdg b (s ++ s2) n cnt true un = ((rdg b s2 (valF b n s) (cnt + s.length) true false).1, s.length + (rdg b s2 (valF b n s) (cnt + s.length) true false).2.1, (rdg b s2 (valF b n s) (cnt + s.length) true false).2.2)
  | [], _, _, _, _, _, h => absurd rfl h
  | c :: s, s2, n, cnt, un, hd, _ => by
    obtain ⟨h1, h2⟩ := hd c (by simp)
    rw [List.cons_append, rdg, if_neg h1, if_neg (by lia), valF]
    cases s with
    | nil => simp only [List.nil_append, valF, List.length_cons, List.length_nil, Nat.zero_add, Nat.add_comm 1]
    | cons d s =>
      rw [rdg_pre (d :: s) s2 _ _ _ (fun x hx => hd x (by simp [hx])) (by simp)]
      simp only [List.length_cons, Nat.add_assoc, Nat.add_comm 1, Nat.add_left_comm 1]
theorem rdg_all {b : Nat} {s : List Nat} {n cnt : Nat} {un : Bool} (hd : DigL b s) (hn : s ≠ []) : rdg b s n cnt true un = (valF b n s, s.length, true) := by
  have := rdg_pre s [] n cnt un hd hn
  rw [List.append_nil] at this
  rw [this]
  have hl : 0 < s.length := List.length_pos_iff.mpr hn
  simp only [rdg, Nat.add_zero, Prod.mk.injEq, true_and]
  rw [decide_eq_true (by lia)]; rfl
theorem rdg_under {b : Nat} {s s2 : List Nat} {n : Nat} {un : Bool} (hd : DigL b s) (hn : s ≠ []) (hd2 : DigL b s2) (hn2 : s2 ≠ []) : rdg b (s ++ 95 :: s2) n 0 true un = (valF b n (s ++ s2), (s ++ 95 :: s2).length, true) := by
  have hl : 0 < s.length := List.length_pos_iff.mpr hn
  rw [rdg_pre s _ n 0 un hd hn, rdg, if_pos rfl, decide_eq_true (by lia)]
  simp only [Bool.not_false, Bool.and_true]
  rw [rdg_all hd2 hn2, valF_app]
  simp only [List.length_append, List.length_cons]
theorem dig_ok {b : Nat} {src ds : List Nat} {v : Nat} (hb : baseOf (src.headD 0) ((src.drop 1).headD 0) = b) (hsrc : src.drop (if b = 10 then 0 else 2) = ds) (hlen : src.length = (if b = 10 then 0 else 2) + ds.length) (hr : rdg b ds 0 0 true false = (v, ds.length, true)) (hv : v ≤ 9007199254740991) (hz : b = 10 → src.headD 0 = 48 → src.length ≤ 1) : numF src = (v, src.length, true) := by
  unfold numF
  rw [hb]
  dsimp only
  rw [hsrc, hr]
  dsimp only
  rw [← hlen, List.drop_length]
  rw [if_neg (by lia), decide_eq_false (show ¬ 9007199254740991 < v by lia)]
  have : (decide (b = 10) && (decide (src.headD 0 = 48) && decide (1 < src.length))) = false := by
    by_cases h1 : b = 10
    · by_cases h2 : src.headD 0 = 48
      · have := hz h1 h2
        rw [decide_eq_false (show ¬ 1 < src.length by lia)]; simp
      · rw [decide_eq_false h2]; simp
    · rw [decide_eq_false h1]; simp
  rw [this]
  rfl

/-! braces, what begins nothing -/
theorem mem_contains {l : List (List Nat)} {x : List Nat} (h : ∀ y ∈ l, y ≠ x) : l.contains x = false := by
  cases hc : l.contains x with
  | false => rfl
  | true => rw [List.contains_iff_mem] at hc; exact absurd rfl (h x hc)
theorem lst3_heads : ∀ y ∈ lst3, lst1.contains (y.headD 0) = true ∧ y.headD 0 ≠ 123 ∧ y.headD 0 ≠ 125 ∧ y ≠ [] := by decide +kernel
theorem lst2_heads : ∀ y ∈ lst2, lst1.contains (y.headD 0) = true ∧ y.headD 0 ≠ 123 ∧ y.headD 0 ≠ 125 ∧ y ≠ [] := by decide +kernel
theorem sign_lone {c : Nat} {r : List Nat} (h : lst1.contains c = false ∨ c = 123 ∨ c = 125) : signF (c :: r) = if lst1.contains c = true then [c] else [] := by
  have h3 : lst3.contains ((c :: r).take 3) = false := mem_contains fun y hy e => by
    obtain ⟨g1, g2, g3, g4⟩ := lst3_heads y hy
    rw [e] at g1 g2 g3
    rcases h with h | h | h
    · rw [show ((c :: r).take 3).headD 0 = c from rfl, h] at g1; cases g1
    · exact g2 h
    · exact g3 h
  have h2 : lst2.contains ((c :: r).take 2) = false := mem_contains fun y hy e => by
    obtain ⟨g1, g2, g3, g4⟩ := lst2_heads y hy
    rw [e] at g1 g2 g3
    rcases h with h | h | h
    · rw [show ((c :: r).take 2).headD 0 = c from rfl, h] at g1; cases g1
    · exact g2 h
    · exact g3 h
  unfold signF
  rw [h3, h2, if_neg (by decide), if_neg, if_neg (by decide)]
  · rfl
  · rintro ⟨e, _⟩
    rw [show (c :: r).take 2 = c :: r.take 1 from rfl] at e
    injection e with e _
    subst e
    rcases h with h | h | h <;> cases h

theorem eat_brace {c : Nat} (hc : c = 123 ∨ c = 125) {hs hs' : List Nat} (hH : ∀ k e l, Hole hs ⟨5, [c], 0, k, e, l⟩ hs') : EatL hs [⟨[c], 5, some [c], 0, 0⟩] hs' (fun _ => True) := by
  have f1 : isLE c = false := by rcases hc with rfl | rfl <;> rfl
  have f2 : isNS c = false := by rcases hc with rfl | rfl <;> rfl
  have f3 : isDig c = false := by rcases hc with rfl | rfl <;> rfl
  refine EatL.one (kd := 5) (tx := [c]) (nm := 0) (by decide) (by simp) (fun c' e => by cases e; exact ⟨rfl, rfl⟩) (fun rest _ => ⟨bk_none f1 (by lia) (by lia) (by lia), ?_⟩) hH
  have hs := sign_lone (r := rest) (.inr hc)
  rw [if_pos (by rcases hc with rfl | rfl <;> rfl)] at hs
  have := Tok.sign (c := c) (r := rest) f2 f3 (by lia) (by lia) (by lia) (by lia) hs (by simp)
  rw [if_neg (by rintro ⟨e, _⟩; injection e; lia)] at this
  exact this

theorem eat_none1 {line : Bool} {c : Nat} {rest : List Nat} {k : Nat} {hs hf : List Nat} {toks : List TK} {f : List (Nat × Nat)} (hc : c = 92 ∨ c = 233 ∨ c = 0 ∨ (c = 35 ∧ isNS (rest.headD 0) = false)) (h : Run line hs rest (k + 1) toks f hf) : Run line hs (c :: rest) k toks ((1127, k) :: f) hf := by
  refine Run.skip (a := [c]) (g := [(1127, k)]) (fun tk f hT => ?_) h
  have f1 : isLE c = false ∧ isNS c = false ∧ isDig c = false ∧ lst1.contains c = false := by rcases hc with rfl | rfl | rfl | ⟨rfl, _⟩ <;> exact ⟨rfl, rfl, rfl, rfl⟩
  obtain ⟨f1, f2, f3, f4⟩ := f1
  have hb : bk (c :: rest) = 0 := bk_none f1 (by lia) (by lia) (by lia)
  have hs := sign_lone (r := rest) (.inl f4)
  rw [if_neg (by rw [f4]; decide)] at hs
  have hN : NoTok (c :: rest) := by
    refine ⟨f2, f3, by lia, by lia, by lia, ?_, hs⟩
    rintro ⟨e, e2⟩
    rcases hc with h | h | h | ⟨_, h⟩
    · lia
    · lia
    · lia
    · rw [h] at e2; cases e2
  have := Take.bad (line := line) (k := k) (tk := tk) (f := f) (Blank.stop hb) (by simp) (by rw [List.drop_zero]; exact hN) (by rw [Bool.or_false]; exact hT)
  exact this
theorem eat_noise {src : List Nat} (h : src = [92] ∨ src = [233] ∨ src = [35, 32] ∨ src = [0]) {hs : List Nat} : EatL hs [⟨src, -1, none, 0, 1127⟩] hs (fun _ => True) := by
  intro line k rest toks f hf _ hR
  have e1 : srcs [(⟨src, -1, none, 0, 1127⟩ : Part)] = src := by simp [srcs]
  rw [e1] at hR ⊢
  refine ⟨[], .nil, ?_⟩
  have e2 : toldOf [(⟨src, -1, none, 0, 1127⟩ : Part)] k = [(1127, k)] := rfl
  rw [e2]
  have hR : Run line hs rest (k + src.length) toks f hf := hR
  rcases h with rfl | rfl | rfl | rfl
  · exact eat_none1 (.inl rfl) hR
  · exact eat_none1 (.inr (.inl rfl)) hR
  · refine eat_none1 (.inr (.inr (.inr ⟨rfl, rfl⟩))) (Run.blank (b := [32]) (bl := false) ?_ (by rw [Bool.or_false]; exact hR))
    intro r m l o hB
    exact Blank.sp (r := 32 :: r) rfl hB
  · exact eat_none1 (.inr (.inr (.inl rfl))) hR
end
section
set_option maxHeartbeats 200000
theorem lst3_tails : ∀ y ∈ lst3, y.length = 3 ∧ contL.contains ((y.drop 1).headD 0) = true ∧ contL.contains ((y.drop 2).headD 0) = true := by decide +kernel
theorem lst2_tails : ∀ y ∈ lst2, y.length = 2 ∧ contL.contains ((y.drop 1).headD 0) = true := by decide +kernel
theorem not3 {x : List Nat} (h : x.length ≠ 3 ∨ contL.contains ((x.drop 1).headD 0) = false ∨ contL.contains ((x.drop 2).headD 0) = false) : lst3.contains x = false := mem_contains fun y hy e => by
  obtain ⟨h1, h2, h3⟩ := lst3_tails y hy
  rw [e] at h1 h2 h3
  rcases h with h | h | h
  · exact h h1
  · rw [h] at h2; cases h2
  · rw [h] at h3; cases h3
theorem not2 {x : List Nat} (h : x.length ≠ 2 ∨ contL.contains ((x.drop 1).headD 0) = false) : lst2.contains x = false := mem_contains fun y hy e => by
  obtain ⟨h1, h2⟩ := lst2_tails y hy
  rw [e] at h1 h2
  rcases h with h | h
  · exact h h1
  · rw [h] at h2; cases h2
theorem ifc {p q : Prop} [Decidable p] [Decidable q] {α : Type} (h : p ↔ q) (a b : α) : (if p then a else b) = if q then a else b := by
  by_cases hp : p
  · rw [if_pos hp, if_pos (h.mp hp)]
  · rw [if_neg hp, if_neg (fun z => hp (h.mpr z))]
/-- what the longest reading sees of what follows -/
theorem sign_see {s rest tl : List Nat} (hs : s ≠ []) (h1 : contL.contains (rest.headD 0) = false) (h2 : contL.contains (tl.headD 0) = false) (h3 : isDig (rest.headD 0) = isDig (tl.headD 0)) : signF (s ++ rest) = signF (s ++ tl) := by
  have key : ∀ (r : List Nat), contL.contains (r.headD 0) = false → signF (s ++ r) = match s with
      | [] => []
      | [a] => sign1 [a]
      | [a, b] => if a = 63 ∧ b = 46 ∧ isDig (r.headD 0) = true then [63] else if lst2.contains [a, b] = true then [a, b] else sign1 [a]
      | a :: b :: c :: z => signF (a :: b :: c :: z) := by
    intro r hr
    match s, hs with
    | [a], _ =>
      unfold signF
      have e3 : lst3.contains (([a] ++ r).take 3) = false := by
        refine not3 ?_
        cases r with
        | nil => exact .inl (by simp)
        | cons c r => exact .inr (.inl hr)
      have e2 : lst2.contains (([a] ++ r).take 2) = false := by
        refine not2 ?_
        cases r with
        | nil => exact .inl (by simp)
        | cons c r => exact .inr hr
      rw [e3, e2, if_neg (by decide), if_neg, if_neg (by decide)]
      · rfl
      · rintro ⟨e, _⟩
        cases r with
        | nil => cases e
        | cons c r =>
          injection e with _ e
          injection e with e _
          rw [show (c :: r).headD 0 = c from rfl, e] at hr
          cases hr
    | [a, b], _ =>
      unfold signF
      have e3 : lst3.contains (([a, b] ++ r).take 3) = false := by
        refine not3 ?_
        cases r with
        | nil => exact .inl (by simp)
        | cons c r => exact .inr (.inr hr)
      rw [e3, if_neg (by decide)]
      show (if [a, b] = [63, 46] ∧ isDig (r.headD 0) = true then [63] else _) = _
      have : ([a, b] = [63, 46] ∧ isDig (r.headD 0) = true) ↔ (a = 63 ∧ b = 46 ∧ isDig (r.headD 0) = true) := by simp [and_assoc]
      rw [ifc this]
      rfl
    | a :: b :: c :: z, _ => rfl
  rw [key rest h1, key tl h2, h3]

noncomputable def mkS (p : List Nat × Nat) : Part := ⟨p.1, 5, some p.1, 0, p.2⟩
noncomputable def cat : List (List Nat × Nat) → List Nat
  | [] => []
  | p :: ps => p.1 ++ cat ps
theorem srcs_mkS : ∀ ps, srcs (ps.map mkS) = cat ps
  | [] => rfl
  | p :: ps => by rw [List.map_cons, srcs, cat, srcs_mkS ps]; rfl
noncomputable def hdOK (c : Nat) : Bool := !isNS c && !isDig c && !isLE c && !decide (c = 39) && !decide (c = 34) && !decide (c = 96) && !decide (c = 35) && !decide (c = 32) && !decide (c = 9) && !decide (c = 123) && !decide (c = 125)
noncomputable def chkS : List (List Nat × Nat) → List Nat → Bool
  | [], _ => true
  | (s, f) :: ps, tl => !s.isEmpty && decide (signF (s ++ (cat ps ++ tl)) = s) && decide (s.headD 0 = 47 → (s.drop 1 ++ cat ps).headD 0 ≠ 47 ∧ (s.drop 1 ++ cat ps).headD 0 ≠ 42) && hdOK (s.headD 0) &&
      decide (f = if s = [46] ∧ isDig ((cat ps ++ tl).headD 0) = true then 1127 else 0) && !decide (s = [123]) && !decide (s = [125]) && chkS ps tl

theorem eat_sign {s : List Nat} {f : Nat} {hs : List Nat} (h1 : s ≠ []) (h2 : hdOK (s.headD 0) = true) (h3 : s ≠ [123]) (h4 : s ≠ [125]) : EatL hs [mkS (s, f)] hs (fun rest => signF (s ++ rest) = s ∧ (s.headD 0 = 47 → (s.drop 1 ++ rest).headD 0 ≠ 47 ∧ (s.drop 1 ++ rest).headD 0 ≠ 42) ∧ f = if s = [46] ∧ isDig (rest.headD 0) = true then 1127 else 0) := by
  cases s with
  | nil => exact absurd rfl h1
  | cons c r =>
    unfold hdOK at h2
    simp only [Bool.and_eq_true, Bool.not_eq_true', decide_eq_false_iff_not] at h2
    have hc : (c :: r).headD 0 = c := rfl
    rw [hc] at h2
    obtain ⟨⟨⟨⟨⟨⟨⟨⟨⟨⟨g1, g2⟩, g3⟩, g4⟩, g5⟩, g6⟩, g7⟩, g8⟩, g9⟩, _⟩, _⟩ := h2
    refine EatL.one (kd := 5) (tx := c :: r) (nm := 0) (by decide) (by simp) (fun c' e => by cases e; exact ⟨rfl, rfl⟩) (fun rest hF => ?_) (fun k e l => Hole.same (by dsimp only; decide) (by rintro ⟨_, e | e⟩; exact h3 e; exact h4 e))
    obtain ⟨e1, e2, e3⟩ := hF
    refine ⟨bk_none g3 g8 g9 (fun e => e2 e), ?_⟩
    have := Tok.sign (c := c) (r := r ++ rest) (s := c :: r) g1 g2 g4 g5 g6 (fun e => g7 e.1) e1 (by simp)
    rw [show (if 0 < f then some f else none) = (if c :: r = [46] ∧ isDig ((r ++ rest).headD 0) = true then some 1127 else none) from ?_]
    · exact this
    · have e4 : (c :: r = [46] ∧ isDig ((r ++ rest).headD 0) = true) ↔ (c :: r = [46] ∧ isDig (rest.headD 0) = true) := by
        constructor
        · rintro ⟨e, h⟩; injection e with _ e; subst e; exact ⟨by rename_i e; rw [e], h⟩
        · rintro ⟨e, h⟩; injection e with _ e; subst e; exact ⟨by rename_i e; rw [e], h⟩
      rw [ifc e4, e3]
      split <;> rfl

noncomputable def SeeT (tl : List Nat) (ps : List (List Nat × Nat)) (rest : List Nat) : Prop := contL.contains (rest.headD 0) = false ∧ isDig (rest.headD 0) = isDig (tl.headD 0) ∧ ((ps.getLastD ([], 0)).1 = [47] → rest.headD 0 ≠ 47)
theorem cat_ne {p : List Nat × Nat} {ps : List (List Nat × Nat)} (h : p.1 ≠ []) (x : List Nat) : (cat (p :: ps) ++ x).headD 0 = (cat (p :: ps)).headD 0 := by
  obtain ⟨s, f⟩ := p
  cases s with
  | nil => exact absurd rfl h
  | cons c r => rfl
theorem eat_signs {tl : List Nat} (htl : contL.contains (tl.headD 0) = false) {hs : List Nat} : ∀ (ps : List (List Nat × Nat)), ps ≠ [] → chkS ps tl = true → EatL hs (ps.map mkS) hs (SeeT tl ps)
  | [], h, _ => absurd rfl h
  | [(s, f)], _, h => by
    simp only [chkS, cat, List.nil_append, List.append_nil, Bool.and_eq_true, Bool.not_eq_true', decide_eq_true_eq, decide_eq_false_iff_not, List.isEmpty_eq_false_iff] at h
    obtain ⟨⟨⟨⟨⟨⟨⟨h1, h2⟩, h3⟩, h4⟩, h5⟩, h6⟩, h7⟩, _⟩ := h
    refine (eat_sign h1 h4 h6 h7).wk fun r hr => ?_
    obtain ⟨r1, r2, r3⟩ := hr
    refine ⟨?_, ?_, ?_⟩
    · rw [sign_see h1 r1 htl r2]; exact of_decide_eq_true h2
    · intro e
      cases s with
      | nil => exact absurd rfl h1
      | cons c z =>
        cases z with
        | cons d z => exact h3 e
        | nil =>
          have : c = 47 := e
          subst this
          refine ⟨r3 rfl, fun e => ?_⟩
          rw [show (([47] : List Nat).drop 1 ++ r).headD 0 = r.headD 0 from rfl] at e
          rw [e] at r1; cases r1
    · rw [r2]; exact of_decide_eq_true h5
  | (s, f) :: q :: ps, _, h => by
    have hh := h
    unfold chkS at h
    simp only [Bool.and_eq_true, Bool.not_eq_true', decide_eq_true_eq, decide_eq_false_iff_not, List.isEmpty_eq_false_iff] at h
    obtain ⟨⟨⟨⟨⟨⟨⟨h1, h2⟩, h3⟩, h4⟩, h5⟩, h6⟩, h7⟩, h8⟩ := h
    have ih := eat_signs htl (hs := hs) (q :: ps) (by simp) h8
    have hq : q.1 ≠ [] := by
      obtain ⟨s', f'⟩ := q
      unfold chkS at h8
      simp only [Bool.and_eq_true, Bool.not_eq_true', List.isEmpty_eq_false_iff] at h8
      exact h8.1.1.1.1.1.1.1
    refine EatL.cons (eat_sign h1 h4 h6 h7) ih fun r hr => ?_
    obtain ⟨r1, r2, r3⟩ := hr
    rw [srcs_mkS]
    refine ⟨?_, ?_, ?_⟩
    · rw [← List.append_assoc, sign_see (by simp [h1]) r1 htl r2, List.append_assoc]; exact h2
    · intro e
      have : (s.drop 1 ++ (cat (q :: ps) ++ r)).headD 0 = (s.drop 1 ++ cat (q :: ps)).headD 0 := by
        cases hz : s.drop 1 with
        | nil => rw [List.nil_append, List.nil_append, cat_ne hq]
        | cons d z => rfl
      rw [this]; exact h3 e
    · rw [cat_ne hq]
      rw [cat_ne hq] at h5
      exact h5

/-! the runs of the law -/
noncomputable def signsL : List (List Nat) := match g_law_signs with
  | .tup ds => (strsOf ds).getD []
  | _ => []
noncomputable def cutSz (dg : Bool) (run : List Nat) : Nat :=
  if dg = true ∧ run = [63, 46] then 1 else if 3 ≤ run.length ∧ signsL.contains (run.take 3) = true then 3 else if 2 ≤ run.length ∧ signsL.contains (run.take 2) = true then 2 else 1
noncomputable def cutF (dg : Bool) : Nat → List Nat → List (List Nat × Nat)
  | 0, _ => []
  | n + 1, run => if run = [] then [] else (run.take (cutSz dg run), if dg = true ∧ run = [46] then 1127 else 0) :: cutF dg n (run.drop (cutSz dg run))
noncomputable def runF (i : Nat) : Nat → List Nat
  | 0 => []
  | n + 1 =>
    let more := signsL.getD ((i + 11 * n * n) % signsL.length) []
    if (runF i n).getLastD 0 ≠ 47 ∨ ¬ (more.headD 0 = 47 ∨ more.headD 0 = 42) then runF i n ++ more else runF i n
noncomputable def runG (i n : Nat) (dg b : Bool) : List Nat := if dg && b then runF i (n + 1) ++ [63, 46] else runF i (n + 1)
noncomputable def runOK (i n : Nat) (dg b : Bool) : Bool := chkS (cutF dg 12 (runG i n dg b)) (if dg then [48] else []) && !(cutF dg 12 (runG i n dg b)).isEmpty && decide ((runG i n dg b).length ≤ 11) && decide (cat (cutF dg 12 (runG i n dg b)) = runG i n dg b)
theorem run_okF : ∀ i < signsL.length, ∀ n < 3, runOK i n false false = true := by decide +kernel
theorem run_okT : ∀ i < signsL.length, ∀ n < 3, runOK i n true false = true := by decide +kernel
theorem run_okQ : ∀ i < signsL.length, ∀ n < 3, runOK i n true true = true := by decide +kernel
theorem run_ok (i : Nat) (hi : i < signsL.length) (n : Nat) (hn : n < 3) (dg b : Bool) : runOK i n dg b = true := by
  cases dg with
  | false => exact run_okF i hi n hn
  | true => cases b with
    | false => exact run_okT i hi n hn
    | true => exact run_okQ i hi n hn
theorem sub_brace {s : List Nat} (h : s ≠ []) (h2 : hdOK (s.headD 0) = true) : subIn s [123, 125] = false := by
  unfold hdOK at h2
  simp only [Bool.and_eq_true, Bool.not_eq_true', decide_eq_false_iff_not] at h2
  obtain ⟨⟨_, h3⟩, h4⟩ := h2
  rw [subIn_any]
  cases hc : (List.range' 0 (([123, 125] : List Nat).length + 1)).any (fun i => decide (i + s.length ≤ ([123, 125] : List Nat).length) && ((([123, 125] : List Nat).drop i).take s.length == s)) with
  | false => rfl
  | true =>
    exfalso
    rw [List.any_eq_true] at hc
    obtain ⟨i, hi, hc⟩ := hc
    simp only [Bool.and_eq_true, decide_eq_true_eq, beq_iff_eq] at hc
    obtain ⟨c1, c2⟩ := hc
    cases s with
    | nil => exact h rfl
    | cons c r =>
      simp only [List.length_cons, List.length_nil] at c1 c2
      have : i = 0 ∨ i = 1 := by lia
      rcases this with rfl | rfl
      · injection c2 with c2 _; exact h3 c2.symm
      · injection c2 with c2 _; exact h4 c2.symm
theorem eat_run {i n : Nat} {b : Bool} (hi : i < signsL.length) (hn : n < 3) {hs : List Nat} : EatL hs ((cutF false 12 (runG i n false b)).map mkS) hs (Fol (((cutF false 12 (runG i n false b)).map mkS).getLastD ⟨[], 0, none, 0, 0⟩)) := by
  have h := run_ok i hi n hn false b
  unfold runOK at h
  simp only [Bool.and_eq_true, Bool.not_eq_true', List.isEmpty_eq_false_iff] at h
  obtain ⟨⟨⟨h1, h2⟩, _⟩, _⟩ := h
  generalize cutF false 12 (runG i n false b) = ps at h1 h2
  refine (eat_signs (by decide) ps h2 h1).wk fun r hr => ?_
  rcases List.eq_nil_or_concat ps with rfl | ⟨qs, q, rfl⟩
  · exact absurd rfl h2
  rw [List.concat_eq_append] at hr h1 ⊢
  rw [List.map_append, List.map_cons, List.map_nil, getLastD_snoc] at hr
  have hq : subIn q.1 [123, 125] = false := by
    clear hr h2
    induction qs with
    | nil =>
      obtain ⟨s, f⟩ := q
      simp only [List.nil_append, chkS, Bool.and_eq_true, Bool.not_eq_true', List.isEmpty_eq_false_iff] at h1
      exact sub_brace h1.1.1.1.1.1.1.1 h1.1.1.1.1.2
    | cons p qs ih =>
      obtain ⟨s, f⟩ := p
      rw [List.cons_append, chkS, Bool.and_eq_true] at h1
      exact ih h1.2
  rcases hr.2.2.1 rfl with h | ⟨g1, g2, g3⟩
  · rw [show (mkS q).src = q.1 from rfl, hq] at h; cases h
  · refine ⟨g1, g2, ?_⟩
    rw [getLastD_snoc]
    exact g3
theorem eat_run_dig {i n : Nat} {b : Bool} (hi : i < signsL.length) (hn : n < 3) {hs : List Nat} {p : Part} {G : List Nat → Prop} (hp : EatL hs [p] hs G) (hd : isDig (p.src.headD 0) = true) (hne : p.src ≠ []) : EatL hs ((cutF true 12 (runG i n true b)).map mkS ++ [p]) hs G := by
  have h := run_ok i hi n hn true b
  unfold runOK at h
  simp only [Bool.and_eq_true, Bool.not_eq_true', List.isEmpty_eq_false_iff] at h
  obtain ⟨⟨⟨h1, h2⟩, _⟩, _⟩ := h
  refine EatL.app hp (eat_signs (tl := [48]) (by decide) _ h2 h1) fun r _ => ?_
  have e : (srcs [p] ++ r).headD 0 = p.src.headD 0 := by
    obtain ⟨s, a1, a2, a3, a4⟩ := p
    cases s with
    | nil => exact absurd rfl hne
    | cons c z => rfl
  unfold SeeT
  rw [e, hd]
  refine ⟨cont_no (p := isDig) rfl hd, rfl, fun _ e => ?_⟩
  rw [e] at hd; cases hd
end
section
set_option maxHeartbeats 200000
structure Scan (q : Nat) (P : List Nat → List Nat → Nat → Bool → Prop) : Prop where
  esc : ∀ {r x ck : List Nat} {m len : Nat} {b : Bool}, escF r = some (x, m + 1) → P (r.drop m) ck len b → P (92 :: r) (x ++ ck) (m + 1 + len) b
  bad : ∀ {r ck : List Nat} {len : Nat} {b : Bool}, escF r = none → P r ck len b → P (92 :: r) ck (1 + len) true
  pl : ∀ {c : Nat} {r ck : List Nat} {len : Nat} {b : Bool}, c ≠ q → c ≠ 92 → (q ≠ 96 → isLE c = false) → (q = 96 → c ≠ 13 ∧ ¬ (c = 36 ∧ r.headD 0 = 123)) → P r ck len b → P (c :: r) (c :: ck) (1 + len) (isFar c || b)
  crlf : ∀ {r ck : List Nat} {len : Nat} {b : Bool}, q = 96 → P r ck len b → P (13 :: 10 :: r) (10 :: ck) (2 + len) b
  cr : ∀ {r ck : List Nat} {len : Nat} {b : Bool}, q = 96 → r.headD 0 ≠ 10 → P r ck len b → P (13 :: r) (10 :: ck) (1 + len) b
theorem scan_str {q : Nat} (h : q = 39 ∨ q = 34) (o : Bool) : Scan q (fun r ck len b => StrR q r ck len b o) where
  esc := fun h1 h2 => .esc h1 h2
  bad := fun h1 h2 => .bad h1 h2
  pl := fun h1 h2 h3 _ h5 => .pl h1 h2 (h3 (by lia)) h5
  crlf := fun h1 => by lia
  cr := fun h1 => by lia
theorem scan_tpl (cl : Nat) : Scan 96 (fun r ck len b => TplR r ck len cl b) where
  esc := fun h1 h2 => .esc h1 h2
  bad := fun h1 h2 => .bad h1 h2
  pl := fun h1 h2 _ h4 h5 => .pl h1 h2 (h4 rfl).1 (h4 rfl).2 h5
  crlf := fun _ h2 => .crlf h2
  cr := fun _ h1 h2 => .cr h1 h2

noncomputable def endZ (s : List Nat) : Bool := decide (s.drop (s.length - 2) = [92, 48])
noncomputable def lst (s : List Nat) : Nat := s.getLastD 0
/-- what a part of a body does, whatever follows -/
noncomputable def BI (q : Nat) (s ck : List Nat) (br : Bool) : Prop := ∀ (P : List Nat → List Nat → Nat → Bool → Prop), Scan q P → ∀ (rest ckr : List Nat) (len : Nat) (b : Bool), (lst s = 13 → rest.headD 0 ≠ 10) → (lst s = 36 → rest.headD 0 ≠ 123) → P rest ckr len b →
  ((br || (endZ s && isDig (rest.headD 0))) = true → ∃ ck', P (s ++ rest) ck' (s.length + len) true) ∧ ((br || (endZ s && isDig (rest.headD 0))) = false → P (s ++ rest) (ck ++ ckr) (s.length + len) b)
theorem BI.nil {q : Nat} : BI q [] [] false := by
  intro P hP rest ckr len b _ _ h
  refine ⟨fun e => (by cases e), fun _ => ?_⟩
  rw [List.length_nil, Nat.zero_add]
  exact h
theorem lst_app {s1 s2 : List Nat} (h : s2 ≠ []) : lst (s1 ++ s2) = lst s2 := by
  unfold lst
  rcases List.eq_nil_or_concat s2 with rfl | ⟨ws, w, rfl⟩
  · exact absurd rfl h
  · rw [List.concat_eq_append, ← List.append_assoc, getLastD_snoc, getLastD_snoc]
theorem endZ_app {s1 s2 : List Nat} (h : s2 ≠ []) (h2 : s2 ≠ [48]) : endZ (s1 ++ s2) = endZ s2 := by
  unfold endZ
  match s2, h, h2 with
  | [c], _, h2 =>
    rcases List.eq_nil_or_concat s1 with rfl | ⟨ws, w, rfl⟩
    · rfl
    · rw [List.concat_eq_append]
      have e : (ws ++ [w] ++ [c]).drop ((ws ++ [w] ++ [c]).length - 2) = [w, c] := by
        rw [List.append_assoc, List.length_append, show ws.length + ([w] ++ [c] : List Nat).length - 2 = ws.length by simp, List.drop_left]
        rfl
      rw [e, decide_eq_false, decide_eq_false]
      · simp
      · intro e; injection e with _ e; injection e with e _; subst e; exact h2 rfl
  | a :: b :: z, _, _ =>
    have e : (s1 ++ a :: b :: z).drop ((s1 ++ a :: b :: z).length - 2) = (a :: b :: z).drop ((a :: b :: z).length - 2) := by
      rw [List.length_append, show s1.length + (a :: b :: z).length - 2 = s1.length + ((a :: b :: z).length - 2) by simp only [List.length_cons]; lia, drop_app]
    rw [e]
theorem head_app {s r : List Nat} (h : s ≠ []) : (s ++ r).headD 0 = s.headD 0 := by
  cases s with
  | nil => exact absurd rfl h
  | cons _ _ => rfl
theorem BI.app {q : Nat} {s1 s2 c1 c2 : List Nat} {b1 b2 : Bool} (h1 : BI q s1 c1 b1) (h2 : BI q s2 c2 b2) (hn : s2 ≠ []) (h48 : s2 ≠ [48]) (h13 : lst s1 = 13 → s2.headD 0 ≠ 10) (h36 : lst s1 = 36 → s2.headD 0 ≠ 123) : BI q (s1 ++ s2) (c1 ++ c2) (b1 || b2 || (endZ s1 && isDig (s2.headD 0))) := by
  intro P hP rest ckr len b g1 g2 h
  rw [lst_app hn] at g1 g2
  rw [endZ_app hn h48]
  obtain ⟨k1, k2⟩ := h2 P hP rest ckr len b g1 g2 h
  have K : ∀ ck' b', P (s2 ++ rest) ck' (s2.length + len) b' → ((b1 || (endZ s1 && isDig (s2.headD 0))) = true → ∃ ck'', P (s1 ++ s2 ++ rest) ck'' ((s1 ++ s2).length + len) true) ∧ ((b1 || (endZ s1 && isDig (s2.headD 0))) = false → P (s1 ++ s2 ++ rest) (c1 ++ ck') ((s1 ++ s2).length + len) b') := by
    intro ck' b' z
    have := h1 P hP (s2 ++ rest) ck' (s2.length + len) b' (by rw [head_app hn]; exact h13) (by rw [head_app hn]; exact h36) z
    rw [head_app hn] at this
    rw [List.append_assoc, List.length_append, Nat.add_assoc]
    exact this
  cases ha : (b1 || (endZ s1 && isDig (s2.headD 0))) with
  | true =>
    have hall : (b1 || b2 || (endZ s1 && isDig (s2.headD 0)) || (endZ s2 && isDig (rest.headD 0))) = true := by
      cases b1 <;> cases b2 <;> simp_all
    refine ⟨fun _ => ?_, fun e => (by rw [hall] at e; cases e)⟩
    cases hb : (b2 || (endZ s2 && isDig (rest.headD 0))) with
    | true => obtain ⟨ck', z⟩ := k1 hb; exact (K _ _ z).1 ha
    | false => exact (K _ _ (k2 hb)).1 ha
  | false =>
    have hall : (b1 || b2 || (endZ s1 && isDig (s2.headD 0)) || (endZ s2 && isDig (rest.headD 0))) = (b2 || (endZ s2 && isDig (rest.headD 0))) := by
      rw [Bool.or_eq_false_iff] at ha
      rw [ha.1, ha.2, Bool.or_false, Bool.false_or]
    rw [hall]
    refine ⟨fun e => ?_, fun e => ?_⟩
    · obtain ⟨ck', z⟩ := k1 e
      exact ⟨_, (K _ _ z).2 ha⟩
    · rw [List.append_assoc c1]
      exact (K _ _ (k2 e)).2 ha
theorem BI.simple {q : Nat} {s ck : List Nat} (hz : endZ s = false) (h : ∀ (P : List Nat → List Nat → Nat → Bool → Prop), Scan q P → ∀ (rest ckr : List Nat) (len : Nat) (b : Bool), (lst s = 13 → rest.headD 0 ≠ 10) → (lst s = 36 → rest.headD 0 ≠ 123) → P rest ckr len b → P (s ++ rest) (ck ++ ckr) (s.length + len) b) : BI q s ck false := by
  intro P hP rest ckr len b g1 g2 z
  rw [hz]
  exact ⟨fun e => (by cases e), fun _ => h P hP rest ckr len b g1 g2 z⟩
theorem BI.broke {q : Nat} {s ck : List Nat} (h : ∀ (P : List Nat → List Nat → Nat → Bool → Prop), Scan q P → ∀ (rest ckr : List Nat) (len : Nat) (b : Bool), P rest ckr len b → ∃ ck', P (s ++ rest) ck' (s.length + len) true) : BI q s ck true := by
  intro P hP rest ckr len b g1 g2 z
  exact ⟨fun _ => h P hP rest ckr len b z, fun e => (by cases e)⟩

noncomputable def isHem (q : Nat) : Prop := q = 39 ∨ q = 34 ∨ q = 96
theorem BI.pl1 {q c : Nat} (hc : c ≠ q) (h92 : c ≠ 92) (hle : isLE c = false ∨ (q = 96 ∧ c = 10)) (hf : isFar c = false) : BI q [c] [c] false := by
  refine BI.simple (by unfold endZ; simp) fun P hP rest ckr len b g1 g2 z => ?_
  have := hP.pl (c := c) hc h92 (fun h => by rcases hle with h' | h'; exact h'; exact absurd h'.1 h) (fun h => ⟨fun e => by
    rcases hle with h' | h'
    · rw [e] at h'; cases h'
    · lia, fun e => g2 e.1 e.2⟩) z
  rw [hf, Bool.false_or] at this
  exact this
theorem BI.esc2 {q c : Nat} {x : List Nat} (h : ∀ r, escF (c :: r) = some (x, 2)) (h48 : c ≠ 48) : BI q [92, c] x false := by
  refine BI.simple (by unfold endZ; simp; exact h48) fun P hP rest ckr len b g1 g2 z => ?_
  exact hP.esc (m := 1) (h rest) z
theorem BI.escZ {q : Nat} (hq : isHem q) : BI q [92, 48] [0] false := by
  intro P hP rest ckr len b g1 g2 z
  have e0 : endZ [92, 48] = true := rfl
  rw [e0, Bool.false_or, Bool.true_and]
  refine ⟨fun e => ?_, fun e => ?_⟩
  · have h1 : escF (48 :: rest) = none := by
      unfold escF
      dsimp only
      rw [if_neg (by decide), if_neg (by decide), if_neg (by rintro ⟨h, _⟩; cases h), if_neg (by decide), if_pos (by decide), if_neg (by rintro ⟨_, h⟩; rw [e] at h; cases h)]
    have h2 := hP.pl (c := 48) (by rcases hq with rfl | rfl | rfl <;> decide) (by decide) (fun _ => rfl) (fun _ => ⟨by decide, by rintro ⟨h, _⟩; cases h⟩) z
    have h3 := hP.bad h1 h2
    refine ⟨48 :: ckr, ?_⟩
    · rw [show ([92, 48] : List Nat).length + len = 1 + (1 + len) by simp; lia]
      exact h3
  · have h1 : escF (48 :: rest) = some ([0], 2) := by
      unfold escF
      dsimp only
      rw [if_neg (by decide), if_neg (by decide), if_neg (by rintro ⟨h, _⟩; cases h), if_neg (by decide), if_pos (by decide), if_pos ⟨rfl, e⟩]
    exact hP.esc (m := 1) h1 z
theorem BI.escCR {q : Nat} : BI q [92, 13] [] false := by
  refine BI.simple rfl fun P hP rest ckr len b g1 g2 z => ?_
  have h1 : escF (13 :: rest) = some ([], 2) := by
    unfold escF
    dsimp only
    rw [if_neg (by decide), if_neg (by decide), if_neg (by rintro ⟨_, h⟩; exact g1 rfl h), if_pos (by decide)]
  exact hP.esc (m := 1) h1 z
theorem BI.escCRLF {q : Nat} : BI q [92, 13, 10] [] false := by
  refine BI.simple rfl fun P hP rest ckr len b g1 g2 z => ?_
  exact hP.esc (r := 13 :: 10 :: rest) (m := 2) rfl z
theorem BI.escHole {q : Nat} (hq : isHem q) : BI q [92, 36, 123] [36, 123] false := by
  refine BI.simple rfl fun P hP rest ckr len b g1 g2 z => ?_
  have h2 := hP.pl (c := 123) (by rcases hq with rfl | rfl | rfl <;> decide) (by decide) (fun _ => rfl) (fun _ => ⟨by decide, by rintro ⟨h, _⟩; cases h⟩) z
  have h3 := hP.esc (r := 36 :: 123 :: rest) (m := 1) rfl h2
  rw [show ([92, 36, 123] : List Nat).length + len = 1 + 1 + (1 + len) by simp; lia]
  exact h3

/-! digits -/
theorem valF_ge (b : Nat) : ∀ (s : List Nat) (n : Nat), s ≠ [] → n * b ≤ valF b n s
  | [], _, h => absurd rfl h
  | c :: s, n, _ => by
    rw [valF]
    cases s with
    | nil => rw [valF]; exact Nat.le_add_right _ _
    | cons d s =>
      by_cases hb : b = 0
      · subst hb; rw [Nat.mul_zero]; exact Nat.zero_le _
      · have ih := valF_ge b (d :: s) (n * b + digV c) (by simp)
        refine Nat.le_trans ?_ ih
        exact Nat.le_trans (Nat.le_add_right _ (digV c)) (Nat.le_mul_of_pos_right _ (by lia))
theorem hexN_app (rest : List Nat) : ∀ (ds : List Nat) (n : Nat), DigL 16 ds → hexN (ds ++ rest) ds.length n = some (valF 16 n ds)
  | [], n, _ => by simp [hexN, valF]
  | c :: ds, n, h => by
    obtain ⟨h1, h2⟩ := h c (by simp)
    rw [List.length_cons, hexN, List.cons_append]
    show (if 15 < digV c then none else hexN (ds ++ rest) ds.length (n * 16 + digV c)) = _
    rw [if_neg (by lia), hexN_app rest ds _ (fun x hx => h x (by simp [hx])), valF]
theorem cpF_app (rest : List Nat) : ∀ (ds : List Nat) (n cnt : Nat), DigL 16 ds → (ds = [] → cnt ≠ 0) → valF 16 n ds < 65536 → isFar (valF 16 n ds) = false → cpF (ds ++ 125 :: rest) n cnt = some ([valF 16 n ds], ds.length + 1)
  | [], n, cnt, _, hc, _, _ => by
    rw [List.nil_append, cpF, if_neg (by decide), if_neg (by have := hc rfl; lia)]
    rfl
  | c :: ds, n, cnt, h, hc, hv, hf => by
    obtain ⟨h1, h2⟩ := h c (by simp)
    have hf' : isFar (n * 16 + digV c) = false := by
      cases ds with
      | nil => exact hf
      | cons d ds =>
        have := valF_ge 16 (d :: ds) (n * 16 + digV c) (by simp)
        rw [valF] at hv
        have hs : n * 16 + digV c < 4096 := by lia
        unfold isFar
        rw [decide_eq_false (by lia), decide_eq_false (show ¬ 65535 < n * 16 + digV c by lia)]
        rfl
    rw [List.cons_append, cpF, if_pos (by lia), if_neg (by rw [hf']; decide), cpF_app rest ds _ _ (fun x hx => h x (by simp [hx])) (by lia) hv hf]
    rfl
theorem endZ_no {s : List Nat} (h : lst s ≠ 48 ∨ lst s.dropLast ≠ 92) : endZ s = false := by
  unfold endZ
  rw [decide_eq_false_iff_not]
  intro e
  have hl : 2 ≤ s.length := by
    have := congrArg List.length e
    rw [List.length_drop] at this
    simp only [List.length_cons, List.length_nil] at this
    lia
  have es : s = s.take (s.length - 2) ++ [92, 48] := by
    have := List.take_append_drop (s.length - 2) s
    rw [e] at this
    exact this.symm
  rw [es] at h
  rcases h with h | h
  · rw [lst_app (by simp)] at h; exact h rfl
  · rw [show s.take (s.length - 2) ++ [92, 48] = (s.take (s.length - 2) ++ [92]) ++ [48] by simp, List.dropLast_concat, lst_app (by simp)] at h
    exact h rfl
theorem BI.hex {q v : Nat} {ds : List Nat} (hd : DigL 16 ds) (hl : ds.length = 2 ∨ ds.length = 4) (hv : valF 16 0 ds = v) (hf : isFar v = false) (hz : lst (ds.dropLast) ≠ 92) (hh : ds.headD 0 ≠ 123) : BI q (92 :: (if ds.length = 2 then 120 else 117) :: ds) [v] false := by
  have hne : ds ≠ [] := by rintro rfl; rcases hl with h | h <;> cases h
  have hne2 : ds.dropLast ≠ [] := by
    intro e
    have := congrArg List.length e
    rw [List.length_dropLast] at this
    simp only [List.length_nil] at this
    lia
  refine BI.simple (endZ_no (.inr ?_)) fun P hP rest ckr len b g1 g2 z => ?_
  · rw [show 92 :: (if ds.length = 2 then 120 else 117) :: ds = [92, (if ds.length = 2 then 120 else 117)] ++ ds from rfl, List.dropLast_append_of_ne_nil hne, lst_app hne2]
    exact hz
  · rcases hl with h | h
    · rw [if_pos h]
      have he : escF (120 :: (ds ++ rest)) = some ([v], 3 + 1) := by
        show (hexE (ds ++ rest) 2).map _ = _
        unfold hexE
        have := hexN_app rest ds 0 hd
        rw [h] at this
        rw [this, hv]
        dsimp only
        rw [if_neg (by rw [hf]; decide)]
        rfl
      have := hP.esc (m := 3) he (by rw [show (120 :: (ds ++ rest)).drop 3 = (ds ++ rest).drop (ds.length + 0) by rw [h]; rfl, drop_app]; exact z)
      rw [List.cons_append, List.cons_append]
      rw [show (92 :: 120 :: ds).length + len = 3 + 1 + len by simp only [List.length_cons]; lia]
      exact this
    · rw [if_neg (by lia)]
      have he : escF (117 :: (ds ++ rest)) = some ([v], 5 + 1) := by
        show (if (ds ++ rest).headD 0 = 123 then _ else (hexE (ds ++ rest) 4).map _) = _
        rw [if_neg (by rw [head_app hne]; exact hh)]
        unfold hexE
        have := hexN_app rest ds 0 hd
        rw [h] at this
        rw [this, hv]
        dsimp only
        rw [if_neg (by rw [hf]; decide)]
        rfl
      have := hP.esc (m := 5) he (by rw [show (117 :: (ds ++ rest)).drop 5 = (ds ++ rest).drop (ds.length + 0) by rw [h]; rfl, drop_app]; exact z)
      rw [List.cons_append, List.cons_append]
      rw [show (92 :: 117 :: ds).length + len = 5 + 1 + len by simp only [List.length_cons]; lia]
      exact this
theorem BI.code {q v : Nat} {ds : List Nat} (hd : DigL 16 ds) (hl : ds ≠ []) (hv : valF 16 0 ds = v) (hf : isFar v = false) : BI q (92 :: 117 :: 123 :: ds ++ [125]) [v] false := by
  have hlt := far_le hf
  refine BI.simple (endZ_no (.inl ?_)) fun P hP rest ckr len b g1 g2 z => ?_
  · rw [lst_app (by simp)]; decide
  · have he : escF (117 :: 123 :: (ds ++ 125 :: rest)) = some ([v], (ds.length + 3) + 1) := by
      show (cpF (ds ++ 125 :: rest) 0 0).map _ = _
      rw [cpF_app rest ds 0 0 hd (fun e => absurd e hl) (by rw [hv]; lia) (by rw [hv]; exact hf), hv]
      rfl
    have := hP.esc (m := ds.length + 3) he (by
      rw [show ds.length + 3 = (ds.length + 1) + 1 + 1 by lia, List.drop_succ_cons, List.drop_succ_cons, drop_app]
      exact z)
    rw [List.append_assoc, List.cons_append, List.cons_append, List.cons_append]
    have e : (92 :: 117 :: 123 :: ds ++ [125]).length = ds.length + 3 + 1 := by simp
    rw [e]
    exact this

/-! the atoms -/
noncomputable def atomsL : List (List Nat × List Nat) := [([97], [97]), ([55], [55]), ([32], [32]), ([47, 47], [47, 47]), ([47, 42], [47, 42]), ([97, 123, 125], [97, 123, 125]), ([92, 110], [10]), ([92, 116], [9]), ([92, 114], [13]), ([92, 98], [8]), ([92, 118], [11]), ([92, 102], [12]), ([92, 48], [0]), ([92, 92], [92]), ([92, 39], [39]), ([92, 34], [34]), ([92, 96], [96]), ([92, 113], [113]), ([92, 10], []), ([92, 13, 10], []), ([92, 13], []), ([92, 36, 123], [36, 123]), ([36], [36]), ([92, 8232], []), ([8232], [8232])]
theorem BI.pls {q : Nat} (hq : isHem q) : ∀ (s : List Nat), (∀ c ∈ s, c ≠ 39 ∧ c ≠ 34 ∧ c ≠ 96 ∧ c ≠ 92 ∧ c ≠ 36 ∧ c ≠ 48 ∧ isLE c = false ∧ isFar c = false) → BI q s s false ∧ (s ≠ [] → lst s ≠ 13 ∧ lst s ≠ 36 ∧ endZ s = false) := by
  intro s
  suffices ∀ r : List Nat, (∀ c ∈ r, c ≠ 39 ∧ c ≠ 34 ∧ c ≠ 96 ∧ c ≠ 92 ∧ c ≠ 36 ∧ c ≠ 48 ∧ isLE c = false ∧ isFar c = false) → BI q r.reverse r.reverse false ∧ (r ≠ [] → lst r.reverse ≠ 13 ∧ lst r.reverse ≠ 36 ∧ endZ r.reverse = false) by
    intro h
    have := this s.reverse (by simpa using h)
    rw [List.reverse_reverse] at this
    refine ⟨this.1, fun hn => this.2 (by simpa using hn)⟩
  intro r
  induction r with
  | nil => exact fun _ => ⟨BI.nil, fun h => absurd rfl h⟩
  | cons c r ih =>
    intro h
    obtain ⟨h1, h2, h3, h4, h5, h6, h7, h8⟩ := h c (by simp)
    obtain ⟨i1, i2⟩ := ih fun x hx => h x (by simp [hx])
    rw [List.reverse_cons]
    have hp : BI q [c] [c] false := BI.pl1 (by rcases hq with rfl | rfl | rfl <;> assumption) h4 (.inl h7) h8
    have l1 : lst (r.reverse ++ [c]) = c := by rw [lst_app (by simp)]; rfl
    have hez : endZ (r.reverse ++ [c]) = false := endZ_no (.inl (by rw [l1]; exact h6))
    refine ⟨?_, fun _ => ⟨(by rw [l1]; rintro rfl; cases h7), (by rw [l1]; exact h5), hez⟩⟩
    have hr : lst r.reverse ≠ 13 ∧ lst r.reverse ≠ 36 ∧ endZ r.reverse = false := by
      by_cases hn : r = []
      · subst hn; exact ⟨by decide, by decide, rfl⟩
      · exact i2 hn
    have := BI.app i1 hp (by simp) (by simpa using h6) (fun e => absurd e hr.1) (fun e => absurd e hr.2.1)
    rw [hr.2.2] at this
    exact this
theorem atom_ok {q : Nat} (hq : isHem q) : ∀ p ∈ atomsL, BI q p.1 p.2 false := by
  have pl : ∀ s : List Nat, (s.all fun c => !decide (c = 39) && !decide (c = 34) && !decide (c = 96) && !decide (c = 92) && !decide (c = 36) && !decide (c = 48) && !isLE c && !isFar c) = true → BI q s s false := fun s h => (BI.pls hq s fun c hc => by
    have := List.all_eq_true.mp h c hc
    simp only [Bool.and_eq_true, Bool.not_eq_true', decide_eq_false_iff_not] at this
    obtain ⟨⟨⟨⟨⟨⟨⟨a1, a2⟩, a3⟩, a4⟩, a5⟩, a6⟩, a7⟩, a8⟩ := this
    exact ⟨a1, a2, a3, a4, a5, a6, a7, a8⟩).1
  intro p hp
  simp only [atomsL, List.mem_cons, List.not_mem_nil, or_false] at hp
  rcases hp with rfl | rfl | rfl | rfl | rfl | rfl | rfl | rfl | rfl | rfl | rfl | rfl | rfl | rfl | rfl | rfl | rfl | rfl | rfl | rfl | rfl | rfl | rfl | rfl | rfl
  · exact pl _ rfl
  · exact pl _ rfl
  · exact pl _ rfl
  · exact pl _ rfl
  · exact pl _ rfl
  · exact pl _ rfl
  · exact BI.esc2 (fun _ => rfl) (by decide)
  · exact BI.esc2 (fun _ => rfl) (by decide)
  · exact BI.esc2 (fun _ => rfl) (by decide)
  · exact BI.esc2 (fun _ => rfl) (by decide)
  · exact BI.esc2 (fun _ => rfl) (by decide)
  · exact BI.esc2 (fun _ => rfl) (by decide)
  · exact BI.escZ hq
  · exact BI.esc2 (fun _ => rfl) (by decide)
  · exact BI.esc2 (fun _ => rfl) (by decide)
  · exact BI.esc2 (fun _ => rfl) (by decide)
  · exact BI.esc2 (fun _ => rfl) (by decide)
  · exact BI.esc2 (fun _ => rfl) (by decide)
  · exact BI.esc2 (fun _ => rfl) (by decide)
  · exact BI.escCRLF
  · exact BI.escCR
  · exact BI.escHole hq
  · exact BI.pl1 (by rcases hq with rfl | rfl | rfl <;> decide) (by decide) (.inl rfl) rfl
  · exact BI.esc2 (fun _ => rfl) (by decide)
  · exact BI.pl1 (by rcases hq with rfl | rfl | rfl <;> decide) (by decide) (.inl rfl) rfl
noncomputable def badsL : List (List Nat) := [[92, 120, 103, 49], [92, 117, 49, 50, 32], [92, 117, 123, 125], [92, 117, 123, 49, 49, 48, 48, 48, 48, 125], [92, 56], [92, 117, 123, 49, 48, 48, 48, 48, 125], [92, 117, 123, 49, 50, 32], [92, 120, 53, 32], [92, 48, 49], [92, 117, 68, 56, 48, 48, 32], [70000]]
theorem plains {q : Nat} (hq : isHem q) {P : List Nat → List Nat → Nat → Bool → Prop} (hP : Scan q P) {rest ckr : List Nat} {len : Nat} {b : Bool} (z : P rest ckr len b) : ∀ s : List Nat, (s.all fun c => !decide (c = 39) && !decide (c = 34) && !decide (c = 96) && !decide (c = 92) && !decide (c = 36) && !isLE c && !isFar c) = true → P (s ++ rest) (s ++ ckr) (s.length + len) b
  | [], _ => by rw [List.length_nil, Nat.zero_add]; exact z
  | c :: s, h => by
    rw [List.all_cons] at h
    simp only [Bool.and_eq_true, Bool.not_eq_true', decide_eq_false_iff_not] at h
    obtain ⟨⟨⟨⟨⟨⟨⟨a1, a2⟩, a3⟩, a4⟩, a5⟩, a6⟩, a7⟩, hs⟩ := h
    have ih := plains hq hP z s (by simpa using hs)
    have := hP.pl (c := c) (by rcases hq with rfl | rfl | rfl <;> assumption) a4 (fun _ => a6) (fun _ => ⟨(by rintro rfl; cases a6), fun e => a5 e.1⟩) ih
    rw [a7, Bool.false_or] at this
    rw [List.length_cons, show s.length + 1 + len = 1 + (s.length + len) by lia]
    exact this
theorem bads_ok {q : Nat} (hq : isHem q) : ∀ s ∈ badsL, BI q s [] true := by
  have bd : ∀ s : List Nat, (∀ rest, escF (s ++ rest) = none) → (s.all fun c => !decide (c = 39) && !decide (c = 34) && !decide (c = 96) && !decide (c = 92) && !decide (c = 36) && !isLE c && !isFar c) = true → BI q (92 :: s) [] true := by
    intro s h1 h2
    refine BI.broke fun P hP rest ckr len b z => ⟨s ++ ckr, ?_⟩
    have := hP.bad (h1 rest) (plains hq hP z s h2)
    rw [List.length_cons, show s.length + 1 + len = 1 + (s.length + len) by lia]
    exact this
  intro s hs
  simp only [badsL, List.mem_cons, List.not_mem_nil, or_false] at hs
  rcases hs with rfl | rfl | rfl | rfl | rfl | rfl | rfl | rfl | rfl | rfl | rfl
  · exact bd _ (fun _ => rfl) rfl
  · exact bd _ (fun _ => rfl) rfl
  · exact bd _ (fun _ => rfl) rfl
  · exact bd _ (fun _ => rfl) rfl
  · exact bd _ (fun _ => rfl) rfl
  · exact bd _ (fun _ => rfl) rfl
  · exact bd _ (fun _ => rfl) rfl
  · exact bd _ (fun _ => rfl) rfl
  · exact bd _ (fun _ => rfl) rfl
  · refine bd _ (fun rest => ?_) rfl
    have he : hexE (68 :: 56 :: 48 :: 48 :: 32 :: rest) 4 = none := by
      have h : hexN (68 :: 56 :: 48 :: 48 :: 32 :: rest) 4 0 = some (valF 16 0 [68, 56, 48, 48]) := hexN_app (32 :: rest) [68, 56, 48, 48] 0 (by unfold DigL; decide)
      have h2 : valF 16 0 [68, 56, 48, 48] = 55296 := by decide +kernel
      have h3 : isFar 55296 = true := by decide +kernel
      unfold hexE
      rw [h, h2]
      dsimp only
      rw [if_pos h3]
    simp only [List.cons_append, List.nil_append, escF]
    rw [if_neg (by decide), if_pos trivial, if_neg (by simp), he]
    rfl
  · refine BI.broke fun P hP rest ckr len b z => ⟨70000 :: ckr, ?_⟩
    have e1 : isLE 70000 = false := by decide +kernel
    have e2 : isFar 70000 = true := by decide +kernel
    have := hP.pl (c := 70000) (by rcases hq with rfl | rfl | rfl <;> lia) (by lia) (fun _ => e1) (fun _ => ⟨by lia, by lia⟩) z
    rw [e2, Bool.true_or] at this
    exact this
end
section
set_option maxHeartbeats 200000
theorem EatL.one' {hs hs' : List Nat} {src : List Nat} {ck : Option (List Nat)} {kd nm' fault : Nat} {F : List Nat → Prop} (hk : kd ≠ 0) (hn : src ≠ [])
    (h : ∀ rest, F rest → bk (src ++ rest) = 0 ∧ ∃ tx nm, (∀ c, ck = some c → tx = c ∧ nm = nm') ∧ Tok (src ++ rest) kd tx nm src.length (if 0 < fault then some fault else none)) (hH : ∀ tx nm k e l, Hole hs ⟨kd, tx, nm, k, e, l⟩ hs') : EatL hs [⟨src, (kd : Nat), ck, nm', fault⟩] hs' F := by
  intro line k rest toks f hf hF hR
  obtain ⟨h1, tx, nm, hck, h2⟩ := h rest hF
  refine EatL.one (tx := tx) (nm := nm) (F := fun r => r = rest) hk hn hck (fun r hr => ?_) (fun k e l => hH tx nm k e l) line k rest toks f hf rfl hR
  subst hr
  exact ⟨h1, h2⟩

noncomputable def fOf (br : Bool) : Nat := if br then 1127 else 0
noncomputable def cOf (br : Bool) (ck : List Nat) : Option (List Nat) := if br then none else some ck
theorem BI.use {q : Nat} {s ck : List Nat} {br : Bool} (h : BI q s ck br) {P : List Nat → List Nat → Nat → Bool → Prop} (hP : Scan q P) {rest ckr : List Nat} {len : Nat} (hd : isDig (rest.headD 0) = false) (h10 : rest.headD 0 ≠ 10) (h123 : rest.headD 0 ≠ 123) (z : P rest ckr len false) :
    ∃ ck', (∀ c, cOf br (ck ++ ckr) = some c → ck' = c) ∧ P (s ++ rest) ck' (s.length + len) br := by
  obtain ⟨k1, k2⟩ := h P hP rest ckr len false (fun _ => h10) (fun _ => h123) z
  rw [hd, Bool.and_false, Bool.or_false] at k1 k2
  cases br with
  | true =>
    obtain ⟨ck', k⟩ := k1 rfl
    exact ⟨ck', fun c e => (by cases e), k⟩
  | false => exact ⟨_, fun c e => (by cases e; rfl), k2 rfl⟩
theorem bk_q {q : Nat} {r : List Nat} (hq : q = 39 ∨ q = 34 ∨ q = 96 ∨ q = 125) : bk (q :: r) = 0 := by
  rcases hq with rfl | rfl | rfl | rfl <;> exact bk_none rfl (by decide) (by decide) (fun e => by cases e)

theorem eat_str {q : Nat} (hq : q = 39 ∨ q = 34) {s ck : List Nat} {br : Bool} (h : BI q s ck br) {hs : List Nat} : EatL hs [⟨q :: s ++ [q], 4, cOf br ck, 0, fOf br⟩] hs (fun _ => True) := by
  refine EatL.one' (kd := 4) (by decide) (by simp) (fun rest _ => ⟨bk_q (by lia), ?_⟩) (fun tx nm k e l => Hole.same (by dsimp only; decide) (by rintro ⟨e, _⟩; cases e))
  have hd : isDig q = false := by rcases hq with rfl | rfl <;> rfl
  obtain ⟨ck', h1, h2⟩ := h.use (scan_str hq false) (rest := q :: rest) (ckr := []) (len := 1) hd (show q ≠ 10 by lia) (show q ≠ 123 by lia) .close
  rw [List.append_nil] at h1
  refine ⟨ck', 0, fun c e => ⟨h1 c e, rfl⟩, ?_⟩
  have := Tok.str hq h2
  have e1 : q :: s ++ [q] ++ rest = q :: (s ++ q :: rest) := by simp
  have e2 : (q :: s ++ [q]).length = 1 + (s.length + 1) := by simp; lia
  have e3 : (if 0 < fOf br then some (fOf br) else none) = (if (false : Bool) = true then some 1002 else if br = true then some 1127 else none) := by cases br <;> rfl
  rw [e1, e2, e3]
  exact this
theorem eat_stro {q : Nat} (hq : q = 39 ∨ q = 34) {s ck : List Nat} {br : Bool} (h : BI q s ck br) {hs : List Nat} : EatL hs [⟨q :: s ++ [122], 4, cOf br (ck ++ [122]), 0, 1002⟩] hs (Fol ⟨q :: s ++ [122], 4, cOf br (ck ++ [122]), 0, 1002⟩) := by
  refine EatL.one' (kd := 4) (by decide) (by simp) (fun rest hF => ⟨bk_q (by lia), ?_⟩) (fun tx nm k e l => Hole.same (by dsimp only; decide) (by rintro ⟨e, _⟩; cases e))
  have hr := hF.2.2.2 rfl rfl
  have z : StrR q rest [] 0 false true := by
    cases rest with
    | nil => exact .eof
    | cons c r =>
      refine .le ?_
      rcases hr with h | h
      · cases h
      · exact h
  have z2 : StrR q (122 :: rest) [122] (1 + 0) false true := StrR.pl (c := 122) (by lia) (by decide) rfl z
  obtain ⟨ck', h1, h2⟩ := h.use (scan_str hq true) (rest := 122 :: rest) (ckr := [122]) (len := 1) rfl (show (122 : Nat) ≠ 10 by decide) (show (122 : Nat) ≠ 123 by decide) z2
  refine ⟨ck', 0, fun c e => ⟨h1 c e, rfl⟩, ?_⟩
  have := Tok.str hq h2
  have e1 : q :: s ++ [122] ++ rest = q :: (s ++ 122 :: rest) := by simp
  have e2 : (q :: s ++ [122]).length = 1 + (s.length + 1) := by simp; lia
  rw [e1, e2]
  exact this

theorem eat_tpl {s ck : List Nat} {br : Bool} (h : BI 96 s ck br) {hs : List Nat} : EatL hs [⟨96 :: s ++ [96], 6, cOf br ck, 0, fOf br⟩] hs (fun _ => True) := by
  refine EatL.one' (kd := 6) (by decide) (by simp) (fun rest _ => ⟨bk_q (by lia), ?_⟩) (fun tx nm k e l => Hole.same (by dsimp only; decide) (by rintro ⟨e, _⟩; cases e))
  obtain ⟨ck', h1, h2⟩ := h.use (scan_tpl 1) (rest := 96 :: rest) (ckr := []) (len := 1) rfl (show (96 : Nat) ≠ 10 by decide) (show (96 : Nat) ≠ 123 by decide) .close
  rw [List.append_nil] at h1
  refine ⟨ck', 0, fun c e => ⟨h1 c e, rfl⟩, ?_⟩
  have := Tok.tpl h2
  have e1 : 96 :: s ++ [96] ++ rest = 96 :: (s ++ 96 :: rest) := by simp
  have e2 : (96 :: s ++ [96]).length = 1 + (s.length + 1) := by simp; lia
  have e3 : (if 0 < fOf br then some (fOf br) else none) = (if (1 : Nat) = 2 then some 1160 else if br = true then some 1127 else none) := by cases br <;> rfl
  rw [e1, e2, e3]
  exact this
theorem eat_tplh {s ck : List Nat} {br : Bool} (h : BI 96 s ck br) {hs : List Nat} : EatL hs [⟨96 :: s ++ [36, 123], 7, cOf br ck, 0, fOf br⟩] (hs ++ [0]) (fun _ => True) := by
  refine EatL.one' (kd := 7) (by decide) (by simp) (fun rest _ => ⟨bk_q (by lia), ?_⟩) (fun tx nm k e l => Hole.head rfl)
  obtain ⟨ck', h1, h2⟩ := h.use (scan_tpl 0) (rest := 36 :: 123 :: rest) (ckr := []) (len := 2) rfl (show (36 : Nat) ≠ 10 by decide) (show (36 : Nat) ≠ 123 by decide) .hole
  rw [List.append_nil] at h1
  refine ⟨ck', 0, fun c e => ⟨h1 c e, rfl⟩, ?_⟩
  have := Tok.tpl h2
  have e1 : 96 :: s ++ [36, 123] ++ rest = 96 :: (s ++ 36 :: 123 :: rest) := by simp
  have e2 : (96 :: s ++ [36, 123]).length = 1 + (s.length + 2) := by simp; lia
  have e3 : (if 0 < fOf br then some (fOf br) else none) = (if (0 : Nat) = 2 then some 1160 else if br = true then some 1127 else none) := by cases br <;> rfl
  rw [e1, e2, e3]
  exact this
theorem EatL.resc {hs s : List Nat} {ck : Option (List Nat)} {cl fault : Nat} {F : List Nat → Prop} (h : ∀ rest, F rest → ∃ ck' b, (∀ c, ck = some c → ck' = c) ∧ TplR (s ++ rest) ck' s.length cl b ∧ (if cl = 2 then some 1160 else if b then some 1127 else none) = (if 0 < fault then some fault else none)) :
    EatL (hs ++ [0]) [⟨125 :: s, ((if cl = 0 then 8 else 9 : Nat) : Int), ck, 0, fault⟩] (if cl = 0 then hs ++ [0] else hs) F := by
  intro line k rest toks f hf hF hR
  obtain ⟨ck', b, h1, h2, h3⟩ := h rest hF
  obtain ⟨kd, ekd⟩ : ∃ kd, (if cl = 0 then 8 else 9 : Nat) = kd := ⟨_, rfl⟩
  have hp : (0 : Int) ≤ ((kd : Nat) : Int) := Int.natCast_nonneg _
  rw [ekd] at hR ⊢
  have e1 : srcs [(⟨125 :: s, (kd : Nat), ck, 0, fault⟩ : Part)] = 125 :: s := by simp [srcs]
  rw [e1] at hR ⊢
  simp only [lineOf, hp, if_true] at hR
  refine ⟨[⟨kd, ck', 0, k, k + (1 + s.length), line⟩], ?_, ?_⟩
  · simp only [wantsOf, hp, if_true, List.append_nil]
    exact .cons ⟨by simp, rfl, by simp; lia, rfl, fun c e => ⟨h1 c e, rfl⟩⟩ .nil
  · have hs125 := sign_lone (r := s ++ rest) (c := 125) (.inr (.inr rfl))
    rw [if_pos (show lst1.contains 125 = true from rfl)] at hs125
    have hT : Tok (125 :: (s ++ rest)) 5 [125] 0 1 none := by
      have := Tok.sign (c := 125) (r := s ++ rest) rfl rfl (by decide) (by decide) (by decide) (by rintro ⟨e, _⟩; cases e) hs125 (by simp)
      rw [if_neg (by rintro ⟨e, _⟩; cases e)] at this
      exact this
    have hb : bk (125 :: (s ++ rest)) = 0 := bk_q (by lia)
    have hT1 := Take.tok (line := line) (k := k) (Blank.stop hb) (by simp) (by rw [List.drop_zero]; exact hT)
    rw [Nat.add_zero, Bool.or_false] at hT1
    have e4 : k + (125 :: s).length = k + (1 + s.length) := by simp; lia
    rw [e4] at hR
    have := Run.rescan (hs := hs) (r1 := s ++ rest) (x := 125) hT1 rfl rfl (Nat.le_refl _) (by rw [Nat.sub_self]; rfl) h2 (by simp; lia) (by
      dsimp only
      rw [Nat.sub_self, Nat.zero_add, show 1 + s.length = (125 :: s).length + 0 by simp; lia, show 125 :: (s ++ rest) = 125 :: s ++ rest from rfl, drop_app, List.drop_zero]
      rw [show (125 :: s).length + 0 = 1 + s.length by simp; lia]
      exact hR)
    dsimp only at this
    rw [h3, ekd] at this
    have e5 : fl1 (if 0 < fault then some fault else none) k = toldOf [(⟨125 :: s, (kd : Nat), ck, 0, fault⟩ : Part)] k := by
      simp only [toldOf, List.append_nil]
      split <;> rfl
    rw [e5] at this
    exact this
theorem eat_tail {s ck : List Nat} {br : Bool} (h : BI 96 s ck br) {hs : List Nat} : EatL (hs ++ [0]) [⟨125 :: s ++ [96], 9, cOf br ck, 0, fOf br⟩] hs (fun _ => True) := by
  refine EatL.resc (cl := 1) (s := s ++ [96]) (fun rest _ => ?_)
  obtain ⟨ck', h1, h2⟩ := h.use (scan_tpl 1) (rest := 96 :: rest) (ckr := []) (len := 1) rfl (show (96 : Nat) ≠ 10 by decide) (show (96 : Nat) ≠ 123 by decide) .close
  rw [List.append_nil] at h1
  refine ⟨ck', br, h1, ?_, by cases br <;> rfl⟩
  rw [List.length_append, List.append_assoc]
  exact h2
theorem eat_mid {s ck : List Nat} {br : Bool} (h : BI 96 s ck br) {hs : List Nat} : EatL (hs ++ [0]) [⟨125 :: s ++ [36, 123], 8, cOf br ck, 0, fOf br⟩] (hs ++ [0]) (fun _ => True) := by
  refine EatL.resc (cl := 0) (s := s ++ [36, 123]) (fun rest _ => ?_)
  obtain ⟨ck', h1, h2⟩ := h.use (scan_tpl 0) (rest := 36 :: 123 :: rest) (ckr := []) (len := 2) rfl (show (36 : Nat) ≠ 10 by decide) (show (36 : Nat) ≠ 123 by decide) .hole
  rw [List.append_nil] at h1
  refine ⟨ck', br, h1, ?_, by cases br <;> rfl⟩
  rw [List.length_append, List.append_assoc]
  exact h2
/-! the ends -/
theorem eat_e3 {hs : List Nat} : EatL hs [⟨[39, 113], 4, some [113], 0, 1002⟩] hs (fun r => r = []) := by
  refine EatL.one' (kd := 4) (by decide) (by simp) (fun rest hF => ⟨bk_q (by lia), [113], 0, fun c e => (by cases e; exact ⟨rfl, rfl⟩), ?_⟩) (fun tx nm k e l => Hole.same (by dsimp only; decide) (by rintro ⟨e, _⟩; cases e))
  subst hF
  exact Tok.str (.inl rfl) (StrR.pl (c := 113) (by decide) (by decide) rfl .eof)
theorem eat_e4 {hs : List Nat} : EatL hs [⟨[96, 113], 6, some [113], 0, 1160⟩] hs (fun r => r = []) := by
  refine EatL.one' (kd := 6) (by decide) (by simp) (fun rest hF => ⟨bk_q (by lia), [113], 0, fun c e => (by cases e; exact ⟨rfl, rfl⟩), ?_⟩) (fun tx nm k e l => Hole.same (by dsimp only; decide) (by rintro ⟨e, _⟩; cases e))
  subst hF
  exact Tok.tpl (TplR.pl (c := 113) (by decide) (by decide) (by decide) (by rintro ⟨e, _⟩; cases e) .eof)
theorem eat_e5 {hs : List Nat} : EatL (hs ++ [0]) [⟨[125, 32, 113], 9, some [32, 113], 0, 1160⟩] hs (fun r => r = []) := by
  refine EatL.resc (cl := 2) (s := [32, 113]) (fun rest hF => ?_)
  subst hF
  exact ⟨[32, 113], false, fun c e => (by cases e; rfl), TplR.pl (c := 32) (by decide) (by decide) (by decide) (by rintro ⟨e, _⟩; cases e) (TplR.pl (c := 113) (by decide) (by decide) (by decide) (by rintro ⟨e, _⟩; cases e) .eof), rfl⟩
theorem eat_e1 {hs : List Nat} : EatL hs [⟨[47, 47, 32, 113], -1, none, 0, 0⟩] hs (fun r => r = []) := by
  intro line k rest toks f hf hF hR
  subst hF
  refine ⟨[], .nil, ?_⟩
  refine Run.skip (a := [47, 47, 32, 113]) (g := []) (fun tk f hT => ?_) hR
  obtain ⟨m, l, o, h1, h2⟩ := hT.see
  refine Blank.nilE h1 fun em el eo => ?_
  rw [em] at h2
  obtain ⟨e1, e2⟩ := h2
  rw [e1, e2, eo, el]
  exact Take.fin (m := 4) (Blank.ln (r := [47, 47, 32, 113]) (k := 0) rfl (Blank.stop rfl)) rfl
theorem eat_tail0 {hs : List Nat} : EatL (hs ++ [0]) [⟨[125, 96], 9, some [], 0, 0⟩] hs (fun _ => True) := eat_tail BI.nil
theorem run_end {line : Bool} {hs : List Nat} {k : Nat} : Run line hs [] k [⟨0, [], 0, k, k, line⟩] [] hs := by
  have := Take.fin (line := line) (k := k) (Blank.stop (r := []) rfl) rfl
  rw [Nat.add_zero, Bool.or_false] at this
  exact Run.fin this rfl
theorem run_open {line b : Bool} {hs : List Nat} {k : Nat} : Run line hs ([47, 42, 32, 113] ++ (if b then [13] else [])) k [⟨0, [], 0, k + (if b then 5 else 4), k + (if b then 5 else 4), line || b⟩] [(1005, k + (if b then 5 else 4))] hs := by
  cases b with
  | true => exact Run.fin (Take.fin (m := 5) (l := true) (o := false) (Blank.op (r := [47, 42, 32, 113, 13]) rfl rfl) rfl) rfl
  | false => exact Run.fin (Take.fin (m := 4) (l := false) (o := false) (Blank.op (r := [47, 42, 32, 113]) rfl rfl) rfl) rfl
end
section
theorem q_mulL {σ : Store} {Q : V → Store → Prop} {y : Nat} (h : Q (.int ((16 * y : Nat) : Int)) σ) : binV .Mult (.int 16) (.int (y : Nat)) σ Q :=
  q_mul (IntMulOk.of_left (by decide +kernel)) h
theorem p_divmod {σ : Store} {Q : V → Store → Prop} {a b : Nat} (hb : 0 < b) (hb2 : b ≤ 100) (h : Q (.tup [.int ((a / b : Nat) : Int), .int ((a % b : Nat) : Int)]) σ) : biV .divmod [.int (a : Nat), .int (b : Nat)] σ Q := by
  refine ⟨by lia, ?_⟩
  rw [Int.fdiv_eq_ediv_of_nonneg _ (by lia), Int.fmod_eq_emod_of_nonneg _ (by lia)]
  exact h
theorem p_idxTS {ds : List V} {xs : List (List Nat)} {k : Nat} {σ : Store} {Q : V → Store → Prop} (hds : ds = xs.map V.str) (hs : xs.length ≤ 1000) (h : k < xs.length) (q : Q (.str (xs.getD k [])) σ) : idxV (.tup ds) (.int k) σ Q := by
  refine p_idxT (by rw [hds, List.length_map]; lia) (by rw [hds, List.length_map]; exact h) ?_
  rw [hds, List.getD_eq_getElem?_getD, List.getElem?_map]
  rw [List.getD_eq_getElem?_getD] at q
  rw [List.getElem?_eq_getElem h] at q ⊢
  exact q
theorem p_lenTn {ds : List V} {σ : Store} {Q : V → Store → Prop} (n : Int) (h : (ds.length : Int) = n) (hs : ds.length ≤ 1000000) (q : Q (.int n) σ) : biV .len [.tup ds] σ Q := by
  refine p_lenT hs ?_
  rw [h]; exact q

noncomputable def ckV (o : Option (List Nat)) : V := match o with
  | none => .none
  | some c => .str c
noncomputable def PV (p : Part) : V := .tup [.str p.src, .int p.kind, ckV p.cooked, .int (p.num : Nat), .int (p.fault : Nat)]

structure DigP (b w n : Nat) (ds : List Nat) : Prop where
  dig : DigL b ds
  val : valF b 0 ds = n
  max : ds.length ≤ 64 + w
  min : w ≤ ds.length
  exact_ : n < b ^ w → ds.length = w
  lead : w < ds.length → ds.headD 0 ≠ 48
noncomputable def tabL : List Nat := [48, 49, 50, 51, 52, 53, 54, 55, 56, 57, 97, 98, 99, 100, 101, 102, 48, 49, 50, 51, 52, 53, 54, 55, 56, 57, 65, 66, 67, 68, 69, 70]
theorem tab_ok : ∀ cap < 2, ∀ one < 16, pk tabL (one + 16 * cap) ≠ 95 ∧ digV (pk tabL (one + 16 * cap)) = one := by decide +kernel
theorem valF_acc (b : Nat) : ∀ (s : List Nat) (n : Nat), valF b n s = n * b ^ s.length + valF b 0 s
  | [], n => by simp [valF]
  | c :: s, n => by
    rw [valF, valF, valF_acc b s (n * b + digV c), valF_acc b s (0 * b + digV c), List.length_cons, Nat.pow_succ, Nat.add_mul, Nat.zero_mul, Nat.zero_add, Nat.mul_assoc, Nat.mul_comm b]
    lia
theorem digV_0 {c : Nat} (h : digV c ≠ 0) : c ≠ 48 := by
  rintro rfl; exact h (by decide)
section
variable {c : Cx} {GT : List (Str × Value)} (H : Chk c GT) {n : Nat} {σ : Store} {Q : V → Store → Prop}
include H
theorem digits_spec {m b cap w : Nat} (hb : 2 ≤ b) (hb2 : b ≤ 16) (hc : cap < 2) (hw : w ≤ 100) (hm : m < 2 ^ 64) (q : ∀ ds, DigP b w m ds → Q (.str ds) σ) : CallT c (n + 1) 467 [.int (m : Nat), .int (b : Nat), .int (cap : Nat), .int (w : Nat)] σ Q := by
  have loop : ∀ K : Fl → Lo → Store → Prop, (∀ ds x0 x5, DigP b w m ds → K .next [x0, some (.int (b : Nat)), some (.int (cap : Nat)), some (.int (w : Nat)), some (.str ds), x5] σ) → wpS (CallT c n) w_law_digits_1 [some (.int (m : Nat)), some (.int (b : Nat)), some (.int (cap : Nat)), some (.int (w : Nat)), some (.str []), none] σ K := by
    intro K hK
    unfold w_law_digits_1
    obtain ⟨I, hI⟩ : ∃ I : Nat → Lo → Store → Prop, ∀ z env σ', I z env σ' ↔ (∀ P : Nat → Lo → Store → Prop, (∀ (r : Nat) (out : List Nat) (j : Nat) (x5 : Option V), DigL b out → r * b ^ out.length + valF b 0 out = m → r < 2 ^ j → j ≤ 64 → out.length + j ≤ 64 + w → (m < b ^ w → out.length ≤ w ∧ r < b ^ (w - out.length)) → (out.length ≤ w ∨ 0 < r ∨ out.headD 0 ≠ 48) → P (j + (w - out.length)) [some (.int (r : Nat)), some (.int (b : Nat)), some (.int (cap : Nat)), some (.int (w : Nat)), some (.str out), x5] σ) → P z env σ') := ⟨_, fun _ _ _ => Iff.rfl⟩
    refine whl_I I _ ((hI _ _ _).mpr fun _ g => g m [] 64 none (fun _ h => nomatch h) (by simp [valF]) hm (Nat.le_refl _) (by simp) (fun h => ⟨Nat.zero_le _, h⟩) (.inl (Nat.zero_le _))) ?_
    intro z env σ' hz
    apply (hI _ _ _).mp hz
    intro r out j x5 hd hv hj hj64 hlen hex hld
    clear hz
    have body : (0 < r ∨ out.length < w) → wpS (CallT c n) (.seq (.asgT [0, 5] (.bi .divmod (.cons (.loc 0) (.cons (.loc 1) .nil)))) (.seq (.asg 4 (.bin .Add (.idx (.str [48, 49, 50, 51, 52, 53, 54, 55, 56, 57, 97, 98, 99, 100, 101, 102, 48, 49, 50, 51, 52, 53, 54, 55, 56, 57, 65, 66, 67, 68, 69, 70]) (.bin .Add (.loc 5) (.bin .Mult (.int 16) (.loc 2)))) (.loc 4))) .skip)) [some (.int (r : Nat)), some (.int (b : Nat)), some (.int (cap : Nat)), some (.int (w : Nat)), some (.str out), x5] σ (whlK (fun env' σ₂ => ∃ z, z < j + (w - out.length) ∧ I z env' σ₂) K) := by
      intro hgo
      have hone : r % b < 16 := Nat.lt_of_lt_of_le (Nat.mod_lt _ (by lia)) hb2
      have hone' : r % b < b := Nat.mod_lt _ (by lia)
      obtain ⟨t1, t2⟩ := tab_ok cap hc (r % b) hone
      walk_at "st"
      refine p_divmod (by lia) (by lia) ?_
      walk_at "st"
      refine q_mulL ?_
      walk_at "st"
      refine p_idxS (s := tabL) (by decide) (by show r % b + 16 * cap < 32; lia) ?_
      walk_at "st"
      generalize pk tabL (r % b + 16 * cap) = x at t1 t2
      refine q_cat (by simp; lia) ?_
      have hdm := Nat.div_add_mod r b
      have hval : r / b * b ^ (x :: out).length + valF b 0 (x :: out) = m := by
        rw [valF, valF_acc, Nat.zero_mul, Nat.zero_add, t2, List.length_cons, Nat.pow_succ, ← hv]
        have : r * b ^ out.length = (b * (r / b) + r % b) * b ^ out.length := by rw [hdm]
        rw [this, Nat.add_mul, Nat.mul_comm (b ^ out.length) b, ← Nat.mul_assoc, Nat.mul_comm b (r / b)]
        lia
      have hdig : DigL b (x :: out) := by
        intro y hy
        rcases List.mem_cons.mp hy with rfl | hy
        · exact ⟨t1, by lia⟩
        · exact hd y hy
      have hlead : (x :: out).length ≤ w ∨ 0 < r / b ∨ (x :: out).headD 0 ≠ 48 := by
        by_cases h1 : out.length + 1 ≤ w
        · exact .inl h1
        by_cases h2 : 0 < r / b
        · exact .inr (.inl h2)
        refine .inr (.inr (digV_0 ?_))
        show digV x ≠ 0
        have h3 : 0 < r := by lia
        have h4 : r / b = 0 := Nat.eq_zero_of_not_pos h2
        rw [t2]
        rw [h4, Nat.mul_zero] at hdm
        lia
      by_cases hr : 0 < r
      · have hj1 : 1 ≤ j := by
          cases j with
          | zero => rw [Nat.pow_zero] at hj; lia
          | succ j => lia
        have hjd : r / b < 2 ^ (j - 1) := by
          refine Nat.div_lt_of_lt_mul ?_
          have e : 2 ^ j = 2 * 2 ^ (j - 1) := by rw [← Nat.pow_succ']; congr 1; exact (Nat.sub_add_cancel hj1).symm
          rw [e] at hj
          exact Nat.lt_of_lt_of_le hj (Nat.mul_le_mul_right _ hb)
        refine ⟨(j - 1) + (w - (x :: out).length), a_d1 hj1, (hI _ _ _).mpr fun _ g => g (r / b) (x :: out) (j - 1) _ hdig hval hjd (by lia) (by simp only [List.length_cons]; lia) (fun h => ?_) hlead⟩
        obtain ⟨g1, g2⟩ := hex h
        have g3 : 1 ≤ w - out.length := by
          by_cases h0 : w - out.length = 0
          · rw [h0, Nat.pow_zero] at g2; lia
          · lia
        refine ⟨Nat.lt_of_sub_pos g3, Nat.div_lt_of_lt_mul ?_⟩
        have e : b ^ (w - out.length) = b * b ^ (w - (x :: out).length) := by rw [← Nat.pow_succ']; congr 1; exact a_s1 (Nat.lt_of_sub_pos g3)
        rw [← e]; exact g2
      · have hr0 : r = 0 := by lia
        have hlw : out.length < w := by lia
        subst hr0
        rw [Nat.zero_div] at hval hlead
        refine ⟨j + (w - (x :: out).length), Nat.add_lt_add_left (a_sl (Nat.lt_succ_self _) hlw) j, (hI _ _ _).mpr fun _ g => g (0 / b) (x :: out) j _ hdig (by rw [Nat.zero_div]; exact hval) (by rw [Nat.zero_div]; exact hj) hj64 (by simp only [List.length_cons]; lia) (fun h => ⟨by simp only [List.length_cons]; lia, by rw [Nat.zero_div]; exact Nat.pow_pos (by lia)⟩) (by rw [Nat.zero_div]; exact hlead)⟩
    have hol : out.length ≤ 1000000 := by lia
    walk_at "se"
    by_cases hr : 0 < r
    · walk_at "se"
      exact body (.inl hr)
    · walk_at "se"
      by_cases hl : out.length < w
      · walk_at "se"
        exact body (.inr hl)
      · walk_at "se"
        have hr0 : r = 0 := by lia
        subst hr0
        rw [Nat.zero_mul, Nat.zero_add] at hv
        refine hK _ _ _ ⟨hd, hv, by lia, by lia, fun h => ?_, fun h => ?_⟩
        · have := (hex h).1; lia
        · rcases hld with h1 | h1 | h1
          · lia
          · lia
          · exact h1
  refine fn_sound H.k_law_digits H.gt rfl ?_; unfold b_law_digits
  refine st_seq (st_asg (e_str ?_))
  refine st_seq (loop _ fun ds x0 x5 h => ?_)
  walk_at "st"
  exact q ds h
end
end
section
theorem clp_lo (k n : Nat) : clp (some (k : Int)) 0 n = min k n := clamp_pos k n
theorem clp_hi (k n : Nat) : clp (some (k : Int)) n n = min k n := clamp_pos k n
theorem clp_lo_neg (k n : Nat) (hk : 0 < k) : clp (some (-(k : Int))) 0 n = n - k := clamp_neg k n hk
theorem clp_hi_neg (k n : Nat) (hk : 0 < k) : clp (some (-(k : Int))) n n = n - k := clamp_neg k n hk
theorem sl_to (t : List Nat) (k : Nat) : slL t none (some (k : Nat)) = t.take k := by
  rw [slL_eq, clp_hi]
  show (t.drop 0).take (min k t.length - 0) = _
  rw [List.drop_zero, Nat.sub_zero]
  by_cases h : k ≤ t.length
  · rw [Nat.min_eq_left h]
  · rw [List.take_of_length_le (a_min h), List.take_of_length_le (Nat.le_of_lt (Nat.lt_of_not_le h))]
theorem sl_from (t : List Nat) (k : Nat) : slL t (some (k : Nat)) none = t.drop k := by
  rw [slL_eq, clp_lo]
  show (t.drop (min k t.length)).take (t.length - min k t.length) = _
  rw [List.take_of_length_le (by rw [List.length_drop]; lia)]
  by_cases h : k ≤ t.length
  · rw [Nat.min_eq_left h]
  · rw [List.drop_of_length_le (a_min h), List.drop_of_length_le (Nat.le_of_lt (Nat.lt_of_not_le h))]
theorem sl_toN (t : List Nat) (k : Nat) (hk : 0 < k) : slL t none (some (-(k : Int))) = t.take (t.length - k) := by
  rw [slL_eq, clp_hi_neg _ _ hk]
  rfl
theorem sl_fromN (t : List Nat) (k : Nat) (hk : 0 < k) : slL t (some (-(k : Int))) none = t.drop (t.length - k) := by
  rw [slL_eq, clp_lo_neg _ _ hk]
  show (t.drop (t.length - k)).take (t.length - (t.length - k)) = _
  rw [List.take_of_length_le (by rw [List.length_drop]; lia)]
theorem sl_to1 (t : List Nat) : slL t none (some 1) = t.take 1 := sl_to t 1
theorem sl_from1 (t : List Nat) : slL t (some 1) none = t.drop 1 := sl_from t 1
theorem sl_toN1 (t : List Nat) : slL t none (some (-1)) = t.dropLast := by
  rw [List.dropLast_eq_take]; exact sl_toN t 1 (by decide)
theorem sl_fromN1 (t : List Nat) : slL t (some (-1)) none = t.drop (t.length - 1) := sl_fromN t 1 (by decide)
theorem sl_fromN2 (t : List Nat) : slL t (some (-2)) none = t.drop (t.length - 2) := sl_fromN t 2 (by decide)

noncomputable def HdOK (p : Part) : Prop := p.src ≠ [] ∧ (p.kind = 1 → isNS (p.src.headD 0) = true ∨ p.src.headD 0 = 35) ∧ (p.kind = 2 → isNS (p.src.headD 0) = true) ∧ (p.kind = 3 → isDig (p.src.headD 0) = true) ∧ (p.kind = 4 → p.src.headD 0 = 39 ∨ p.src.headD 0 = 34) ∧
  (p.kind = 6 ∨ p.kind = 7 → p.src.headD 0 = 96) ∧ (p.kind = 8 ∨ p.kind = 9 → p.src.headD 0 = 125) ∧ (p.kind = -1 → p.src.headD 0 = 92 ∨ p.src.headD 0 = 233 ∨ p.src.headD 0 = 35 ∨ p.src.headD 0 = 0 ∨ p.src.headD 0 = 32) ∧ (p.kind = -1 ∨ (1 ≤ p.kind ∧ p.kind ≤ 9)) ∧ (p.kind = 5 → isNP (p.src.headD 0) = false)
structure POne (p : Part) : Prop where
  eats : ∀ hs, EatL hs [p] hs (Fol p)
  len : p.src.length ≤ 150
  hd : HdOK p
noncomputable def badNumL : List (List Nat) := match g_law_bad_numbers with
  | .tup ds => (strsOf ds).getD []
  | _ => []
theorem bad_nums : ∀ x ∈ badNumL, (numF x).2 = (x.length, false) ∧ isDig (x.headD 0) = true ∧ x.length ≤ 30 := by decide +kernel
theorem getD_mem {α : Type} {l : List α} {k : Nat} {d : α} (h : k < l.length) : l.getD k d ∈ l := by
  rw [List.getD_eq_getElem?_getD, List.getElem?_eq_getElem h]; exact List.getElem_mem _
theorem hd_num {p : Part} (h3 : p.kind = 3) (hd : isDig (p.src.headD 0) = true) : HdOK p := by
  refine ⟨?_, fun h => by lia, fun h => by lia, fun _ => hd, fun h => by lia, fun h => by lia, fun h => by lia, fun h => by lia, by lia, fun h => by lia⟩
  intro e; rw [e] at hd; cases hd
theorem dig10 {x : Nat} (h : digV x < 10) : isDig x = true := by
  unfold digV at h
  unfold isDig
  split at h
  · rename_i h1
    rw [decide_eq_true h1.1, decide_eq_true h1.2]; rfl
  split at h
  · rename_i h1
    exact absurd h (Nat.not_lt.mpr (Nat.le_sub_of_add_le h1.1))
  split at h
  · rename_i h1
    exact absurd h (Nat.not_lt.mpr (Nat.le_sub_of_add_le h1.1))
  · exact absurd h (by decide)
theorem pnum {src : List Nat} {v : Nat} (h : numF src = (v, src.length, true)) (hd : isDig (src.headD 0) = true) (hl : src.length ≤ 150) : POne ⟨src, 3, some (intS (v : Nat)), v, 0⟩ :=
  ⟨fun hs => eat_num (o := true) h hd (fun c e => by cases e; exact ⟨rfl, rfl⟩) rfl, hl, hd_num rfl hd⟩
theorem num_dec {v : Nat} {ds : List Nat} (h : DigP 10 1 v ds) (hv : v ≤ 9007199254740991) : POne ⟨ds, 3, some (intS (v : Nat)), v, 0⟩ ∧ (1 < ds.length → POne ⟨ds.take 1 ++ [95] ++ ds.drop 1, 3, some (intS (v : Nat)), v, 0⟩) := by
  cases ds with
  | nil => exact absurd h.min (by simp)
  | cons x r =>
    have hx := h.dig x (by simp)
    have hd : isDig x = true := dig10 hx.2
    have hmax := h.max
    refine ⟨pnum (src := x :: r) (dig_ok (b := 10) (ds := x :: r) ?_ rfl (by simp) (by rw [rdg_all h.dig (by simp), h.val]) hv (fun _ e => ?_)) hd (by lia), fun hl => ?_⟩
    · by_cases hx48 : x = 48
      · cases r with
        | nil => subst hx48; rfl
        | cons y r => exact absurd hx48 (h.lead (by simp))
      · show baseOf x _ = 10
        unfold baseOf
        rw [if_pos hx48]
    · by_cases hl : 1 < (x :: r).length
      · exact absurd e (h.lead hl)
      · lia
    · have hr : r ≠ [] := by rintro rfl; simp at hl
      have hx48 : x ≠ 48 := h.lead hl
      have hu := rdg_under (b := 10) (s := [x]) (s2 := r) (n := 0) (un := false) (fun y hy => by rw [List.mem_singleton.mp hy]; exact hx) (by simp) (fun y hy => h.dig y (by simp [hy])) hr
      rw [show [x] ++ r = x :: r from rfl, h.val] at hu
      refine pnum (src := [x] ++ [95] ++ r) (dig_ok (b := 10) (ds := [x] ++ 95 :: r) ?_ rfl (by simp) hu hv (fun _ e => absurd e hx48)) hd (by simp at hmax ⊢; lia)
      show baseOf x _ = 10
      unfold baseOf
      rw [if_pos hx48]
theorem num_base {b w v ld : Nat} {ds : List Nat} (hb : b ≠ 10) (hld : baseOf 48 ld = b) (h : DigP b w v ds) (hw : 1 ≤ w) (hw3 : w ≤ 10) (hb2 : b ≤ 16) (hv : v ≤ 9007199254740991) :
    POne ⟨[48] ++ [ld] ++ ds, 3, some (intS (v : Nat)), v, 0⟩ ∧ (1 < ds.length → POne ⟨[48] ++ [ld] ++ (ds.dropLast ++ [95] ++ ds.drop (ds.length - 1)), 3, some (intS (v : Nat)), v, 0⟩) ∧ (¬ 1 < ds.length → POne ⟨[48] ++ [ld] ++ ([48] ++ ds.drop (ds.length - 1)), 3, some (intS (v : Nat)), v, 0⟩) := by
  have hmin := h.min
  have hmax := h.max
  have hne : ds ≠ [] := by rintro rfl; simp at hmin; lia
  have mk : ∀ ds', ds'.length ≤ 100 → rdg b ds' 0 0 true false = (v, ds'.length, true) → POne ⟨[48] ++ [ld] ++ ds', 3, some (intS (v : Nat)), v, 0⟩ := by
    intro ds' hl hr
    refine pnum (src := [48] ++ [ld] ++ ds') (dig_ok (b := b) (ds := ds') hld ?_ ?_ hr hv (fun e => absurd e hb)) rfl (by simp; lia)
    · rw [if_neg hb]; rfl
    · rw [if_neg hb]; simp; lia
  refine ⟨mk ds (by lia) (by rw [rdg_all h.dig hne, h.val]), fun hl => ?_, fun hl => ?_⟩
  · refine mk _ (by simp; first | exact a_u1 (by lia) | lia) ?_
    have e1 : ds.dropLast ++ ds.drop (ds.length - 1) = ds := by
      rw [List.dropLast_eq_take]; exact List.take_append_drop _ _
    have n1 : ds.dropLast ≠ [] := by
      intro e
      have := congrArg List.length e
      rw [List.length_dropLast] at this
      simp only [List.length_nil] at this
      lia
    have n2 : ds.drop (ds.length - 1) ≠ [] := by
      intro e
      have := congrArg List.length e
      rw [List.length_drop, Nat.sub_sub_self (Nat.le_trans hw hmin)] at this
      cases this
    have := rdg_under (n := 0) (un := false) (fun y hy => h.dig y ((List.dropLast_subset ds) hy)) n1 (fun y hy => h.dig y (List.mem_of_mem_drop hy)) n2
    rw [e1, h.val] at this
    rw [List.append_assoc]
    exact this
  · have e0 : ds.length - 1 = 0 := by lia
    rw [e0, List.drop_zero]
    have hd : DigL b ([48] ++ ds) := by
      intro y hy
      rcases List.mem_append.mp hy with hy | hy
      · rw [List.mem_singleton.mp hy]
        obtain ⟨z, hz⟩ := List.exists_mem_of_ne_nil ds hne
        have := (h.dig z hz).2
        refine ⟨by decide, ?_⟩
        rw [show digV 48 = 0 from rfl]; lia
      · exact h.dig y hy
    refine mk _ (by simp; lia) ?_
    rw [rdg_all hd (by simp), show valF b 0 ([48] ++ ds) = valF b 0 ds by simp [valF, show digV 48 = 0 from rfl], h.val]
end
section
section
variable {c : Cx} {GT : List (Str × Value)} (H : Chk c GT) {n : Nat} {σ : Store} {Q : V → Store → Prop}
include H
theorem number_spec {d : Int} (q : ∀ p, POne p → p.kind = 3 → Q (.obj σ.length) (σ ++ [.list [PV p]])) : CallT c (n + 2) 474 [.int d] σ Q := by
  obtain ⟨a1, e1, h1⟩ := fmod_nat (d.fdiv 7) (nat_lit 10) (by decide)
  obtain ⟨a2, e2, h2⟩ := fmod_nat (d.fdiv 7) (nat_lit 100003) (by decide)
  obtain ⟨a3, e3, h3⟩ := fmod_nat (d.fdiv 7) (nat_lit 1000) (by decide)
  obtain ⟨a4, e4, h4⟩ := fmod_nat (d.fdiv 35) (nat_lit 4) (by decide)
  obtain ⟨f, e5, h5⟩ := fmod_nat d (nat_lit 7) (by decide)
  obtain ⟨cap, e6, h6⟩ := fmod_nat (d.fdiv 5) (nat_lit 2) (by decide)
  obtain ⟨a7, e7, h7⟩ := fmod_nat (d.fdiv 3) (nat_lit 3) (by decide)
  obtain ⟨a8, e8, h8⟩ := fmod_nat (d.fdiv 11) (nat_lit 2) (by decide)
  obtain ⟨a9, e9, h9⟩ := fmod_nat (d.fdiv 7) (nat_lit 20) (by decide)
  have hval : ∃ v : Nat, v ≤ 9007199254740991 ∧ [V.int (a1 : Nat), .int (a2 : Nat), .int 9007199254740991, .int (9007199254740991 - (a3 : Int))].getD a4 .none = .int (v : Nat) := by
    have : a4 = 0 ∨ a4 = 1 ∨ a4 = 2 ∨ a4 = 3 := lt4 h4
    rcases this with rfl | rfl | rfl | rfl
    · exact ⟨a1, upl h1 (by decide), rfl⟩
    · exact ⟨a2, upl h2 (by decide), rfl⟩
    · exact ⟨9007199254740991, Nat.le_refl _, rfl⟩
    · exact ⟨9007199254740991 - a3, Nat.sub_le _ _, congrArg V.int (c_subL (upl h3 (by decide)))⟩
  obtain ⟨v, hv, ev⟩ := hval
  have hv64 : v < 2 ^ 64 := Nat.lt_of_le_of_lt hv (by decide)
  refine fn_sound H.k_law_number H.gt rfl ?_; unfold b_law_number
  refine st_seq (st_asg ?_)
  walk_at "se"
  rw [e1.eq, e2.eq, e3.eq, e4.eq]
  refine p_idxT (by simp) (by simp; lia) ?_
  rw [ev]
  refine st_seq (st_asg ?_)
  walk_at "se"
  rw [e5.eq]
  refine st_seq (st_ifs ?_)
  walk_at "se"
  by_cases hf6 : f = 6
  · walk_at "st"
    refine p_lenTn 20 rfl (by decide) ?_
    walk_at "st"
    rw [e9.eq]
    refine p_idxTS (xs := badNumL) rfl (by decide) (h9) ?_
    walk_at "st"
    have hm := bad_nums _ (getD_mem (d := []) (show a9 < badNumL.length from h9))
    generalize badNumL.getD a9 [] = x at hm
    obtain ⟨m1, m2, m3⟩ := hm
    refine q ⟨x, 3, none, 0, 1127⟩ ⟨fun hs => ?_, by dsimp only; lia, hd_num rfl m2⟩ rfl
    exact eat_num (v := (numF x).1) (o := false) (Prod.ext rfl m1) m2 (fun c e => by cases e) rfl
  walk_at "se"
  refine st_skip ?_
  refine st_seq (st_asg ?_)
  walk_at "se"
  rw [e6.eq]
  refine st_seq (st_ifs ?_)
  walk_at "se"
  by_cases hf2 : f < 2
  · walk_at "se"
    refine st_seq (st_asg ?_)
    walk_at "se"
    refine digits_spec (b := 10) (cap := 0) (w := 1) H (by decide) (by decide) (by decide) (by decide) hv64 fun ds hD => ?_
    obtain ⟨n1, n2⟩ := num_dec hD hv
    have hdl := hD.max
    have hmn := hD.min
    have hdl' : ds.length ≤ 1000000 := by lia
    have tail : ∀ ds' : List Nat, POne ⟨ds', 3, some (intS (v : Nat)), v, 0⟩ → ∀ env, env = [some (.int d), some (.int (v : Nat)), some (.int (f : Nat)), some (.int (cap : Nat)), some (.str ds'), none, none] → ∀ K : Fl → Lo → Store → Prop, (∀ w env', Q w (σ ++ [.list [PV ⟨ds', 3, some (intS (v : Nat)), v, 0⟩]]) → K (.ret w) env' (σ ++ [.list [PV ⟨ds', 3, some (intS (v : Nat)), v, 0⟩]])) →
        wpS (CallT c (n + 1)) (.seq (.ret (.lst (.cons (.tup (.cons (.loc 4) (.cons (.glb 33 gT_NUM) (.cons (.bi .str (.cons (.loc 1) .nil)) (.cons (.loc 1) (.cons (.int 0) .nil)))))) .nil))) .skip) env σ K := by
      rintro ds' hp env rfl K hK
      refine st_seq (st_ret ?_)
      walk_at "se"
      refine p_str (log2_small hv) ?_
      walk_at "se"
      refine hK _ _ (q _ hp rfl)
    refine st_seq (st_ifs ?_)
    walk_at "se"
    by_cases hl : 1 < ds.length
    · walk_at "se"
      by_cases hf1 : f = 1
      · walk_at "se"
        refine st_seq (st_asg ?_)
        walk_at "se"
        rw [sl_to1]
        refine q_cat (by simp; lia) ?_
        walk_at "se"
        rw [sl_from1]
        refine q_cat (by simp; lia) ?_
        refine st_skip ?_
        exact tail _ (n2 hl) _ rfl _ fun w env' z => z
      · walk_at "se"
        refine st_skip ?_
        exact tail _ n1 _ rfl _ fun w env' z => z
    · walk_at "se"
      refine st_skip ?_
      exact tail _ n1 _ rfl _ fun w env' z => z
  walk_at "se"
  refine st_skip ?_
  refine st_seq (st_asg ?_)
  walk_at "se"
  have hbase : ∃ b : Nat, (b = 16 ∨ b = 8 ∨ b = 2) ∧ [V.int 16, .int 16, .int 8, .int 2].getD (f - 2) .none = .int (b : Nat) := by
    have : f = 2 ∨ f = 3 ∨ f = 4 ∨ f = 5 := by lia
    rcases this with rfl | rfl | rfl | rfl
    · exact ⟨16, .inl rfl, rfl⟩
    · exact ⟨16, .inl rfl, rfl⟩
    · exact ⟨8, .inr (.inl rfl), rfl⟩
    · exact ⟨2, .inr (.inr rfl), rfl⟩
  obtain ⟨b, hb, eb⟩ := hbase
  rw [show (f : Int) - 2 = ((f - 2 : Nat) : Int) from (c_sub (Nat.le_of_not_lt ‹_›)).symm]
  refine p_idxT (Nat.le_of_ble_eq_true rfl) (by simp; lia) ?_
  rw [eb]
  obtain ⟨v', ev'⟩ : ∃ v', (if b = 2 then v % 64 else v) = v' := ⟨_, rfl⟩
  have hv' : v' ≤ 9007199254740991 := by rw [← ev']; split <;> lia
  have hv64' : v' < 2 ^ 64 := Nat.lt_of_le_of_lt hv' (by decide)
  refine seq_ifN (decide ((b : Int) = 2)) [some (.int d), some (.int (v' : Nat)), some (.int (f : Nat)), some (.int (cap : Nat)), none, some (.int (b : Nat)), none] (fun P hP => ?_) (fun h K hK => ?_) (fun h => ?_) ?_
  · walk_at "se"
    exact hP
  · rw [decide_eq_true_eq] at h
    rw [if_pos (by lia)] at ev'
    walk_at "st"
    have em : Int.fmod (v : Nat) 64 = (v' : Nat) := by rw [← ev', Int.fmod_eq_emod_of_nonneg _ (by lia)]; rfl
    rw [em]
    exact hK
  · rw [decide_eq_false_iff_not] at h
    rw [if_neg (by lia)] at ev'
    subst ev'
    rfl
  refine st_seq (st_asg ?_)
  walk_at "se"
  rw [e7.eq]
  refine digits_spec (b := b) (cap := cap) (w := 1 + a7) H (by lia) (by lia) h6 (by lia) hv64' fun ds hD => ?_
  have hld : ∃ ld, baseOf 48 ld = b ∧ (∀ P : V → Store → Prop, P (.str [ld]) σ → ∀ es, es = [(16, [120, 88]), (8, [111, 79]), (2, [98, 66])] → ∃ d, assocI (b : Int) es = some d ∧ idxV (.str d) (.int (cap : Nat)) σ P) := by
    have hc : cap = 0 ∨ cap = 1 := lt2 h6
    rcases hb with rfl | rfl | rfl <;> rcases hc with rfl | rfl
    · exact ⟨120, rfl, fun P hP es he => ⟨[120, 88], by rw [he]; rfl, p_idxS (by decide) (by decide) hP⟩⟩
    · exact ⟨88, rfl, fun P hP es he => ⟨[120, 88], by rw [he]; rfl, p_idxS (by decide) (by decide) hP⟩⟩
    · exact ⟨111, rfl, fun P hP es he => ⟨[111, 79], by rw [he]; rfl, p_idxS (by decide) (by decide) hP⟩⟩
    · exact ⟨79, rfl, fun P hP es he => ⟨[111, 79], by rw [he]; rfl, p_idxS (by decide) (by decide) hP⟩⟩
    · exact ⟨98, rfl, fun P hP es he => ⟨[98, 66], by rw [he]; rfl, p_idxS (by decide) (by decide) hP⟩⟩
    · exact ⟨66, rfl, fun P hP es he => ⟨[98, 66], by rw [he]; rfl, p_idxS (by decide) (by decide) hP⟩⟩
  obtain ⟨ld, hld, hidx⟩ := hld
  obtain ⟨n1, n2, n3⟩ := num_base (by lia) hld hD (by lia) (by lia) (by lia) hv'
  have hmax := hD.max
  have hmin := hD.min
  have hdl' : ds.length ≤ 1000000 := by lia
  have tail : ∀ ds' : List Nat, ds'.length ≤ 100 → POne ⟨[48] ++ [ld] ++ ds', 3, some (intS (v' : Nat)), v', 0⟩ → ∀ env, env = [some (.int d), some (.int (v' : Nat)), some (.int (f : Nat)), some (.int (cap : Nat)), some (.str ds'), some (.int (b : Nat)), none] →
      wpS (CallT c (n + 1)) (.seq (.asg 6 (.idx (.ddisp [(16, [120, 88]), (8, [111, 79]), (2, [98, 66])] (.loc 5)) (.loc 3)))
  (.seq (.ret (.lst (.cons (.tup (.cons (.bin .Add (.bin .Add (.str [48]) (.loc 6)) (.loc 4)) (.cons (.glb 33 gT_NUM) (.cons (.bi .str (.cons (.loc 1) .nil)) (.cons (.loc 1) (.cons (.int 0) .nil)))))) .nil))) .skip)) env σ (retQ Q) := by
    rintro ds' hl hp env rfl
    refine st_seq (st_asg ?_)
    refine e_idx (e_ddisp (e_loc rfl ?_))
    obtain ⟨dd, he, hi⟩ := hidx (fun w σ' => wpS (CallT c (n + 1)) (.seq (.ret (.lst (.cons (.tup (.cons (.bin .Add (.bin .Add (.str [48]) (.loc 6)) (.loc 4)) (.cons (.glb 33 gT_NUM) (.cons (.bi .str (.cons (.loc 1) .nil)) (.cons (.loc 1) (.cons (.int 0) .nil)))))) .nil))) .skip) (lset [some (.int d), some (.int (v' : Nat)), some (.int (f : Nat)), some (.int (cap : Nat)), some (.str ds'), some (.int (b : Nat)), none] 6 (some w)) σ' (retQ Q)) (by
      refine st_seq (st_ret ?_)
      walk_at "se"
      refine q_cat (Nat.le_of_ble_eq_true rfl) ?_
      walk_at "se"
      refine q_cat (by simp; lia) ?_
      walk_at "se"
      refine p_str (log2_small hv') ?_
      walk_at "se"
      exact q _ hp rfl) _ rfl
    dsimp only [onInt, onAny]
    rw [he]
    exact hi
  refine st_seq (st_ifs ?_)
  walk_at "se"
  rw [e8.eq]
  by_cases h81 : a8 = 1
  · walk_at "se"
    refine st_seq (st_asg ?_)
    walk_at "se"
    by_cases hl : 1 < ds.length
    · walk_at "se"
      rw [sl_toN1]
      refine q_cat (by simp; lia) ?_
      walk_at "se"
      rw [sl_fromN1]
      refine q_cat (by simp; first | exact a_u2 (by lia) | lia) ?_
      refine st_skip ?_
      exact tail _ (by simp; first | exact a_u1 (by lia) | lia) (n2 hl) _ rfl
    · walk_at "se"
      rw [sl_fromN1]
      refine q_cat (by simp; first | exact a_u3 (by decide) | lia) ?_
      refine st_skip ?_
      exact tail _ (by simp; lia) (n3 hl) _ rfl
  · walk_at "se"
    refine st_skip ?_
    exact tail _ (by lia) n1 _ rfl
end
end
section
noncomputable def szB (run : List Nat) : Nat := if 3 ≤ run.length ∧ signsL.contains (run.take 3) = true then 3 else if 2 ≤ run.length ∧ signsL.contains (run.take 2) = true then 2 else 1
theorem cutSz_eq (dg : Bool) (run : List Nat) : cutSz dg run = if dg = true ∧ run = [63, 46] then 1 else szB run := rfl
theorem szB_pos (run : List Nat) : 1 ≤ szB run ∧ szB run ≤ 3 := by unfold szB; split <;> (try split) <;> lia
theorem cutSz_pos (dg : Bool) (run : List Nat) : 1 ≤ cutSz dg run ∧ cutSz dg run ≤ 3 := by
  rw [cutSz_eq]
  have := szB_pos run
  split <;> lia
theorem signs_ok : ∀ x ∈ signsL, x ≠ [] ∧ x.length ≤ 3 := by decide +kernel
theorem runF_len (i : Nat) : ∀ n, (runF i n).length ≤ 3 * n
  | 0 => Nat.le_refl _
  | n + 1 => by
    have ih := runF_len i n
    unfold runF
    dsimp only
    have hm : (signsL.getD ((i + 11 * n * n) % signsL.length) []).length ≤ 3 := (signs_ok _ (getD_mem (Nat.mod_lt _ (by decide)))).2
    split
    · rw [List.length_append]; lia
    · lia
theorem last_drop (s : List Nat) : (s.drop (s.length - 1) = [47]) ↔ s.getLastD 0 = 47 := by
  rcases List.eq_nil_or_concat s with rfl | ⟨ws, w, rfl⟩
  · simp
  · rw [List.concat_eq_append, getLastD_snoc, List.length_append, show ws.length + [w].length - 1 = ws.length + 0 by simp, drop_app]
    simp
theorem sign_idx (a : Int) (i m L : Nat) (hL : 0 < L) (h : a.fmod (L : Int) = (i : Nat)) : (a + (m : Nat)).fmod (L : Int) = (((i + m) % L : Nat) : Int) := by
  rw [Int.fmod_eq_emod_of_nonneg _ (by lia)] at h ⊢
  rw [Int.add_emod, h]
  have : ((i : Int) % (L : Int)) = i := by
    rw [← h, Int.emod_emod_of_dvd _ (Int.dvd_refl _)]
  rw [Int.natCast_emod, Int.natCast_add, Int.add_emod, Int.emod_emod_of_dvd _ (Int.dvd_refl _), ← Int.add_emod]
section
variable {c : Cx} {GT : List (Str × Value)} (H : Chk c GT) {n : Nat} {σ : Store} {Q : V → Store → Prop}
include H
theorem cut_spec {run : List Nat} {dg : Bool} {N : Nat} (hN : run.length ≤ N) (hN2 : N ≤ 100) (q : Q (.obj σ.length) (σ ++ [.list ((cutF dg N run).map fun p => PV (mkS p))])) : CallT c (n + 1) 481 [.str run, .bool dg] σ Q := by
  obtain ⟨R, eR⟩ : ∃ R, cutF dg N run = R := ⟨_, rfl⟩
  rw [eR] at q
  have inner : ∀ (r : List Nat) (x4 x5 : Option V) (σ' : Store) (K : Fl → Lo → Store → Prop), r.length ≤ 1000000 → (∀ x4, K .next [some (.str r), some (.bool dg), some (.obj σ.length), some (.int (szB r : Nat)), x4, x5] σ') → wpS (CallT c n) w_law_cut_1 [some (.str r), some (.bool dg), some (.obj σ.length), some (.int 1), x4, x5] σ' K := by
    intro r x4 x5 σ' K hr hK
    unfold w_law_cut_1
    refine st_forE ?_
    walk_at "se"
    refine p_forT (fun l env σ'' => σ'' = σ' ∧ ∃ (x4 : Option V) (sz : Nat), env = [some (.str r), some (.bool dg), some (.obj σ.length), some (.int (sz : Nat)), x4, x5] ∧ ((l = [.int 2, .int 3] ∧ sz = 1) ∨ (l = [.int 3] ∧ sz = if 2 ≤ r.length ∧ signsL.contains (r.take 2) = true then 2 else 1) ∨ (l = [] ∧ sz = szB r))) ⟨rfl, x4, 1, rfl, .inl ⟨rfl, rfl⟩⟩ ?_ ?_
    · rintro x l env σ'' ⟨rfl, x4, sz, rfl, hc⟩
      rcases hc with ⟨hl, rfl⟩ | ⟨hl, hsz⟩ | ⟨hl, _⟩
      · injection hl with h1 h2
        subst h1; subst h2
        by_cases h2 : 2 ≤ r.length
        · walk_at "st"
          rw [show slL r none (some 2) = r.take 2 from sl_to r 2]
          refine pInTS (l := signsL) rfl ?_
          walk_at "st"
          cases hc : signsL.contains (r.take 2)
          · walk_at "st"
            exact ⟨rfl, _, 1, rfl, .inr (.inl ⟨rfl, by simp⟩)⟩
          · walk_at "st"
            exact ⟨rfl, _, 2, rfl, .inr (.inl ⟨rfl, by rw [if_pos ⟨h2, rfl⟩]⟩)⟩
        · walk_at "st"
          exact ⟨rfl, _, 1, rfl, .inr (.inl ⟨rfl, by rw [if_neg (fun z => h2 z.1)]⟩)⟩
      · injection hl with h1 h2
        subst h1; subst h2
        by_cases h3 : 3 ≤ r.length
        · walk_at "st"
          rw [show slL r none (some 3) = r.take 3 from sl_to r 3]
          refine pInTS (l := signsL) rfl ?_
          walk_at "st"
          cases hc : signsL.contains (r.take 3)
          · walk_at "st"
            exact ⟨rfl, _, sz, rfl, .inr (.inr ⟨rfl, by unfold szB; rw [if_neg (by rw [hc]; simp)]; exact hsz⟩)⟩
          · walk_at "st"
            exact ⟨rfl, _, 3, rfl, .inr (.inr ⟨rfl, by unfold szB; rw [if_pos ⟨h3, hc⟩]⟩)⟩
        · walk_at "st"
          exact ⟨rfl, _, sz, rfl, .inr (.inr ⟨rfl, by unfold szB; rw [if_neg (fun z => h3 z.1)]; exact hsz⟩)⟩
      · cases hl
    · rintro env σ'' ⟨rfl, x4, sz, rfl, hc⟩
      rcases hc with ⟨hl, _⟩ | ⟨hl, _⟩ | ⟨_, rfl⟩
      · cases hl
      · cases hl
      · exact hK _
  have loop : ∀ K : Fl → Lo → Store → Prop, (∀ x0 x1 x3 x4 x5, K .next [x0, x1, some (.obj σ.length), x3, x4, x5] (σ ++ [.list (R.map fun p => PV (mkS p))])) → wpS (CallT c n) w_law_cut_2 [some (.str run), some (.bool dg), some (.obj σ.length), none, none, none] (σ ++ [.list []]) K := by
    intro K hK
    unfold w_law_cut_2
    obtain ⟨I, hI⟩ : ∃ I : Nat → Lo → Store → Prop, ∀ z env σ', I z env σ' ↔ (∀ P : Nat → Lo → Store → Prop, (∀ (r : List Nat) (done : List (List Nat × Nat)) (M : Nat) (x3 x4 x5 : Option V), done ++ cutF dg M r = R → r.length ≤ M → done.length + M ≤ N → P r.length [some (.str r), some (.bool dg), some (.obj σ.length), x3, x4, x5] (σ ++ [.list (done.map fun p => PV (mkS p))])) → P z env σ') := ⟨_, fun _ _ _ => Iff.rfl⟩
    refine whl_I I _ ((hI _ _ _).mpr fun _ g => g run [] N none none none eR hN (by simp)) ?_
    intro z env σ' hz
    apply (hI _ _ _).mp hz
    intro r done M x3 x4 x5 e hM hdM
    clear hz
    have hr : r.length ≤ 1000000 := by lia
    walk_at "se"
    refine pNeS ?_
    walk_at "se"
    by_cases hn : r = []
    · subst hn
      refine if_ndf rfl ?_
      have : cutF dg M [] = [] := by cases M <;> rfl
      rw [this, List.append_nil] at e
      rw [e]
      exact hK _ _ _ _ _
    · refine if_ndt hn ?_
      obtain ⟨M, rfl⟩ : ∃ M', M = M' + 1 := by
        cases M with
        | zero => exact absurd (List.length_eq_zero_iff.mp (by lia)) hn
        | succ M => exact ⟨M, rfl⟩
      unfold cutF at e
      rw [if_neg hn] at e
      obtain ⟨sz, esz⟩ : ∃ sz, cutSz dg r = sz := ⟨_, rfl⟩
      obtain ⟨fa, efa⟩ : ∃ fa, (if dg = true ∧ r = [46] then 1127 else 0) = fa := ⟨_, rfl⟩
      have hsz := cutSz_pos dg r
      rw [esz] at hsz
      rw [esz, efa] at e
      refine st_seq (st_asg (e_int ?_))
      refine st_seq (inner r x4 x5 _ _ hr fun x4 => ?_)
      refine seq_ifN (dg && decide (r = [63, 46])) [some (.str r), some (.bool dg), some (.obj σ.length), some (.int (sz : Nat)), x4, x5] (fun P hP => ?_) (fun h K hK => ?_) (fun h => ?_) ?_
      · cases dg with
        | false => walk_at "se"; exact hP
        | true =>
          walk_at "se"
          refine pEqS ?_
          walk_at "se"
          exact hP
      · rw [Bool.and_eq_true, decide_eq_true_eq] at h
        rw [cutSz_eq, if_pos h] at esz
        subst esz
        walk_at "st"
        exact hK
      · rw [cutSz_eq, if_neg (by rintro ⟨h1, h2⟩; rw [h1, decide_eq_true h2] at h; cases h)] at esz
        rw [esz]
      refine st_seq (st_asg (e_int ?_))
      refine seq_ifN (dg && decide (r = [46])) [some (.str r), some (.bool dg), some (.obj σ.length), some (.int (sz : Nat)), x4, some (.int (fa : Nat))] (fun P hP => ?_) (fun h K hK => ?_) (fun h => ?_) ?_
      · cases dg with
        | false => walk_at "se"; exact hP
        | true =>
          walk_at "se"
          refine pEqS ?_
          walk_at "se"
          exact hP
      · rw [Bool.and_eq_true, decide_eq_true_eq] at h
        rw [if_pos h] at efa
        subst efa
        walk_at "st"
        exact hK
      · rw [if_neg (by rintro ⟨h1, h2⟩; rw [h1, decide_eq_true h2] at h; cases h)] at efa
        subst efa
        rfl
      refine st_seq (st_expr ?_)
      walk_at "se"
      refine ⟨mo_list (.inl rfl) at_new, ?_⟩
      walk_at "se"
      rw [sl_to]
      refine p_append at_new (by rw [List.length_map]; lia) ?_
      rw [set_new]
      walk_at "se"
      refine st_seq (st_asg ?_)
      walk_at "se"
      rw [sl_from]
      rw [show done.map (fun p => PV (mkS p)) ++ [V.tup [V.str (List.take sz r), gT_SIGN, V.str (List.take sz r), V.int 0, V.int (fa : Nat)]] = (done ++ [(r.take sz, fa)]).map (fun p => PV (mkS p)) from (by rw [List.map_append]; rfl)]
      refine st_skip ⟨(r.drop sz).length, ?_, (hI _ _ _).mpr fun _ g => g (r.drop sz) (done ++ [(r.take sz, fa)]) M _ _ _ (by rw [List.append_assoc]; exact e) (by rw [List.length_drop]; lia) (by rw [List.length_append]; simp only [List.length_cons, List.length_nil]; lia)⟩
      · rw [List.length_drop]
        have : 0 < r.length := List.length_pos_iff.mpr hn
        lia
  refine fn_sound H.k_law_cut H.gt rfl ?_; unfold b_law_cut
  refine st_seq (st_asg ?_)
  walk_at "se"
  refine st_seq (loop _ fun x0 x1 x3 x4 x5 => ?_)
  walk_at "st"
  exact q

theorem run_spec {d : Int} {dg : Bool} (q : ∀ i m b, i < signsL.length → m < 3 → Q (.obj σ.length) (σ ++ [.list ((cutF dg 12 (runG i m dg b)).map fun p => PV (mkS p))])) : CallT c (n + 2) 488 [.int d, .bool dg] σ Q := by
  obtain ⟨m, e1, h1⟩ := fmod_nat d (nat_lit 3) (by decide)
  obtain ⟨i, e2, h2⟩ := fmod_natI (d.fdiv 3) (signsL.length : Nat) (by decide)
  obtain ⟨b, e3, h3⟩ := fmod_nat (d.fdiv 5) (nat_lit 2) (by decide)
  have loop : ∀ K : Fl → Lo → Store → Prop, (∀ x3 x4, K .next [some (.int d), some (.bool dg), some (.str (runF i (m + 1))), x3, x4] σ) → wpS (CallT c (n + 1)) w_law_run_1 [some (.int d), some (.bool dg), some (.str []), none, none] σ K := by
    intro K hK
    unfold w_law_run_1
    refine st_forR ?_
    walk_at "se"
    rw [e1.eq]
    refine ⟨r60 (a := 0) (b := 1 + m) (by decide) (Nat.le_trans (Nat.add_le_add_left (Nat.le_of_lt h1) 1) (by decide)), fun l env σ' => σ' = σ ∧ ∃ (j : Nat) (x3 x4 : Option V), j ≤ m + 1 ∧ l = (List.range (m + 1 - j)).map (fun z : Nat => ((j + z : Nat) : Int)) ∧ env = [some (.int d), some (.bool dg), some (.str (runF i j)), x3, x4], ⟨rfl, 0, none, none, Nat.zero_le _, ?_, rfl⟩, ?_, ?_⟩
    · unfold rangeV
      rw [show ((1 : Int) + (m : Nat) - 0).toNat = m + 1 - 0 by lia]
      refine List.map_congr_left fun z _ => ?_
      lia
    · rintro x l env σ' ⟨rfl, j, x3, x4, hj, hl, rfl⟩
      have hlt : j < m + 1 := by
        by_cases h : j < m + 1
        · exact h
        · rw [a_s0 ‹_›] at hl; cases hl
      rw [a_s1 ‹_›, List.range_succ_eq_map, List.map_cons, List.map_map] at hl
      injection hl with g1 g2
      rw [Nat.add_zero] at g1
      subst g1
      have hrl := runF_len i j
      obtain ⟨mo, emo⟩ : ∃ mo, signsL.getD ((i + 11 * j * j) % signsL.length) [] = mo := ⟨_, rfl⟩
      have hmo := signs_ok _ (getD_mem (d := []) (l := signsL) (k := (i + 11 * j * j) % signsL.length) (Nat.mod_lt _ (by decide)))
      rw [emo] at hmo
      have er : runF i (j + 1) = if (runF i j).getLastD 0 ≠ 47 ∨ ¬ (mo.headD 0 = 47 ∨ mo.headD 0 = 42) then runF i j ++ mo else runF i j := by
        rw [← emo]; rfl
      have hrl2 : (runF i j).length ≤ 1000000 := by lia
      have nxt : ∀ (x3 x4 : Option V), (σ' = σ' ∧ ∃ (j_1 : Nat) (x3_1 x4_1 : Option V), j_1 ≤ m + 1 ∧ l = (List.range (m + 1 - j_1)).map (fun z : Nat => ((j_1 + z : Nat) : Int)) ∧ [some (.int d), some (.bool dg), some (.str (runF i (j + 1))), x3, x4] = [some (.int d), some (.bool dg), some (.str (runF i j_1)), x3_1, x4_1]) := by
        intro x3 x4
        refine ⟨rfl, j + 1, x3, x4, hlt, ?_, rfl⟩
        rw [g2]
        refine List.map_congr_left fun z _ => ?_
        show ((j + (z + 1) : Nat) : Int) = _
        lia
      refine st_seq (st_asg ?_)
      walk_at "se"
      refine q_mul (IntMulOk.of_left (by decide +kernel)) ?_
      refine e_loc rfl ?_
      refine q_mul (mulOk (by lia)) ?_
      walk_at "se"
      refine p_lenTn (signsL.length : Nat) rfl (by decide) ?_
      refine q_mod (by decide) ?_
      rw [show (11 : Int) * (j : Nat) * (j : Nat) = ((11 * j * j : Nat) : Int) by simp, sign_idx _ i _ _ (by decide) e2]
      refine p_idxTS (xs := signsL) rfl (by decide) (Nat.mod_lt _ (by decide)) ?_
      rw [emo]
      refine st_seq (st_ifs ?_)
      walk_at "se"
      rw [sl_fromN1]
      refine pNeS ?_
      walk_at "se"
      have cat : wpS (CallT c (n + 1)) (.seq (.asg 2 (.bin .Add (.loc 2) (.loc 4))) .skip) [some (.int d), some (.bool dg), some (.str (runF i j)), some (.int (j : Nat)), some (.str mo)] σ' (fun f env' σ₂ => f = .next ∧ σ₂ = σ' ∧ env' = [some (.int d), some (.bool dg), some (.str (runF i j ++ mo)), some (.int (j : Nat)), some (.str mo)]) := by
        refine st_seq (st_asg ?_)
        walk_at "se"
        refine q_cat (by lia) (st_skip ⟨rfl, rfl, rfl⟩)
      by_cases hlast : (runF i j).getLastD 0 = 47
      · refine if_ndf ((last_drop _).mpr hlast) ?_
        walk_at "se"
        have hm0 : 0 < mo.length := List.length_pos_iff.mpr hmo.1
        refine p_idxS (k := 0) (by lia) hm0 ?_
        walk_at "se"
        refine pNotInS ?_
        rw [subIn_one, pk_hd (t := mo) (k := 0) (r := mo) rfl]
        walk_at "se"
        have hc : ([47, 42] : List Nat).contains (mo.headD 0) = decide (mo.headD 0 = 47 ∨ mo.headD 0 = 42) := by
          rw [Bool.eq_iff_iff, List.contains_iff_mem, decide_eq_true_eq]; simp
        rw [hc]
        by_cases hh : mo.headD 0 = 47 ∨ mo.headD 0 = 42
        · refine if_ndf hh ?_
          rw [if_neg (by rintro (h | h); exact h hlast; exact h hh)] at er
          rw [er] at nxt
          exact st_skip (st_skip (nxt _ _))
        · refine if_ndt hh ?_
          rw [if_pos (.inr hh)] at er
          rw [er] at nxt
          refine st_seq (st_asg ?_)
          walk_at "se"
          refine q_cat (by lia) (st_skip (st_skip (nxt _ _)))
      · refine if_ndt (fun z => hlast ((last_drop _).mp z)) ?_
        rw [if_pos (.inl hlast)] at er
        rw [er] at nxt
        refine if_tt ?_
        refine st_seq (st_asg ?_)
        walk_at "se"
        refine q_cat (by lia) (st_skip (st_skip (nxt _ _)))
    · rintro env σ' ⟨rfl, j, x3, x4, hj, hl, rfl⟩
      have : m + 1 - j = 0 := by
        cases h : m + 1 - j with
        | zero => rfl
        | succ z => rw [h, List.range_succ_eq_map] at hl; cases hl
      rw [show j = m + 1 by lia]
      exact hK _ _
  refine fn_sound H.k_law_run H.gt rfl ?_; unfold b_law_run
  refine st_seq (st_asg (e_str ?_))
  refine st_seq (loop _ fun x3 x4 => ?_)
  have hok := run_ok i (by exact Int.ofNat_lt.mp h2) m (by lia) dg (decide (b = 0))
  unfold runOK at hok
  simp only [Bool.and_eq_true, decide_eq_true_eq] at hok
  have hq := q i m (decide (b = 0)) (by exact Int.ofNat_lt.mp h2) (by lia)
  have hgl : (runG i m dg (decide (b = 0))).length ≤ 11 := hok.1.2
  obtain ⟨g, eg⟩ : ∃ g, runG i m dg (decide (b = 0)) = g := ⟨_, rfl⟩
  rw [eg] at hq hgl
  have hrl := runF_len i (m + 1)
  refine seq_ifN (dg && decide (b = 0)) [some (.int d), some (.bool dg), some (.str g), x3, x4] (fun P hP => ?_) (fun h K hK => ?_) (fun h => ?_) ?_
  · cases dg with
    | false => walk_at "se"; exact hP
    | true =>
      walk_at "se"
      rw [e3.eq]
      rw [show decide ((b : Int) = 0) = decide (b = 0) from d_eq0 b (nat_lit 0)]
      exact hP
  · unfold runG at eg
    rw [h, if_pos rfl] at eg
    walk_at "se"
    refine st_seq (st_asg ?_)
    walk_at "se"
    refine q_cat (by simp; lia) (st_skip ?_)
    rw [eg]
    exact hK
  · unfold runG at eg
    rw [h, if_neg (by decide)] at eg
    rw [eg]
  walk_at "st"
  exact cut_spec H (by lia) (by decide) hq
end
end
section
theorem wp_via {CT : CTy} {a : S} {env : Lo} {σ : Store} {K : Fl → Lo → Store → Prop} (P : Lo → Store → Prop) (h2 : ∀ K' : Fl → Lo → Store → Prop, (∀ env' σ', P env' σ' → K' .next env' σ') → wpS CT a env σ K') (h1 : ∀ env' σ', P env' σ' → K .next env' σ') : wpS CT a env σ K := h2 K h1
theorem p_idxTP {ds : List V} {xs : List (List Nat × List Nat)} {k : Nat} {σ : Store} {Q : V → Store → Prop} (hds : ds = xs.map fun p => V.tup [.str p.1, .str p.2]) (hs : xs.length ≤ 1000) (h : k < xs.length) (q : Q (.tup [.str (xs.getD k ([], [])).1, .str (xs.getD k ([], [])).2]) σ) : idxV (.tup ds) (.int k) σ Q := by
  refine p_idxT (by rw [hds, List.length_map]; lia) (by rw [hds, List.length_map]; exact h) ?_
  rw [hds, List.getD_eq_getElem?_getD, List.getElem?_map]
  rw [List.getD_eq_getElem?_getD] at q
  rw [List.getElem?_eq_getElem h] at q ⊢
  exact q
theorem p_idxC {ds : List V} {v : V} {σ : Store} {Q : V → Store → Prop} (k : Nat) (hk : ds[k]? = some v) (hs : ds.length ≤ 1000000) (q : Q v σ) : idxV (.tup ds) (.int (k : Nat)) σ Q := by
  have hl := (List.getElem?_eq_some_iff.mp hk).1
  refine p_idxT hs hl ?_
  rw [List.getD_eq_getElem?_getD, hk]; exact q
theorem BI.hole2 {q : Nat} (hq : q = 39 ∨ q = 34) : BI q [36, 123] [36, 123] false := by
  refine BI.simple rfl fun P hP rest ckr len b g1 g2 z => ?_
  have h2 := hP.pl (c := 123) (by lia) (by decide) (fun _ => rfl) (fun h => by lia) z
  have h3 := hP.pl (c := 36) (by lia) (by decide) (fun _ => rfl) (fun h => by lia) h2
  rw [show ([36, 123] : List Nat).length + len = 1 + (1 + len) by simp; lia]
  exact h3
theorem BI.raw {q : Nat} {s : List Nat} (hq : q = 96) (hs : s = [13, 10] ∨ s = [13] ∨ s = [10]) : BI q s [10] false := by
  subst hq
  rcases hs with rfl | rfl | rfl
  · refine BI.simple rfl fun P hP rest ckr len b g1 g2 z => ?_
    exact hP.crlf rfl z
  · refine BI.simple rfl fun P hP rest ckr len b g1 g2 z => ?_
    exact hP.cr rfl (g1 rfl) z
  · exact BI.pl1 (by decide) (by decide) (.inr ⟨rfl, rfl⟩) rfl
structure Here (q : Nat) (hs hc : List Nat) (bb : Bool) : Prop where
  bi : BI q hs hc bb
  ne : hs ≠ []
  n48 : hs ≠ [48]
  h123 : hs.headD 0 ≠ 123
  dig : isDig (hs.headD 0) = true → hs = [55]
  len : hs.length ≤ 100
  lenc : hc.length ≤ 3
  h10 : bb = true → hs.headD 0 ≠ 10
theorem atoms_facts : ∀ p ∈ atomsL, p.1 ≠ [] ∧ p.1 ≠ [48] ∧ p.1.headD 0 ≠ 123 ∧ (isDig (p.1.headD 0) = true → p.1 = [55]) ∧ p.1.length ≤ 100 ∧ p.2.length ≤ 3 := by decide +kernel
theorem bads_facts : ∀ s ∈ badsL, s ≠ [] ∧ s ≠ [48] ∧ s.headD 0 ≠ 123 ∧ (isDig (s.headD 0) = true → s = [55]) ∧ s.length ≤ 100 ∧ s.headD 0 ≠ 10 := by decide +kernel
theorem Here.atom {q : Nat} (hq : isHem q) {p : List Nat × List Nat} (hp : p ∈ atomsL) : Here q p.1 p.2 false := by
  obtain ⟨a, b, c, d, e, f⟩ := atoms_facts p hp
  exact ⟨atom_ok hq p hp, a, b, c, d, e, f, fun h => (by cases h)⟩
theorem Here.bad {q : Nat} (hq : isHem q) {s : List Nat} (hp : s ∈ badsL) : Here q s [] true := by
  obtain ⟨a, b, c, d, e, f⟩ := bads_facts s hp
  exact ⟨bads_ok hq s hp, a, b, c, d, e, by simp, fun _ => f⟩
theorem dig_small {x : Nat} (h : digV x < 16) : x ≠ 92 ∧ x ≠ 123 := by
  refine ⟨?_, ?_⟩ <;> (rintro rfl; revert h; decide)
theorem Here.hex {q w v : Nat} {ds : List Nat} (hD : DigP 16 w v ds) (hw : w = 2 ∨ w = 4) (hv : v < 16 ^ w) (hf : isFar v = false) : Here q ([92, if w = 2 then 120 else 117] ++ ds) [v] false := by
  have hl := hD.exact_ hv
  have hne : ds ≠ [] := by rintro rfl; simp at hl; lia
  have hne2 : ds.dropLast ≠ [] := by
    intro e
    have := congrArg List.length e
    rw [List.length_dropLast] at this
    simp only [List.length_nil] at this
    lia
  have h := BI.hex (q := q) hD.dig (by lia) hD.val hf (by
    rcases List.eq_nil_or_concat ds.dropLast with h | ⟨ws, x, h⟩
    · exact absurd h hne2
    · rw [h, List.concat_eq_append]
      unfold lst
      rw [getLastD_snoc]
      have hx : x ∈ ds := List.dropLast_subset ds (by rw [h, List.concat_eq_append]; simp)
      exact (dig_small (hD.dig x hx).2).1) (by
    cases ds with
    | nil => exact absurd rfl hne
    | cons x r => exact (dig_small (hD.dig x (by simp)).2).2)
  rw [hl] at h
  refine ⟨h, by simp, by simp, by simp, fun e => (by cases e), by simp; lia, by simp, fun h => (by cases h)⟩
theorem Here.code {q w v : Nat} {ds : List Nat} (hD : DigP 16 w v ds) (hw : 1 ≤ w) (hw2 : w ≤ 10) (hf : isFar v = false) : Here q ([92, 117, 123] ++ ds ++ [125]) [v] false := by
  have hne : ds ≠ [] := by
    rintro rfl
    have := hD.min
    simp at this; lia
  have hm := hD.max
  exact ⟨BI.code hD.dig hne hD.val hf, by simp, by simp, by simp, fun e => (by cases e), by simp; lia, by simp, fun h => (by cases h)⟩
theorem far_no {v : Nat} (h : v < 55296 ∨ (57344 ≤ v ∧ v ≤ 65535)) : isFar v = false := by
  unfold isFar
  by_cases h1 : 55296 ≤ v <;> by_cases h2 : v ≤ 57343 <;> by_cases h3 : 65535 < v <;> simp only [h1, h2, h3, decide_true, decide_false, Bool.true_and, Bool.false_and, Bool.and_false, Bool.or_false, Bool.or_true, Bool.and_true] <;> lia

section
variable {c : Cx} {GT : List (Str × Value)} (H : Chk c GT) {n : Nat} {σ : Store} {Q : V → Store → Prop}
include H
set_option maxHeartbeats 4000000 in
theorem here_chain {q k : Nat} (hq : isHem q) (hk : k < 33) {d : Int} {src ck : List Nat} {br : Bool} {lap : Int} {x8 x9 : Option V} {K : Fl → Lo → Store → Prop} {a : S} {e0 : V}
    (ha : w_law_body_1 = .forR 5 (.int 0) (.bin .Mod (.loc 0) (.int 4)) (.seq (.asg 0 (.bin .Add (.bin .FloorDiv (.loc 0) (.int 4)) (.bin .Mult (.int 3) (.loc 5)))) (.seq (.asg 6 (.bin .Mod (.loc 0) (.int 33))) (.seq (.asg 7 (.tup (.cons (.str [97]) (.cons (.str [97]) .nil)))) (.seq a (.seq (.ifs (.and (.cmp .Eq (.sl (.loc 2) (.int (-1)) .noX) (.str [13])) (.cmp .Eq (.idx (.idx (.loc 7) (.int 0)) (.int 0)) (.str [10]))) 
    (.seq (.asg 7 (.tup (.cons (.str [98]) (.cons (.str [98]) .nil)))) .skip) .skip)
  (.seq (.ifs (.and (.cmp .Eq (.sl (.loc 2) (.int (-2)) .noX) (.str [92, 48])) (.cmp .Eq (.idx (.loc 7) (.int 0)) (.str [55]))) 
    (.seq (.asg 4 (.bool true)) .skip) .skip)
  (.seq (.asg 2 (.bin .Add (.loc 2) (.idx (.loc 7) (.int 0))))
  (.seq (.asg 3 (.bin .Add (.loc 3) (.idx (.loc 7) (.int 1)))) .skip)))))))))
    (hK : ∀ hs hc bb x8 x9, Here q hs hc bb → K .next [some (.int d), some (.str [q]), some (.str src), some (.str ck), some (.bool (br || bb)), some (.int lap), some (.int (k : Nat)), some (.tup [.str hs, .str hc]), x8, x9] σ) :
    wpS (CallT c (n + 1)) a [some (.int d), some (.str [q]), some (.str src), some (.str ck), some (.bool br), some (.int lap), some (.int (k : Nat)), some e0, x8, x9] σ K := by
  unfold w_law_body_1 at ha
  injection ha with _ _ _ ha
  injection ha with _ ha
  injection ha with _ ha
  injection ha with _ ha
  injection ha with ha _
  subst ha
  have hKf : ∀ hs hc x8 x9, Here q hs hc false → K .next [some (.int d), some (.str [q]), some (.str src), some (.str ck), some (.bool br), some (.int lap), some (.int (k : Nat)), some (.tup [.str hs, .str hc]), x8, x9] σ := by
    intro hs hc x8 x9 h
    have := hK hs hc false x8 x9 h
    rw [Bool.or_false] at this
    exact this
  obtain ⟨cap, ecap, hcap⟩ := fmod_nat d (nat_lit 2) (by decide)
  refine st_ifs ?_
  walk_at "se"
  refine p_lenTn 25 rfl (by decide) ?_
  walk_at "se"
  by_cases k1 : k < 25
  · walk_at "st"
    refine p_idxTP (xs := atomsL) rfl (by decide) (by show k < 25; exact k1) ?_
    exact hKf _ _ _ _ (Here.atom hq (getD_mem (by show k < 25; exact k1)))
  walk_at "se"
  refine st_seq (st_ifs ?_)
  walk_at "se"
  by_cases k2 : k = 25
  · obtain ⟨one, e1, h1⟩ := fmod_nat (d.fdiv 33) (nat_lit 256) (by decide)
    walk_at "st"
    rw [e1.eq, ecap.eq]
    refine digits_spec (b := 16) (cap := cap) (w := 2) H (by decide) (by decide) hcap (by decide) (Nat.lt_trans h1 (by decide)) fun ds hD => ?_
    have hm := hD.max
    refine q_cat (by simp; lia) ?_
    walk_at "st"
    refine p_chr (by lia) ?_
    walk_at "st"
    exact hKf _ _ _ _ (Here.hex hD (.inl rfl) (by lia) (far_no (.inl (by lia))))
  walk_at "se"
  refine st_seq (st_ifs ?_)
  walk_at "se"
  by_cases k3 : k = 26
  · obtain ⟨one, e1, h1⟩ := fmod_nat (d.fdiv 33) (nat_lit 63488) (by decide)
    refine if_dt (by lia) ?_
    refine st_seq (st_asg ?_)
    walk_at "se"
    rw [e1.eq]
    obtain ⟨v, ev⟩ : ∃ v, (if 55296 ≤ one then one + 2048 else one) = v := ⟨_, rfl⟩
    have hv : v < 65536 ∧ isFar v = false := by
      rw [← ev]
      split
      · exact ⟨by lia, far_no (.inr (by lia))⟩
      · exact ⟨by lia, far_no (.inl (by lia))⟩
    refine seq_ifN (decide ((55296 : Int) ≤ (one : Nat))) [some (.int d), some (.str [q]), some (.str src), some (.str ck), some (.bool br), some (.int lap), some (.int (k : Nat)), some e0, some (.int (v : Nat)), x9] (fun P hP => ?_) (fun h K hK => ?_) (fun h => ?_) ?_
    · walk_at "se"
      exact hP
    · rw [decide_eq_true_eq] at h
      rw [if_pos (by lia)] at ev
      subst ev
      refine st_seq (st_aug ?_)
      walk_at "st"
      exact hK
    · rw [decide_eq_false_iff_not] at h
      rw [if_neg (by lia)] at ev
      subst ev
      rfl
    walk_at "st"
    rw [ecap.eq]
    refine digits_spec (b := 16) (cap := cap) (w := 4) H (by decide) (by decide) hcap (by decide) (Nat.lt_trans hv.1 (by decide)) fun ds hD => ?_
    have hm := hD.max
    refine q_cat (by simp; lia) ?_
    walk_at "st"
    refine p_chr (by lia) ?_
    walk_at "st"
    exact hKf _ _ _ _ (Here.hex hD (.inr rfl) (by lia) hv.2)
  walk_at "se"
  refine st_seq (st_ifs ?_)
  walk_at "se"
  by_cases k4 : k = 27
  · obtain ⟨one, e1, h1⟩ := fmod_nat (d.fdiv 33) (nat_lit 63488) (by decide)
    obtain ⟨w8, e8, h8⟩ := fmod_nat (d.fdiv 33) (nat_lit 8) (by decide)
    refine if_dt (by lia) ?_
    refine st_seq (st_asg ?_)
    walk_at "se"
    rw [e1.eq]
    obtain ⟨v, ev⟩ : ∃ v, (if 55296 ≤ one then one + 2048 else one) = v := ⟨_, rfl⟩
    have hv : v < 65536 ∧ isFar v = false := by
      rw [← ev]
      split
      · exact ⟨by lia, far_no (.inr (by lia))⟩
      · exact ⟨by lia, far_no (.inl (by lia))⟩
    refine seq_ifN (decide ((55296 : Int) ≤ (one : Nat))) [some (.int d), some (.str [q]), some (.str src), some (.str ck), some (.bool br), some (.int lap), some (.int (k : Nat)), some e0, some (.int (v : Nat)), x9] (fun P hP => ?_) (fun h K hK => ?_) (fun h => ?_) ?_
    · walk_at "se"
      exact hP
    · rw [decide_eq_true_eq] at h
      rw [if_pos (by lia)] at ev
      subst ev
      refine st_seq (st_aug ?_)
      walk_at "st"
      exact hK
    · rw [decide_eq_false_iff_not] at h
      rw [if_neg (by lia)] at ev
      subst ev
      rfl
    walk_at "st"
    rw [ecap.eq, e8.eq]
    refine digits_spec (b := 16) (cap := cap) (w := 1 + w8) H (by decide) (by decide) hcap (by lia) (Nat.lt_trans hv.1 (by decide)) fun ds hD => ?_
    have hm := hD.max
    refine q_cat (by simp; lia) ?_
    walk_at "st"
    refine q_cat (by simp; lia) ?_
    walk_at "st"
    refine p_chr (by lia) ?_
    walk_at "st"
    exact hKf _ _ _ _ (Here.code hD (by lia) (by lia) hv.2)
  walk_at "se"
  refine st_seq (st_ifs ?_)
  walk_at "se"
  by_cases k5 : k = 28
  · obtain ⟨j, e1, h1⟩ := fmod_nat (d.fdiv 33) (nat_lit 11) (by decide)
    walk_at "st"
    refine p_lenTn 11 rfl (by decide) ?_
    walk_at "st"
    rw [e1.eq]
    refine p_idxTS (xs := badsL) rfl (by decide) (h1) ?_
    walk_at "st"
    have := hK _ _ true x8 x9 (Here.bad hq (getD_mem (d := []) (show j < badsL.length from h1)))
    rw [Bool.or_true] at this
    exact this
  have raw : ∀ s, (s = [13, 10] ∨ s = [13] ∨ s = [10]) → q = 96 → Here q s [10] false := by
    intro s hs hq96
    refine ⟨BI.raw hq96 hs, ?_, ?_, ?_, ?_, ?_, by simp, fun h => (by cases h)⟩ <;> rcases hs with rfl | rfl | rfl <;> first | decide | (intro h; cases h)
  walk_at "se"
  refine st_seq (st_ifs ?_)
  by_cases hq96 : q = 96
  · walk_at "se"
    by_cases k6 : k = 29
    · walk_at "st"
      exact hKf _ _ _ _ (raw _ (.inl rfl) hq96)
    walk_at "se"
    refine st_seq (st_ifs ?_)
    walk_at "se"
    by_cases k7 : k = 30
    · walk_at "st"
      exact hKf _ _ _ _ (raw _ (.inr (.inl rfl)) hq96)
    walk_at "se"
    refine st_seq (st_ifs ?_)
    walk_at "se"
    by_cases k8 : k = 31
    · walk_at "st"
      exact hKf _ _ _ _ (raw _ (.inr (.inr rfl)) hq96)
    have k9 : k = 32 := by lia
    subst k9
    subst hq96
    walk_at "st"
    refine p_idxC 2 rfl (Nat.le_of_ble_eq_true rfl) ?_
    walk_at "st"
    refine p_idxC 0 rfl (Nat.le_of_ble_eq_true rfl) ?_
    walk_at "st"
    refine q_cat (Nat.le_of_ble_eq_true rfl) ?_
    walk_at "st"
    exact hKf _ _ _ _ ⟨BI.esc2 (fun _ => rfl) (by decide), by simp, by simp, by simp, fun e => (by cases e), by simp, by simp, fun e => (by cases e)⟩
  · have hq2 : q = 39 ∨ q = 34 := by rcases hq with h | h | h; exact .inl h; exact .inr h; exact absurd h hq96
    have last : ∀ K : Fl → Lo → Store → Prop, (∀ hs hc x8 x9, Here q hs hc false → K .next [some (.int d), some (.str [q]), some (.str src), some (.str ck), some (.bool br), some (.int lap), some (.int (k : Nat)), some (.tup [.str hs, .str hc]), x8, x9] σ) → wpS (CallT c (n + 1)) (.ifs (.cmp .Gt (.loc 6) (.int 28)) 
                    (.seq (.asg 9 (.idx (.tup (.cons (.str [39]) (.cons (.str [34]) (.cons (.str [96]) .nil)))) (.bin .Mod (.loc 6) (.int 3))))
                    (.seq (.asg 7 (.tup (.cons (.loc 9) (.cons (.loc 9) .nil))))
                    (.seq (.ifs (.cmp .Eq (.idx (.loc 7) (.int 0)) (.loc 1)) 
                      (.seq (.asg 7 (.tup (.cons (.bin .Add (.str [92]) (.loc 1)) (.cons (.loc 1) .nil)))) .skip) 
                      (.seq (.ifs (.and (.cmp .Eq (.loc 6) (.int 32)) (.cmp .NotEq (.loc 1) (.str [96]))) 
                        (.seq (.asg 7 (.tup (.cons (.bin .Add (.str [36]) (.str [123])) (.cons (.bin .Add (.str [36]) (.str [123])) .nil)))) .skip) .skip) .skip)) .skip))) .skip) [some (.int d), some (.str [q]), some (.str src), some (.str ck), some (.bool br), some (.int lap), some (.int (k : Nat)), some e0, x8, x9] σ K := by
      intro K hKf
      have hL : ∃ L : Nat, (L = 39 ∨ L = 34 ∨ L = 96) ∧ (∀ P : V → Store → Prop, P (.str [L]) σ → idxV (.tup [.str [39], .str [34], .str [96]]) (.int (Int.fmod (k : Nat) 3)) σ P) := by
        obtain ⟨j, e1, h1⟩ := fmod_nat (k : Nat) (nat_lit 3) (by decide)
        rw [e1.eq]
        have : j = 0 ∨ j = 1 ∨ j = 2 := lt3 h1
        rcases this with rfl | rfl | rfl
        · exact ⟨39, .inl rfl, fun P hP => p_idxT (Nat.le_of_ble_eq_true rfl) (Nat.le_of_ble_eq_true rfl) hP⟩
        · exact ⟨34, .inr (.inl rfl), fun P hP => p_idxT (Nat.le_of_ble_eq_true rfl) (Nat.le_of_ble_eq_true rfl) hP⟩
        · exact ⟨96, .inr (.inr rfl), fun P hP => p_idxT (Nat.le_of_ble_eq_true rfl) (Nat.le_of_ble_eq_true rfl) hP⟩
      obtain ⟨L, hL1, hL2⟩ := hL
      refine st_ifs ?_
      walk_at "se"
      refine st_seq (st_asg ?_)
      walk_at "se"
      refine hL2 _ ?_
      refine st_seq (st_asg ?_)
      walk_at "se"
      refine st_seq (st_ifs ?_)
      walk_at "se"
      refine p_idxC 0 rfl (Nat.le_of_ble_eq_true rfl) ?_
      walk_at "se"
      by_cases hLq : L = q
      · walk_at "st"
        refine q_cat (Nat.le_of_ble_eq_true rfl) ?_
        walk_at "st"
        refine hKf _ _ _ _ ?_
        rcases hq2 with rfl | rfl
        · exact ⟨BI.esc2 (fun _ => rfl) (by decide), by simp, by simp, by simp, fun e => (by cases e), by simp, by simp, fun e => (by cases e)⟩
        · exact ⟨BI.esc2 (fun _ => rfl) (by decide), by simp, by simp, by simp, fun e => (by cases e), by simp, by simp, fun e => (by cases e)⟩
      · walk_at "se"
        refine st_seq (st_ifs ?_)
        walk_at "se"
        by_cases k9 : k = 32
        · walk_at "st"
          refine q_cat (Nat.le_of_ble_eq_true rfl) ?_
          walk_at "st"
          refine q_cat (Nat.le_of_ble_eq_true rfl) ?_
          walk_at "st"
          exact hKf _ _ _ _ ⟨BI.hole2 hq2, by simp, by simp, by simp, fun e => (by cases e), by simp, by simp, fun e => (by cases e)⟩
        · walk_at "st"
          refine hKf _ _ _ _ ⟨BI.pl1 hLq (by lia) (.inl ?_) ?_, by simp, by simp; lia, by simp; lia, fun e => ?_, by simp, by simp, fun e => (by cases e)⟩
          · rcases hL1 with rfl | rfl | rfl <;> rfl
          · rcases hL1 with rfl | rfl | rfl <;> rfl
          · rcases hL1 with rfl | rfl | rfl <;> cases e
    have nf : ∀ (m : Int) (P : Bool → Store → Prop), P false σ → (wp (CallT c (n + 1)) (.and (.cmp .Eq (.loc 6) (.int m)) (.cmp .Eq (.loc 1) (.str [96])))).c [some (.int d), some (.str [q]), some (.str src), some (.str ck), some (.bool br), some (.int lap), some (.int (k : Nat)), some e0, x8, x9] σ P := by
      intro m P hP
      walk_at "se"
      refine if_i (fun _ => ?_) (fun _ => hP)
      walk_at "se"
      rw [decide_eq_false hq96]
      exact hP
    refine nf 29 _ (if_ff ?_)
    refine st_seq (st_ifs (nf 30 _ (if_ff ?_)))
    refine st_seq (st_ifs (nf 31 _ (if_ff ?_)))
    refine st_seq (last _ fun hs hc x8 x9 h => ?_)
    walk_at "st"
    exact hKf _ _ _ _ h
end
end
section
theorem last_drop' {x : Nat} (hx : x ≠ 0) (s : List Nat) : (s.drop (s.length - 1) = [x]) ↔ lst s = x := by
  rcases List.eq_nil_or_concat s with rfl | ⟨ws, w, rfl⟩
  · unfold lst; simp; lia
  · unfold lst
    rw [List.concat_eq_append, getLastD_snoc, List.length_append, show ws.length + [w].length - 1 = ws.length + 0 by simp, drop_app]
    simp
structure UnitOK (hs : List Nat) (ps : List Part) (hs' : List Nat) : Prop where
  eats : EatL hs ps hs' (Fol (ps.getLastD ⟨[], 0, none, 0, 0⟩))
  hd : ∃ p ps', ps = p :: ps' ∧ HdOK p
  len : (srcs ps).length ≤ 500
  cnt : ps.length ≤ 20
  hol : hs'.length + hs'.sum ≤ hs.length + hs.sum + 1
noncomputable def UQ (σ : Store) (jh : Nat) (hs : List Nat) (Q : V → Store → Prop) : Prop := ∀ σ' i ps hs', Ext [jh] σ σ' → σ'[jh]? = some (holV hs') → σ.length ≤ i → σ'[i]? = some (.list (ps.map PV)) → UnitOK hs ps hs' → Q (.obj i) σ'
theorem UnitOK.one {hs hs' : List Nat} {p : Part} (h : EatL hs [p] hs' (Fol p)) (hd : HdOK p) (hl : p.src.length ≤ 500) (hh : hs'.length + hs'.sum ≤ hs.length + hs.sum + 1) : UnitOK hs [p] hs' :=
  ⟨h, ⟨p, [], rfl, hd⟩, by simpa [srcs] using hl, by simp, hh⟩
theorem UQ.here {σ : Store} {jh : Nat} {hs : List Nat} {Q : V → Store → Prop} (q : UQ σ jh hs Q) (hj : σ[jh]? = some (holV hs)) {ps : List Part} (h : UnitOK hs ps hs) : Q (.obj σ.length) (σ ++ [.list (ps.map PV)]) :=
  q _ _ ps hs (Ext.push _ _ _) (get_app hj) (Nat.le_refl _) at_new h

section
variable {c : Cx} {GT : List (Str × Value)} (H : Chk c GT) {n : Nat} {σ : Store} {Q : V → Store → Prop}
include H
set_option maxHeartbeats 1000000 in
theorem body_spec {q0 : Nat} (hq : isHem q0) {d : Int} (q : ∀ src ck br, BI q0 src ck br → src.length ≤ 300 → ck.length ≤ 300 → Q (.tup [.str src, ckV (cOf br ck), .int (fOf br : Nat)]) σ) : CallT c (n + 2) 495 [.int d, .str [q0]] σ Q := by
  have loop : ∀ K : Fl → Lo → Store → Prop, (∀ d' src ck br x5 x6 x7 x8 x9, BI q0 src ck br → src.length ≤ 300 → ck.length ≤ 300 → K .next [some (.int d'), some (.str [q0]), some (.str src), some (.str ck), some (.bool br), x5, x6, x7, x8, x9] σ) →
      wpS (CallT c (n + 1)) w_law_body_1 [some (.int d), some (.str [q0]), some (.str []), some (.str []), some (.bool false), none, none, none, none, none] σ K := by
    intro K hK
    obtain ⟨m, e1, h1⟩ := fmod_nat d (nat_lit 4) (by decide)
    unfold w_law_body_1
    refine st_forR ?_
    walk_at "se"
    rw [e1.eq]
    obtain ⟨I, hI⟩ : ∃ I : List Int → Lo → Store → Prop, ∀ l env σ', I l env σ' ↔ (∀ P : List Int → Lo → Store → Prop, (∀ (j : Nat) (d' : Int) (src ck : List Nat) (br : Bool) (x5 x6 x7 x8 x9 : Option V), BI q0 src ck br → j ≤ m → l = (List.range (m - j)).map (fun z : Nat => ((j + z : Nat) : Int)) → src.length ≤ 100 * j → ck.length ≤ 100 * j → P l [some (.int d'), some (.str [q0]), some (.str src), some (.str ck), some (.bool br), x5, x6, x7, x8, x9] σ) → P l env σ') := ⟨_, fun _ _ _ => Iff.rfl⟩
    refine ⟨r60 (a := 0) (by decide) (upl h1 (by decide)), I, (hI _ _ _).mpr fun _ g => g 0 d [] [] false none none none none none BI.nil (Nat.zero_le _) ?_ (by simp) (by simp), ?_, ?_⟩
    · unfold rangeV
      rw [a_z0]
      refine List.map_congr_left fun z _ => ?_
      lia
    · intro x l env σ' hz
      generalize hlx : x :: l = lx at hz
      apply (hI _ _ _).mp hz
      intro j d' src ck br x5 x6 x7 x8 x9 hB hj hl hs1 hs2
      rw [← hlx] at hl
      clear hlx
      clear hz
      have hlt : j < m := by
        by_cases h : j < m
        · exact h
        · rw [a_s0 ‹_›] at hl; cases hl
      rw [a_s1 ‹_›, List.range_succ_eq_map, List.map_cons, List.map_map] at hl
      injection hl with g1 g2
      rw [Nat.add_zero] at g1
      subst g1
      have hsl : src.length ≤ 1000000 := by lia
      refine st_seq (st_asg ?_)
      walk_at "se"
      refine q_mul (IntMulOk.of_left (by decide +kernel)) ?_
      walk_at "se"
      generalize Int.fdiv d' 4 + 3 * (j : Int) = d2
      refine st_seq (st_asg ?_)
      walk_at "se"
      obtain ⟨k, e2, h2⟩ := fmod_nat d2 (nat_lit 33) (by decide)
      rw [e2.eq]
      refine st_seq (st_asg ?_)
      walk_at "se"
      refine st_seq (wp_via (fun env' σ' => σ' = σ ∧ ∃ hs hc bb x8 x9, Here q0 hs hc bb ∧ env' = [some (.int d2), some (.str [q0]), some (.str src), some (.str ck), some (.bool (br || bb)), some (.int (j : Nat)), some (.int (k : Nat)), some (.tup [.str hs, .str hc]), x8, x9]) (fun K' hK' => here_chain H hq (show k < 33 by lia) rfl fun hs hc bb x8 x9 h => hK' _ _ ⟨rfl, hs, hc, bb, x8, x9, h, rfl⟩) ?_)
      rintro env' σ' ⟨rfl, hs, hc, bb, x8, x9, hH, rfl⟩
      refine st_seq (wp_via (fun env' σ₃ => σ₃ = σ' ∧ ∃ hs hc bb, Here q0 hs hc bb ∧ ¬ (lst src = 13 ∧ hs.headD 0 = 10) ∧ env' = [some (.int d2), some (.str [q0]), some (.str src), some (.str ck), some (.bool (br || bb)), some (.int (j : Nat)), some (.int (k : Nat)), some (.tup [.str hs, .str hc]), x8, x9]) (fun K' hK' => ?_) ?_)
      · refine st_ifs ?_
        walk_at "se"
        rw [sl_fromN1]
        refine pEqS ?_
        walk_at "se"
        by_cases hl13 : lst src = 13
        · refine if_dt ((last_drop' (by decide) src).mpr hl13) ?_
          walk_at "se"
          refine p_idxC 0 rfl (Nat.le_of_ble_eq_true rfl) ?_
          walk_at "se"
          have hlen := hH.len
          refine p_idxS (k := 0) (by lia) (List.length_pos_iff.mpr hH.ne) ?_
          rw [pk_hd (t := hs) (k := 0) (r := hs) rfl]
          walk_at "se"
          by_cases h10 : hs.headD 0 = 10
          · refine if_dt h10 ?_
            refine st_seq (st_asg ?_)
            walk_at "se"
            refine st_skip (hK' _ _ ⟨rfl, [98], [98], bb, ?_, by simp, rfl⟩)
            cases bb with
            | false => exact ⟨BI.pl1 (by rcases hq with rfl | rfl | rfl <;> decide) (by decide) (.inl rfl) rfl, by simp, by simp, by simp, fun e => (by cases e), by simp, by simp, fun e => (by cases e)⟩
            | true =>
              exact absurd h10 (hH.h10 rfl)
          · refine if_df h10 ?_
            exact st_skip (hK' _ _ ⟨rfl, hs, hc, bb, hH, fun z => h10 z.2, rfl⟩)
        · refine if_df (fun z => hl13 ((last_drop' (by decide) src).mp z)) (if_ff ?_)
          exact st_skip (hK' _ _ ⟨rfl, hs, hc, bb, hH, fun z => hl13 z.1, rfl⟩)
      clear hH hs hc bb
      rintro env' σ₃ ⟨rfl, hs, hc, bb, hH, hcr, rfl⟩
      have hdg : isDig (hs.headD 0) = decide (hs = [55]) := by
        by_cases h : hs = [55]
        · rw [decide_eq_true h, h]; rfl
        · rw [decide_eq_false h]
          cases hd : isDig (hs.headD 0) with
          | false => rfl
          | true => exact absurd (hH.dig hd) h
      refine seq_ifN (endZ src && decide (hs = [55])) [some (.int d2), some (.str [q0]), some (.str src), some (.str ck), some (.bool (br || bb || (endZ src && decide (hs = [55])))), some (.int (j : Nat)), some (.int (k : Nat)), some (.tup [.str hs, .str hc]), x8, x9] (fun P hP => ?_) (fun h K hK => ?_) (fun h => ?_) ?_
      · walk_at "se"
        rw [sl_fromN2]
        refine pEqS ?_
        walk_at "se"
        unfold endZ at hP
        by_cases hz : src.drop (src.length - 2) = [92, 48]
        · rw [decide_eq_true hz] at hP
          refine if_dt hz ?_
          walk_at "se"
          refine p_idxC 0 rfl (Nat.le_of_ble_eq_true rfl) ?_
          walk_at "se"
          refine pEqS ?_
          walk_at "se"
          exact hP
        · rw [decide_eq_false hz] at hP
          refine if_df hz ?_
          exact hP
      · walk_at "se"
        rw [h, Bool.or_true] at hK
        refine st_seq (st_asg (e_bool (st_skip ?_)))
        exact hK
      · rw [h, Bool.or_false]
      have hlen := hH.len
      have hlenc := hH.lenc
      refine st_seq (st_asg ?_)
      walk_at "se"
      refine p_idxC 0 rfl (Nat.le_of_ble_eq_true rfl) ?_
      refine q_cat (by lia) ?_
      refine st_seq (st_asg ?_)
      walk_at "se"
      refine p_idxC 1 rfl (Nat.le_of_ble_eq_true rfl) ?_
      refine q_cat (by lia) ?_
      refine st_skip ((hI _ _ _).mpr fun _ g => g (j + 1) d2 (src ++ hs) (ck ++ hc) _ _ _ _ _ _ ?_ hlt ?_ (by rw [List.length_append]; lia) (by rw [List.length_append]; lia))
      · have := BI.app hB hH.bi hH.ne hH.n48 (fun e h => hcr ⟨e, h⟩) (fun _ => hH.h123)
        rw [hdg] at this
        exact this
      · rw [g2]
        refine List.map_congr_left fun z _ => ?_
        show ((j + (z + 1) : Nat) : Int) = _
        lia
    · intro env σ hz
      generalize hlx : ([] : List _) = lx at hz
      apply (hI _ _ _).mp hz
      intro j d' src ck br x5 x6 x7 x8 x9 hB hj hl hs1 hs2
      rw [← hlx] at hl
      clear hlx
      exact hK _ _ _ _ _ _ _ _ _ hB (by lia) (by lia)
  refine fn_sound H.k_law_body H.gt rfl ?_; unfold b_law_body
  refine st_seq (st_asg (e_str ?_))
  refine st_seq (st_asg (e_str ?_))
  refine st_seq (st_asg (e_bool ?_))
  refine st_seq (loop _ fun d' src ck br x5 x6 x7 x8 x9 hB h1 h2 => ?_)
  have := q src ck br hB h1 h2
  cases br with
  | true =>
    walk_at "st"
    exact this
  | false =>
    walk_at "st"
    exact this
end
end
section
theorem hd_tpl {x : Nat} {k : Int} (h : (x = 96 ∧ (k = 6 ∨ k = 7)) ∨ (x = 125 ∧ (k = 8 ∨ k = 9))) (s : List Nat) (ck : Option (List Nat)) (f : Nat) : HdOK ⟨x :: s, k, ck, 0, f⟩ := by
  refine ⟨by simp, ?_, ?_, ?_, ?_, ?_, ?_, ?_, ?_, ?_⟩ <;> dsimp only [List.headD] <;> lia

section
variable {c : Cx} {GT : List (Str × Value)} (H : Chk c GT) {n : Nat} {σ : Store} {Q : V → Store → Prop}
include H
theorem text_spec {d : Int} (q : ∀ p, (∀ hs, EatL hs [p] hs (Fol p)) → HdOK p → p.src.length ≤ 500 → Q (.obj σ.length) (σ ++ [.list [PV p]])) : CallT c (n + 3) 502 [.int d] σ Q := by
  obtain ⟨a, e1, h1⟩ := fmod_nat d (nat_lit 2) (by decide)
  obtain ⟨b, e2, h2⟩ := fmod_nat (d.fdiv 2) (nat_lit 8) (by decide)
  have hq : ∃ q0, (q0 = 39 ∨ q0 = 34) ∧ ∀ P : V → Store → Prop, P (.str [q0]) σ → idxV (.str [39, 34]) (.int (a : Nat)) σ P := by
    have : a = 0 ∨ a = 1 := lt2 h1
    rcases this with rfl | rfl
    · exact ⟨39, .inl rfl, fun P hP => p_idxS (by decide) (by decide) hP⟩
    · exact ⟨34, .inr rfl, fun P hP => p_idxS (by decide) (by decide) hP⟩
  obtain ⟨q0, hq0, hidx⟩ := hq
  have hd : ∀ (s : List Nat) (ck : Option (List Nat)) (f : Nat), HdOK ⟨q0 :: s, 4, ck, 0, f⟩ := by
    intro s ck f
    refine ⟨by simp, ?_, ?_, ?_, ?_, ?_, ?_, ?_, ?_, ?_⟩ <;> dsimp only [List.headD] <;> lia
  refine fn_sound H.k_law_text H.gt rfl ?_; unfold b_law_text
  refine st_seq (st_asg ?_)
  walk_at "se"
  rw [e1.eq]
  refine hidx _ ?_
  refine st_seq (st_asgT ?_)
  walk_at "se"
  refine body_spec H (by rcases hq0 with h | h; exact .inl h; exact .inr (.inl h)) fun src ck br hB hs1 hs2 => ?_
  walk_at "se"
  refine st_seq (st_ifs ?_)
  walk_at "se"
  rw [e2.eq]
  by_cases hb : b = 5
  · walk_at "se"
    refine st_seq (st_ifs ?_)
    walk_at "se"
    have hp := q ⟨q0 :: src ++ [122], 4, cOf br (ck ++ [122]), 0, 1002⟩ (fun hs => eat_stro hq0 hB) (hd _ _ _) (by simp; lia)
    cases br with
    | true =>
      refine if_f rfl ?_
      walk_at "st"
      refine q_cat (by simp; lia) ?_
      walk_at "st"
      refine q_cat (by simp; lia) ?_
      walk_at "st"
      exact hp
    | false =>
      refine if_t rfl ?_
      refine st_seq (st_asg ?_)
      walk_at "se"
      refine q_cat (by simp; lia) ?_
      walk_at "st"
      refine q_cat (by simp; lia) ?_
      walk_at "st"
      refine q_cat (by simp; lia) ?_
      walk_at "st"
      exact hp
  · walk_at "st"
    refine q_cat (by simp; lia) ?_
    walk_at "st"
    refine q_cat (by simp; lia) ?_
    walk_at "st"
    exact q ⟨q0 :: src ++ [q0], 4, cOf br ck, 0, fOf br⟩ (fun hs => (eat_str hq0 hB).wk fun _ _ => trivial) (hd _ _ _) (by simp; lia)

theorem piece_spec {d : Int} {jh : Nat} {hs : List Nat} (hj : σ[jh]? = some (holV hs)) (hl : hs.length < 900000) (q : UQ σ jh hs Q) : CallT c (n + 3) 509 [.int d, .str [96], .obj jh] σ Q := by
  obtain ⟨a, e1, h1⟩ := fmod_nat d (nat_lit 2) (by decide)
  unfold holV at hj
  refine fn_sound H.k_law_piece H.gt rfl ?_; unfold b_law_piece
  refine st_seq (st_asgT ?_)
  walk_at "se"
  refine body_spec H (.inr (.inr rfl)) fun src ck br hB hs1 hs2 => ?_
  walk_at "se"
  refine st_seq (st_asg ?_)
  walk_at "se"
  refine st_seq (st_ifs ?_)
  walk_at "se"
  refine st_skip ?_
  refine st_seq (st_ifs ?_)
  walk_at "se"
  rw [e1.eq]
  by_cases ha : a = 0
  · walk_at "st"
    refine q_cat (by simp; lia) ?_
    walk_at "st"
    refine q_cat (by simp; lia) ?_
    walk_at "st"
    refine p_idxC 0 rfl (Nat.le_of_ble_eq_true rfl) ?_
    walk_at "st"
    exact q.here hj (ps := [⟨96 :: src ++ [96], 6, cOf br ck, 0, fOf br⟩]) (UnitOK.one ((eat_tpl hB).wk fun _ _ => trivial) (hd_tpl (.inl ⟨rfl, .inl rfl⟩) _ _ _) (by simp; lia) (by lia))
  · walk_at "se"
    refine st_skip ?_
    refine st_seq (st_expr ?_)
    walk_at "se"
    refine ⟨mo_list (.inl rfl) hj, ?_⟩
    walk_at "se"
    refine p_append hj (by rw [List.length_map]; lia) ?_
    walk_at "st"
    refine q_cat (by simp; lia) ?_
    walk_at "st"
    refine q_cat (by simp; lia) ?_
    walk_at "st"
    refine q_cat (by simp; lia) ?_
    walk_at "st"
    refine p_idxC 1 rfl (Nat.le_of_ble_eq_true rfl) ?_
    walk_at "st"
    have hj' := get_set (cl' := .list (hs.map (fun h => V.int (h : Nat)) ++ [.int 0])) hj
    refine q _ _ [⟨96 :: src ++ [36, 123], 7, cOf br ck, 0, fOf br⟩] (hs ++ [0]) ((Ext.setL hj (by simp)).trans (Ext.push _ _ _)) ?_ (by simp) ?_ (UnitOK.one ((eat_tplh hB).wk fun _ _ => trivial) (hd_tpl (.inl ⟨rfl, .inr rfl⟩) _ _ _) (by simp; lia) (by simp; lia))
    · rw [get_app hj']; unfold holV; rw [map_snoc]; rfl
    · rw [at_new]
      simp [PV]
theorem piece2_spec {d : Int} {jh : Nat} {hs : List Nat} (hj : σ[jh]? = some (holV (hs ++ [0]))) (hl : hs.length < 900000) (q : UQ σ jh (hs ++ [0]) Q) : CallT c (n + 3) 509 [.int d, .str [125], .obj jh] σ Q := by
  obtain ⟨a, e1, h1⟩ := fmod_nat d (nat_lit 2) (by decide)
  unfold holV at hj
  rw [map_snoc] at hj
  refine fn_sound H.k_law_piece H.gt rfl ?_; unfold b_law_piece
  refine st_seq (st_asgT ?_)
  walk_at "se"
  refine body_spec H (.inr (.inr rfl)) fun src ck br hB hs1 hs2 => ?_
  walk_at "se"
  refine st_seq (st_asg ?_)
  walk_at "se"
  refine st_seq (st_ifs ?_)
  walk_at "se"
  refine st_seq (st_asg ?_)
  walk_at "se"
  refine st_seq (st_expr ?_)
  walk_at "se"
  refine ⟨mo_list (.inr rfl) hj, ?_⟩
  walk_at "se"
  refine p_pop hj (by simp) ?_
  rw [getLastD_snoc, List.dropLast_concat]
  have hj' := get_set (cl' := .list (hs.map (fun h => V.int (h : Nat)))) hj
  have E1 : Ext [jh] σ _ := Ext.setL (ds' := hs.map (fun h => V.int (h : Nat))) hj (by simp)
  walk_at "se"
  refine st_skip ?_
  refine st_seq (st_ifs ?_)
  walk_at "se"
  rw [e1.eq]
  by_cases ha : a = 0
  · walk_at "st"
    refine q_cat (by simp; lia) ?_
    walk_at "st"
    refine q_cat (by simp; lia) ?_
    walk_at "st"
    refine p_idxC 0 rfl (Nat.le_of_ble_eq_true rfl) ?_
    walk_at "st"
    refine q _ _ [⟨125 :: src ++ [96], 9, cOf br ck, 0, fOf br⟩] hs (E1.trans (Ext.push _ _ _)) (get_app hj') (by simp) ?_ (UnitOK.one ((eat_tail hB).wk fun _ _ => trivial) (hd_tpl (.inr ⟨rfl, .inr rfl⟩) _ _ _) (by simp; lia) (by simp; lia))
    rw [at_new]; rfl
  · walk_at "se"
    refine st_skip ?_
    refine st_seq (st_expr ?_)
    walk_at "se"
    refine ⟨mo_list (.inl rfl) hj', ?_⟩
    walk_at "se"
    refine p_append hj' (by rw [List.length_map]; lia) ?_
    walk_at "st"
    refine q_cat (by simp; lia) ?_
    walk_at "st"
    refine q_cat (by simp; lia) ?_
    walk_at "st"
    refine q_cat (by simp; lia) ?_
    walk_at "st"
    refine p_idxC 1 rfl (Nat.le_of_ble_eq_true rfl) ?_
    walk_at "st"
    have hj2 := get_set (cl' := .list (hs.map (fun h => V.int (h : Nat)) ++ [.int 0])) hj'
    refine q _ _ [⟨125 :: src ++ [36, 123], 8, cOf br ck, 0, fOf br⟩] (hs ++ [0]) ((E1.trans (Ext.setL hj' (by simp))).trans (Ext.push _ _ _)) ?_ (by simp) ?_ (UnitOK.one ((eat_mid hB).wk fun _ _ => trivial) (hd_tpl (.inr ⟨rfl, .inl rfl⟩) _ _ _) (by simp; lia) (by simp))
    · rw [get_app hj2]; unfold holV; rw [map_snoc]; rfl
    · rw [at_new]
      simp [PV]
theorem brace_spec {x : Nat} (q : Q (.obj σ.length) (σ ++ [.list [PV ⟨[x], 5, some [x], 0, 0⟩]])) : CallT c (n + 1) 516 [.str [x]] σ Q := by
  refine fn_sound H.k_law_brace H.gt rfl ?_; unfold b_law_brace
  walk_at "st"
  exact q
end
end
section
noncomputable def namesL : List (List Nat) := match g_law_names with
  | .tup ds => (strsOf ds).getD []
  | _ => []
noncomputable def wordsL : List (List Nat) := match g_law_words with
  | .tup ds => (strsOf ds).getD []
  | _ => []
theorem names_ok : ∀ x ∈ namesL, nameOK x = true ∧ x.length ≤ 20 := by decide +kernel
theorem words_ok : ∀ x ∈ wordsL, wordOK x = true ∧ x.length ≤ 20 := by decide +kernel
theorem nameOK_hd {x : List Nat} (h : nameOK x = true) : isNS (x.headD 0) = true ∧ x ≠ [] := by
  unfold nameOK at h
  simp only [Bool.and_eq_true] at h
  refine ⟨h.1.1, ?_⟩
  rintro rfl; cases h.1.1
theorem wordOK_hd {x : List Nat} (h : wordOK x = true) : isNS (x.headD 0) = true ∧ x ≠ [] := by
  unfold wordOK at h
  simp only [Bool.and_eq_true] at h
  refine ⟨h.1.1, ?_⟩
  rintro rfl; cases h.1.1
theorem hd_kind {p : Part} (hne : p.src ≠ []) (h : (p.kind = 1 ∧ (isNS (p.src.headD 0) = true ∨ p.src.headD 0 = 35)) ∨ (p.kind = 2 ∧ isNS (p.src.headD 0) = true) ∨ (p.kind = 3 ∧ isDig (p.src.headD 0) = true) ∨ (p.kind = 5 ∧ isNP (p.src.headD 0) = false) ∨ (p.kind = -1 ∧ (p.src.headD 0 = 92 ∨ p.src.headD 0 = 233 ∨ p.src.headD 0 = 35 ∨ p.src.headD 0 = 0 ∨ p.src.headD 0 = 32))) : HdOK p := by
  unfold HdOK
  refine ⟨hne, ?_, ?_, ?_, ?_, ?_, ?_, ?_, ?_, ?_⟩
  · intro e; rcases h with h | h | h | h | h
    · exact h.2
    · lia
    · lia
    · lia
    · lia
  · intro e; rcases h with h | h | h | h | h
    · lia
    · exact h.2
    · lia
    · lia
    · lia
  · intro e; rcases h with h | h | h | h | h
    · lia
    · lia
    · exact h.2
    · lia
    · lia
  · intro e; rcases h with h | h | h | h | h <;> lia
  · intro e; rcases h with h | h | h | h | h <;> lia
  · intro e; rcases h with h | h | h | h | h <;> lia
  · intro e; rcases h with h | h | h | h | h
    · lia
    · lia
    · lia
    · lia
    · exact h.2
  · rcases h with h | h | h | h | h <;> lia
  · intro e; rcases h with h | h | h | h | h
    · lia
    · lia
    · lia
    · exact h.2
    · lia
theorem run_len {dg : Bool} {N : Nat} {run : List Nat} : (cutF dg N run).length ≤ N := by
  induction N generalizing run with
  | zero => exact Nat.le_refl _
  | succ N ih =>
    unfold cutF
    split
    · exact Nat.zero_le _
    · rw [List.length_cons]; have := ih (run := run.drop (cutSz dg run)); lia
theorem cutF_hd {dg : Bool} {i m : Nat} {b : Bool} (hi : i < signsL.length) (hm : m < 3) : ∃ p ps, cutF dg 12 (runG i m dg b) = p :: ps ∧ p.1 ≠ [] ∧ isNP (p.1.headD 0) = false ∧ (cat (cutF dg 12 (runG i m dg b))).length ≤ 11 := by
  have h := run_ok i hi m hm dg b
  unfold runOK at h
  simp only [Bool.and_eq_true, Bool.not_eq_true', List.isEmpty_eq_false_iff, decide_eq_true_eq] at h
  obtain ⟨⟨⟨h1, h2⟩, h3⟩, h4⟩ := h
  rw [h4]
  cases hc : cutF dg 12 (runG i m dg b) with
  | nil => exact absurd hc h2
  | cons p ps =>
    rw [hc] at h1
    obtain ⟨s, f⟩ := p
    unfold chkS at h1
    simp only [Bool.and_eq_true, Bool.not_eq_true', List.isEmpty_eq_false_iff] at h1
    have hh := h1.1.1.1.1.2
    unfold hdOK at hh
    simp only [Bool.and_eq_true, Bool.not_eq_true'] at hh
    obtain ⟨⟨⟨⟨⟨⟨⟨⟨⟨⟨g1, g2⟩, _⟩, _⟩, _⟩, _⟩, _⟩, _⟩, _⟩, _⟩, _⟩ := hh
    refine ⟨_, _, rfl, h1.1.1.1.1.1.1.1, ?_, h3⟩
    unfold isNP
    rw [g1, g2]; rfl
theorem map_PV_mkS (ps : List (List Nat × Nat)) : (ps.map fun p => PV (mkS p)) = (ps.map mkS).map PV := by simp
theorem p_catL {σ : Store} {Q : V → Store → Prop} {i j : Nat} {xs ys : List V} (h1 : σ[i]? = some (.list xs)) (h2 : σ[j]? = some (.list ys)) (hl : xs.length + ys.length ≤ 1000000) (q : Q (.obj σ.length) (σ ++ [.list (xs ++ ys)])) : binV .Add (.obj i) (.obj j) σ Q := p_lst h1 (p_lst h2 ⟨hl, q⟩)
theorem intS_dig (j : Nat) (h : j < 10) : intS (j : Nat) = [48 + j] := by
  have : ∀ j < 10, intS ((j : Nat) : Int) = [48 + j] := by decide +kernel
  exact this j h
theorem num_dig (j : Nat) (h : j < 10) : numF [48 + j] = (j, 1, true) ∧ isDig (48 + j) = true := by
  have : ∀ j < 10, numF [48 + j] = (j, 1, true) ∧ isDig (48 + j) = true := by decide +kernel
  exact this j h

section
variable {c : Cx} {GT : List (Str × Value)} (H : Chk c GT) {n : Nat} {σ : Store} {Q : V → Store → Prop}
include H
set_option maxHeartbeats 4000000 in
theorem unit_spec {x : Int} {jh : Nat} {hs : List Nat} (hj : σ[jh]? = some (holV hs)) (hl : hs.length < 800000) (q : UQ σ jh hs Q) : CallT c (n + 4) 523 [.int x, .obj jh] σ Q := by
  obtain ⟨k, e1, h1⟩ := fmod_nat x (nat_lit 12) (by decide)
  have hjV := hj
  unfold holV at hjV
  refine fn_sound H.k_law_unit H.gt rfl ?_; unfold b_law_unit
  refine st_seq (st_asg ?_)
  walk_at "se"
  rw [e1.eq]
  refine st_seq (st_asg ?_)
  walk_at "se"
  generalize x.fdiv 12 = d
  refine st_seq (st_ifs ?_)
  walk_at "se"
  by_cases k0 : k = 0
  · obtain ⟨j, e2, h2⟩ := fmod_nat d (nat_lit 29) (by decide)
    walk_at "st"
    refine p_lenTn 29 rfl (by decide) ?_
    walk_at "st"
    rw [e2.eq]
    refine p_idxTS (xs := namesL) rfl (by decide) (h2) ?_
    walk_at "st"
    have hn := names_ok _ (getD_mem (d := []) (show j < namesL.length from h2))
    generalize namesL.getD j [] = nm at hn
    exact q.here hj (ps := [⟨nm, 1, some nm, 0, 0⟩]) (UnitOK.one (eat_name hn.1) (hd_kind (nameOK_hd hn.1).2 (.inl ⟨rfl, .inl (nameOK_hd hn.1).1⟩)) (by dsimp only; lia) (by lia))
  walk_at "se"
  refine st_skip ?_
  refine st_seq (st_ifs ?_)
  walk_at "se"
  by_cases k1 : k = 1
  · obtain ⟨j, e2, h2⟩ := fmod_nat d (nat_lit 34) (by decide)
    walk_at "st"
    refine p_lenTn 34 rfl (by decide) ?_
    walk_at "st"
    rw [e2.eq]
    refine p_idxTS (xs := wordsL) rfl (by decide) (h2) ?_
    walk_at "st"
    have hn := words_ok _ (getD_mem (d := []) (show j < wordsL.length from h2))
    generalize wordsL.getD j [] = nm at hn
    exact q.here hj (ps := [⟨nm, 2, some nm, 0, 0⟩]) (UnitOK.one (eat_word hn.1) (hd_kind (wordOK_hd hn.1).2 (.inr (.inl ⟨rfl, (wordOK_hd hn.1).1⟩))) (by dsimp only; lia) (by lia))
  walk_at "se"
  refine st_skip ?_
  refine st_seq (st_ifs ?_)
  walk_at "se"
  by_cases k2 : k < 4
  · walk_at "st"
    refine number_spec H fun p hp h3 => ?_
    walk_at "st"
    exact q.here hj (ps := [p]) (UnitOK.one (hp.eats hs) hp.hd (by have := hp.len; lia) (by lia))
  walk_at "se"
  refine st_skip ?_
  refine st_seq (st_ifs ?_)
  walk_at "se"
  by_cases k4 : k = 4
  · walk_at "st"
    refine run_spec H fun i m b hi hm => ?_
    walk_at "st"
    obtain ⟨p, ps, ec, hne, hnp, hcl⟩ := cutF_hd (dg := false) (b := b) hi hm
    rw [map_PV_mkS]
    refine q.here hj ⟨eat_run hi hm, ⟨mkS p, ps.map mkS, by rw [ec]; rfl, hd_kind hne (.inr (.inr (.inr (.inl ⟨rfl, hnp⟩))))⟩, by rw [srcs_mkS]; lia, by rw [List.length_map]; have := run_len (dg := false) (N := 12) (run := runG i m false b); lia, by lia⟩
  walk_at "se"
  refine st_skip ?_
  refine st_seq (st_ifs ?_)
  walk_at "se"
  by_cases k5 : k = 5
  · obtain ⟨j, e2, h2⟩ := fmod_nat d (nat_lit 10) (by decide)
    walk_at "st"
    refine run_spec H fun i m b hi hm => ?_
    walk_at "st"
    rw [e2.eq]
    refine p_str (log2_small (by lia)) ?_
    walk_at "st"
    rw [e2.eq]
    refine p_str (log2_small (by lia)) ?_
    walk_at "st"
    rw [e2.eq]
    obtain ⟨p, ps, ec, hne, hnp, hcl⟩ := cutF_hd (dg := true) (b := b) hi hm
    have hrl := run_len (dg := true) (N := 12) (run := runG i m true b)
    rw [map_PV_mkS]
    have hj10 : j < 10 := h2
    rw [intS_dig j hj10]
    obtain ⟨hn1, hn2⟩ := num_dig j hj10
    have hp := eat_num (src := [48 + j]) (v := j) (o := true) (ck := some [48 + j]) (v' := j) (fault := 0) hn1 hn2 (fun c e => by cases e; exact ⟨intS_dig j hj10, rfl⟩) rfl (hs := hs)
    have hE := eat_run_dig (b := b) hi hm hp hn2 (by simp)
    refine p_catL (get_app at_new) at_new (by simp; lia) ?_
    walk_at "st"
    refine q _ _ ((cutF true 12 (runG i m true b)).map mkS ++ [⟨[48 + j], 3, some [48 + j], j, 0⟩]) hs (((Ext.push _ _ _).trans (Ext.push _ _ _)).trans (Ext.push _ _ _)) (get_app (get_app (get_app hj))) (by simp only [List.length_append]; lia) ?_ ⟨?_, ⟨mkS p, ps.map mkS ++ [⟨[48 + j], 3, some [48 + j], j, 0⟩], by rw [ec]; rfl, hd_kind hne (.inr (.inr (.inr (.inl ⟨rfl, hnp⟩))))⟩, ?_, ?_, by lia⟩
    · rw [at_new, List.map_append]; rfl
    · rw [getLastD_snoc]; exact hE
    · have : ∀ qs : List Part, srcs (qs ++ [⟨[48 + j], 3, some [48 + j], j, 0⟩]) = srcs qs ++ [48 + j] := by
        intro qs
        induction qs with
        | nil => rfl
        | cons a qs ih => simp [srcs, ih]
      rw [this, List.length_append, srcs_mkS]
      simp; lia
    · simp; lia
  walk_at "se"
  refine st_skip ?_
  refine st_seq (st_ifs ?_)
  walk_at "se"
  by_cases k6 : k = 6
  · walk_at "st"
    refine text_spec H fun p hp hd hlen => ?_
    walk_at "st"
    exact q.here hj (ps := [p]) (UnitOK.one (hp hs) hd hlen (by lia))
  walk_at "se"
  refine st_skip ?_
  refine st_seq (st_ifs ?_)
  walk_at "se"
  by_cases k7 : k = 7
  · walk_at "st"
    refine piece_spec H hj (by lia) fun σ' i ps hs' a1 a2 a3 a4 a5 => ?_
    walk_at "st"
    exact q σ' i ps hs' a1 a2 a3 a4 a5
  walk_at "se"
  refine st_skip ?_
  refine st_seq (st_ifs ?_)
  walk_at "se"
  by_cases k8 : k = 8
  · walk_at "se"
    refine st_seq (st_ifs ?_)
    walk_at "se"
    refine tru_obj hjV ?_
    rcases List.eq_nil_or_concat hs with rfl | ⟨ws, w, rfl⟩
    · refine if_f rfl ?_
      walk_at "st"
      refine brace_spec H ?_
      walk_at "st"
      exact q.here hj (ps := [⟨[123], 5, some [123], 0, 0⟩]) (UnitOK.one ((eat_brace (.inl rfl) fun k e l => Hole.none (by dsimp only; decide)).wk fun _ _ => trivial) (hd_kind (by simp) (.inr (.inr (.inr (.inl ⟨rfl, rfl⟩))))) (by simp) (by lia))
    · rw [List.concat_eq_append] at hj hjV q ⊢
      rw [map_snoc] at hjV ⊢
      rw [show (ws.map (fun h => V.int (h : Nat)) ++ [V.int (w : Nat)]).isEmpty = false by simp]
      refine if_t rfl ?_
      refine st_seq (p_augLast (y := ((w + 1 : Nat) : Int)) (fun P hP => e_loc rfl hP) hjV (.inl ⟨rfl, rfl⟩) ?_)
      walk_at "st"
      refine brace_spec H ?_
      walk_at "st"
      have hj2 := get_set (cl' := .list (ws.map (fun h => V.int (h : Nat)) ++ [.int ((w + 1 : Nat) : Int)])) hjV
      refine q _ _ [⟨[123], 5, some [123], 0, 0⟩] (ws ++ [w + 1]) ((Ext.setL hjV (by simp)).trans (Ext.push _ _ _)) ?_ (by simp) at_new (UnitOK.one ((eat_brace (.inl rfl) fun k e l => Hole.opn rfl rfl).wk fun _ _ => trivial) (hd_kind (by simp) (.inr (.inr (.inr (.inl ⟨rfl, rfl⟩))))) (by simp) (by simp; lia))
      rw [get_app hj2]; unfold holV; rw [map_snoc]
  walk_at "se"
  refine st_skip ?_
  refine st_seq (st_ifs ?_)
  walk_at "se"
  by_cases k11 : k < 11
  · walk_at "se"
    refine st_seq (st_ifs ?_)
    walk_at "se"
    refine tru_obj hjV ?_
    rcases List.eq_nil_or_concat hs with rfl | ⟨ws, w, rfl⟩
    · refine if_f rfl (if_ff ?_)
      refine st_skip ?_
      refine st_seq (st_ifs ?_)
      walk_at "se"
      refine tru_obj hjV ?_
      refine if_f rfl ?_
      walk_at "st"
      refine brace_spec H ?_
      walk_at "st"
      exact q.here hj (ps := [⟨[125], 5, some [125], 0, 0⟩]) (UnitOK.one ((eat_brace (.inr rfl) fun k e l => Hole.none (by dsimp only; decide)).wk fun _ _ => trivial) (hd_kind (by simp) (.inr (.inr (.inr (.inl ⟨rfl, rfl⟩))))) (by simp) (by lia))
    · rw [List.concat_eq_append] at hj hjV q ⊢
      rw [map_snoc] at hjV ⊢
      rw [show (ws.map (fun h => V.int (h : Nat)) ++ [V.int (w : Nat)]).isEmpty = false by simp]
      refine if_t rfl ?_
      walk_at "se"
      refine p_idxLast hjV (by simp) ?_
      rw [getLastD_snoc]
      walk_at "se"
      by_cases hw : w = 0
      · subst hw
        walk_at "st"
        refine piece2_spec H hj (by rw [List.concat_eq_append, List.length_append] at hl; lia) fun σ' i ps hs' a1 a2 a3 a4 a5 => ?_
        walk_at "st"
        exact q σ' i ps hs' a1 a2 a3 a4 a5
      · obtain ⟨w, rfl⟩ : ∃ w', w = w' + 1 := ⟨w - 1, a_pred ‹_›⟩
        walk_at "se"
        refine st_skip ?_
        refine st_seq (st_ifs ?_)
        walk_at "se"
        refine tru_obj hjV ?_
        rw [show (ws.map (fun h => V.int (h : Nat)) ++ [V.int ((w + 1 : Nat) : Int)]).isEmpty = false by simp]
        refine if_t rfl ?_
        refine st_seq (p_augLast (y := (w : Int)) (fun P hP => e_loc rfl hP) hjV (.inr ⟨rfl, by lia⟩) ?_)
        walk_at "st"
        refine brace_spec H ?_
        walk_at "st"
        have hj2 := get_set (cl' := .list (ws.map (fun h => V.int (h : Nat)) ++ [.int (w : Nat)])) hjV
        refine q _ _ [⟨[125], 5, some [125], 0, 0⟩] (ws ++ [w]) ((Ext.setL hjV (by simp)).trans (Ext.push _ _ _)) ?_ (by simp) at_new (UnitOK.one ((eat_brace (.inr rfl) fun k e l => Hole.cls rfl rfl).wk fun _ _ => trivial) (hd_kind (by simp) (.inr (.inr (.inr (.inl ⟨rfl, rfl⟩))))) (by simp) (by simp; lia))
        rw [get_app hj2]; unfold holV; rw [map_snoc]
  walk_at "se"
  refine st_skip ?_
  obtain ⟨a, e3, h3⟩ := fmod_nat d (nat_lit 2) (by decide)
  refine st_seq (st_ifs ?_)
  walk_at "se"
  rw [e3.eq]
  by_cases ha : a = 0
  · obtain ⟨j, e2, h2⟩ := fmod_nat (d.fdiv 2) (nat_lit 29) (by decide)
    walk_at "st"
    refine p_lenTn 29 rfl (by decide) ?_
    walk_at "st"
    rw [e2.eq]
    refine p_idxTS (xs := namesL) rfl (by decide) (h2) ?_
    have hn := names_ok _ (getD_mem (d := []) (show j < namesL.length from h2))
    generalize namesL.getD j [] = nm at hn
    refine q_cat (by simp; lia) ?_
    walk_at "st"
    exact q.here hj (ps := [⟨35 :: nm, 1, some (35 :: nm), 0, 1127⟩]) (UnitOK.one (eat_hash hn.1) (hd_kind (by simp) (.inl ⟨rfl, .inr rfl⟩)) (by simp; lia) (by lia))
  · obtain ⟨j, e2, h2⟩ := fmod_nat (d.fdiv 2) (nat_lit 5) (by decide)
    walk_at "st"
    refine p_chr (i := 233) (by decide) ?_
    walk_at "st"
    refine p_chr (i := 0) (by decide) ?_
    walk_at "st"
    rw [e2.eq]
    have hidx : ∃ s : List Nat, (s = [92] ∨ s = [233] ∨ s = [35, 32] ∨ s = [0]) ∧ ([V.str [92], .str [233], .str [35, 32], .str [0], .str [92]] : List V)[j]? = some (.str s) := by
      have : j = 0 ∨ j = 1 ∨ j = 2 ∨ j = 3 ∨ j = 4 := lt5 h2
      rcases this with rfl | rfl | rfl | rfl | rfl
      · exact ⟨[92], .inl rfl, rfl⟩
      · exact ⟨[233], .inr (.inl rfl), rfl⟩
      · exact ⟨[35, 32], .inr (.inr (.inl rfl)), rfl⟩
      · exact ⟨[0], .inr (.inr (.inr rfl)), rfl⟩
      · exact ⟨[92], .inl rfl, rfl⟩
    obtain ⟨s, hs1, hs2⟩ := hidx
    refine p_idxC j hs2 (Nat.le_of_ble_eq_true rfl) ?_
    walk_at "st"
    exact q.here hj (ps := [⟨s, -1, none, 0, 1127⟩]) (UnitOK.one ((eat_noise hs1).wk fun _ _ => trivial) (hd_kind (by rcases hs1 with rfl | rfl | rfl | rfl <;> simp) (.inr (.inr (.inr (.inr ⟨rfl, by rcases hs1 with rfl | rfl | rfl | rfl <;> simp⟩))))) (by rcases hs1 with rfl | rfl | rfl | rfl <;> simp) (by lia))
end
end
section
theorem BP.sp1 {c : Nat} (h : c = 32 ∨ c = 9) : BP [c] false := by
  intro r m l o hB
  refine Blank.sp (r := c :: r) ?_ hB
  rcases h with rfl | rfl <;> rfl
theorem BP.nl1 {c : Nat} (h : c = 10 ∨ c = 13) : BP [c] true := by
  intro r m l o hB
  refine Blank.nl (r := c :: r) ?_ hB
  rcases h with rfl | rfl <;> rfl
theorem BP.block (s : List Nat) (h : ∀ r, findSS (s ++ 42 :: 47 :: r) = some s.length) : BP (47 :: 42 :: s ++ [42, 47]) ((s ++ [42, 47]).any isWLE) := by
  intro r m l o hB
  have e : 47 :: 42 :: s ++ [42, 47] ++ r = 47 :: 42 :: (s ++ 42 :: 47 :: r) := by simp
  have e2 : (47 :: 42 :: s ++ [42, 47]).length = s.length + 4 := by simp
  rw [e, e2]
  have := Blank.bl (r := 47 :: 42 :: (s ++ 42 :: 47 :: r)) (j := s.length) (k := m) (l := l) (o := o) rfl (h r) (by
    rw [show s.length + 4 = (s.length + 2) + 1 + 1 by lia, List.drop_succ_cons, List.drop_succ_cons, drop_app]
    exact hB)
  have e3 : ((47 :: 42 :: (s ++ 42 :: 47 :: r)).drop 2).take (s.length + 2) = s ++ [42, 47] := by
    show (s ++ 42 :: 47 :: r).take (s.length + 2) = _
    rw [show s ++ 42 :: 47 :: r = (s ++ [42, 47]) ++ r by simp, List.take_left' (by simp)]
  rw [e3] at this
  exact this
theorem BP.line (s : List Nat) {c : Nat} (hb : ∀ r, bk (s ++ r) = 3) (h : ∀ r, skipLn (s ++ c :: r) = s.length) (hc : c = 10 ∨ c = 13) : BP (s ++ [c]) true := by
  intro r m l o hB
  have h2 := BP.nl1 hc r m l o hB
  have := Blank.ln (r := s ++ c :: r) (k := 1 + m) (l := true) (o := o) (hb _) (by rw [h]; rw [show s.length = s.length + 0 from rfl, drop_app]; exact h2)
  rw [h] at this
  rw [List.append_assoc, List.length_append, Nat.add_assoc]
  exact this
noncomputable def blanksL : List (List Nat × Bool) := [([], false), ([32], false), ([10], true), ([], false), ([9], false), ([47, 42, 42, 47], false), ([13, 10], true), ([47, 47, 32, 120, 10], true), ([], false), ([47, 42, 32, 34, 32, 47, 47, 32, 42, 47], false), ([47, 42, 10, 42, 47], true), ([47, 42, 47, 32, 42, 47, 32], false), ([47, 47, 42, 47, 96, 13], true), ([47, 42, 42, 42, 47], false), ([47, 42, 13, 42, 47], true), ([], false), ([32, 47, 42, 32, 36, 32, 42, 47, 9], false), ([47, 42, 8233, 42, 47], true)]
noncomputable def hdB (c : Nat) : Prop := c = 32 ∨ c = 10 ∨ c = 9 ∨ c = 47 ∨ c = 13
structure BlankOK (b : List Nat) (bl : Bool) : Prop where
  bp : BP b bl
  hd : b = [] ∨ hdB (b.headD 0)
  len : b.length ≤ 20
theorem blanks_ok : ∀ p ∈ blanksL, BlankOK p.1 p.2 := by
  have c : ∀ {b : List Nat} {bl : Bool} {L : List (List Nat × Bool)}, BP b bl → (b = [] ∨ hdB (b.headD 0)) → b.length ≤ 20 → (∀ p ∈ L, BlankOK p.1 p.2) → ∀ p ∈ (b, bl) :: L, BlankOK p.1 p.2 := fun h1 h2 h3 g p q => (List.mem_cons.mp q).elim (fun e => e ▸ ⟨h1, h2, h3⟩) (g p)
  refine c BP.nil (.inl rfl) (by decide) ?_
  refine c (BP.sp1 (.inl rfl)) (.inr (.inl rfl)) (by decide) ?_
  refine c (BP.nl1 (.inl rfl)) (.inr (.inr (.inl rfl))) (by decide) ?_
  refine c BP.nil (.inl rfl) (by decide) ?_
  refine c (BP.sp1 (.inr rfl)) (.inr (.inr (.inr (.inl rfl)))) (by decide) ?_
  refine c (BP.block [] fun _ => rfl) (.inr (.inr (.inr (.inr (.inl rfl))))) (by decide) ?_
  refine c (BP.app (BP.nl1 (.inr rfl)) (BP.nl1 (.inl rfl))) (.inr (.inr (.inr (.inr (.inr rfl))))) (by decide) ?_
  refine c (BP.line [47, 47, 32, 120] (fun _ => rfl) (fun _ => rfl) (.inl rfl)) (.inr (.inr (.inr (.inr (.inl rfl))))) (by decide) ?_
  refine c BP.nil (.inl rfl) (by decide) ?_
  refine c (BP.block [32, 34, 32, 47, 47, 32] fun _ => rfl) (.inr (.inr (.inr (.inr (.inl rfl))))) (by decide) ?_
  refine c (BP.block [10] fun _ => rfl) (.inr (.inr (.inr (.inr (.inl rfl))))) (by decide) ?_
  refine c (BP.app (BP.block [47, 32] fun _ => rfl) (BP.sp1 (.inl rfl))) (.inr (.inr (.inr (.inr (.inl rfl))))) (by decide) ?_
  refine c (BP.line [47, 47, 42, 47, 96] (fun _ => rfl) (fun _ => rfl) (.inr rfl)) (.inr (.inr (.inr (.inr (.inl rfl))))) (by decide) ?_
  refine c (BP.block [42] fun _ => rfl) (.inr (.inr (.inr (.inr (.inl rfl))))) (by decide) ?_
  refine c (BP.block [13] fun _ => rfl) (.inr (.inr (.inr (.inr (.inl rfl))))) (by decide) ?_
  refine c BP.nil (.inl rfl) (by decide) ?_
  refine c (BP.app (BP.sp1 (.inl rfl)) (BP.app (BP.block [32, 36, 32] fun _ => rfl) (BP.sp1 (.inr rfl)))) (.inr (.inl rfl)) (by decide) ?_
  refine c (BP.block [8233] fun _ => rfl) (.inr (.inr (.inr (.inr (.inl rfl))))) (by decide) ?_
  exact nofun

/-- what the law lays between two parts -/
noncomputable def needOf (last here : Part) : Bool := ((([1, 2, 3] : List Int).contains last.kind && ([1, 2, 3] : List Int).contains here.kind) || (decide (last.kind = 3) && decide (here.src.headD 0 = 46))) || (decide (last.kind = 5) && (!subIn last.src [123, 125] && ([5, 3] : List Int).contains here.kind))
noncomputable def btw (last here : Part) (b : List Nat) (bl : Bool) : List Nat × Bool :=
  if last.kind = 4 ∧ last.fault = 1002 then (10 :: b, true)
  else if needOf last here = true ∧ b = [] then ([32], false)
  else if last.src = [47] ∧ b.take 1 = [47] then (9 :: b, bl)
  else (b, bl)
theorem fol_hd {last : Part} {x : Nat} {r : List Nat} (h1 : isNP x = false) (h2 : x ≠ 46) (h3 : contL.contains x = false) (h4 : isDig x = false) (h5 : last.src = [47] → x ≠ 47) (h6 : last.kind = 4 → last.fault = 1002 → isLE x = true) : Fol last (x :: r) :=
  ⟨fun _ => h1, fun _ => ⟨h1, h2⟩, fun _ => .inr ⟨h3, h4, h5⟩, fun a b => .inr (h6 a b)⟩
theorem hdB_facts {x : Nat} (h : hdB x) : isNP x = false ∧ x ≠ 46 ∧ contL.contains x = false ∧ isDig x = false := by
  rcases h with rfl | rfl | rfl | rfl | rfl <;> exact ⟨rfl, by decide, rfl, rfl⟩
set_option maxHeartbeats 1000000 in
theorem btw_ok {last here : Part} {b : List Nat} {bl : Bool} (hB : BlankOK b bl) (hH : HdOK here) : BP (btw last here b bl).1 (btw last here b bl).2 ∧ (btw last here b bl).1.length ≤ 21 ∧ ∀ rest, Fol last ((btw last here b bl).1 ++ (here.src ++ rest)) := by
  have hl := hB.len
  unfold btw
  by_cases h1 : last.kind = 4 ∧ last.fault = 1002
  · rw [if_pos h1]
    refine ⟨?_, by simp; lia, fun rest => ?_⟩
    · have := BP.app (BP.nl1 (c := 10) (.inl rfl)) hB.bp
      exact this
    · exact fol_hd rfl (by decide) rfl rfl (fun _ => by decide) (fun _ _ => rfl)
  rw [if_neg h1]
  have h14 : ∀ x : Nat, last.kind = 4 → last.fault = 1002 → isLE x = true := fun x a b => absurd ⟨a, b⟩ h1
  by_cases h2 : needOf last here = true ∧ b = []
  · rw [if_pos h2]
    exact ⟨BP.sp1 (.inl rfl), by simp, fun rest => fol_hd rfl (by decide) rfl rfl (fun _ => by decide) (h14 _)⟩
  rw [if_neg h2]
  by_cases h3 : last.src = [47] ∧ b.take 1 = [47]
  · rw [if_pos h3]
    refine ⟨?_, by simp; lia, fun rest => fol_hd rfl (by decide) rfl rfl (fun _ => by decide) (h14 _)⟩
    have := BP.app (BP.sp1 (c := 9) (.inr rfl)) hB.bp
    rw [Bool.false_or] at this
    exact this
  rw [if_neg h3]
  refine ⟨hB.bp, by dsimp only; lia, fun rest => ?_⟩
  cases b with
  | cons x r =>
    have hx : hdB x := by
      rcases hB.hd with h | h
      · cases h
      · exact h
    obtain ⟨g1, g2, g3, g4⟩ := hdB_facts hx
    refine fol_hd g1 g2 g3 g4 (fun e hx47 => h3 ⟨e, ?_⟩) (h14 _)
    subst hx47; rfl
  | nil =>
    have hn : needOf last here = false := by
      cases h : needOf last here with
      | false => rfl
      | true => exact absurd ⟨h, rfl⟩ h2
    obtain ⟨s1, s2, s3, s4, s5, s6, s7, s8, s9, s10⟩ := hH
    cases hsrc : here.src with
    | nil => exact absurd hsrc s1
    | cons x r =>
      rw [hsrc] at s2 s3 s4 s5 s6 s7 s8 s10
      have e0 : (x :: r).headD 0 = x := rfl
      rw [e0] at s2 s3 s4 s5 s6 s7 s8 s10
      unfold needOf at hn
      rw [hsrc, e0] at hn
      simp only [Bool.or_eq_false_iff, Bool.and_eq_false_iff, decide_eq_false_iff_not, Bool.not_eq_false'] at hn
      obtain ⟨⟨n1, n2⟩, n3⟩ := hn
      have np : (here.kind ≠ 1 ∧ here.kind ≠ 2 ∧ here.kind ≠ 3) → isNP x = false := by
        rintro ⟨k1, k2, k3⟩
        by_cases k5 : here.kind = 5
        · exact s10 k5
        by_cases k4 : here.kind = 4
        · rcases s5 k4 with h | h <;> (rw [h]; rfl)
        by_cases k6 : here.kind = 6 ∨ here.kind = 7
        · rw [s6 k6]; rfl
        by_cases k8 : here.kind = 8 ∨ here.kind = 9
        · rw [s7 k8]; rfl
        · rcases s8 (by clear s2 s3 s4 s5 s6 s7 s8 s10 n1 n2 n3 h1 h2 h3 hB hl h14 hsrc s1 e0; lia) with h | h | h | h | h <;> (rw [h]; rfl)
      have w : ∀ k : Int, ([1, 2, 3] : List Int).contains k = false → k ≠ 1 ∧ k ≠ 2 ∧ k ≠ 3 := by
        intro k h
        refine ⟨?_, ?_, ?_⟩ <;> (intro e; rw [e] at h; cases h)
      have w' : ∀ k : Int, (k = 1 ∨ k = 2 ∨ k = 3) → ([1, 2, 3] : List Int).contains k = true := by
        intro k h
        rcases h with rfl | rfl | rfl <;> rfl
      refine ⟨fun k => ?_, fun k => ?_, fun k => ?_, fun a b => absurd ⟨a, b⟩ h1⟩
      · rcases n1 with h | h
        · rw [w' _ (by lia)] at h; cases h
        · exact np (w _ h)
      · refine ⟨?_, ?_⟩
        · rcases n1 with h | h
          · rw [w' _ (by lia)] at h; cases h
          · exact np (w _ h)
        · rcases n2 with h | h
          · exact absurd k h
          · exact h
      · rcases n3 with h | h | h
        · exact absurd k h
        · exact .inl h
        · have k5 : here.kind ≠ 5 := by rintro e; rw [e] at h; cases h
          have k3 : here.kind ≠ 3 := by rintro e; rw [e] at h; cases h
          refine .inr ?_
          show contL.contains x = false ∧ isDig x = false ∧ (last.src = [47] → x ≠ 47)
          have ns : isNS x = true → contL.contains x = false ∧ isDig x = false ∧ (last.src = [47] → x ≠ 47) := by
            intro hns
            obtain ⟨f1, f2, f3, f4, f5, f6⟩ := ns_facts hns
            refine ⟨?_, f5, fun _ => f4⟩
            exact cont_no (p := isNS) rfl hns
          by_cases k1 : here.kind = 1
          · rcases s2 k1 with h | h
            · exact ns h
            · rw [h]; exact ⟨rfl, rfl, fun _ => by decide⟩
          by_cases k2 : here.kind = 2
          · exact ns (s3 k2)
          by_cases k4 : here.kind = 4
          · rcases s5 k4 with h | h <;> (rw [h]; exact ⟨rfl, rfl, fun _ => by decide⟩)
          by_cases k6 : here.kind = 6 ∨ here.kind = 7
          · rw [s6 k6]; exact ⟨rfl, rfl, fun _ => by decide⟩
          by_cases k8 : here.kind = 8 ∨ here.kind = 9
          · rw [s7 k8]; exact ⟨rfl, rfl, fun _ => by decide⟩
          · rcases s8 (by clear s2 s3 s4 s5 s6 s7 s8 s10 n1 n2 h1 h2 h3 hB hl h14 hsrc s1 e0 np w w'; lia) with h | h | h | h | h <;> rw [h] <;> exact ⟨rfl, rfl, fun _ => by decide⟩

section
variable {c : Cx} {GT : List (Str × Value)} (H : Chk c GT) {n : Nat} {σ : Store} {Q : V → Store → Prop}
include H
set_option maxHeartbeats 4000000 in
theorem between_spec {last here : Part} {b : List Nat} {bl : Bool} (hb : b.length ≤ 30) (h0 : here.src ≠ []) (h1 : here.src.length ≤ 1000000) (q : Q (.tup [.str (btw last here b bl).1, .bool (btw last here b bl).2]) σ) : CallT c (n + 1) 537 [PV last, PV here, .tup [.str b, .bool bl]] σ Q := by
  unfold PV
  refine fn_sound H.k_law_between H.gt rfl ?_; unfold b_law_between
  refine st_seq (st_asg ?_)
  walk_at "se"
  have hlen : ([V.str last.src, .int last.kind, ckV last.cooked, .int (last.num : Nat), .int (last.fault : Nat)] : List V).length ≤ 1000000 := Nat.le_of_ble_eq_true rfl
  have hlen2 : ([V.str here.src, .int here.kind, ckV here.cooked, .int (here.num : Nat), .int (here.fault : Nat)] : List V).length ≤ 1000000 := Nat.le_of_ble_eq_true rfl
  have hlen3 : ([V.str b, .bool bl] : List V).length ≤ 1000000 := Nat.le_of_ble_eq_true rfl
  obtain ⟨x, r, hsrc⟩ : ∃ x r, here.src = x :: r := by
    cases h : here.src with
    | nil => exact absurd h h0
    | cons x r => exact ⟨x, r, rfl⟩
  have hpk : pk here.src 0 = here.src.headD 0 := pk_hd (t := here.src) (k := 0) (r := here.src) rfl
  have hpos : 0 < here.src.length := List.length_pos_iff.mpr h0
  obtain ⟨nd1, e1⟩ : ∃ nd1, (([1, 2, 3] : List Int).contains last.kind && ([1, 2, 3] : List Int).contains here.kind) = nd1 := ⟨_, rfl⟩
  obtain ⟨nd2, e2⟩ : ∃ nd2, (nd1 || (decide (last.kind = 3) && decide (here.src.headD 0 = 46))) = nd2 := ⟨_, rfl⟩
  obtain ⟨nd3, e3⟩ : ∃ nd3, (nd2 || (decide (last.kind = 5) && (!subIn last.src [123, 125] && ([5, 3] : List Int).contains here.kind))) = nd3 := ⟨_, rfl⟩
  have e4 : needOf last here = nd3 := by unfold needOf; rw [e1, e2, e3]
  refine st_seq (wp_via (fun env' σ' => σ' = σ ∧ env' = [some (PV last), some (PV here), some (.tup [.str b, .bool bl]), some (.tup [.int 1, .int 2, .int 3]), some (.bool nd1)]) (fun K' hK' => ?_) ?_)
  · refine st_asg ?_
    walk_at "se"
    refine p_idxC 1 rfl hlen ?_
    walk_at "se"
    refine pInTI (l := [1, 2, 3]) rfl ?_
    walk_at "se"
    cases hc : ([1, 2, 3] : List Int).contains last.kind
    · rw [hc, Bool.false_and] at e1
      subst e1
      refine if_ff ?_
      exact hK' _ _ ⟨rfl, rfl⟩
    · rw [hc, Bool.true_and] at e1
      refine if_tt ?_
      walk_at "se"
      refine p_idxC 1 rfl hlen2 ?_
      walk_at "se"
      refine pInTI (l := [1, 2, 3]) rfl ?_
      rw [e1]
      exact hK' _ _ ⟨rfl, rfl⟩
  rintro env' σ' ⟨rfl, rfl⟩
  unfold PV
  refine seq_ifN (decide (last.kind = 3) && decide (here.src.headD 0 = 46)) [some (PV last), some (PV here), some (.tup [.str b, .bool bl]), some (.tup [.int 1, .int 2, .int 3]), some (.bool nd2)] (fun P hP => ?_) (fun h K hK => ?_) (fun h => ?_) ?_
  · walk_at "se"
    refine p_idxC 1 rfl hlen ?_
    walk_at "se"
    by_cases h3 : last.kind = 3
    · rw [decide_eq_true h3] at hP
      walk_at "se"
      refine p_idxC 0 rfl hlen2 ?_
      walk_at "se"
      refine p_idxS (k := 0) h1 hpos ?_
      rw [hpk]
      walk_at "se"
      exact hP
    · rw [decide_eq_false h3] at hP
      walk_at "se"
      exact hP
  · rw [h, Bool.or_true] at e2
    subst e2
    walk_at "st"
    exact hK
  · rw [h, Bool.or_false] at e2
    rw [e2]; rfl
  unfold PV
  refine seq_ifN (decide (last.kind = 5) && (!subIn last.src [123, 125] && ([5, 3] : List Int).contains here.kind)) [some (PV last), some (PV here), some (.tup [.str b, .bool bl]), some (.tup [.int 1, .int 2, .int 3]), some (.bool nd3)] (fun P hP => ?_) (fun h K hK => ?_) (fun h => ?_) ?_
  · walk_at "se"
    refine p_idxC 1 rfl hlen ?_
    walk_at "se"
    by_cases h3 : last.kind = 5
    · rw [decide_eq_true h3, Bool.true_and] at hP
      walk_at "se"
      refine p_idxC 0 rfl hlen ?_
      walk_at "se"
      refine pNotInS ?_
      walk_at "se"
      cases hsb : subIn last.src [123, 125]
      · rw [hsb, Bool.not_false, Bool.true_and] at hP
        walk_at "se"
        refine p_idxC 1 rfl hlen2 ?_
        walk_at "se"
        refine pInTI (l := [5, 3]) rfl ?_
        exact hP
      · rw [hsb, Bool.not_true, Bool.false_and] at hP
        walk_at "se"
        exact hP
    · rw [decide_eq_false h3, Bool.false_and] at hP
      walk_at "se"
      exact hP
  · rw [h, Bool.or_true] at e3
    subst e3
    walk_at "st"
    exact hK
  · rw [h, Bool.or_false] at e3
    rw [e3]; rfl
  unfold PV
  unfold btw at q
  rw [e4] at q
  have r3 : ¬ (last.kind = 4 ∧ last.fault = 1002) → wpS (CallT c n) (.seq (.ifs (.and (.loc 4) (.cmp .Eq (.idx (.loc 2) (.int 0)) (.str []))) 
    (.seq (.ret (.tup (.cons (.str [32]) (.cons (.bool false) .nil)))) .skip) .skip)
  (.seq (.ifs (.and (.cmp .Eq (.idx (.loc 0) (.int 0)) (.str [47])) (.cmp .Eq (.sl (.idx (.loc 2) (.int 0)) .noX (.int 1)) (.str [47]))) 
    (.seq (.ret (.tup (.cons (.bin .Add (.str [9]) (.idx (.loc 2) (.int 0))) (.cons (.idx (.loc 2) (.int 1)) .nil)))) .skip) .skip)
  (.seq (.ret (.loc 2)) .skip))) [some (PV last), some (PV here), some (.tup [.str b, .bool bl]), some (.tup [.int 1, .int 2, .int 3]), some (.bool nd3)] σ' (retQ Q) := by
    intro hk
    rw [if_neg hk] at q
    have r4 : ¬ (nd3 = true ∧ b = []) → wpS (CallT c n) (.seq (.ifs (.and (.cmp .Eq (.idx (.loc 0) (.int 0)) (.str [47])) (.cmp .Eq (.sl (.idx (.loc 2) (.int 0)) .noX (.int 1)) (.str [47]))) 
    (.seq (.ret (.tup (.cons (.bin .Add (.str [9]) (.idx (.loc 2) (.int 0))) (.cons (.idx (.loc 2) (.int 1)) .nil)))) .skip) .skip)
  (.seq (.ret (.loc 2)) .skip)) [some (PV last), some (PV here), some (.tup [.str b, .bool bl]), some (.tup [.int 1, .int 2, .int 3]), some (.bool nd3)] σ' (retQ Q) := by
      intro hk2
      rw [if_neg hk2] at q
      have hbl : b.length ≤ 1000000 := by lia
      unfold PV
      refine st_seq (st_ifs ?_)
      walk_at "se"
      refine p_idxC 0 rfl hlen ?_
      walk_at "se"
      refine pEqS ?_
      walk_at "se"
      by_cases h47 : last.src = [47]
      · refine if_dt h47 ?_
        walk_at "se"
        refine p_idxC 0 rfl hlen3 ?_
        walk_at "se"
        rw [sl_to1]
        refine pEqS ?_
        walk_at "se"
        by_cases hb47 : b.take 1 = [47]
        · rw [if_pos ⟨h47, hb47⟩] at q
          refine if_dt hb47 ?_
          walk_at "st"
          refine p_idxC 0 rfl hlen3 ?_
          refine q_cat (by simp; lia) ?_
          walk_at "st"
          refine p_idxC 1 rfl hlen3 ?_
          walk_at "st"
          exact q
        · rw [if_neg (fun z => hb47 z.2)] at q
          refine if_df hb47 ?_
          walk_at "st"
          exact q
      · rw [if_neg (fun z => h47 z.1)] at q
        refine if_df h47 (if_ff ?_)
        walk_at "st"
        exact q
    refine st_seq (st_ifs ?_)
    walk_at "se"
    cases nd3 with
    | false =>
      walk_at "se"
      refine st_skip (r4 (by simp))
    | true =>
      walk_at "se"
      refine p_idxC 0 rfl hlen3 ?_
      walk_at "se"
      refine pEqS ?_
      walk_at "se"
      by_cases hbn : b = []
      · rw [if_pos ⟨rfl, hbn⟩] at q
        refine if_dt hbn ?_
        walk_at "st"
        exact q
      · refine if_df hbn ?_
        exact st_skip (r4 (fun z => hbn z.2))
  refine st_seq (st_ifs ?_)
  walk_at "se"
  refine p_idxC 1 rfl hlen ?_
  walk_at "se"
  by_cases h4 : last.kind = 4
  · walk_at "se"
    refine p_idxC 4 rfl hlen ?_
    walk_at "se"
    by_cases hf : last.fault = 1002
    · rw [if_pos ⟨h4, hf⟩] at q
      walk_at "st"
      refine p_idxC 0 rfl hlen3 ?_
      refine q_cat (by simp; lia) ?_
      walk_at "st"
      exact q
    · walk_at "se"
      exact st_skip (r3 (fun z => hf z.2))
  · walk_at "se"
    exact st_skip (r3 (fun z => h4 z.1))
end
end
section
noncomputable abbrev brP : Part := ⟨[125], 5, some [125], 0, 0⟩
noncomputable abbrev tlP : Part := ⟨[125, 96], 9, some [], 0, 0⟩
theorem eat_brs {ws : List Nat} : ∀ w : Nat, EatL (ws ++ [w]) (List.replicate w brP) (ws ++ [0]) (fun _ => True)
  | 0 => EatL.nil
  | w + 1 => by
    rw [List.replicate_succ]
    exact EatL.cons (eat_brace (.inr rfl) fun k e l => Hole.cls rfl rfl) (eat_brs w) fun _ _ => trivial
theorem eat_close {ws : List Nat} (w : Nat) : EatL (ws ++ [w]) (List.replicate w brP ++ [tlP]) ws (fun _ => True) :=
  EatL.app eat_tail0 (eat_brs w) fun _ _ => trivial
theorem srcs_app (ps qs : List Part) : srcs (ps ++ qs) = srcs ps ++ srcs qs := by
  induction ps with
  | nil => rfl
  | cons p ps ih => simp [srcs, ih]
theorem srcs_rep (w : Nat) : (srcs (List.replicate w brP)).length = w := by
  induction w with
  | zero => rfl
  | succ w ih => rw [List.replicate_succ, srcs, List.length_append, ih]; simp [brP]; lia
structure EndOK (e : Nat) (hs : List Nat) (ps : List Part) (hs' : List Nat) : Prop where
  eats : EatL hs ps hs' (fun r => e = 2 ∨ r = [])
  len : (srcs ps).length ≤ 2 * (hs.length + hs.sum) + 10
  cnt : ps.length ≤ hs.length + hs.sum + 5
noncomputable def EQ (σ : Store) (jh e : Nat) (hs : List Nat) (Q : V → Store → Prop) : Prop := ∀ σ' i ps hs', Ext [jh] σ σ' → σ'[jh]? = some (holV hs') → σ.length ≤ i → σ'[i]? = some (.list (ps.map PV)) → EndOK e hs ps hs' → Q (.obj i) σ'
theorem p_rep {σ : Store} {Q : V → Store → Prop} {i w : Nat} {x : V} (h1 : σ[i]? = some (.list [x])) (hw : w ≤ 1000) (q : Q (.obj σ.length) (σ ++ [.list (List.replicate w x)])) : binV .Mult (.obj i) (.int (w : Nat)) σ Q := p_lst h1 ⟨by lia, by lia, q⟩

section
variable {c : Cx} {GT : List (Str × Value)} (H : Chk c GT) {n : Nat} {σ : Store} {Q : V → Store → Prop}
include H
set_option maxHeartbeats 2000000 in
theorem end_spec {e jh : Nat} {hs : List Nat} (he : e < 6) (hj : σ[jh]? = some (holV hs)) (hl : hs.length + hs.sum ≤ 900) (q : EQ σ jh e hs Q) : CallT c (n + 2) 530 [.int (e : Nat), .obj jh] σ Q := by
  have loop : ∀ K : Fl → Lo → Store → Prop, (∀ σ' jo ps, Ext [jh] σ σ' → σ'[jh]? = some (holV []) → σ.length ≤ jo → σ'[jo]? = some (.list (ps.map PV)) → EatL hs ps [] (fun _ => True) → (srcs ps).length ≤ 2 * (hs.length + hs.sum) → ps.length ≤ hs.length + hs.sum → K .next [some (.int (e : Nat)), some (.obj jh), some (.obj jo)] σ') →
      wpS (CallT c (n + 1)) w_law_end_1 [some (.int (e : Nat)), some (.obj jh), some (.obj σ.length)] (σ ++ [.list []]) K := by
    intro K hK
    unfold w_law_end_1
    obtain ⟨I, hI⟩ : ∃ I : Nat → Lo → Store → Prop, ∀ z env σ', I z env σ' ↔ (∀ P : Nat → Lo → Store → Prop, (∀ (jo : Nat) (ps : List Part) (h' : List Nat), Ext [jh] σ σ' → σ'[jh]? = some (holV h') → σ.length ≤ jo → σ'[jo]? = some (.list (ps.map PV)) → EatL hs ps h' (fun _ => True) → (srcs ps).length + 2 * (h'.length + h'.sum) ≤ 2 * (hs.length + hs.sum) → ps.length + (h'.length + h'.sum) ≤ hs.length + hs.sum → P h'.length [some (.int (e : Nat)), some (.obj jh), some (.obj jo)] σ') → P z env σ') := ⟨_, fun _ _ _ => Iff.rfl⟩
    refine whl_I I _ ((hI _ _ _).mpr fun _ g => g σ.length [] hs (Ext.push _ _ _) (get_app hj) (Nat.le_refl _) at_new EatL.nil (by simp [srcs]) (by simp)) ?_
    intro z env σ' hz
    apply (hI _ _ _).mp hz
    intro jo ps h' E hj' hjo ho hE hb1 hb2
    clear hz
    have hjlt := lt_get hj
    have hjV := hj'
    unfold holV at hjV
    walk_at "se"
    refine tru_obj hjV ?_
    rcases List.eq_nil_or_concat h' with rfl | ⟨ws, w, rfl⟩
    · refine if_f rfl ?_
      exact hK _ _ _ E hj' hjo ho hE (by lia) (by lia)
    · rw [List.concat_eq_append] at hj' hjV hE hb1 hb2 ⊢
      rw [map_snoc] at hjV ⊢
      rw [show (ws.map (fun h => V.int (h : Nat)) ++ [V.int (w : Nat)]).isEmpty = false by simp]
      refine if_t rfl ?_
      simp only [List.length_append, List.length_cons, List.length_nil, List.sum_append, List.sum_cons, List.sum_nil] at hb1 hb2
      refine st_seq (st_asg ?_)
      walk_at "se"
      refine brace_spec H ?_
      walk_at "se"
      have hb0 : (σ' ++ [Cell.list [PV brP]])[σ'.length]? = some (.list [PV brP]) := at_new
      have hjV2 : (σ' ++ [Cell.list [PV brP]])[jh]? = some (.list (ws.map (fun h => V.int (h : Nat)) ++ [V.int (w : Nat)])) := get_app hjV
      have ho2 : (σ' ++ [Cell.list [PV brP]])[jo]? = some (.list (ps.map PV)) := get_app ho
      have hlt1 := lt_get hjV
      have hlt2 := lt_get ho
      refine ⟨mo_list (.inr rfl) hjV2, ?_⟩
      walk_at "se"
      refine p_pop hjV2 (by simp) ?_
      rw [getLastD_snoc, List.dropLast_concat]
      have hE1 : Ext [jh] (σ' ++ [Cell.list [PV brP]]) ((σ' ++ [Cell.list [PV brP]]).set jh (.list (ws.map fun h => V.int (h : Nat)))) := Ext.setL hjV2 (by simp)
      obtain ⟨σ₁, e₁⟩ : ∃ σ₁, (σ' ++ [Cell.list [PV brP]]).set jh (.list (ws.map fun h => V.int (h : Nat))) = σ₁ := ⟨_, rfl⟩
      have hj1 : σ₁[jh]? = some (.list (ws.map fun h => V.int (h : Nat))) := by rw [← e₁]; exact get_set hjV2
      have hb1' : σ₁[σ'.length]? = some (.list [PV brP]) := by rw [← e₁]; exact get_set_ne hb0 (by lia)
      have ho1 : σ₁[jo]? = some (.list (ps.map PV)) := by rw [← e₁]; exact get_set_ne ho2 (by lia)
      have hlen1 : σ₁.length = σ'.length + 1 := by rw [← e₁]; simp
      rw [e₁] at hE1 ⊢
      refine p_rep hb1' (by lia) ?_
      refine p_catL (get_app ho1) at_new (by simp; lia) ?_
      walk_at "se"
      refine p_catL (get_app at_new) at_new (by simp; lia) ?_
      refine st_skip ⟨ws.length, by simp, (hI _ _ _).mpr fun _ g => g _ (ps ++ (List.replicate w brP ++ [tlP])) ws ?_ ?_ ?_ ?_ (EatL.app (eat_close w) hE fun _ _ => trivial) ?_ ?_⟩
      · exact E.trans ((Ext.push _ _ _).trans (hE1.trans ((((Ext.push _ _ _).trans (Ext.push _ _ _)).trans (Ext.push _ _ _)).trans (Ext.push _ _ _))))
      · exact get_app (get_app (get_app (get_app hj1)))
      · simp only [List.length_append, List.length_cons, List.length_nil]; lia
      · rw [at_new]
        simp [tlP, PV, ckV, brP]
      · rw [srcs_app, srcs_app, List.length_append, List.length_append, srcs_rep]
        simp [srcs, tlP]; lia
      · simp; lia
  have hjlt := lt_get hj
  have tl : ∀ σ' jo ps h', Ext [jh] σ σ' → σ'[jh]? = some (holV h') → σ.length ≤ jo → σ'[jo]? = some (.list (ps.map PV)) → EatL hs ps h' (fun _ => True) → (srcs ps).length ≤ 2 * (hs.length + hs.sum) → ps.length ≤ hs.length + hs.sum → (e < 2 → h' = []) → (2 ≤ e → h' = hs ∧ ps = []) →
      wpS (CallT c (n + 1)) (.seq (.ifs (.cmp .Eq (.loc 0) (.int 1)) 
    (.seq (.expr (.mth .append (.loc 2) (.cons (.tup (.cons (.str [47, 47, 32, 113]) (.cons (.int (-1)) (.cons .none (.cons (.int 0) (.cons (.int 0) .nil)))))) .nil))) .skip) .skip)
  (.seq (.ifs (.cmp .Eq (.loc 0) (.int 3)) 
    (.seq (.expr (.mth .append (.loc 2) (.cons (.tup (.cons (.str [39, 113]) (.cons (.glb 35 gT_STR) (.cons (.str [113]) (.cons (.int 0) (.cons (.int 1002) .nil)))))) .nil))) .skip) .skip)
  (.seq (.ifs (.cmp .Eq (.loc 0) (.int 4)) 
    (.seq (.expr (.mth .append (.loc 2) (.cons (.tup (.cons (.str [96, 113]) (.cons (.glb 41 gT_TPL_WHOLE) (.cons (.str [113]) (.cons (.int 0) (.cons (.int 1160) .nil)))))) .nil))) .skip) .skip)
  (.seq (.ifs (.and (.cmp .Eq (.loc 0) (.int 5)) (.and (.loc 1) (.cmp .Eq (.idx (.loc 1) (.int (-1))) (.int 0)))) 
    (.seq (.expr (.mth .pop (.loc 1) .nil))
    (.seq (.expr (.mth .append (.loc 2) (.cons (.tup (.cons (.str [125, 32, 113]) (.cons (.glb 51 gT_TPL_TAIL) (.cons (.str [32, 113]) (.cons (.int 0) (.cons (.int 1160) .nil)))))) .nil))) .skip)) .skip)
  (.seq (.ret (.loc 2)) .skip))))) [some (.int (e : Nat)), some (.obj jh), some (.obj jo)] σ' (retQ Q) := by
    intro σ' jo ps h' E hj' hjo ho hE hb1 hb2 hlo hhi
    have hjV := hj'
    unfold holV at hjV
    have app1 : ∀ (p : Part), EatL h' [p] h' (fun r => r = []) → p.src.length ≤ 4 → e ≠ 2 → ∀ (L : List V), L = ps.map PV ++ [PV p] → Q (.obj jo) (σ'.set jo (.list L)) := by
      rintro p hp hpl hne2 L rfl
      have E2 : Ext [jo] σ' (σ'.set jo (.list (ps.map PV ++ [PV p]))) := Ext.setL ho (by simp)
      have hne : jo ≠ jh := by lia
      refine q _ jo (ps ++ [p]) h' ⟨Nat.le_trans E.len E2.len, fun i cl hi hn => E2.keep _ _ (E.keep _ _ hi hn) ?_, fun i C fs hC hi => E2.inst _ _ _ hC (E.inst _ _ _ hC hi)⟩ (E2.keep _ _ hj' (by simpa using Ne.symm hne)) hjo ?_ ⟨?_, ?_, ?_⟩
      · have := lt_get hi
        simp; lia
      · rw [get_set ho]; simp
      · exact (EatL.app hp hE fun _ _ => trivial).wk fun r hr => by
          rcases hr with h | h
          · exact absurd h hne2
          · exact h
      · rw [srcs_app, List.length_append]; simp [srcs]; lia
      · simp; lia
    by_cases c1 : e = 1
    · walk_at "st"
      refine ⟨mo_list (.inl rfl) ho, ?_⟩
      walk_at "st"
      refine p_append ho (by rw [List.length_map]; lia) ?_
      walk_at "st"
      exact app1 ⟨[47, 47, 32, 113], -1, none, 0, 0⟩ eat_e1 (by simp) (by lia) _ rfl
    by_cases c3 : e = 3
    · walk_at "st"
      refine ⟨mo_list (.inl rfl) ho, ?_⟩
      walk_at "st"
      refine p_append ho (by rw [List.length_map]; lia) ?_
      walk_at "st"
      exact app1 ⟨[39, 113], 4, some [113], 0, 1002⟩ eat_e3 (by simp) (by lia) _ rfl
    by_cases c4 : e = 4
    · walk_at "st"
      refine ⟨mo_list (.inl rfl) ho, ?_⟩
      walk_at "st"
      refine p_append ho (by rw [List.length_map]; lia) ?_
      walk_at "st"
      exact app1 ⟨[96, 113], 6, some [113], 0, 1160⟩ eat_e4 (by simp) (by lia) _ rfl
    have stay : Q (.obj jo) σ' := by
      refine q _ jo ps h' E hj' hjo ho ⟨hE.wk fun _ _ => trivial, by lia, by lia⟩
    by_cases c5 : e = 5
    · obtain ⟨rfl, rfl⟩ := hhi (by lia)
      walk_at "st"
      refine tru_obj hjV ?_
      rcases List.eq_nil_or_concat h' with rfl | ⟨ws, w, rfl⟩
      · refine if_f rfl (if_ff ?_)
        walk_at "st"
        exact stay
      · rw [List.concat_eq_append] at hjV hE hb1 hb2 q ⊢
        rw [map_snoc] at hjV ⊢
        rw [show (ws.map (fun h => V.int (h : Nat)) ++ [V.int (w : Nat)]).isEmpty = false by simp]
        refine if_t rfl ?_
        walk_at "st"
        refine p_idxLast hjV (by simp) ?_
        rw [getLastD_snoc]
        by_cases hw : w = 0
        · subst hw
          walk_at "st"
          refine ⟨mo_list (.inr rfl) hjV, ?_⟩
          walk_at "st"
          refine p_pop hjV (by simp) ?_
          rw [getLastD_snoc, List.dropLast_concat]
          have hne : jo ≠ jh := by lia
          have ho' := get_set_ne (cl' := .list (ws.map fun h => V.int (h : Nat))) ho hne
          have hj2 := get_set (cl' := .list (ws.map fun h => V.int (h : Nat))) hjV
          have E1 : Ext [jh] σ' _ := Ext.setL (ds' := ws.map fun h => V.int (h : Nat)) hjV (by simp)
          walk_at "st"
          refine ⟨mo_list (.inl rfl) ho', ?_⟩
          walk_at "st"
          refine p_append ho' (by simp) ?_
          walk_at "st"
          have E2 : Ext [jo] _ _ := Ext.setL (ds' := ([] : List Part).map PV ++ [V.tup [.str [125, 32, 113], .int 9, .str [32, 113], .int 0, .int 1160]]) ho' (by simp)
          refine q _ jo [⟨[125, 32, 113], 9, some [32, 113], 0, 1160⟩] ws ⟨Nat.le_trans (Nat.le_trans E.len E1.len) E2.len, fun i cl hi hn => E2.keep _ _ (E1.keep _ _ (E.keep _ _ hi hn) hn) ?_, fun i C fs hC hi => E2.inst _ _ _ hC (E1.inst _ _ _ hC (E.inst _ _ _ hC hi))⟩ (E2.keep _ _ hj2 (by simpa using Ne.symm hne)) hjo ?_ ⟨?_, by simp [srcs], by simp⟩
          · have := lt_get hi
            simp; lia
          · rw [get_set ho']; rfl
          · exact eat_e5.wk fun r hr => by
              rcases hr with h | h
              · lia
              · exact h
        · walk_at "st"
          exact stay
    · walk_at "st"
      exact stay
  refine fn_sound H.k_law_end H.gt rfl ?_; unfold b_law_end
  refine st_seq (st_asg ?_)
  walk_at "se"
  refine st_seq (st_ifs ?_)
  walk_at "se"
  by_cases he2 : e < 2
  · walk_at "se"
    refine st_seq (loop _ fun σ' jo ps E h1 h2 h3 h4 h5 h6 => ?_)
    exact st_skip (tl σ' jo ps [] E h1 h2 h3 h4 h5 h6 (fun _ => rfl) (fun h => by lia))
  · walk_at "se"
    exact st_skip (tl _ _ [] hs (Ext.push _ _ _) (get_app hj) (Nat.le_refl _) at_new EatL.nil (by simp [srcs]) (by simp) (fun h => by lia) (fun _ => ⟨rfl, rfl⟩))
end
end
section
/-! the plain side of the loop -/
structure Inv (t hs : List Nat) (line : Bool) (W : List WT) (F : List (Nat × Nat)) (G : List Nat → Prop) : Prop where
  run : ∀ (rest : List Nat) (toks : List TK) (f : List (Nat × Nat)) (hf : List Nat), G rest → Run line hs rest t.length toks f hf → ∃ ts, Mats ts W ∧ Run false [] (t ++ rest) 0 (ts ++ toks) (F ++ f) hf
theorem Inv.start {G : List Nat → Prop} : Inv [] [] false [] [] G := ⟨fun rest toks f hf _ h => ⟨[], .nil, h⟩⟩
theorem Inv.step {t hs hs' b : List Nat} {line bl : Bool} {W : List WT} {F : List (Nat × Nat)} {G G' : List Nat → Prop} {ps : List Part} (h : Inv t hs line W F G) (hB : BP b bl) (hE : EatL hs ps hs' G') (hF : ∀ rest, G (b ++ (srcs ps ++ rest))) :
    Inv (t ++ b ++ srcs ps) hs' (lineOf ps (line || bl)) (W ++ wantsOf ps (t ++ b).length (line || bl)) (F ++ toldOf ps (t ++ b).length) G' := by
  refine ⟨fun rest toks f hf hG hR => ?_⟩
  rw [List.length_append] at hR
  obtain ⟨ts, hM, hR'⟩ := hE (line || bl) _ rest toks f hf hG hR
  rw [List.length_append] at hR'
  obtain ⟨ts', hM', hR''⟩ := h.run _ _ _ _ (hF rest) (Run.blank hB hR')
  refine ⟨ts' ++ ts, hM'.app hM, ?_⟩
  rw [List.append_assoc, List.append_assoc, List.append_assoc, List.append_assoc]
  rw [List.length_append]
  exact hR''
theorem wants_len : ∀ (ps : List Part) (k : Nat) (l : Bool), (wantsOf ps k l).length ≤ ps.length
  | [], _, _ => Nat.le_refl _
  | p :: ps, k, l => by
    obtain ⟨l', el⟩ : ∃ l', (if 0 ≤ p.kind then false else l) = l' := ⟨_, rfl⟩
    have := wants_len ps (k + p.src.length) l'
    rw [wantsOf, el, List.length_append, List.length_cons]
    split <;> simp <;> lia
theorem told_len : ∀ (ps : List Part) (k : Nat), (toldOf ps k).length ≤ ps.length
  | [], _ => Nat.le_refl _
  | p :: ps, k => by
    have := told_len ps (k + p.src.length)
    rw [toldOf, List.length_append, List.length_cons]
    split <;> simp <;> lia

noncomputable def WV (w : WT) : V := .tup [.int (w.kind : Nat), ckV w.cooked, .int (w.num : Nat), .int (w.at_ : Nat), .int (w.end_ : Nat), .bool w.line]
noncomputable def TV (p : Nat × Nat) : V := .tup [.int (p.1 : Nat), .int (p.2 : Nat)]
noncomputable abbrev lenv (sc : V) (jn jh : Nat) (t : List Nat) (l : Bool) (jw jt : Nat) (last : Part) (x8 x9 x10 x11 x12 : Option V) : Lo :=
  [some sc, some (.obj jn), some (.obj jh), some (.str t), some (.bool l), some (.obj jw), some (.obj jt), some (PV last), x8, x9, x10, x11, x12, none, none, none, none, none, none, none, none, none, none]

section
variable {c : Cx} {GT : List (Str × Value)} (H : Chk c GT) {n : Nat} {σ : Store} {Q : V → Store → Prop}
include H
omit H in
theorem parts_loop {sc : V} {jn jh jw jt jp : Nat} {x8 x10 x11 x12 : Option V} {ps : List Part} {W : List WT} {F : List (Nat × Nat)} {t : List Nat} {l : Bool} {last : Part} {K : Fl → Lo → Store → Prop}
    (hp : σ[jp]? = some (.list (ps.map PV))) (hw : σ[jw]? = some (.list (W.map WV))) (ht : σ[jt]? = some (.list (F.map TV))) (n1 : jp ≠ jw) (n2 : jp ≠ jt) (n3 : jw ≠ jt)
    (hl : t.length + (srcs ps).length ≤ 900000) (hW : W.length + ps.length ≤ 900000) (hF : F.length + ps.length ≤ 900000)
    (hK : ∀ σ' x12, Ext [jw, jt] σ σ' → σ'[jw]? = some (.list ((W ++ wantsOf ps t.length l).map WV)) → σ'[jt]? = some (.list ((F ++ toldOf ps t.length).map TV)) → K .next (lenv sc jn jh (t ++ srcs ps) (lineOf ps l) jw jt (ps.getLastD last) x8 (some (.obj jp)) x10 x11 x12) σ') :
    wpS (CallT c n) w_law_1 (lenv sc jn jh t l jw jt last x8 (some (.obj jp)) x10 x11 x12) σ K := by
  unfold w_law_1
  refine st_forE ?_
  walk_at "se"
  obtain ⟨I, hI⟩ : ∃ I : List V → Lo → Store → Prop, ∀ r env σ', I r env σ' ↔ (∀ P : List V → Lo → Store → Prop, (∀ (qs : List Part) (W' : List WT) (F' : List (Nat × Nat)) (t' : List Nat) (l' : Bool) (last' : Part) (x12 : Option V), r = qs.map PV → Ext [jw, jt] σ σ' → σ'[jw]? = some (.list (W'.map WV)) → σ'[jt]? = some (.list (F'.map TV)) → W' ++ wantsOf qs t'.length l' = W ++ wantsOf ps t.length l → F' ++ toldOf qs t'.length = F ++ toldOf ps t.length → t' ++ srcs qs = t ++ srcs ps → lineOf qs l' = lineOf ps l → qs.getLastD last' = ps.getLastD last → W'.length + qs.length ≤ 900000 → F'.length + qs.length ≤ 900000 → P r (lenv sc jn jh t' l' jw jt last' x8 (some (.obj jp)) x10 x11 x12) σ') → P r env σ') := ⟨_, fun _ _ _ => Iff.rfl⟩
  refine p_forL hp I ((hI _ _ _).mpr fun _ g => g ps W F t l last x12 rfl (Ext.refl _ _) hw ht rfl rfl rfl rfl rfl hW hF) ?_ ?_ ?_
  · intro r env σ' h
    apply (hI _ _ _).mp h
    intro qs W' F' t' l' last' x12' hr E hw' ht' e1 e2 e3 e4 e5 b1 b2
    exact E.keep _ _ hp (by simp; lia)
  · intro x r env σ' h
    generalize hlx : x :: r = lx at h
    apply (hI _ _ _).mp h
    intro qs W' F' t' l' last' x12' hr E hw' ht' e1 e2 e3 e4 e5 b1 b2
    rw [← hlx] at hr
    clear hlx
    clear h
    cases qs with
    | nil => cases hr
    | cons p qs =>
      rw [List.map_cons] at hr
      injection hr with h1 h2
      subst h1; subst h2
      have hlen : ([V.str p.src, .int p.kind, ckV p.cooked, .int (p.num : Nat), .int (p.fault : Nat)] : List V).length ≤ 1000000 := (show 5 ≤ 1000000 by decide)
      have htl : t'.length + (p.src.length + (srcs qs).length) = t.length + (srcs ps).length := by
        have := congrArg List.length e3
        rw [List.length_append, List.length_append, srcs, List.length_append] at this
        exact this
      have htl' : t'.length ≤ 1000000 := by lia
      have hpl : p.src.length ≤ 1000000 := by lia
      rw [wantsOf] at e1
      rw [toldOf] at e2
      rw [srcs] at e3
      rw [lineOf] at e4
      rw [List.length_cons] at b1 b2
      refine st_seq (wp_via (fun env' σ₁ => env' = lenv sc jn jh t' l' jw jt last' x8 (some (.obj jp)) x10 x11 (some (PV p)) ∧ Ext [jw, jt] σ' σ₁ ∧ σ₁[jw]? = some (.list (W'.map WV)) ∧ σ₁[jt]? = some (.list ((F' ++ if 0 < p.fault then [(p.fault, t'.length)] else []).map TV))) (fun K' hK' => ?_) fun env' σ₁ hh => ?_)
      · refine st_ifs ?_
        walk_at "se"
        refine p_idxC 4 rfl hlen ?_
        walk_at "se"
        by_cases hf : 0 < p.fault
        · refine if_dt (by lia) ?_
          refine st_seq (st_expr ?_)
          walk_at "se"
          refine ⟨mo_list (.inl rfl) ht', ?_⟩
          walk_at "se"
          refine p_idxC 4 rfl hlen ?_
          walk_at "se"
          refine p_append ht' (by rw [List.length_map]; lia) ?_
          walk_at "se"
          refine st_skip (hK' _ _ ⟨rfl, Ext.setL ht' (by simp), get_set_ne hw' n3, ?_⟩)
          rw [get_set ht', if_pos hf, List.map_append]; rfl
        · refine if_df (by lia) ?_
          refine st_skip (hK' _ _ ⟨rfl, Ext.refl _ _, hw', ?_⟩)
          rw [if_neg hf, List.append_nil]; exact ht'
      obtain ⟨rfl, E₁, hw₁, ht₁⟩ := hh
      refine st_seq (wp_via (fun env' σ₂ => env' = lenv sc jn jh t' (if 0 ≤ p.kind then false else l') jw jt last' x8 (some (.obj jp)) x10 x11 (some (PV p)) ∧ Ext [jw, jt] σ₁ σ₂ ∧ σ₂[jw]? = some (.list ((W' ++ if 0 ≤ p.kind then [WT.mk p.kind.toNat p.cooked p.num t'.length (t'.length + p.src.length) l'] else []).map WV)) ∧ σ₂[jt]? = some (.list ((F' ++ if 0 < p.fault then [(p.fault, t'.length)] else []).map TV))) (fun K' hK' => ?_) fun env' σ₂ hh => ?_)
      · refine st_ifs ?_
        walk_at "se"
        refine p_idxC 1 rfl hlen ?_
        walk_at "se"
        by_cases hf : 0 ≤ p.kind
        · refine if_dt hf ?_
          refine st_seq (st_expr ?_)
          walk_at "se"
          refine ⟨mo_list (.inl rfl) hw₁, ?_⟩
          walk_at "se"
          refine p_idxC 1 rfl hlen ?_
          walk_at "se"
          refine p_idxC 2 rfl hlen ?_
          walk_at "se"
          refine p_idxC 3 rfl hlen ?_
          walk_at "se"
          refine p_idxC 0 rfl hlen ?_
          walk_at "se"
          refine p_append hw₁ (by rw [List.length_map]; lia) ?_
          walk_at "st"
          refine hK' _ _ ⟨?_, Ext.setL hw₁ (by simp), ?_, get_set_ne ht₁ (Ne.symm n3)⟩
          · rw [if_pos hf]
          · rw [get_set hw₁, if_pos hf, List.map_append]
            have : (p.kind.toNat : Int) = p.kind := Int.toNat_of_nonneg hf
            simp only [List.map_cons, List.map_nil, WV, this]
        · refine if_df hf ?_
          refine st_skip (hK' _ _ ⟨?_, Ext.refl _ _, ?_, ht₁⟩)
          · rw [if_neg hf]
          · rw [if_neg hf, List.append_nil]; exact hw₁
      obtain ⟨rfl, E₂, hw₂, ht₂⟩ := hh
      refine st_seq (st_asg ?_)
      walk_at "se"
      refine p_idxC 0 rfl hlen ?_
      refine q_cat (by lia) ?_
      walk_at "st"
      refine (hI _ _ _).mpr fun _ g => g qs _ _ (t' ++ p.src) _ p _ rfl (E.trans (E₁.trans E₂)) hw₂ ht₂ ?_ ?_ ?_ e4 ?_ ?_ ?_
      · rw [List.length_append, List.append_assoc]; exact e1
      · rw [List.length_append, List.append_assoc]; exact e2
      · rw [List.append_assoc]; exact e3
      · rw [← e5]; cases qs <;> rfl
      · rw [List.length_append]; split <;> simp <;> lia
      · rw [List.length_append]; split <;> simp <;> lia
  · intro env σ' h
    generalize hlx : ([] : List _) = lx at h
    apply (hI _ _ _).mp h
    intro qs W' F' t' l' last' x12' hr E hw' ht' e1 e2 e3 e4 e5 b1 b2
    rw [← hlx] at hr
    clear hlx
    cases qs with
    | cons p qs => cases hr
    | nil =>
      rw [wantsOf, List.append_nil] at e1
      rw [toldOf, List.append_nil] at e2
      rw [srcs, List.append_nil] at e3
      rw [lineOf] at e4
      subst e1; subst e2; subst e3; subst e4
      have := hK σ' x12' E hw' ht'
      rw [← e5] at this
      exact this
end
end
section
structure LS (σ : Store) (jn jh jw jt : Nat) (ns : List Int) (t hs : List Nat) (l : Bool) (W : List WT) (F : List (Nat × Nat)) (G : List Nat → Prop) (k : Nat) : Prop where
  hn : σ[jn]? = some (.list (ns.map V.int))
  hh : σ[jh]? = some (holV hs)
  hw : σ[jw]? = some (.list (W.map WV))
  ht : σ[jt]? = some (.list (F.map TV))
  inv : Inv t hs l W F G
  bt : t.length ≤ 600 * k
  bW : W.length ≤ 40 * k
  bF : F.length ≤ 40 * k
noncomputable def p0 : Part := ⟨[], -1, none, 0, 0⟩
noncomputable def pE : Part := ⟨[32], -1, none, 0, 0⟩
theorem Fol.head {p : Part} {x : Nat} {r r' : List Nat} (h : Fol p (x :: r)) : Fol p (x :: r') :=
  ⟨h.1, h.2.1, h.2.2.1, fun a b => (h.2.2.2 a b).elim (fun z => nomatch z) .inr⟩
theorem blankE : BlankOK [32] false := ⟨BP.sp1 (.inl rfl), .inr (.inl rfl), by decide⟩
theorem hdE : HdOK pE := hd_kind (by simp [pE]) (.inr (.inr (.inr (.inr ⟨rfl, .inr (.inr (.inr (.inr rfl)))⟩))))
theorem folE {last : Part} (r : List Nat) : Fol last ((btw last pE [32] false).1 ++ r) := by
  have h := (btw_ok (last := last) blankE hdE).2.2 []
  have : ∃ x y, (btw last pE [32] false).1 = x :: y := by
    unfold btw
    split
    · exact ⟨_, _, rfl⟩
    · split
      · exact ⟨_, _, rfl⟩
      · split
        · exact ⟨_, _, rfl⟩
        · exact ⟨_, _, rfl⟩
  obtain ⟨x, y, e⟩ := this
  rw [e] at h ⊢
  exact h.head
theorem last_ne {ps : List Part} (h : ps ≠ []) (a b : Part) : ps.getLastD a = ps.getLastD b := by
  cases ps with
  | nil => exact absurd rfl h
  | cons p ps => simp [List.getLastD]
theorem p_idxLC {i : Nat} {ds : List V} {v : V} {σ : Store} {Q : V → Store → Prop} (k : Nat) (h0 : σ[i]? = some (.list ds)) (hk : ds[k]? = some v) (hs : ds.length ≤ 1000000) (q : Q v σ) : idxV (.obj i) (.int (k : Nat)) σ Q := by
  have h := (List.getElem?_eq_some_iff.mp hk).1
  refine p_idxL h0 hs h ?_
  rw [List.getD_eq_getElem?_getD, hk]
  exact q
theorem p_idxTB {ds : List V} {xs : List (List Nat × Bool)} {k : Nat} {σ : Store} {Q : V → Store → Prop} (hds : ds = xs.map fun p => V.tup [.str p.1, .bool p.2]) (hs : xs.length ≤ 1000) (h : k < xs.length) (q : ∀ p ∈ xs, Q (.tup [.str p.1, .bool p.2]) σ) : idxV (.tup ds) (.int (k : Nat)) σ Q := by
  subst hds
  refine p_idxT (by rw [List.length_map]; lia) (by rw [List.length_map]; exact h) ?_
  rw [List.getD_eq_getElem?_getD, List.getElem?_map, List.getElem?_eq_getElem h]
  exact q _ (List.getElem_mem h)

section
variable {c : Cx} {GT : List (Str × Value)} (H : Chk c GT) {n : Nat} {σ : Store} {Q : V → Store → Prop}
include H
set_option maxHeartbeats 1000000 in
theorem laps_loop {sc : V} {jn jh jw jt : Nat} {ns : List Int} (d1 : jn < jh) (d2 : jh < jw) (d3 : jw < jt) (hN : ns.length ≤ 32) {K : Fl → Lo → Store → Prop}
    (h0 : LS σ jn jh jw jt ns [] [] false [] [] (Fol p0) 0)
    (hK : ∀ σ' t hs l W F last x8 x9 x10 x12 e, e < 6 → LS σ' jn jh jw jt ns t hs l W F (fun r => e = 2 ∨ r = []) (ns.length + 1) → K .next (lenv sc jn jh t l jw jt last x8 x9 x10 (some (.int (e : Nat))) x12) σ') :
    wpS (CallT c (n + 9)) w_law_2 (lenv sc jn jh [] false jw jt p0 none none none none none) σ K := by
  unfold w_law_2
  refine st_forR ?_
  walk_at "se"
  refine p_lenL h0.hn ?_
  rw [List.length_map]
  walk_at "se"
  obtain ⟨N, eN⟩ : ∃ N, ns.length = N := ⟨_, rfl⟩
  rw [eN] at hK hN ⊢
  obtain ⟨I, hI⟩ : ∃ I : List Int → Lo → Store → Prop, ∀ r env σ', I r env σ' ↔ (∀ P : List Int → Lo → Store → Prop, (∀ (k : Nat) (t hs : List Nat) (l : Bool) (W : List WT) (F : List (Nat × Nat)) (G : List Nat → Prop) (last : Part) (x8 x9 x10 x11 x12 : Option V), k ≤ N + 1 → r = (List.range (N + 1 - k)).map (fun z : Nat => ((k + z : Nat) : Int)) → LS σ' jn jh jw jt ns t hs l W F G k → ((k ≤ N ∧ G = Fol last ∧ hs.length + hs.sum ≤ k) ∨ (k = N + 1 ∧ ∃ e, e < 6 ∧ x11 = some (.int (e : Nat)) ∧ G = fun r => e = 2 ∨ r = [])) → P r (lenv sc jn jh t l jw jt last x8 x9 x10 x11 x12) σ') → P r env σ') := ⟨_, fun _ _ _ => Iff.rfl⟩
  refine ⟨r60 (a := 0) (by decide) (by lia), I, (hI _ _ _).mpr fun _ g => g 0 [] [] false [] [] (Fol p0) p0 none none none none none (by lia) ?_ h0 (.inl ⟨by lia, rfl, by simp⟩), ?_, ?_⟩
  · unfold rangeV
    rw [a_z0]
    refine List.map_congr_left fun z _ => ?_
    lia
  · intro x r env σ' h
    generalize hlx : x :: r = lx at h
    apply (hI _ _ _).mp h
    intro k t hs l W F G last x8 x9 x10 x11 x12 hk hr hS hc
    rw [← hlx] at hr
    clear hlx
    clear h
    have hkN : k ≤ N := by
      by_cases h : k ≤ N
      · exact h
      · rw [a_s0 (fun z => ‹¬ k ≤ N› (Nat.le_of_lt_succ z))] at hr; cases hr
    rcases hc with ⟨_, rfl, hb⟩ | ⟨h1, _⟩
    case inr => lia
    rw [Nat.succ_sub ‹k ≤ N›, List.range_succ_eq_map, List.map_cons, List.map_map] at hr
    injection hr with g1 g2
    rw [Nat.add_zero] at g1
    subst g1
    have hlt := lt_get hS.ht
    have bt := hS.bt
    have bW := hS.bW
    have bF := hS.bF
    refine wp_via (fun env σ' => I r env σ') (fun K₂ hK2 => ?_) (fun _ _ z => z)
    have common : ∀ (σ₂ : Store) (i : Nat) (ps : List Part) (hs' b : List Nat) (bl : Bool) (G' : List Nat → Prop) (x11' : Option V), σ₂[jn]? = some (.list (ns.map V.int)) → σ₂[jh]? = some (holV hs') → σ₂[jw]? = some (.list (W.map WV)) → σ₂[jt]? = some (.list (F.map TV)) → jt < i → σ₂[i]? = some (.list (ps.map PV)) →
        BP b bl → b.length ≤ 22 → EatL hs ps hs' G' → (∀ rest, Fol last (b ++ (srcs ps ++ rest))) → (srcs ps).length ≤ 500 → ps.length ≤ 40 →
        ((k + 1 ≤ N ∧ G' = Fol (ps.getLastD last) ∧ hs'.length + hs'.sum ≤ k + 1) ∨ (k + 1 = N + 1 ∧ ∃ e, e < 6 ∧ x11' = some (.int (e : Nat)) ∧ G' = fun r => e = 2 ∨ r = [])) →
        wpS (CallT c (n + 9)) (.seq (.asg 3 (.bin .Add (.loc 3) (.idx (.loc 10) (.int 0)))) (.seq (.asg 4 (.or (.loc 4) (.idx (.loc 10) (.int 1)))) (.seq w_law_1 .skip))) (lenv sc jn jh t l jw jt last (some (.int (k : Nat))) (some (.obj i)) (some (.tup [.str b, .bool bl])) x11' x12) σ₂ K₂ := by
      intro σ₂ i ps hs' b bl G' x11' hn₂ hh₂ hw₂ ht₂ hi ho₂ hB hbl hE hF hpl hpc hc
      have hl2 : ([V.str b, .bool bl] : List V).length ≤ 1000000 := (show 2 ≤ 1000000 by decide)
      have htl : t.length ≤ 1000000 := by lia
      have fin : ∀ lb, lb = (l || bl) → wpS (CallT c (n + 9)) (.seq w_law_1 .skip) (lenv sc jn jh (t ++ b) lb jw jt last (some (.int (k : Nat))) (some (.obj i)) (some (.tup [.str b, .bool bl])) x11' x12) σ₂ K₂ := by
        rintro lb rfl
        refine st_seq (parts_loop ho₂ hw₂ ht₂ (by lia) (by lia) (by lia) (by rw [List.length_append]; lia) (by lia) (by lia) fun σ₃ x12' E₃ hw₃ ht₃ => ?_)
        refine st_skip (hK2 _ _ ((hI _ _ _).mpr fun _ g => g (k + 1) (t ++ b ++ srcs ps) hs' (lineOf ps (l || bl)) _ _ G' (ps.getLastD last) _ _ _ x11' x12' (by lia) ?_ ⟨E₃.keep _ _ hn₂ (by simp; lia), E₃.keep _ _ hh₂ (by simp; lia), hw₃, ht₃, hS.inv.step hB hE hF, ?_, ?_, ?_⟩ hc))
        · rw [g2, show N - k = N + 1 - (k + 1) by lia]
          refine List.map_congr_left fun z _ => ?_
          show ((k + (z + 1) : Nat) : Int) = _
          lia
        · rw [List.length_append, List.length_append]; lia
        · have := wants_len ps (t ++ b).length (l || bl)
          rw [List.length_append]; lia
        · have := told_len ps (t ++ b).length
          rw [List.length_append]; lia
      refine st_seq (st_asg ?_)
      walk_at "se"
      refine p_idxC 0 rfl hl2 ?_
      refine q_cat (by lia) ?_
      refine st_seq (st_asg ?_)
      walk_at "se"
      cases hl : l with
      | true =>
        subst hl
        walk_at "se"
        exact fin true (by simp)
      | false =>
        subst hl
        walk_at "se"
        refine p_idxC 1 rfl hl2 ?_
        exact fin bl (by simp)
    refine st_seq (st_ifs ?_)
    walk_at "se"
    refine p_lenL hS.hn ?_
    rw [List.length_map, eN]
    walk_at "se"
    by_cases hkn : k < N
    · refine if_dt (by lia) ?_
      have hget : (ns.map V.int)[k]? = some (.int (ns.getD k 0)) := by
        rw [List.getElem?_map, List.getD_eq_getElem?_getD, List.getElem?_eq_getElem (by lia)]; rfl
      have hnl : (ns.map V.int).length ≤ 1000000 := by rw [List.length_map]; lia
      obtain ⟨y, ey⟩ : ∃ y, ns.getD k 0 = y := ⟨_, rfl⟩
      rw [ey] at hget
      refine st_seq (st_asg ?_)
      walk_at "se"
      refine p_idxLC k hS.hn hget hnl ?_
      walk_at "se"
      refine unit_spec H hS.hh (by lia) fun σ₂ i ps hs' E₂ hh₂ hi ho₂ hU => ?_
      have hn₂ := E₂.keep _ _ hS.hn (by simp; lia)
      have hw₂ := E₂.keep _ _ hS.hw (by simp; lia)
      have ht₂ := E₂.keep _ _ hS.ht (by simp; lia)
      obtain ⟨p, ps', rfl, hH⟩ := hU.hd
      obtain ⟨j, ej, hj⟩ := fmod_nat ((y.fdiv 12 + y.fdiv 300) + ((k : Nat) : Int)) (nat_lit 18) (by decide)
      refine st_seq (st_asg ?_)
      walk_at "se"
      refine p_idxLC k hn₂ hget hnl ?_
      walk_at "se"
      refine p_idxLC k hn₂ hget hnl ?_
      walk_at "se"
      refine p_lenTn 18 rfl (by decide) ?_
      walk_at "se"
      rw [ej.eq]
      refine p_idxTB (xs := blanksL) rfl (by decide) hj fun q hq => ?_
      have hB := blanks_ok q hq
      have hbt := btw_ok (last := last) hB hH
      refine st_seq (st_asg ?_)
      walk_at "se"
      refine p_idxLC 0 ho₂ rfl (by have := hU.cnt; rw [List.length_map]; lia) ?_
      walk_at "se"
      have h1 := hU.len
      rw [srcs, List.length_append] at h1
      refine between_spec H (by have := hB.len; lia) hH.1 (by lia) ?_
      have he := hU.eats
      rw [last_ne (by simp) _ last] at he
      exact st_skip (common σ₂ i (p :: ps') hs' _ _ _ _ hn₂ hh₂ hw₂ ht₂ (by lia) ho₂ hbt.1 (by have := hbt.2.1; lia) he (fun rest => by rw [srcs, List.append_assoc]; exact hbt.2.2 _) hU.len (by have := hU.cnt; lia) (.inl ⟨by lia, rfl, by have := hU.hol; lia⟩))
    · refine if_df (by lia) ?_
      have : k = N := by lia
      subst this
      have hnl : (ns.map V.int).length ≤ 1000000 := by rw [List.length_map]; lia
      refine st_seq (st_asg (e_int ?_))
      refine st_seq (wp_via (fun env' σ₂ => σ₂ = σ' ∧ ∃ e, e < 6 ∧ env' = lenv sc jn jh t l jw jt last (some (.int (k : Nat))) x9 x10 (some (.int (e : Nat))) x12) (fun K' hK' => ?_) fun env' σ₂ hh => ?_)
      · refine st_ifs ?_
        walk_at "se"
        refine tru_obj hS.hn ?_
        rcases List.eq_nil_or_concat ns with rfl | ⟨ms, m, rfl⟩
        · refine if_f rfl ?_
          exact st_skip (hK' _ _ ⟨rfl, 4, by decide, rfl⟩)
        · rw [List.concat_eq_append] at hS eN hnl ⊢
          have hn := hS.hn
          rw [List.map_append] at hn hnl ⊢
          rw [show (ms.map V.int ++ [m].map V.int).isEmpty = false by simp]
          refine if_t rfl ?_
          obtain ⟨e, ee, he⟩ := fmod_nat (m.fdiv 12 + ((k : Nat) : Int)) (nat_lit 6) (by decide)
          refine st_seq (st_asg ?_)
          walk_at "se"
          refine p_idxLast hn (by simp) ?_
          rw [show ([m].map V.int) = [V.int m] from rfl, getLastD_snoc]
          walk_at "se"
          refine p_lenL hn ?_
          rw [← List.map_append, List.length_map, eN]
          walk_at "se"
          rw [ee.eq]
          exact st_skip (hK' _ _ ⟨rfl, e, by lia, rfl⟩)
      obtain ⟨rfl, e, he, rfl⟩ := hh
      refine st_seq (st_asg ?_)
      walk_at "se"
      refine end_spec H he hS.hh (by lia) fun σ₂ i ps hs' E₂ hh₂ hi ho₂ hU => ?_
      have hn₂ := E₂.keep _ _ hS.hn (by simp; lia)
      have hw₂ := E₂.keep _ _ hS.hw (by simp; lia)
      have ht₂ := E₂.keep _ _ hS.ht (by simp; lia)
      have hbt := btw_ok (last := last) blankE hdE
      refine st_seq (st_asg ?_)
      walk_at "se"
      refine between_spec (here := pE) H (by decide) (by simp [pE]) (by decide) ?_
      have h1 := hU.len
      have h2 := hU.cnt
      exact st_skip (common σ₂ i ps hs' _ _ _ _ hn₂ hh₂ hw₂ ht₂ (by lia) ho₂ hbt.1 (by have := hbt.2.1; lia) hU.eats (fun rest => folE _) (by lia) (by lia) (.inr ⟨rfl, e, he, rfl, rfl⟩))
  · intro env σ' h
    generalize hlx : ([] : List _) = lx at h
    apply (hI _ _ _).mp h
    intro k t hs l W F G last x8 x9 x10 x11 x12 hk hr hS hc
    rw [← hlx] at hr
    clear hlx
    rcases hc with ⟨h1, _⟩ | ⟨rfl, e, he, rfl, rfl⟩
    · rw [Nat.succ_sub ‹k ≤ N›, List.range_succ_eq_map] at hr
      cases hr
    · exact hK σ' t hs l W F last x8 x9 x10 x12 e he hS
end
end
section
theorem Toks.at {σ : Store} {vs : List V} {tks : List TK} (h : Toks σ vs tks) : ∀ (k : Nat) (tk : TK), tks[k]? = some tk → ∃ o, vs[k]? = some (.obj o) ∧ σ[o]? = some (tokC tk) := by
  induction h with
  | nil => intro k tk e; cases e
  | cons h1 _ ih =>
    intro k tk e
    cases k with
    | zero => cases e; exact ⟨_, rfl, h1⟩
    | succ k => exact ih k tk e
theorem Mats.at {ts : List TK} {ws : List WT} (h : Mats ts ws) : ∀ (k : Nat) (w : WT), ws[k]? = some w → ∃ t, ts[k]? = some t ∧ Mat t w := by
  induction h with
  | nil => intro k w e; cases e
  | cons h1 _ ih =>
    intro k w e
    cases k with
    | zero => cases e; exact ⟨_, rfl, h1⟩
    | succ k => exact ih k w e
noncomputable def dgPair (σ : Store) (v : V) : V := match v with
  | .obj o => match σ[o]? with
    | some (.inst _ ((_, x) :: (_, y) :: _)) => .tup [x, y]
    | _ => .none
  | _ => .none
theorem Rows.pairs {σ : Store} {vs : List V} {td : List (Nat × Nat)} (h : Rows σ vs td) : vs.map (dgPair σ) = td.map TV := by
  induction h with
  | nil => rfl
  | cons h1 _ ih =>
    rw [List.map_cons, List.map_cons, ih]
    congr 1
    unfold dgPair
    dsimp only
    rw [h1]
    rfl
theorem pairsOf_TV : ∀ F : List (Nat × Nat), pairsOf (F.map TV) = some (F.map fun p => ((p.1 : Int), (p.2 : Int)))
  | [] => rfl
  | p :: F => by rw [List.map_cons, TV, pairsOf, pairsOf_TV F]; rfl
noncomputable def fstV (v : V) : V := match v with
  | .tup (x :: _) => x
  | _ => .none
theorem map_fstV (F : List (Nat × Nat)) : (F.map TV).map fstV = F.map (fun p => V.int (p.1 : Nat)) := by
  rw [List.map_map]; rfl
theorem p_eqL {i j : Nat} {xs ys : List V} {p r : List (Int × Int)} {σ : Store} {Q : V → Store → Prop} (h1 : σ[i]? = some (.list xs)) (h2 : σ[j]? = some (.list ys)) (e1 : pairsOf xs = some p) (e2 : pairsOf ys = some r) (q : Q (.bool (decide (p = r))) σ) : cmpV .Eq (.obj i) (.obj j) σ Q := p_lst h1 (p_lst h2 (p_some e1 (p_some e2 q)))

noncomputable abbrev cenv (sc : V) (jn jh : Nat) (t : List Nat) (l : Bool) (jw jt : Nat) (last : Part) (x8 x9 x10 x11 x12 : Option V) (jd jo : Nat) (x15 x16 x17 x18 x19 x20 x21 x22 : Option V) : Lo :=
  [some sc, some (.obj jn), some (.obj jh), some (.str t), some (.bool l), some (.obj jw), some (.obj jt), some (PV last), x8, x9, x10, x11, x12, some (.obj jd), some (.obj jo), x15, x16, x17, x18, x19, x20, x21, x22]

section
variable {c : Cx} {GT : List (Str × Value)} (H : Chk c GT) {n : Nat} {σ : Store} {Q : V → Store → Prop}
include H
omit H in
theorem check_loop {sc : V} {jn jh : Nat} {t : List Nat} {l : Bool} {jw jt : Nat} {last : Part} {x8 x9 x10 x11 x12 : Option V} {jd jo : Nat} {W : List WT} {ts : List TK} {os : List V} {K : Fl → Lo → Store → Prop}
    (hw : σ[jw]? = some (.list (W.map WV))) (ho : σ[jo]? = some (.list os)) (hT : Toks σ os ts) (hM : Mats ts W) (hl : W.length ≤ 100000)
    (hK : ∀ x15 x16 x17 x18 x19 x20 x21 x22, K .next (cenv sc jn jh t l jw jt last x8 x9 x10 x11 x12 jd jo x15 x16 x17 x18 x19 x20 x21 x22) σ) :
    wpS (CallT c n) w_law_3 (cenv sc jn jh t l jw jt last x8 x9 x10 x11 x12 jd jo none none none none none none none none) σ K := by
  unfold w_law_3
  refine st_forR ?_
  walk_at "se"
  refine p_lenL hw ?_
  rw [List.length_map]
  have hol : os.length ≤ 1000000 := by rw [hT.len, hM.len]; lia
  have hwl : (W.map WV).length ≤ 1000000 := by rw [List.length_map]; lia
  obtain ⟨I, hI⟩ : ∃ I : List Int → Lo → Store → Prop, ∀ r env σ', I r env σ' ↔ (∀ P : List Int → Lo → Store → Prop, (∀ (k : Nat) (x15 x16 x17 x18 x19 x20 x21 x22 : Option V), k ≤ W.length → r = (List.range (W.length - k)).map (fun z : Nat => ((k + z : Nat) : Int)) → P r (cenv sc jn jh t l jw jt last x8 x9 x10 x11 x12 jd jo x15 x16 x17 x18 x19 x20 x21 x22) σ) → P r env σ') := ⟨_, fun _ _ _ => Iff.rfl⟩
  refine ⟨r60 (a := 0) (by decide) (by lia), I, (hI _ _ _).mpr fun _ g => g 0 none none none none none none none none (Nat.zero_le _) ?_, ?_, ?_⟩
  · unfold rangeV
    rw [a_z0]
    refine List.map_congr_left fun z _ => ?_
    lia
  · intro x r env σ' hz
    generalize hlx : x :: r = lx at hz
    apply (hI _ _ _).mp hz
    intro k x15 x16 x17 x18 x19 x20 x21 x22 hk hr
    rw [← hlx] at hr
    clear hlx
    clear hz
    have hkN : k < W.length := by
      by_cases h : k < W.length
      · exact h
      · rw [a_s0 ‹_›] at hr; cases hr
    rw [a_s1 ‹_›, List.range_succ_eq_map, List.map_cons, List.map_map] at hr
    injection hr with g1 g2
    rw [Nat.add_zero] at g1
    subst g1
    have hr2 : r = (List.range (W.length - (k + 1))).map (fun z : Nat => ((k + 1 + z : Nat) : Int)) := by
      rw [g2]
      refine List.map_congr_left fun z _ => ?_
      show ((k + (z + 1) : Nat) : Int) = _
      lia
    obtain ⟨w, ew⟩ : ∃ w, W[k]? = some w := ⟨_, List.getElem?_eq_getElem hkN⟩
    obtain ⟨tk, et, hm⟩ := hM.at k w ew
    obtain ⟨o, eo, hto⟩ := hT.at k tk et
    have ewV : (W.map WV)[k]? = some (WV w) := by rw [List.getElem?_map, ew]; rfl
    obtain ⟨wk, wc, wn, wa, we, wl⟩ := w
    obtain ⟨h1, h2, h3, h4, hc⟩ := hm
    dsimp only at h1 h2 h3 h4 hc
    subst h1; subst h2; subst h3; subst h4
    refine st_seq (st_asg ?_)
    walk_at "se"
    refine p_idxLC k ho eo hol ?_
    refine st_seq (st_asgT ?_)
    walk_at "se"
    refine p_idxLC k hw ewV hwl ?_
    walk_at "se"
    have fin : ∀ _ : Unit, wpS (CallT c n) (.seq (.ifs (.and (.cmp .IsNot (.loc 18) .none) (.or (.cmp .NotEq (.attr 140 "text" (.loc 16)) (.loc 18)) (.cmp .NotEq (.attr 140 "num" (.loc 16)) (.loc 19)))) (.seq (.ret (.bool false)) .skip) .skip) .skip) (cenv sc jn jh t l jw jt last x8 x9 x10 x11 x12 jd jo (some (.int (k : Nat))) (some (.obj o)) (some (.int (tk.kind : Nat))) (some (ckV wc)) (some (.int (wn : Nat))) (some (.int (tk.at_ : Nat))) (some (.int (tk.end_ : Nat))) (some (.bool tk.line))) σ (whlK (I r) K) := by
      intro _
      refine st_seq (st_ifs ?_)
      walk_at "se"
      cases wc with
      | none =>
        refine if_ntt (if_ff ?_)
        exact st_skip (st_skip ((hI _ _ _).mpr fun _ g => g (k + 1) _ _ _ _ _ _ _ _ hkN hr2))
      | some ck =>
        obtain ⟨e1, e2⟩ := hc ck rfl
        refine if_nff ?_
        walk_at "se"
        refine p_attr hto (d := .str tk.text) (by rfl) ?_
        walk_at "se"
        refine pNeS ?_
        walk_at "se"
        refine p_attr hto (d := .int (tk.num : Nat)) (by rfl) ?_
        subst e2
        walk_at "se"
        exact st_skip (st_skip ((hI _ _ _).mpr fun _ g => g (k + 1) _ _ _ _ _ _ _ _ hkN hr2))
    refine st_seq (st_ifs ?_)
    walk_at "se"
    refine p_attr hto (d := .int (tk.kind : Nat)) (by rfl) ?_
    walk_at "se"
    refine p_attr hto (d := .int (tk.at_ : Nat)) (by rfl) ?_
    walk_at "se"
    refine p_attr hto (d := .int (tk.end_ : Nat)) (by rfl) ?_
    walk_at "se"
    refine p_attr hto (d := .bool tk.line) (by rfl) ?_
    walk_at "se"
    refine if_f (by simp) ?_
    exact st_skip (fin ())
  · intro env σ hz
    generalize hlx : ([] : List _) = lx at hz
    apply (hI _ _ _).mp hz
    intro k x15 x16 x17 x18 x19 x20 x21 x22 hk hr
    rw [← hlx] at hr
    clear hlx
    exact hK _ _ _ _ _ _ _ _
end
end
section
section
variable {c : Cx} {GT : List (Str × Value)} (H : Chk c GT) {n : Nat} {σ : Store} {Q : V → Store → Prop}
include H
set_option maxHeartbeats 1000000 in
theorem law_spec (HD : ∀ (σ : Store) (Q : V → Store → Prop), Q .none (σ ++ [dsC (σ.length + 1)] ++ [.list []]) → CallT c (n + 9) 98 [.obj σ.length] (σ ++ [.inst 113 []]) Q) {script : List Int} (hsc : script.length ≤ 1000) (q : ∀ σ', Q (.bool true) σ') : CallT c (n + 10) 542 [.clist (script.map V.int)] σ Q := by
  obtain ⟨ns, ens⟩ : ∃ ns, script.take 32 = ns := ⟨_, rfl⟩
  have hN : ns.length ≤ 32 := by rw [← ens, List.length_take]; lia
  have tail : ∀ (sc : V) (jn jh jw jt : Nat) (t hs : List Nat) (l : Bool) (W : List WT) (F : List (Nat × Nat)) (last : Part) (x8 x9 x10 x12 : Option V) (e : Nat) (σ' : Store), jn < jh → jh < jw → jw < jt → e < 6 → LS σ' jn jh jw jt ns t hs l W F (fun r => e = 2 ∨ r = []) (ns.length + 1) →
      wpS (CallT c (n + 9)) (.seq (.ifs (.cmp .Eq (.loc 11) (.int 2)) 
    (.seq (.asg 3 (.bin .Add (.loc 3) (.str [47, 42, 32, 113])))
    (.seq (.ifs (.cmp .Eq (.bin .Mod (.bi .len (.cons (.loc 1) .nil)) (.int 2)) (.int 0)) 
      (.seq (.asg 3 (.bin .Add (.loc 3) (.str [13])))
      (.seq (.asg 4 (.bool true)) .skip)) .skip)
    (.seq (.expr (.mth .append (.loc 6) (.cons (.tup (.cons (.int 1005) (.cons (.bi .len (.cons (.loc 3) .nil)) .nil))) .nil))) .skip))) .skip)
  (.seq (.expr (.mth .append (.loc 5) (.cons (.tup (.cons (.glb 47 gT_END) (.cons (.str []) (.cons (.int 0) (.cons (.bi .len (.cons (.loc 3) .nil)) (.cons (.bi .len (.cons (.loc 3) .nil)) (.cons (.loc 4) .nil))))))) .nil)))
  (.seq (.ifs (.and (.loc 2) (.cmp .NotIn (.int 1160) (.comp (.idx (.loc 0) (.int 0)) (.loc 6)))) 
    (.seq (.expr (.mth .append (.loc 6) (.cons (.tup (.cons (.int 1160) (.cons (.bi .len (.cons (.loc 3) .nil)) .nil))) .nil))) .skip) .skip)
  (.seq (.asg 13 (.new 72 113 98 .nil))
  (.seq (.asg 14 (.call 73 410 (.cons (.loc 3) (.cons (.loc 13) .nil))))
  (.seq (.ifs (.cmp .NotEq (.bi .len (.cons (.loc 14) .nil)) (.bi .len (.cons (.loc 5) .nil))) 
    (.seq (.ret (.bool false)) .skip) .skip)
  (.seq w_law_3
  (.seq (.ret (.cmp .Eq (.comp (.tup (.cons (.attr 79 "number" (.loc 0)) (.cons (.attr 79 "at" (.loc 0)) .nil))) (.attr 113 "rows" (.loc 13))) (.loc 6))) .skip)))))))) (lenv sc jn jh t l jw jt last x8 x9 x10 (some (.int (e : Nat))) x12) σ' (retQ Q) := by
    intro sc jn jh jw jt t hs l W F last x8 x9 x10 x12 e σ' d1 d2 d3 he hS
    have bt := hS.bt
    have bW := hS.bW
    have bF := hS.bF
    have htl : t.length ≤ 1000000 := by lia
    refine st_seq (wp_via (fun env' σ₁ => ∃ (t' : List Nat) (l' : Bool) (F' : List (Nat × Nat)) (ts : List TK), env' = lenv sc jn jh t' l' jw jt last x8 x9 x10 (some (.int (e : Nat))) x12 ∧ σ₁[jh]? = some (holV hs) ∧ σ₁[jw]? = some (.list (W.map WV)) ∧ σ₁[jt]? = some (.list (F'.map TV)) ∧ Mats ts W ∧ Run false [] t' 0 (ts ++ [⟨0, [], 0, t'.length, t'.length, l'⟩]) F' hs ∧ t'.length ≤ 100000 ∧ F'.length ≤ 100000) (fun K' hK' => ?_) fun env' σ₁ hh => ?_)
    · refine st_ifs ?_
      walk_at "se"
      by_cases he2 : e = 2
      · refine if_dt (by lia) ?_
        refine st_seq (st_asg ?_)
        walk_at "se"
        refine q_cat (by simp; lia) ?_
        have htl2 : (t ++ [47, 42, 32, 113]).length ≤ 1000000 := by simp; lia
        have done : ∀ b : Bool, (t ++ ([47, 42, 32, 113] ++ (if b then [13] else []))).length ≤ 1000000 → wpS (CallT c (n + 9)) (.seq (.expr (.mth .append (.loc 6) (.cons (.tup (.cons (.int 1005) (.cons (.bi .len (.cons (.loc 3) .nil)) .nil))) .nil))) .skip) (lenv sc jn jh (t ++ ([47, 42, 32, 113] ++ (if b then [13] else []))) (l || b) jw jt last x8 x9 x10 (some (.int (e : Nat))) x12) σ' K' := by
          intro b htl3
          obtain ⟨ts, hM, hR⟩ := hS.inv.run ([47, 42, 32, 113] ++ (if b then [13] else [])) _ _ _ (.inl he2) (run_open (b := b))
          have hlen : (t ++ ([47, 42, 32, 113] ++ (if b then [13] else []))).length = t.length + (if b then 5 else 4) := by cases b <;> simp
          refine st_seq (st_expr ?_)
          walk_at "se"
          refine ⟨mo_list (.inl rfl) hS.ht, ?_⟩
          walk_at "se"
          refine p_append hS.ht (by rw [List.length_map]; lia) ?_
          walk_at "se"
          refine st_skip (hK' _ _ ⟨_, _, F ++ [(1005, t.length + (if b then 5 else 4))], ts, rfl, get_set_ne hS.hh (by lia), get_set_ne hS.hw (by lia), ?_, hM, ?_, ?_, ?_⟩)
          · rw [get_set hS.ht, List.map_append, hlen]; rfl
          · rw [hlen]; exact hR
          · rw [hlen]; split <;> lia
          · simp; lia
        refine st_seq (st_ifs ?_)
        walk_at "se"
        refine p_lenL hS.hn ?_
        rw [List.length_map]
        walk_at "se"
        by_cases hb : ((ns.length : Nat) : Int).fmod 2 = 0
        · refine if_dt hb ?_
          refine st_seq (st_asg ?_)
          walk_at "se"
          refine q_cat (by simp; lia) ?_
          walk_at "st"
          have := done true (by simp; lia)
          rw [if_pos rfl, Bool.or_true, ← List.append_assoc] at this
          exact this
        · refine if_df hb ?_
          refine st_skip ?_
          have := done false (by simp; lia)
          rw [if_neg (by decide), Bool.or_false, List.append_nil] at this
          exact this
      · refine if_df (by lia) ?_
        obtain ⟨ts, hM, hR⟩ := hS.inv.run [] _ _ _ (.inr rfl) run_end
        rw [List.append_nil, List.append_nil] at hR
        exact st_skip (hK' _ _ ⟨t, l, F, ts, rfl, hS.hh, hS.hw, hS.ht, hM, hR, by lia, by lia⟩)
    obtain ⟨t, l, F, ts, rfl, hh, hw, ht, hM, hR, bt, bF⟩ := hh
    clear hS
    have htl : t.length ≤ 1000000 := by lia
    refine st_seq (st_expr ?_)
    walk_at "se"
    refine ⟨mo_list (.inl rfl) hw, ?_⟩
    walk_at "se"
    refine p_append hw (by rw [List.length_map]; lia) ?_
    walk_at "se"
    obtain ⟨lt, elt⟩ : ∃ lt : TK, (⟨0, [], 0, t.length, t.length, l⟩ : TK) = lt := ⟨_, rfl⟩
    have hM' : Mats (ts ++ [lt]) (W ++ [⟨0, some [], 0, t.length, t.length, l⟩]) := by
      subst elt
      exact hM.app (.cons ⟨rfl, rfl, rfl, rfl, fun c e => by cases e; exact ⟨rfl, rfl⟩⟩ .nil)
    have hlt : lt.at_ = t.length := by subst elt; rfl
    rw [elt] at hR
    clear elt
    obtain ⟨W', eW'⟩ : ∃ W', W ++ [⟨0, some [], 0, t.length, t.length, l⟩] = W' := ⟨_, rfl⟩
    have hlW : W'.length ≤ 2000 := by rw [← eW', List.length_append]; simp; lia
    rw [eW'] at hM'
    have hV : (W.map WV ++ [.tup [gT_END, .str [], .int 0, .int (t.length : Nat), .int (t.length : Nat), .bool l]]) = W'.map WV := by
      rw [← eW', List.map_append]; rfl
    rw [hV]
    clear hV eW'
    have hw₂ := get_set (cl' := .list (W'.map WV)) hw
    have hh₂ := get_set_ne (cl' := .list (W'.map WV)) hh (show jh ≠ jw by lia)
    have ht₂ := get_set_ne (cl' := .list (W'.map WV)) ht (show jt ≠ jw by lia)
    obtain ⟨σ₂, eσ₂⟩ : ∃ σ₂, σ₁.set jw (.list (W'.map WV)) = σ₂ := ⟨_, rfl⟩
    rw [eσ₂] at hw₂ hh₂ ht₂ ⊢
    clear eσ₂ hw hh ht
    refine st_seq (wp_via (fun env' σ₃ => env' = lenv sc jn jh t l jw jt last x8 x9 x10 (some (.int (e : Nat))) x12 ∧ σ₃[jw]? = some (.list (W'.map WV)) ∧ σ₃[jt]? = some (.list ((finF hs F t.length).map TV))) (fun K' hK' => ?_) fun env' σ₃ hh => ?_)
    · unfold finF at hK'
      unfold holV at hh₂
      refine st_ifs ?_
      walk_at "se"
      refine tru_obj hh₂ ?_
      rcases List.eq_nil_or_concat hs with rfl | ⟨hs₀, h₀, rfl⟩
      · rw [if_neg (fun z => z.1 rfl)] at hK'
        refine if_f rfl (if_ff ?_)
        exact st_skip (hK' _ _ ⟨rfl, hw₂, ht₂⟩)
      · rw [List.concat_eq_append] at hK' ⊢
        rw [show ((hs₀ ++ [h₀]).map fun h => V.int (h : Nat)).isEmpty = false by simp]
        refine if_t rfl ?_
        walk_at "se"
        refine p_lst ht₂ ⟨fstV, fun d hd acc => ?_, ?_⟩
        · obtain ⟨p, _, rfl⟩ := List.mem_map.mp hd
          walk_at "se"
          exact p_idxC 0 rfl (show 2 ≤ 1000000 by decide) ⟨rfl, rfl⟩
        rw [map_fstV]
        refine pNotInL (l := F.map fun p => ((p.1 : Nat) : Int)) at_new (intsOf_map _ _) ?_
        walk_at "se"
        have hc : (F.map fun p => ((p.1 : Nat) : Int)).contains 1160 = decide (1160 ∈ F.map (·.1)) := by
          rw [Bool.eq_iff_iff, List.contains_iff_mem, decide_eq_true_eq, List.mem_map, List.mem_map]
          constructor
          · rintro ⟨p, h1, h2⟩; exact ⟨p, h1, by lia⟩
          · rintro ⟨p, h1, h2⟩; exact ⟨p, h1, by lia⟩
        rw [hc]
        by_cases h : 1160 ∈ F.map (·.1)
        · rw [if_neg (fun z => z.2 h)] at hK'
          refine if_ndf h ?_
          exact st_skip (hK' _ _ ⟨rfl, get_app hw₂, get_app ht₂⟩)
        · rw [if_pos ⟨by simp, h⟩] at hK'
          refine if_ndt h ?_
          refine st_seq (st_expr ?_)
          walk_at "se"
          refine ⟨mo_list (.inl rfl) (get_app ht₂), ?_⟩
          walk_at "se"
          refine p_append (get_app ht₂) (by rw [List.length_map]; lia) ?_
          walk_at "se"
          refine st_skip (hK' _ _ ⟨rfl, get_set_ne (get_app hw₂) (by lia), ?_⟩)
          rw [get_set (get_app ht₂), List.map_append]; rfl
    obtain ⟨rfl, hw₃, ht₃⟩ := hh
    have hjt := lt_get ht₃
    have hjw := lt_get hw₃
    refine st_seq (st_asg (e_new (l_nil ?_)))
    refine HD _ _ ⟨rfl, ?_⟩
    have D : DS (σ₃ ++ [dsC (σ₃.length + 1)] ++ [.list []]) σ₃.length (σ₃.length + 1) [] := by
      refine ⟨get_app at_new, [], ?_, .nil⟩
      have h : (σ₃ ++ [dsC (σ₃.length + 1)] ++ [.list []])[(σ₃ ++ [dsC (σ₃.length + 1)]).length]? = some (.list []) := at_new
      rw [show (σ₃ ++ [dsC (σ₃.length + 1)]).length = σ₃.length + 1 by simp] at h
      exact h
    refine st_seq (st_asg ?_)
    walk_at "se"
    have hlts : ts.length < 800000 := by
      have := hM'.len
      simp at this
      lia
    refine scan_all_spec H htl hR hlts (by lia) D fun σ₄ jo os E₄ D₄ ho₄ hT₄ => ?_
    have hw₄ := E₄.keep _ _ (get_app (get_app hw₃)) (by simp; lia)
    have ht₄ := E₄.keep _ _ (get_app (get_app ht₃)) (by simp; lia)
    rw [hlt] at D₄
    refine st_seq (st_ifs ?_)
    walk_at "se"
    refine p_lenL ho₄ ?_
    walk_at "se"
    refine p_lenL hw₄ ?_
    rw [List.length_map]
    have hll : os.length = W'.length := by rw [hT₄.len, hM'.len]
    walk_at "se"
    refine st_skip (st_seq (check_loop hw₄ ho₄ hT₄ hM' (by lia) fun x15 x16 x17 x18 x19 x20 x21 x22 => ?_))
    refine st_seq (st_ret (e_cmp (e_comp ?_)))
    walk_at "se"
    refine p_attr D₄.hd (d := .obj (σ₃.length + 1)) (by rfl) ?_
    obtain ⟨rows, hr1, hr2⟩ := D₄.hr
    refine p_lst hr1 ⟨dgPair σ₄, fun d hd acc => ?_, ?_⟩
    · obtain ⟨o, a, b, args, rfl, ho⟩ := hr2.mem d hd
      walk_at "se"
      refine p_attr (get_app ho) (d := .int (a : Nat)) (by rfl) ?_
      walk_at "se"
      refine p_attr (get_app ho) (d := .int (b : Nat)) (by rfl) ?_
      walk_at "se"
      refine ⟨rfl, ?_⟩
      unfold dgPair
      dsimp only
      rw [ho]
      rfl
    · rw [hr2.pairs]
      walk_at "se"
      refine p_eqL at_new (get_app ht₄) (pairsOf_TV _) (pairsOf_TV _) ?_
      rw [decide_eq_true rfl]
      walk_at "st"
      exact q _
  refine fn_sound H.k_law H.gt rfl ?_; unfold b_law
  refine st_seq (st_asgC (e_comp (e_slc ?_)))
  walk_at "se"
  refine ⟨⟨by decide, by rw [List.length_map]; lia⟩, ?_⟩
  refine p_lst at_new ⟨id, fun d hd acc => e_loc rfl ⟨rfl, rfl⟩, ?_⟩
  rw [List.map_id, ← List.map_take, ens]
  obtain ⟨σ₁, eσ₁⟩ : ∃ σ₁, σ ++ [Cell.list (ns.map V.int)] = σ₁ := ⟨_, rfl⟩
  rw [eσ₁]
  obtain ⟨jn, ejn⟩ : ∃ jn, σ₁.length = jn := ⟨_, rfl⟩
  have hn : (σ₁ ++ [Cell.list (ns.map V.int)])[jn]? = some (.list (ns.map V.int)) := by rw [← ejn]; exact at_new
  rw [ejn]
  obtain ⟨σ₂, eσ₂⟩ : ∃ σ₂, σ₁ ++ [Cell.list (ns.map V.int)] = σ₂ := ⟨_, rfl⟩
  rw [eσ₂] at hn ⊢
  have l2 : σ₂.length = jn + 1 := by rw [← eσ₂, ← ejn]; simp
  refine st_seq (st_asg ?_)
  walk_at "se"
  refine st_seq (st_asg ?_)
  walk_at "se"
  refine st_seq (st_asg ?_)
  walk_at "se"
  refine st_seq (st_asg ?_)
  walk_at "se"
  refine st_seq (st_asg ?_)
  walk_at "se"
  refine st_seq (st_asg ?_)
  walk_at "se"
  have h1 : (σ₂ ++ [Cell.list []])[σ₂.length]? = some (holV []) := at_new
  have h2 : (σ₂ ++ [Cell.list []] ++ [Cell.list []])[(σ₂ ++ [Cell.list []]).length]? = some (.list (([] : List WT).map WV)) := at_new
  have h3 : (σ₂ ++ [Cell.list []] ++ [Cell.list []] ++ [Cell.list []])[(σ₂ ++ [Cell.list []] ++ [Cell.list []]).length]? = some (.list (([] : List (Nat × Nat)).map TV)) := at_new
  refine st_seq (laps_loop (ns := ns) H (by lia) (by simp) (by simp) hN ⟨get_app (get_app (get_app hn)), get_app (get_app h1), get_app h2, h3, Inv.start, by simp, by simp, by simp⟩ fun σ' t hs l W F last x8 x9 x10 x12 e he hS => ?_)
  exact tail _ _ _ _ _ _ _ _ _ _ _ _ _ _ _ _ _ (by lia) (by simp) (by simp) he hS
end
end
section
theorem set_mid {σ : Store} {x y z : Cell} : (σ ++ [x] ++ [y]).set σ.length z = σ ++ [z] ++ [y] := by
  rw [List.append_assoc, List.set_append_right _ _ (Nat.le_refl _), Nat.sub_self, List.append_assoc]; rfl
section
variable {c : Cx} {GT : List (Str × Value)} (H : Chk c GT) {n : Nat} {σ : Store} {Q : V → Store → Prop}
include H
omit H in
theorem diags_body (q : Q .none (σ ++ [dsC (σ.length + 1)] ++ [.list []])) : wpS (CallT c n) b_Diags_init (envR n_Diags_init [.obj σ.length, .str []]) (σ ++ [.inst 113 []]) (retQ Q) := by
  unfold b_Diags_init
  have hl : (σ ++ [Cell.inst 113 []]).length = σ.length + 1 := by simp
  refine st_seq ?_
  walk_at "st"
  refine p_setA (get_app at_new) (show 0 < 50 by decide) ?_
  rw [set_mid, hl]
  refine st_seq ?_
  walk_at "st"
  refine p_setA (get_app at_new) (show 1 < 50 by decide) ?_
  rw [set_mid]
  exact st_skip q
theorem diags_new {o : Obj} {fd : FuncData} (hf : c.K.lookup 98 = some o) (hd : o.data = .func fd) (h : fdOk c.K c.dk GT fd n_Diags_init 2 b_Diags_init = true)
    (hb : ∀ (s : Shared) (a : Addr), c.K.In s.heap → ∃ t, BindsTo s fd ⟨[.ref a], []⟩ ((n_Diags_init.take 2).zip [.ref a, .str ⟨#[]⟩ t])) (q : Q .none (σ ++ [dsC (σ.length + 1)] ++ [.list []])) : CallT c (n + 1) 98 [.obj σ.length] (σ ++ [.inst 113 []]) Q := by
  intro A ρ s vs hA S R
  cases R with
  | cons r1 r2 =>
    cases r2
    cases r1 with
    | obj e =>
      obtain ⟨t, hB⟩ := hb s _ (c.X.keeps S.base)
      exact fn_core hf hd h H.gt hB hA S (ds := [.obj σ.length, .str []]) (.cons (.obj e) (.cons (.str [] t) .nil)) rfl (diags_body q)
theorem reps_ints {h : Heap} {ρ : Pm} {vs : List Value} {l : List Int} (hI : IntsAre vs l) : c.Reps h ρ (l.map V.int) vs := by
  induction hI with
  | nil => exact .nil
  | cons x t _ ih => exact .cons (.int x t) ih
theorem walk_end (HD : ∀ (σ : Store) (Q : V → Store → Prop), Q .none (σ ++ [dsC (σ.length + 1)] ++ [.list []]) → CallT c 9 98 [.obj σ.length] (σ ++ [.inst 113 []]) Q) {A : Around} (hA : Ar 10 A) {s : Shared} (hs : s.heap = c.hb) (hg : s.gens = c.g0) (ho : s.os = c.os0) {a : Addr} {vs : List Value} {script : List Int} (hL : c.hb.IsList a vs.toArray) (hI : IntsAre vs script) (hlen : script.length ≤ 1000) :
    codeAny (model c.prog c.w) A (.call (.ref 542) ⟨[.ref a], []⟩) (fun r s' => r = .ok (.ret (.bool true)) ∧ (∀ b o, s.heap.get? b = some o → s'.heap.get? b = some o) ∧ s'.os = s.os ∧ s'.gens = s.gens) s := by
  have S : Sat c [] [] s := ⟨(fun b o e => (by rw [hs]; exact e)), rfl, (fun i cl r h => (by simp at h)), List.nodup_nil, (fun r h => nomatch h), hg, ho⟩
  have h := law_spec (n := 0) (σ := []) (Q := fun v _ => v = .bool true) H HD hlen (fun _ => rfl) A [] s [.ref a] hA S (.cons (.clist hL (reps_ints (c := c) H hI)) .nil)
  refine codeAny_mono h fun r s' z => ?_
  split at z
  · obtain ⟨ρ', σ', d, S', _, R, rfl⟩ := z
    cases R
    exact ⟨rfl, fun b o e => S'.base b o (by rw [← hs]; exact e), S'.os.trans ho.symm, S'.gens.trans hg.symm⟩
  · exact z.elim
end
end
section
noncomputable def GTof (K : Frag) : List (Str × Value) := gnames.map fun y => (y, match nsIn K mainGlobals y with | some (some v) => v | _ => .none)
noncomputable def gtOk (K : Frag) : Bool := gnames.all fun y => match nsIn K mainGlobals y with | some (some _) => true | _ => false
theorem GTof_ok {K : Frag} (h : gtOk K = true) : ∀ (k : Nat) (y : Str) (v : Value), (GTof K)[k]? = some (y, v) → nsIn K mainGlobals y = some (some v) := by
  intro k y v e
  unfold GTof at e
  rw [List.getElem?_map] at e
  obtain ⟨z, hz, e⟩ := Option.map_eq_some_iff.mp e
  have hm := List.all_eq_true.mp h z (List.mem_of_getElem? hz)
  injection e with e1 e2
  subst e1
  cases hq : nsIn K mainGlobals z with
  | none => rw [hq] at hm; cases hm
  | some o =>
    cases o with
    | none => rw [hq] at hm; cases hm
    | some w =>
      rw [hq] at e2
      rw [← e2]
noncomputable def dEnts (o : Option Obj) : List DictEntry := match o with
  | some ⟨_, _, .dict es _, _⟩ => es.toList
  | _ => []
noncomputable def keyS (e : DictEntry) : Option Str := match e.key with
  | .str x _ => some x
  | _ => none
theorem kl_of {P : Params} {es : List DictEntry} (h1 : (es.map fun e => (keyS e).isSome) = es.map (fun _ => true)) (h2 : (es.map fun e => e.hash) = es.map (fun e => PyData.keyHash P ((keyS e).getD ⟨#[]⟩))) : KeysLit P es := by
  induction es with
  | nil => trivial
  | cons e es ih =>
    rw [List.map_cons, List.map_cons] at h1 h2
    injection h1 with a1 b1
    injection h2 with a2 b2
    refine ⟨?_, ih b1 b2⟩
    unfold keyS at a1 a2
    cases hk : e.key <;> rw [hk] at a1 a2 <;> first | cases a1 | skip
    exact ⟨_, _, rfl, a2⟩
noncomputable def fdOf (o : Option Obj) : Option FuncData := match o with
  | some ⟨_, _, .func fd, _⟩ => some fd
  | _ => none
theorem fdOf_some {o : Option Obj} {fd : FuncData} (h : fdOf o = some fd) : ∃ o', o = some o' ∧ o'.data = .func fd := by
  unfold fdOf at h
  split at h
  · cases h; exact ⟨_, rfl, rfl⟩
  · cases h
noncomputable def fd98 (K : Frag) (k : FuncData → Bool) : Bool := match fdOf (K.lookup 98) with
  | some fd => k fd
  | none => false
noncomputable def bd98 (K : Frag) (S : Setting) (a : Addr) : Option (List (Str × Value)) := match fdOf (K.lookup 98) with
  | some fd => peek K S (bindArgs fd ⟨[.ref a], []⟩)
  | none => none
noncomputable def tok91 (K : Frag) : Nat := match K.lookup 91 with
  | some ⟨_, _, .seq xs _, _⟩ => (match xs.toList with | .str _ t :: _ => t | _ => 0)
  | _ => 0
/-- what is asked of the head's written part: each by evaluation -/
structure KOk (P : Params) (K : Frag) : Prop where
  gt : gtOk K = true
  law : nsIn K mainGlobals "law" = some (some (.ref 542))
  l1 : ((dEnts (K.lookup 118)).map fun e => (keyS e).isSome) = (dEnts (K.lookup 118)).map (fun _ => true)
  l2 : ((dEnts (K.lookup 118)).map fun e => e.hash) = (dEnts (K.lookup 118)).map (fun e => PyData.keyHash P ((keyS e).getD ⟨#[]⟩))
  m1 : ((dEnts (K.lookup 123)).map fun e => (keyS e).isSome) = (dEnts (K.lookup 123)).map (fun _ => true)
  m2 : ((dEnts (K.lookup 123)).map fun e => e.hash) = (dEnts (K.lookup 123)).map (fun e => PyData.keyHash P ((keyS e).getD ⟨#[]⟩))
  c98 : (fd98 K fun fd => fdOk K [118, 123] (GTof K) fd n_Diags_init 2 b_Diags_init) = true
  b98 : ∀ (S : Setting) (a : Addr), bd98 K S a = some ((n_Diags_init.take 2).zip [.ref a, .str ⟨#[]⟩ (tok91 K)])
  k_Diag_init : fnChk K [118, 123] (GTof K) 69 n_Diag_init 5 b_Diag_init = true
  k_Diags_put : fnChk K [118, 123] (GTof K) 105 n_Diags_put 4 b_Diags_put = true
  k_Diags_numbers : fnChk K [118, 123] (GTof K) 110 n_Diags_numbers 1 b_Diags_numbers = true
  k_Token_init : fnChk K [118, 123] (GTof K) 137 n_Token_init 7 b_Token_init = true
  k_peek : fnChk K [118, 123] (GTof K) 151 n_peek 2 b_peek = true
  k_is_line_end : fnChk K [118, 123] (GTof K) 158 n_is_line_end 1 b_is_line_end = true
  k_is_wide_line_end : fnChk K [118, 123] (GTof K) 165 n_is_wide_line_end 1 b_is_wide_line_end = true
  k_is_far : fnChk K [118, 123] (GTof K) 172 n_is_far 1 b_is_far = true
  k_is_digit : fnChk K [118, 123] (GTof K) 179 n_is_digit 1 b_is_digit = true
  k_is_name_start : fnChk K [118, 123] (GTof K) 186 n_is_name_start 1 b_is_name_start = true
  k_is_name_part : fnChk K [118, 123] (GTof K) 193 n_is_name_part 1 b_is_name_part = true
  k_is_reserved : fnChk K [118, 123] (GTof K) 200 n_is_reserved 1 b_is_reserved = true
  k_digit_value : fnChk K [118, 123] (GTof K) 207 n_digit_value 1 b_digit_value = true
  k_skip_line : fnChk K [118, 123] (GTof K) 214 n_skip_line 2 b_skip_line = true
  k_skip_block : fnChk K [118, 123] (GTof K) 221 n_skip_block 2 b_skip_block = true
  k_skip_blank : fnChk K [118, 123] (GTof K) 228 n_skip_blank 2 b_skip_blank = true
  k_scanner_base_at : fnChk K [118, 123] (GTof K) 235 n_scanner_base_at 2 b_scanner_base_at = true
  k_read_digits : fnChk K [118, 123] (GTof K) 242 n_read_digits 3 b_read_digits = true
  k_skip_number_tail : fnChk K [118, 123] (GTof K) 249 n_skip_number_tail 2 b_skip_number_tail = true
  k_read_number : fnChk K [118, 123] (GTof K) 256 n_read_number 2 b_read_number = true
  k_read_hex_escape : fnChk K [118, 123] (GTof K) 263 n_read_hex_escape 3 b_read_hex_escape = true
  k_read_code_point : fnChk K [118, 123] (GTof K) 270 n_read_code_point 2 b_read_code_point = true
  k_read_escape : fnChk K [118, 123] (GTof K) 277 n_read_escape 2 b_read_escape = true
  k_scan_string : fnChk K [118, 123] (GTof K) 284 n_scan_string 2 b_scan_string = true
  k_is_hole : fnChk K [118, 123] (GTof K) 291 n_is_hole 2 b_is_hole = true
  k_scan_template : fnChk K [118, 123] (GTof K) 298 n_scan_template 2 b_scan_template = true
  k_read_sign : fnChk K [118, 123] (GTof K) 305 n_read_sign 2 b_read_sign = true
  k_scanner_read_name : fnChk K [118, 123] (GTof K) 312 n_scanner_read_name 2 b_scanner_read_name = true
  k_name_token : fnChk K [118, 123] (GTof K) 319 n_name_token 3 b_name_token = true
  k_hash_token : fnChk K [118, 123] (GTof K) 326 n_hash_token 4 b_hash_token = true
  k_number_token : fnChk K [118, 123] (GTof K) 333 n_number_token 4 b_number_token = true
  k_string_token : fnChk K [118, 123] (GTof K) 340 n_string_token 4 b_string_token = true
  k_template_token : fnChk K [118, 123] (GTof K) 347 n_template_token 6 b_template_token = true
  k_read_token : fnChk K [118, 123] (GTof K) 354 n_read_token 4 b_read_token = true
  k_is_brace : fnChk K [118, 123] (GTof K) 361 n_is_brace 2 b_is_brace = true
  k_Scanner_init : fnChk K [118, 123] (GTof K) 375 n_Scanner_init 3 b_Scanner_init = true
  k_Scanner_take : fnChk K [118, 123] (GTof K) 382 n_Scanner_take 1 b_Scanner_take = true
  k_Scanner_rescan_template : fnChk K [118, 123] (GTof K) 389 n_Scanner_rescan_template 1 b_Scanner_rescan_template = true
  k_follow_hole : fnChk K [118, 123] (GTof K) 403 n_follow_hole 3 b_follow_hole = true
  k_scan_all : fnChk K [118, 123] (GTof K) 410 n_scan_all 2 b_scan_all = true
  k_law_digits : fnChk K [118, 123] (GTof K) 467 n_law_digits 4 b_law_digits = true
  k_law_number : fnChk K [118, 123] (GTof K) 474 n_law_number 1 b_law_number = true
  k_law_cut : fnChk K [118, 123] (GTof K) 481 n_law_cut 2 b_law_cut = true
  k_law_run : fnChk K [118, 123] (GTof K) 488 n_law_run 2 b_law_run = true
  k_law_body : fnChk K [118, 123] (GTof K) 495 n_law_body 2 b_law_body = true
  k_law_text : fnChk K [118, 123] (GTof K) 502 n_law_text 1 b_law_text = true
  k_law_piece : fnChk K [118, 123] (GTof K) 509 n_law_piece 3 b_law_piece = true
  k_law_brace : fnChk K [118, 123] (GTof K) 516 n_law_brace 1 b_law_brace = true
  k_law_unit : fnChk K [118, 123] (GTof K) 523 n_law_unit 2 b_law_unit = true
  k_law_end : fnChk K [118, 123] (GTof K) 530 n_law_end 2 b_law_end = true
  k_law_between : fnChk K [118, 123] (GTof K) 537 n_law_between 3 b_law_between = true
  k_law : fnChk K [118, 123] (GTof K) 542 n_law 1 b_law = true
theorem lits {P : Params} {K : Frag} (O : KOk P K) : ∀ a ∈ ([118, 123] : List Addr), ∀ (ents : List DictEntry) (n : Nat), K.lookup a = some ⟨.type "dict", none, .dict ents.toArray n, #[]⟩ → KeysLit P ents := by
  intro a ha ents n h
  have : KeysLit P (dEnts (K.lookup a)) := by
    rcases List.mem_cons.mp ha with e | ha
    · exact e ▸ kl_of O.l1 O.l2
    · exact List.mem_singleton.mp ha ▸ kl_of O.m1 O.m2
  rw [h] at this
  exact this
theorem get_98 {P : Params} {K : Frag} (O : KOk P K) : ∃ o fd, K.lookup 98 = some o ∧ o.data = .func fd ∧ fdOk K [118, 123] (GTof K) fd n_Diags_init 2 b_Diags_init = true ∧ ∀ (S : Setting) (a : Addr), peek K S (bindArgs fd ⟨[.ref a], []⟩) = some ((n_Diags_init.take 2).zip [.ref a, .str ⟨#[]⟩ (tok91 K)]) := by
  have h1 := O.c98
  have h2 := O.b98
  unfold fd98 at h1
  unfold bd98 at h2
  cases hf : fdOf (K.lookup 98) with
  | none => rw [hf] at h1; cases h1
  | some fd =>
    rw [hf] at h1 h2
    obtain ⟨o, e1, e2⟩ := fdOf_some hf
    exact ⟨o, fd, e1, e2, h1, h2⟩
theorem chk_all {c : Cx} {P : Params} (O : KOk P c.K) (hd : c.dk = [118, 123]) : Chk c (GTof c.K) := by
  obtain ⟨prog, w, K, hb, mg, mb, p, loose, g0, os0, X, T, dk, hk⟩ := c
  dsimp only at hd O
  subst hd
  exact ⟨GTof_ok O.gt, O.k_Diag_init, O.k_Diags_put, O.k_Diags_numbers, O.k_Token_init, O.k_peek, O.k_is_line_end, O.k_is_wide_line_end, O.k_is_far, O.k_is_digit, O.k_is_name_start, O.k_is_name_part, O.k_is_reserved, O.k_digit_value, O.k_skip_line, O.k_skip_block, O.k_skip_blank, O.k_scanner_base_at, O.k_read_digits, O.k_skip_number_tail, O.k_read_number, O.k_read_hex_escape, O.k_read_code_point, O.k_read_escape, O.k_scan_string, O.k_is_hole, O.k_scan_template, O.k_read_sign, O.k_scanner_read_name, O.k_name_token, O.k_hash_token, O.k_number_token, O.k_string_token, O.k_template_token, O.k_read_token, O.k_is_brace, O.k_Scanner_init, O.k_Scanner_take, O.k_Scanner_rescan_template, O.k_follow_hole, O.k_scan_all, O.k_law_digits, O.k_law_number, O.k_law_cut, O.k_law_run, O.k_law_body, O.k_law_text, O.k_law_piece, O.k_law_brace, O.k_law_unit, O.k_law_end, O.k_law_between, O.k_law⟩
noncomputable abbrev fragOf {K : Frag} {h : Heap} (_ : K.In h) : Frag := K
end
theorem top.tw17542608870123051758 : True := trivial
theorem top.tw3976154599441133093 : True := trivial
theorem top.tw10559959225668370416 : True := trivial
theorem top.tw16878204669230926818 : True := trivial
theorem top.tw11760055953109336660 : True := trivial
theorem top.tw1971433849790844608 : True := trivial
theorem top.tw12519573946865146793 : True := trivial
theorem top.tw16885616592811714743 : True := trivial
theorem top.tw15470379304558344453 : True := trivial
theorem top.tw11520865232209809239 : True := trivial
theorem top.tw2464713573024523455 : True := trivial
theorem top.tw13994475860397038760 : True := trivial
theorem top.tw17081178143035459574 : True := trivial
theorem top.tw5667650583090716360 : True := trivial
theorem top.tw14823308797102314842 : True := trivial
theorem top.tw7008692893051332821 : True := trivial
theorem top.tw1040915598704419856 : True := trivial
theorem top.tw18177719399980262173 : True := trivial
theorem top.tw18034075008235765660 : True := trivial
theorem top.tw775762912060472103 : True := trivial
theorem top.tw283044589724301 : True := trivial
theorem top.tw9366391650621772374 : True := trivial
theorem top.tw2506305409684761478 : True := trivial
theorem top.tw6127594578889010139 : True := trivial
theorem top.tw13802547742096326172 : True := trivial
theorem top.tw11133666699803404755 : True := trivial
theorem top.tw14338676059091966482 : True := trivial
theorem top.tw11334350811105764591 : True := trivial
theorem top.tw2665807947273092163 : True := trivial
theorem top.tw5244899138074338376 : True := trivial
theorem top.tw8679839319945467846 : True := trivial
theorem top.tw908825868028484722 : True := trivial
theorem top.tw104434173382791472 : True := trivial
theorem top.tw7527032243904285869 : True := trivial
theorem top.tw11922380849998532372 : True := trivial
theorem top.tw6211089042160764376 : True := trivial
theorem top.tw1754339480302792767 : True := trivial
theorem top.tw453181688931711583 : True := trivial
theorem top.tw16123964013534891561 : True := trivial
theorem top.tw4383139521930768336 : True := trivial
theorem top.tw13345470168829271861 : True := trivial
theorem top.tw13044034144603486326 : True := trivial
theorem top.tw13369591340354186047 : True := trivial
theorem top.tw6812286434817487243 : True := trivial
theorem top.tw16439428074185983240 : True := trivial
theorem top.tw16415559393655328363 : True := trivial
theorem top.tw6333448901615975916 : True := trivial
theorem top.tw7198060816514059695 : True := trivial
theorem top.tw11858546649754279707 : True := trivial
theorem top.tw47109162367338493 : True := trivial
theorem top.tw14371913498598963198 : True := trivial
theorem top.tw6292954644110606532 : True := trivial
theorem top.tw9233335307524088747 : True := trivial
theorem top.tw12415523145999629524 : True := trivial
theorem top.tw1195175773429642966 : True := trivial
theorem top.tw16058212318047004132 : True := trivial
theorem top.tw5225153198818245361 : True := trivial
theorem top.tw390997316461189296 : True := trivial
theorem top.tw1124271682379634556 : True := trivial
theorem top.tw4597200072644226624 : True := trivial
theorem top.tw8735323631387419056 : True := trivial
theorem top.tw8645369167282567922 : True := trivial
theorem top.tw1284575025550258836 : True := trivial
theorem top.tw8689318265317240412 : True := trivial
theorem top.tw11348917583287024722 : True := trivial
theorem top.tw6694047246710070196 : True := trivial
theorem top.tw5225916559131626549 : True := trivial
theorem top.tw7313339093194340965 : True := trivial
theorem top.tw8729362747519067210 : True := trivial
theorem top.tw5609151216138764652 : True := trivial
theorem top.tw649594095290182367 : True := trivial
theorem top.tw13272337422414781067 : True := trivial
theorem top.tw10801874191123338550 : True := trivial
theorem top.tw18367679650794681301 : True := trivial
theorem top.tw84136930442132756 : True := trivial
theorem top.tw11762496359356365647 : True := trivial
theorem top.tw1068965626710143233 : True := trivial
theorem top.tw7250933059871147345 : True := trivial
theorem top.tw14399976873020721970 : True := trivial
theorem top.tw2985252069258134486 : True := trivial
theorem top.tw681777741448182936 : True := trivial
theorem top.tw16004416686337608138 : True := trivial
theorem top.tw8204474986945543665 : True := trivial
theorem top.tw8435561252592420358 : True := trivial
theorem top.tw8139039716903228087 : True := trivial
theorem top.tw12425085872883035938 : True := trivial
theorem top.tw1149218181149386328 : True := trivial
theorem top.tw18064794426631996164 : True := trivial
theorem top.tw5915399644114372684 : True := trivial
theorem top.tw9851269098105209369 : True := trivial
theorem top.tw7847650389618582240 : True := trivial
theorem top.tw14901070454687303710 : True := trivial
theorem top.tw4392038535549328194 : True := trivial
theorem top.tw16580785732701462914 : True := trivial
theorem top.tw10006222313960134694 : True := trivial
theorem top.tw4835499133494076262 : True := trivial
theorem top.tw10783980745131425670 : True := trivial
theorem top.tw1275901062530889299 : True := trivial
theorem top.tw10936122117785486979 : True := trivial
theorem top.tw14826035006057030972 : True := trivial
theorem top.tw15245507539482535896 : True := trivial
theorem top.tw1697544655201012999 : True := trivial
theorem top.tw1294077662247117797 : True := trivial
theorem top.tw1843344800811705456 : True := trivial
theorem top.tw4058662728301269685 : True := trivial
theorem top.tw9961057766049560675 : True := trivial
theorem top.tw16759092144687519636 : True := trivial
theorem top.tw13710211086531791108 : True := trivial
theorem top.tw12287388412223808002 : True := trivial
theorem top.tw1676862907878916244 : True := trivial
theorem top.tw14263998999751124003 : True := trivial
theorem top.tw12080426169559351053 : True := trivial
theorem top.tw15286249088069653756 : True := trivial
theorem top.tw12483720753089274532 : True := trivial
theorem top.tw4551080515912023512 : True := trivial
theorem top.tw6431110157172167083 : True := trivial
theorem top.tw2126296398998916975 : True := trivial
theorem top.tw4736427724481360342 : True := trivial
theorem top.tw6919701780365589675 : True := trivial
theorem top.tw3739144386018749749 : True := trivial
theorem top.tw15976228082101565994 : True := trivial
theorem top.tw860223938195835975 : True := trivial
theorem top.tw11582926029173025856 : True := trivial
theorem top.tw18085771088847121727 : True := trivial
theorem top.tw23087011456773342 : True := trivial
theorem top.tw12819366960792805191 : True := trivial
theorem top.tw18063644159110109576 : True := trivial
theorem top.tw8237333600419904120 : True := trivial
theorem top.tw14724332232928298890 : True := trivial
theorem top.tw5476889619067714990 : True := trivial
theorem top.tw4555866861457887817 : True := trivial
theorem top.tw17620759639134147866 : True := trivial
theorem top.tw13090165191389475591 : True := trivial
theorem top.tw11141966352661209427 : True := trivial
theorem top.tw8622502720953521162 : True := trivial
theorem top.tw13290321428070320777 : True := trivial
theorem top.tw17323899518341599180 : True := trivial
theorem top.tw5058314954733539658 : True := trivial
theorem top.tw4526881389914513428 : True := trivial
theorem top.tw8511147975818421384 : True := trivial
theorem top.tw11240886729373846589 : True := trivial
theorem top.tw13420762306968818387 : True := trivial
theorem top.tw8148004212497801138 : True := trivial
theorem top.tw4713442408853163898 : True := trivial
theorem top.tw13307591127769906961 : True := trivial
theorem top.tw14142502885225118848 : True := trivial
theorem top.tw13134186033006778460 : True := trivial
theorem top.tw2822501910515967889 : True := trivial
theorem top.tw877433047237710547 : True := trivial
theorem top.tw1585457916280141200 : True := trivial
theorem top.tw2731995056826638727 : True := trivial
theorem top.tw3207569582813703071 : True := trivial
theorem top.tw7830913209206220567 : True := trivial
theorem top.tw15058813355848621054 : True := trivial
theorem top.tw708234853630380328 : True := trivial
theorem top.tw9913501989792142831 : True := trivial
theorem top.tw9063741608606530840 : True := trivial
theorem top.tw6438537300738474071 : True := trivial
theorem top.tw14168018189251442112 : True := trivial
theorem top.tw2417791160451022400 : True := trivial
theorem top.tw15503665604740900718 : True := trivial
theorem top.tw3767615275625035234 : True := trivial
theorem top.tw6487610083215253720 : True := trivial
theorem top.tw6662652255960138227 : True := trivial
theorem top.tw8311017846404947139 : True := trivial
theorem top.tw7847352863974893604 : True := trivial
theorem top.tw4671429814451907529 : True := trivial
theorem top.tw16453443671601555132 : True := trivial
theorem top.tw13799840507378627052 : True := trivial
theorem top.tw2835187731363253809 : True := trivial
theorem top.tw14789260269991461300 : True := trivial
theorem top.tw1212798325632107971 : True := trivial
theorem top.tw11613256710310857696 : True := trivial
theorem top.tw14402358008270493973 : True := trivial
theorem top.tw11459358961799972967 : True := trivial
theorem top.tw9382581127745807760 : True := trivial
theorem top.tw11423202765487971197 : True := trivial
theorem top.tw2462062305354472974 : True := trivial
theorem top.tw9743097575036673082 : True := trivial
theorem top.tw16352630495959832749 : True := trivial
theorem top.tw1988063486488863061 : True := trivial
theorem top.tw5398424786039705171 : True := trivial
theorem top.tw11960245374511038805 : True := trivial
theorem top.tw14349089067433371257 : True := trivial
theorem top.tw4655869559712951663 : True := trivial
theorem top.tw16155163154822807229 : True := trivial
theorem top.tw6930518751129746686 : True := trivial
theorem top.tw9601329371697537090 : True := trivial
theorem top.tw16782997733028217545 : True := trivial
theorem top.tw10399464001100048223 : True := trivial
theorem top.tw13177472732611162249 : True := trivial
theorem top.tw7990429038631628895 : True := trivial
theorem top.tw72247145696351765 : True := trivial
theorem top.tw2145171640123136144 : True := trivial
theorem top.tw1321871150748368714 : True := trivial
theorem top.tw5118827330378232414 : True := trivial
theorem top.tw17103177528636943170 : True := trivial
theorem top.tw15877122091014420850 : True := trivial
theorem top.tw17565814175750979855 : True := trivial
theorem top.tw16900427199656544559 : True := trivial
theorem top.tw8694864300669457046 : True := trivial
theorem top.tw17795014544551873601 : True := trivial
theorem top.tw10774637447528242797 : True := trivial
theorem top.tw2581206410525282061 : True := trivial
theorem top.tw2057334267981633021 : True := trivial
theorem top.tw2847958352784047137 : True := trivial
theorem top.tw620129878449983639 : True := trivial
theorem top.tw9614876229902214918 : True := trivial
theorem top.tw3195522803047326042 : True := trivial
theorem top.tw381845443943030031 : True := trivial
theorem top.tw6286779285267259847 : True := trivial
theorem top.tw5766051744304087583 : True := trivial
theorem top.tw3254097082911018636 : True := trivial
theorem top.tw3176535264509419967 : True := trivial
theorem top.tw1516213087968936877 : True := trivial
theorem top.tw10404823597219466188 : True := trivial
theorem top.tw7743179893348639699 : True := trivial
theorem top.tw1108800333578037850 : True := trivial
theorem top.tw9227541089923242437 : True := trivial
theorem top.tw53344730913325255 : True := trivial
theorem top.tw4859757453598101857 : True := trivial
theorem top.tw12392516345856041104 : True := trivial
theorem top.tw9800703332001039478 : True := trivial
theorem top.tw14608685727046917156 : True := trivial
theorem top.tw15985961358823992270 : True := trivial
theorem top.tw2312856594315299383 : True := trivial
theorem top.tw14917401599646851644 : True := trivial
theorem top.tw705360758644809490 : True := trivial
theorem top.tw5597187220613765494 : True := trivial
theorem top.tw6974011167326283562 : True := trivial
theorem top.tw10090393231696489298 : True := trivial
theorem top.tw13223034962123697568 : True := trivial
theorem top.tw17046948494117081484 : True := trivial
theorem top.tw17953984050398360512 : True := trivial
theorem top.tw2732273902793177162 : True := trivial
theorem top.tw11430207588045935325 : True := trivial
theorem top.tw4076138812419527698 : True := trivial
theorem top.tw4159251561096739476 : True := trivial
theorem top.tw3669314199184481253 : True := trivial
theorem top.tw12209182163369298222 : True := trivial
theorem top.tw10773188271377071773 : True := trivial
theorem top.tw4186445540838780016 : True := trivial
theorem top.tw2727672472851901052 : True := trivial
theorem top.tw13001836021917841797 : True := trivial
theorem top.tw18164388396756303480 : True := trivial
theorem top.tw2812155379371279736 : True := trivial
theorem top.tw10001883323181062329 : True := trivial
theorem top.tw3995942328266245912 : True := trivial
theorem top.tw6749217079512962374 : True := trivial
theorem top.tw1123975283337734383 : True := trivial
theorem top.tw6505410396798821541 : True := trivial
theorem top.tw3796891538752321733 : True := trivial
theorem top.tw13501252493785611398 : True := trivial
theorem top.tw3217022616335106338 : True := trivial
theorem top.tw6885214360128481674 : True := trivial
theorem top.tw5303079699428457377 : True := trivial
theorem top.tw1732150942055357024 : True := trivial
theorem top.tw16174758807025615021 : True := trivial
theorem top.tw10195997230039290492 : True := trivial
theorem top.tw11199532085631943738 : True := trivial
theorem top.tw3378803678994701225 : True := trivial
theorem top.tw8265311939077410998 : True := trivial
theorem top.tw6187478851450931391 : True := trivial
theorem top.tw4916261283513009128 : True := trivial
theorem top.tw9335426496214029073 : True := trivial
theorem top.tw18086089286151905521 : True := trivial
theorem top.tw6240723676877644813 : True := trivial
theorem top.tw8410488445778877200 : True := trivial
theorem top.tw18394896323154069799 : True := trivial
theorem top.tw2722852734226103192 : True := trivial
theorem top.tw13120753694373217308 : True := trivial
theorem top.tw7069510175615937415 : True := trivial
theorem top.tw5155950481276406077 : True := trivial
theorem top.tw9259421805112917234 : True := trivial
theorem top.tw16795567611416646642 : True := trivial
theorem top.tw2218668502564051296 : True := trivial
theorem top.tw16541100652227675460 : True := trivial
theorem top.tw3315250197877816394 : True := trivial
theorem top.tw6189502492464219833 : True := trivial
theorem top.tw8538268897159353584 : True := trivial
theorem top.tw15740088241188596515 : True := trivial
theorem top.tw17886615442053742456 : True := trivial
theorem top.tw2287823674025257028 : True := trivial
theorem top.tw6430265229019958763 : True := trivial
theorem top.tw3561193834555079511 : True := trivial
theorem top.tw17355269125676882429 : True := trivial
theorem top.tw11546936639936008217 : True := trivial
theorem top.tw18289109515434150305 : True := trivial
theorem top.tw10915162052029792233 : True := trivial
theorem top.tw4940147422707163885 : True := trivial
theorem top.tw14796646475526232899 : True := trivial
theorem top.tw5245862010334584759 : True := trivial
theorem top.tw105208000716104510 : True := trivial
theorem top.tw6491118196486620199 : True := trivial
theorem top.tw1492452104121835379 : True := trivial
theorem top.tw6265701101103706036 : True := trivial
theorem top.tw15601082681043720434 : True := trivial
theorem top.tw6859976401760118174 : True := trivial
theorem top.tw3696473221133414273 : True := trivial
theorem top.tw10341860258655708415 : True := trivial
theorem top.tw11466170419677230873 : True := trivial
theorem top.tw17470836177267949868 : True := trivial
theorem top.tw10956490626425055710 : True := trivial
theorem top.tw4498253355057717688 : True := trivial
theorem top.tw1139600151236580504 : True := trivial
theorem top.tw15095372191486117680 : True := trivial
theorem top.tw8025738503920905074 : True := trivial
theorem top.tw13983857475226248213 : True := trivial
theorem top.tw13303987763403120937 : True := trivial
theorem top.tw4656760416396458745 : True := trivial
theorem top.tw13889484949932952446 : True := trivial
theorem top.tw18371284783138465269 : True := trivial
theorem top.tw3033800919411463730 : True := trivial
theorem top.tw8892184565913893157 : True := trivial
theorem top.tw4656485037274611717 : True := trivial
theorem top.tw6042063481754889096 : True := trivial
theorem top.tw16196420915677631385 : True := trivial
theorem top.tw5983031951866500094 : True := trivial
theorem top.tw10574840078274726829 : True := trivial
theorem top.tw16273406610938067001 : True := trivial
theorem top.tw8107277231737898597 : True := trivial
theorem top.tw17315540178315561739 : True := trivial
theorem top.tw12105128591322288922 : True := trivial
theorem top.tw8281120267493503204 : True := trivial
theorem top.tw12535971307161669396 : True := trivial
theorem top.tw3337584539547039419 : True := trivial
theorem top.tw12643491718579748851 : True := trivial
theorem top.tw6572447435987645144 : True := trivial
theorem top.tw1047907039808853306 : True := trivial
theorem top.tw6898770573198911631 : True := trivial
theorem top.tw4299629679881509495 : True := trivial
theorem top.tw15860264024139754761 : True := trivial
theorem top.tw9919435345466941130 : True := trivial
theorem top.tw17089494485692210459 : True := trivial
theorem top.tw12166907935582030026 : True := trivial
theorem top.tw16054190913257422852 : True := trivial
theorem top.tw12540527436937284434 : True := trivial
theorem top.tw14502225709538309166 : True := trivial
theorem top.tw7063965047294614053 : True := trivial
theorem top.tw12317137736924338119 : True := trivial
theorem top.tw1245559373397905713 : True := trivial
theorem top.tw12376051458212225564 : True := trivial
theorem top.tw16420938139371093754 : True := trivial
theorem top.tw10996937224433265937 : True := trivial
theorem top.tw6674990990233134667 : True := trivial
theorem top.tw6883741973766446791 : True := trivial
theorem top.tw6973401727384321114 : True := trivial
theorem top.tw18186074749648716422 : True := trivial
theorem top.tw14747140909534839006 : True := trivial
theorem top.tw1655259298481077034 : True := trivial
theorem top.tw8657480035899644758 : True := trivial
theorem top.tw6124053682588569230 : True := trivial
theorem top.tw3636811831100275137 : True := trivial
theorem top.tw788273225186049534 : True := trivial
theorem top.tw12318557346453588183 : True := trivial
theorem top.tw16325430554902658873 : True := trivial
theorem top.tw2555065506035805374 : True := trivial
theorem top.tw11199710921928265848 : True := trivial
theorem top.tw2443449257678562572 : True := trivial
theorem top.tw4134505453457115739 : True := trivial
theorem top.tw11443710868159068359 : True := trivial
theorem top.tw14987219478266130788 : True := trivial
theorem top.tw7715697345341360870 : True := trivial
theorem top.tw9739860059890490050 : True := trivial
theorem top.tw10005945817407372193 : True := trivial
theorem top.tw8043003576528973991 : True := trivial
theorem top.tw2867133514656366558 : True := trivial
theorem top.tw16800595933775061595 : True := trivial
theorem top.tw5938664839603501006 : True := trivial
theorem top.tw6176384092110617959 : True := trivial
theorem top.tw3969286963782609292 : True := trivial
theorem top.tw7297446738713254254 : True := trivial
theorem top.tw1833847959688406909 : True := trivial
theorem top.tw9165953624949470791 : True := trivial
theorem top.tw16104615914030681952 : True := trivial
theorem top.tw15299407806266782574 : True := trivial
theorem top.tw9178861053002065721 : True := trivial
theorem top.tw17492772389151264855 : True := trivial
theorem top.tw814325599930780420 : True := trivial
theorem top.tw14597223018079223185 : True := trivial
theorem top.tw9631074621892390191 : True := trivial
theorem top.tw2878843996050045342 : True := trivial
theorem top.tw9361663168868926718 : True := trivial
theorem top.tw2907113945770861938 : True := trivial
theorem top.tw10665585003947065092 : True := trivial
theorem top.tw297971269722091814 : True := trivial
theorem top.tw4205137553216949640 : True := trivial
theorem top.tw1601500998369573665 : True := trivial
theorem top.tw956942650209027819 : True := trivial
theorem top.tw10079171474624433434 : True := trivial
theorem top.tw9590735534726013551 : True := trivial
theorem top.tw7897771034784582233 : True := trivial
theorem top.tw12958664272152378060 : True := trivial
theorem top.tw8363718466572441477 : True := trivial
theorem top.tw12787338502077490372 : True := trivial
theorem top.tw12718909917080609646 : True := trivial
theorem top.tw8523463495250067690 : True := trivial
theorem top.tw10187724287525710026 : True := trivial
theorem top.tw15169761463676818070 : True := trivial
theorem top.tw12094960947251128927 : True := trivial
theorem top.tw11845233108574324481 : True := trivial
theorem top.tw427420600052151026 : True := trivial
theorem top.tw594810645892935528 : True := trivial
theorem top.tw16044733080236030384 : True := trivial
theorem top.tw10617020205504526918 : True := trivial
theorem top.tw6196800358849779857 : True := trivial
theorem top.tw4699463449715708850 : True := trivial
theorem top.tw17555251805378815213 : True := trivial
theorem top.tw14537839394382259888 : True := trivial
theorem top.tw4784893810139332661 : True := trivial
theorem top.tw14657780768301432306 : True := trivial
theorem top.tw10864713392326063847 : True := trivial
theorem top.tw8507776931139520737 : True := trivial
theorem top.tw10648311167861321448 : True := trivial
theorem top.tw9589608677651300831 : True := trivial
theorem top.tw1483126911874232274 : True := trivial
theorem top.tw11203750815551599093 : True := trivial
theorem top.tw370947364307004932 : True := trivial
theorem top.tw3002795768020413707 : True := trivial
theorem top.tw17072921774324240998 : True := trivial
theorem top.tw987869383939708018 : True := trivial
theorem top.tw15918733279669447828 : True := trivial
theorem top.tw12958502747184954254 : True := trivial
theorem top.tw3712731000106771831 : True := trivial
theorem top.tw795583310449317561 : True := trivial
theorem top.tw9229161468869434483 : True := trivial
theorem top.tw1400011881503588481 : True := trivial
theorem top.tw5889316905344633881 : True := trivial
theorem top.tw18245740138792012028 : True := trivial
theorem top.tw13012589842206080548 : True := trivial
theorem top.tw11542710104232473196 : True := trivial
theorem top.tw8107780213005350392 : True := trivial
theorem top.tw8443935842833279946 : True := trivial
theorem top.tw9503340733035011235 : True := trivial
theorem top.tw2741389259953327712 : True := trivial
theorem top.tw16597617366809209970 : True := trivial
theorem top.tw8874702517807110003 : True := trivial
theorem top.tw16204670001084760307 : True := trivial
theorem top.tw339143206060000330 : True := trivial
theorem top.tw13889309363888878346 : True := trivial
theorem top.tw685057307414190753 : True := trivial
theorem top.tw4166218997396506358 : True := trivial
theorem top.tw14697636140705633519 : True := trivial
theorem top.tw7458633546980236471 : True := trivial
theorem top.tw14390669486469195807 : True := trivial
theorem top.tw887695700811335699 : True := trivial
theorem top.tw16550210197400561554 : True := trivial
theorem top.tw9272544492142499777 : True := trivial
theorem top.tw9843447840031818808 : True := trivial
theorem top.tw1142415686869020238 : True := trivial
theorem top.tw10448899703829047738 : True := trivial
theorem top.tw14611434983143301774 : True := trivial
theorem top.tw2683898200743741643 : True := trivial
theorem top.tw10187264123177260123 : True := trivial
theorem top.tw196536941598035525 : True := trivial
theorem top.tw5523086135645875356 : True := trivial
theorem top.tw2405475915293451298 : True := trivial
theorem top.tw12385144161495827662 : True := trivial
theorem top.tw4828031223510198475 : True := trivial
theorem top.tw9953747333497923681 : True := trivial
theorem top.tw517144808224063464 : True := trivial
theorem top.tw14762295962024373759 : True := trivial
theorem top.tw3855276242980373810 : True := trivial
theorem top.tw11334415319851112604 : True := trivial
theorem top.tw14615657086365298920 : True := trivial
theorem top.tw13160728816969591200 : True := trivial
theorem top.tw2007660962349395123 : True := trivial
theorem top.tw2988451766255067171 : True := trivial
theorem top.tw16713831800681072344 : True := trivial
theorem top.tw12545222027267286695 : True := trivial
theorem top.tw944164533710043270 : True := trivial
theorem top.tw17219337458794519322 : True := trivial
theorem top.tw575894324575664597 : True := trivial
theorem top.tw11334203419191126389 : True := trivial
theorem top.tw15362295582089109014 : True := trivial
theorem top.tw13068111086705522682 : True := trivial
theorem top.tw5868845118606482295 : True := trivial
theorem top.tw14861896470697024400 : True := trivial
theorem top.tw7386116660499605909 : True := trivial
theorem top.tw1291508964198565346 : True := trivial
theorem top.tw13706816188851595723 : True := trivial
theorem top.tw2758071753971750899 : True := trivial
theorem top.tw14372152842798730730 : True := trivial
theorem top.tw7204493036743257322 : True := trivial
theorem top.tw864819663365544661 : True := trivial
theorem top.tw3776753064480771068 : True := trivial
theorem top.tw1706793611546318481 : True := trivial
theorem top.tw76412952228603488 : True := trivial
theorem top.tw81815255157605957 : True := trivial
theorem top.tw6761616313442571491 : True := trivial
theorem top.tw17177869089781658578 : True := trivial
theorem top.tw9166809390415177425 : True := trivial
theorem top.tw10987319290404115282 : True := trivial
theorem top.tw4571971715460732019 : True := trivial
theorem top.tw9962302188120564619 : True := trivial
theorem top.tw8973803690348224638 : True := trivial
theorem top.tw17781115878593249900 : True := trivial
theorem top.tw15569959144833144457 : True := trivial
theorem top.tw8081035079830580301 : True := trivial
theorem top.tw4321519831107876412 : True := trivial
theorem top.tw9768079942903668216 : True := trivial
theorem top.tw6495677840255480795 : True := trivial
theorem top.tw6370870915552960936 : True := trivial
theorem top.tw9108098604805947806 : True := trivial
theorem top.tw9951221954081769418 : True := trivial
theorem top.tw2699391937584445575 : True := trivial
theorem top.tw16821654228018055803 : True := trivial
theorem top.tw12256363837256957063 : True := trivial
theorem top.tw3474246075231452896 : True := trivial
theorem top.tw13326734554550294991 : True := trivial
theorem top.tw13091174067606910046 : True := trivial
theorem top.tw8345894832289464959 : True := trivial
theorem top.tw4177254973167742082 : True := trivial
theorem top.tw672699306608606093 : True := trivial
theorem top.tw10657950659306570408 : True := trivial
theorem top.tw14533951869480809633 : True := trivial
theorem top.tw8143265674769528471 : True := trivial
theorem top.tw2369445192022557226 : True := trivial
set_option Elab.async true
set_option maxRecDepth 100000 in
set_option maxHeartbeats 80000000 in
theorem top : PySem.Challenge.rw_pc0106_01.Holds := by
  (w_on; o_law; k_head; (case hw => w_witness2))
  intro w s₀ s₁ mg mb G Y fa o pm cd doc dV kV ho hd hcd hD hmg hg args vals as hpre hlay hrd hwl hlo
  have KX := kIn_of Y
  have KO : KOk w.params (fragOf KX) := by constructor <;> first | kernel_rfl | (intro S a; kernel_rfl)
  refine Ground.open G ?_
  intro T B D TE TW
  wrow_args hpre hlay hrd hwl hlo
  refine enter_call ?_
  have hfa : fa = 542 := by
    have h := mg_of KX (Top.g T) KO.law
    have h2 : some (Value.ref fa) = some (Value.ref 542) := hmg.symm.trans h
    injection h2 with h2
    injection h2
  subst hfa
  rename_i script _ _ _ _ _ _ _ la vs _ hL _ _ _ hI _ hlen _
  let c : Cx := ⟨PySem.Challenge.rw_pc0106_01.row.prog, w, fragOf KX, s₁.heap, mg, mb, _, _, s₁.gens, s₁.os, KX, topRead_of T, [118, 123], lits KO⟩
  have H : Chk c (GTof c.K) := chk_all (c := c) KO rfl
  obtain ⟨o', fd, q1, q2, q3, q4⟩ := get_98 KO
  refine codeAny_mono (walk_end (c := c) H (fun σ Q q => diags_new H q1 q2 q3 (fun s a X => ⟨_, kp_binds X fun S => q4 S a⟩) q) (A := callerA) ⟨rfl, by decide, by decide⟩ rfl rfl rfl hL hI (by omega)) fun r s' z => ?_
  obtain ⟨rfl, z1, z2, z3⟩ := z
  exact GoodW.toG ⟨.inl ⟨_, .bool true, [], rfl, fun _ => rfl, .bool true, postW_of (by wrow_shape) (by wtm_val) (by first | rfl | decide), fun _ => ⟨List.nodup_nil, fun _ h => nomatch h⟩⟩, z1, z2, z3.trans hg⟩
end Mine
end
theorem PySem.Challenge.cw_pc0106_01_holds : PySem.Challenge.rw_pc0106_01.Holds :=
  Mine.top
