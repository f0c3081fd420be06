import PyProof.Rows.All
import Wide.All
import OpenK.AllK
import Wide.FinOn
import PySem.Challenge.RW_sa0095_01
open PySem PySem.W PyProof.Rows PySem.Calls
set_option Elab.async false
set_option maxRecDepth 100000
set_option maxHeartbeats 8000000
namespace Mine
local macro_rules | `(tactic| walk_at $s:str) => `(tactic| k_extra $s)
local macro_rules | `(tactic| ktr_rel) => `(tactic| k_extra "ktr_rel")
local macro_rules | `(tactic| lcg_sub) => `(tactic| k_extra "lcg_sub")
local macro_rules | `(tactic| lcg_off) => `(tactic| k_extra "lcg_off")
open_top hd for PySem.Challenge.rw_sa0095_01
section
abbrev Led := List (Addr × Obj)
/-- what is made lies apart from what stood -/
def Abv (tl news : Led) : Prop := ∀ q ∈ news, ∀ p ∈ tl, q.1 ≠ p.1
theorem Abv.nil {news : Led} : Abv [] news := fun _ _ _ h => nomatch h
theorem Abv.cons {a : Addr} {o : Obj} {tl news : Led} (h : ∀ p ∈ tl ++ news, p.1 < a) (k : Abv tl news) : Abv ((a, o) :: tl) news := by
  intro q hq p hp
  rcases List.mem_cons.mp hp with rfl | hp
  · exact Nat.ne_of_lt (h q (List.mem_append_right _ hq))
  · exact k q hq p hp
theorem Abv.cons' {a : Addr} {o : Obj} {tl news : Led} (h : ∀ p ∈ tl ++ news, p.1 ≠ a) (k : Abv tl news) : Abv ((a, o) :: tl) news := by
  intro q hq p hp
  rcases List.mem_cons.mp hp with rfl | hp
  · exact h q (List.mem_append_right _ hq)
  · exact k q hq p hp
theorem Abv.app {tl tl' news : Led} (h : Abv tl' (tl ++ news)) (k : Abv tl news) : Abv (tl' ++ tl) news := by
  intro q hq p hp
  rcases List.mem_append.mp hp with hp | hp
  · exact h q (List.mem_append_right _ hq) p hp
  · exact k q hq p hp
/-- a frame's names -/
def fm : List (Str × Value) → Str → Option Value
  | [], _ => none
  | (k, v) :: r, y => if y = k then some v else fm r y
theorem fm_lookup : ∀ (bs : List (Str × Value)), (fun y => bs.lookup y) = fm bs
  | [] => rfl
  | (k, v) :: r => by
    funext y
    have ih := congrFun (fm_lookup r) y
    simp only [fm, List.lookup_cons]
    by_cases h : y = k
    · subst h; simp
    · rw [if_neg h, ← ih]
      have : (y == k) = false := by simpa using h
      rw [this]
/-- some names of a frame are known -/
def fmo : List (Str × Value) → (Str → Option Value) → Str → Option Value
  | [], m, y => m y
  | (k, v) :: r, m, y => if y = k then some v else fmo r m y
theorem fmo_known {m : Str → Option Value} : ∀ {bs : List (Str × Value)}, (∀ p ∈ bs, m p.1 = some p.2) → fmo bs m = m
  | [], _ => rfl
  | (k, v) :: r, h => by
    funext y
    have ih := congrFun (fmo_known (m := m) (bs := r) fun p hp => h p (.tail _ hp)) y
    simp only [fmo]
    by_cases e : y = k
    · subst e; rw [if_pos rfl]; exact (h (y, v) (.head _)).symm
    · rw [if_neg e]; exact ih
theorem fr_known1 {g h : Heap} {L : Addr} {m : Str → Option Value} {k1 : Str} {v1 : Value} (h1 : m k1 = some v1) (F : Fr g L h m) : Fr g L h (fmo [(k1, v1)] m) := by
  rw [fmo_known]
  · exact F
  · simp [h1]
theorem fr_known2 {g h : Heap} {L : Addr} {m : Str → Option Value} {k1 k2 : Str} {v1 v2 : Value} (h1 : m k1 = some v1) (h2 : m k2 = some v2) (F : Fr g L h m) : Fr g L h (fmo [(k1, v1), (k2, v2)] m) := by
  rw [fmo_known]
  · exact F
  · simp [h1, h2]
theorem fr_known3 {g h : Heap} {L : Addr} {m : Str → Option Value} {k1 k2 k3 : Str} {v1 v2 v3 : Value} (h1 : m k1 = some v1) (h2 : m k2 = some v2) (h3 : m k3 = some v3) (F : Fr g L h m) : Fr g L h (fmo [(k1, v1), (k2, v2), (k3, v3)] m) := by
  rw [fmo_known]
  · exact F
  · simp [h1, h2, h3]
theorem fr_known4 {g h : Heap} {L : Addr} {m : Str → Option Value} {k1 k2 k3 k4 : Str} {v1 v2 v3 v4 : Value} (h1 : m k1 = some v1) (h2 : m k2 = some v2) (h3 : m k3 = some v3) (h4 : m k4 = some v4) (F : Fr g L h m) : Fr g L h (fmo [(k1, v1), (k2, v2), (k3, v3), (k4, v4)] m) := by
  rw [fmo_known]
  · exact F
  · simp [h1, h2, h3, h4]
theorem fr_known5 {g h : Heap} {L : Addr} {m : Str → Option Value} {k1 k2 k3 k4 k5 : Str} {v1 v2 v3 v4 v5 : Value} (h1 : m k1 = some v1) (h2 : m k2 = some v2) (h3 : m k3 = some v3) (h4 : m k4 = some v4) (h5 : m k5 = some v5) (F : Fr g L h m) : Fr g L h (fmo [(k1, v1), (k2, v2), (k3, v3), (k4, v4), (k5, v5)] m) := by
  rw [fmo_known]
  · exact F
  · simp [h1, h2, h3, h4, h5]
/-- the contract of a def: it ends, it hands back r, it changes nothing that stood, what it made lies above what stood -/
def Does (w : World) (p : Program) (loose : List Str) (mean : ExcName → Option Value) (mg mb : Str → Option Value) (dep uns : Nat) (f : Addr) (vs : List Value) (news : Led) (Post : Led → Value → Prop) : Prop :=
  ∀ (dp un : Nat) (gd : Option (List Code)) (cn : Str) (cs : Scope) (a : Addr) (ccd : Value) (cl : List (Str × Addr)) (outer : List Env) (A₀ : Around) (base h₀ : Heap) (L : Addr) (m : Str → Option Value) (s : Shared) (Q E : Value → Shared → Prop),
    Below A₀ base outer h₀ → Fr h₀ L s.heap m → (Mine.hd.heap_39 w.params).In h₀ → News h₀ L s.heap news → Top p loose mean mg mb h₀ → cs.kind = .function → dp + dep < recursionLimit → un + uns < cLine →
    (∀ r tl h' tk', Fr h₀ L h' m → News h₀ L h' (tl ++ news) → Abv tl news → Post tl r → Q r { s with heap := h', toks := tk' }) →
    wpAny (model PySem.Challenge.rw_sa0095_01.row.prog w) (ktrTop dp un gd cn cs L a ccd cl outer) (call (.ref f) vs) Q E s
/-- the contract of a body -/
def Runs (w : World) (p : Program) (loose : List Str) (mean : ExcName → Option Value) (mg mb : Str → Option Value) (dep uns : Nat) (qual : Str) (scope : Scope) (f : Addr) (cdv : Value) (body : List Stmt) (bs : List (Str × Value)) (news : Led) (Post : Led → Value → Prop) : Prop :=
  ∀ (dp un : Nat) (gd : Option (List Code)) (outer : List Env) (A₀ : Around) (base g : Heap) (L : Addr) (s : Shared) (Q E : Value → Shared → Prop),
    Below A₀ base outer g → Fr g L s.heap (fm bs) → (Mine.hd.heap_39 w.params).In g → News g L s.heap news → Top p loose mean mg mb g → dp + dep < recursionLimit → un + uns < cLine →
    PassesOwn (model PySem.Challenge.rw_sa0095_01.row.prog w) (ktrTop dp un gd qual scope L f cdv [] outer) (envX qual scope L f cdv []) E →
    (∀ r tl h' tk' m', Fr g L h' m' → News g L h' (tl ++ news) → Abv tl news → Post tl r → Q r { s with heap := h', toks := tk' }) →
    wpAny (model PySem.Challenge.rw_sa0095_01.row.prog w) (ktrTop dp un gd qual scope L f cdv [] outer) (execs body (envX qual scope L f cdv []))
      (fun fl s' => Q (match fl with | .ret v => v | _ => .none) s') E s
/-- the post is put out of sight for the length of a walk -/
theorem hideQ {α : Type} {M : Model} {A : Around} {t : Sem α} {Q : α → Shared → Prop} {E : Value → Shared → Prop} {s : Shared} (h : ∀ R : α → Shared → Prop, (∀ a s', Q a s' → R a s') → wpAny M A t R E s) : wpAny M A t Q E s := h Q fun _ _ q => q
theorem hideQE {α : Type} {M : Model} {A : Around} {t : Sem α} {Q : α → Shared → Prop} {E : Value → Shared → Prop} {s : Shared} (h : ∀ (R : α → Shared → Prop) (E' : Value → Shared → Prop), (∀ a s', Q a s' → R a s') → (∀ e s', E e s' → E' e s') → wpAny M A t R E' s) : wpAny M A t Q E s := h Q E (fun _ _ q => q) fun _ _ q => q
theorem hideQ2 {α β : Type} {M : Model} {A A₂ : Around} {t : Sem α} {c : α → Sem β} {Q : β → Shared → Prop} {E E₂ : Value → Shared → Prop} {s : Shared} (h : ∀ R : β → Shared → Prop, (∀ a s', Q a s' → R a s') → wpAny M A t (fun a s₂ => wpAny M A₂ (c a) R E₂ s₂) E s) : wpAny M A t (fun a s₂ => wpAny M A₂ (c a) Q E₂ s₂) E s := h Q fun _ _ q => q
theorem sub_app {α : Type} {T a b : List α} (h : ∀ p ∈ T, p ∈ b) : ∀ p ∈ T, p ∈ a ++ b := fun p hp => List.mem_append_right _ (h p hp)
theorem sub_cons {α : Type} {T b : List α} {x : α} (h : ∀ p ∈ T, p ∈ b) : ∀ p ∈ T, p ∈ x :: b := fun p hp => List.mem_cons_of_mem _ (h p hp)
theorem room {a b c n : Nat} (h : a + b < n) (k : c ≤ b) : a + c < n := Nat.lt_of_le_of_lt (Nat.add_le_add_left k a) h
theorem tn_sub (n i : Nat) : ((n : Int) - (i : Int)).toNat = n - i := Int.toNat_sub n i
theorem tn_sub1 (i j : Nat) : ((i : Int) - (1 + (j : Int))).toNat = i - (j + 1) := by rw [Int.add_comm 1]; exact Int.toNat_sub i (j + 1)
theorem tn_sub2 (n : Nat) : ((n : Int) - 2).toNat = n - 2 := Int.toNat_sub n 2
theorem tn_one (i : Nat) : (1 + (i : Int) - 1).toNat = i := by rw [Int.add_comm 1, Int.add_sub_cancel, Int.toNat_natCast]
theorem tn_add1 (i : Nat) : (1 + (i : Int)).toNat = i + 1 := by rw [Int.add_comm 1]; exact Int.toNat_natCast (i + 1)
theorem tn_add (i j : Nat) : ((i : Int) + (j : Int)).toNat = i + j := Int.toNat_natCast (i + j)
theorem tn_both (a b : Nat) : ((a : Int) + (b : Int) - 1).toNat = a + b - 1 := Int.toNat_sub (a + b) 1
theorem tn_pred (n : Nat) : (((n : Int) - 1).toNat : Int) = ((n - 1 : Nat) : Int) := congrArg (fun k : Nat => (k : Int)) (Int.toNat_sub n 1)
theorem nat64 {i : Nat} (h : i ≤ 1000) : (i : Int).natAbs < 2 ^ 64 := Nat.lt_of_le_of_lt h (by decide)
theorem nat64s {i n : Nat} (h : i < n - 1) (k : n ≤ 1000) : (1 + (i : Int)).natAbs < 2 ^ 64 := by
  rw [Int.add_comm 1]
  exact Nat.lt_of_le_of_lt (Nat.le_trans h (Nat.le_trans (Nat.sub_le _ _) k)) (by decide)
theorem idx_nat {i j a b : Nat} (h : i < a) (k : j < b) : i + j < a + b - 1 := by omega
theorem idx_lt {i j a b : Nat} (h : i < a) (k : j < b) : (i : Int) + (j : Int) < ((a + b - 1 : Nat) : Int) := Int.ofNat_lt.mpr (idx_nat h k)
theorem idx_s {i n : Nat} (h : i < n - 1) : 1 + (i : Int) < (n : Int) := by
  rw [Int.add_comm 1]
  exact Int.ofNat_lt.mpr (Nat.add_lt_of_lt_sub h)
theorem if_min (q r : Nat) : (if (r : Int) < (q : Int) then (r : Int) else (q : Int)) = ((min q r : Nat) : Int) := by
  by_cases h : r < q
  · rw [if_pos (Int.ofNat_lt.mpr h), Nat.min_eq_right (Nat.le_of_lt h)]
  · rw [if_neg (fun k => h (Int.ofNat_lt.mp k)), Nat.min_eq_left (Nat.not_lt.mp h)]
theorem if_min' (q r : Nat) : (((if (r : Int) < (q : Int) then (r : Int) else (q : Int)) - 0).toNat : Int) = ((min q r : Nat) : Int) := by rw [if_min, Int.sub_zero, Int.toNat_natCast]
theorem if_max (q r : Nat) : (((if (r : Int) > (q : Int) then (r : Int) else (q : Int)) - 0).toNat : Int) = ((max q r : Nat) : Int) := by
  by_cases h : q < r
  · rw [if_pos (Int.ofNat_lt.mpr h), Nat.max_eq_right (Nat.le_of_lt h), Int.sub_zero, Int.toNat_natCast]
  · rw [if_neg (fun k => h (Int.ofNat_lt.mp k)), Nat.max_eq_left (Nat.not_lt.mp h), Int.sub_zero, Int.toNat_natCast]
theorem lt_max_elim {i a b : Nat} (h : i < max a b) (x : ¬ (i : Int) < (a : Int)) (y : ¬ (i : Int) < (b : Int)) : False :=
  absurd h (Nat.not_lt.mpr (Nat.max_le.mpr ⟨Nat.not_lt.mp fun k => x (Int.ofNat_lt.mpr k), Nat.not_lt.mp fun k => y (Int.ofNat_lt.mpr k)⟩))
theorem int_lt_of {i n : Nat} (h : 1 + i < n - 1) : 1 + (i : Int) < (n : Int) - 1 := by omega
theorem int_nlt_of {i n : Nat} (h : ¬ 1 + i < n - 1) (k : 2 ≤ n) : ¬ 1 + (i : Int) < (n : Int) - 1 := by omega
theorem lt1000 {i n m : Nat} (e : m = i + 1) (h : i < n - 1) (k : n ≤ 1000) : m < 1000 := Nat.lt_of_le_of_lt (Nat.le_of_eq e) (Nat.lt_of_lt_of_le (Nat.add_lt_of_lt_sub h) k)
theorem nat_of {j : Int} (h : 0 ≤ j) : ∃ i : Nat, j = (i : Int) := Int.eq_ofNat_of_zero_le h
theorem min_self3 {n r : Nat} (h : n ≤ r) : min n (min n r) = n := by rw [Nat.min_eq_left h, Nat.min_self]
theorem dep_in {d a n : Nat} (k : d + (a + 1) < n) : d + 1 + a < n := by rwa [Nat.add_assoc, Nat.add_comm 1]
theorem uns_in {d a n : Nat} (k : d + (a + 3) < n) : d + 3 + a < n := by rwa [Nat.add_assoc, Nat.add_comm 3]
theorem dep_lt {d a n : Nat} (k : d + a < n) : d < n := Nat.lt_of_le_of_lt (Nat.le_add_right _ _) k
theorem three_four {j : Int} (h0 : 0 ≤ j) (h1 : j < 2) : ∃ n : Nat, (n = 3 ∨ n = 4) ∧ 3 + j = (n : Int) := by
  obtain ⟨i, rfl⟩ := Int.eq_ofNat_of_zero_le h0
  match i, Int.ofNat_lt.mp h1 with
  | 0, _ => exact ⟨3, .inl rfl, rfl⟩
  | 1, _ => exact ⟨4, .inr rfl, rfl⟩
theorem ge2 {n : Nat} (h : n = 3 ∨ n = 4) : 2 ≤ n := h.elim (fun e => Nat.le_trans (by decide) (Nat.le_of_eq e.symm)) fun e => Nat.le_trans (by decide) (Nat.le_of_eq e.symm)
theorem le1000 {n : Nat} (h : n = 3 ∨ n = 4) : n ≤ 1000 := h.elim (fun e => Nat.le_trans (Nat.le_of_eq e) (by decide)) fun e => Nat.le_trans (Nat.le_of_eq e) (by decide)
theorem succ_of {n : Nat} (h : 0 < (n : Int)) : ∃ k, n = k + 1 := ⟨n - 1, (Nat.succ_pred_eq_of_pos (Int.ofNat_lt.mp h)).symm⟩
/-- facts are taken apart in one step -/
theorem ex1 {α : Sort u} {p : α → Prop} {P : Prop} (h : ∃ x, p x) (k : ∀ x, p x → P) : P := let ⟨x, y⟩ := h; k x y
theorem ex2 {α : Sort u} {β : Sort v} {p : α → β → Prop} {P : Prop} (h : ∃ x y, p x y) (k : ∀ x y, p x y → P) : P := let ⟨x, y, z⟩ := h; k x y z
theorem ex3 {α : Sort u} {β : Sort v} {γ : Sort t} {p : α → β → γ → Prop} {P : Prop} (h : ∃ x y z, p x y z) (k : ∀ x y z, p x y z → P) : P := let ⟨x, y, z, u⟩ := h; k x y z u
theorem ex4 {α β γ δ : Type} {p : α → β → γ → δ → Prop} {P : Prop} (h : ∃ x y z u, p x y z u) (k : ∀ x y z u, p x y z u → P) : P := let ⟨x, y, z, u, v⟩ := h; k x y z u v
theorem ex5 {α β γ δ ε : Type} {p : α → β → γ → δ → ε → Prop} {P : Prop} (h : ∃ x y z u v, p x y z u v) (k : ∀ x y z u v, p x y z u v → P) : P := let ⟨x, y, z, u, v, w⟩ := h; k x y z u v w
theorem ex6 {α β γ δ ε ζ : Type} {p : α → β → γ → δ → ε → ζ → Prop} {P : Prop} (h : ∃ x y z u v w, p x y z u v w) (k : ∀ x y z u v w, p x y z u v w → P) : P := let ⟨x, y, z, u, v, w, t⟩ := h; k x y z u v w t
theorem ex8 {α β γ δ ε ζ η θ : Type} {p : α → β → γ → δ → ε → ζ → η → θ → Prop} {P : Prop} (h : ∃ x y z u v w a b, p x y z u v w a b) (k : ∀ x y z u v w a b, p x y z u v w a b → P) : P := let ⟨x, y, z, u, v, w, a, b, t⟩ := h; k x y z u v w a b t
theorem and2 {a b P : Prop} (h : a ∧ b) (k : a → b → P) : P := k h.1 h.2
theorem and3 {a b c P : Prop} (h : a ∧ b ∧ c) (k : a → b → c → P) : P := and2 h.2 (k h.1)
theorem and4 {a b c d P : Prop} (h : a ∧ b ∧ c ∧ d) (k : a → b → c → d → P) : P := and3 h.2 (k h.1)
theorem and5 {a b c d e P : Prop} (h : a ∧ b ∧ c ∧ d ∧ e) (k : a → b → c → d → e → P) : P := and4 h.2 (k h.1)
theorem and6 {a b c d e f P : Prop} (h : a ∧ b ∧ c ∧ d ∧ e ∧ f) (k : a → b → c → d → e → f → P) : P := and5 h.2 (k h.1)
theorem and7 {a b c d e f g P : Prop} (h : a ∧ b ∧ c ∧ d ∧ e ∧ f ∧ g) (k : a → b → c → d → e → f → g → P) : P := and6 h.2 (k h.1)
theorem and8 {a b c d e f g i P : Prop} (h : a ∧ b ∧ c ∧ d ∧ e ∧ f ∧ g ∧ i) (k : a → b → c → d → e → f → g → i → P) : P := and7 h.2 (k h.1)
theorem and9 {a b c d e f g i j P : Prop} (h : a ∧ b ∧ c ∧ d ∧ e ∧ f ∧ g ∧ i ∧ j) (k : a → b → c → d → e → f → g → i → j → P) : P := and8 h.2 (k h.1)
theorem and10 {a b c d e f g i j l P : Prop} (h : a ∧ b ∧ c ∧ d ∧ e ∧ f ∧ g ∧ i ∧ j ∧ l) (k : a → b → c → d → e → f → g → i → j → l → P) : P := and9 h.2 (k h.1)
theorem and11 {a b c d e f g i j l m P : Prop} (h : a ∧ b ∧ c ∧ d ∧ e ∧ f ∧ g ∧ i ∧ j ∧ l ∧ m) (k : a → b → c → d → e → f → g → i → j → l → m → P) : P := and10 h.2 (k h.1)
theorem does_of {w : World} {p : Program} {loose : List Str} {mean : ExcName → Option Value} {mg mb : Str → Option Value} {dep uns : Nat} {f : Addr} {vs : List Value} {news : Led} {Post : Led → Value → Prop}
    {name qual : Str} {params : Arguments} {body : List Stmt} {scope : Scope} {dV kV doc pm cdv ct oc : Value} {an od : Option Addr} {osl : Array (Option Value)} (binds : List (Str × Value))
    (ho : (Mine.hd.heap_39 w.params).lookup f = some ⟨oc, od, .func (fnOf name qual params body scope dV kV doc pm an cdv ct), osl⟩)
    (hcd : codeIn (Mine.hd.heap_39 w.params) cdv qual = true)
    (hbind : ∀ s, BindsTo s (fnOf name qual params body scope dV kV doc pm an cdv ct) ⟨vs, []⟩ binds)
    (hloc : ∀ y ∈ binds, scope.names.lookup y.1 = some .local)
    (hco : scope.isCoroutine = false) (hgen : scope.isGenerator = false) (hk : scope.kind = .function) (hcell : ∀ x ∈ scope.names, x.2 ≠ .cell)
    (h : Runs w p loose mean mg mb dep uns qual scope f cdv body binds.reverse news Post) : Does w p loose mean mg mb (dep + 1) (uns + 3) f vs news Post := by
  intro dp un gd cn cs a ccd cl outer A₀ base h₀ L m s Q E B F X N T hcs hd hu hret
  refine wpAny_call (code_def B F X N T rfl rfl hcs ho hcd (dep_lt hd) (hbind s) hloc ?_ hco hgen hk hcell)
  intro g L' h₁ FG F₁ N₁ B₁ X₁ T₁
  have e : (fun y => binds.reverse.lookup y) = fm binds.reverse := fm_lookup _
  rw [e] at F₁
  refine h (dp + 1) (un + 3) gd (envX cn cs L a ccd cl :: outer) _ base g L' _ (fun v s' => LeaveK h₀ L m g _ v s') _ B₁ F₁ X₁ N₁ T₁ (dep_in hd) (uns_in hu) PassesOwn.leaving ?_
  intro r tl h' tk' m' F' N' ha hp
  exact ⟨L', m', tl ++ news, F', N', fun F₂ N₂ => hret r tl h' tk' F₂ N₂ ha hp⟩
theorem News.drop {h₀ h : Heap} {L : Addr} {q : Addr × Obj} {news : Led} (N : News h₀ L h (q :: news)) : News h₀ L h news := fun p hp => N p (.tail _ hp)
theorem News.sub {h₀ h : Heap} {L : Addr} {news news' : Led} (N : News h₀ L h news) (s : ∀ p ∈ news', p ∈ news) : News h₀ L h news' := fun p hp => N p (s p hp)
theorem fillIt : (Mine.hd.heap_39 = Mine.hd.heap_39) ∧ PySem.Challenge.rw_sa0095_01 = PySem.Challenge.rw_sa0095_01 := by
  k_fill
  exact ⟨rfl, rfl⟩
def Stop (P : Prop) : Prop := P
theorem stopHere {P : Prop} (h : Stop P) : P := h
end
section
theorem rat_pos {x y : Int} (h : 0 < y) : (Rat.divInt x y).num = x.fdiv (Int.gcd x y) ∧ ((Rat.divInt x y).den : Int) = y.fdiv (Int.gcd x y) := by
  have hg : (0 : Int) ≤ (Int.gcd x y : Int) := Int.natCast_nonneg _
  rw [Int.fdiv_eq_ediv_of_nonneg _ hg, Int.fdiv_eq_ediv_of_nonneg _ hg]
  constructor
  · rw [Rat.num_divInt, Int.sign_eq_one_of_pos h, Int.one_mul, Int.gcd_comm]
  · rw [Rat.den_divInt, if_neg (by omega)]
    rw [Int.gcd_comm y x, Int.natCast_ediv, Int.natAbs_of_nonneg (by omega)]
theorem rat_neg {x y : Int} (h : y < 0) : (Rat.divInt x y).num = x.fdiv (0 - Int.gcd x y) ∧ ((Rat.divInt x y).den : Int) = y.fdiv (0 - Int.gcd x y) := by
  have d1 : (Int.gcd x y : Int) ∣ x := Int.gcd_dvd_left ..
  have d2 : (Int.gcd x y : Int) ∣ y := Int.gcd_dvd_right ..
  have e : (0 : Int) - (Int.gcd x y : Int) = -(Int.gcd x y : Int) := by omega
  rw [e]
  have f1 : x.fdiv (-(Int.gcd x y : Int)) = -(x / (Int.gcd x y : Int)) := by
    obtain ⟨k, hk⟩ := d1
    have hne : (Int.gcd x y : Int) ≠ 0 := by
      intro h0
      have := Int.gcd_eq_zero_iff.mp (Int.ofNat_inj.mp h0)
      omega
    generalize (Int.gcd x y : Int) = g at *
    subst hk
    rw [Int.mul_ediv_cancel_left _ hne]
    rw [show g * k = (-g) * (-k) by rw [Int.neg_mul_neg]]
    rw [Int.fdiv_eq_ediv_of_dvd (Int.dvd_mul_right _ _), Int.mul_ediv_cancel_left _ (by omega)]
  have f2 : y.fdiv (-(Int.gcd x y : Int)) = -(y / (Int.gcd x y : Int)) := by
    obtain ⟨k, hk⟩ := d2
    have hne : (Int.gcd x y : Int) ≠ 0 := by
      intro h0
      have := Int.gcd_eq_zero_iff.mp (Int.ofNat_inj.mp h0)
      omega
    generalize (Int.gcd x y : Int) = g at *
    subst hk
    rw [Int.mul_ediv_cancel_left _ hne]
    rw [show g * k = (-g) * (-k) by rw [Int.neg_mul_neg]]
    rw [Int.fdiv_eq_ediv_of_dvd (Int.dvd_mul_right _ _), Int.mul_ediv_cancel_left _ (by omega)]
  rw [f1, f2]
  constructor
  · rw [Rat.num_divInt, Int.sign_eq_neg_one_of_neg h, Int.gcd_comm y x]
    rw [show (-1 : Int) * x = -x by omega, Int.neg_ediv_of_dvd d1]
  · rw [Rat.den_divInt, if_neg (by omega), Int.gcd_comm y x]
    have : ((y.natAbs / Int.gcd x y : Nat) : Int) = (-y) / (Int.gcd x y : Int) := by
      rw [show -y = (y.natAbs : Int) by omega]; rfl
    rw [this, Int.neg_ediv_of_dvd d2]
theorem gcd_ne {x y : Int} (h : y ≠ 0) : ((Int.gcd x y : Nat) : Int) ≠ 0 := by
  intro h0
  have := Int.gcd_eq_zero_iff.mp (Int.ofNat_inj.mp h0)
  omega
theorem gcd_le' {x y : Int} (h : y ≠ 0) : Int.gcd x y ≤ y.natAbs := Nat.gcd_le_right _ (by omega)
theorem add_val (a b : Rat) : Rat.divInt (a.num * b.den + b.num * a.den) (a.den * b.den) = a + b := by
  rw [Rat.add_def', ← Int.natCast_mul, Rat.divInt_ofNat]
theorem sub_val (a b : Rat) : Rat.divInt (a.num * b.den - b.num * a.den) (a.den * b.den) = a - b := by
  rw [Rat.sub_def', ← Int.natCast_mul, Rat.divInt_ofNat]
theorem mul_val (a b : Rat) : Rat.divInt (a.num * b.num) (a.den * b.den) = a * b := by
  rw [Rat.mul_def', ← Int.natCast_mul, Rat.divInt_ofNat]
theorem div_val (a b : Rat) : Rat.divInt (a.num * b.den) (a.den * b.num) = a / b := by
  rw [Rat.div_def, Rat.inv_def, ← Rat.divInt_mul_divInt, Rat.num_divInt_den]
/-- a ratio at an address: in the written part or in the ledger -/
abbrev tupO (x y : Int) (t u : Tok) (n : Nat) : Obj := { cls := .type "tuple", data := .seq #[.int x t, .int y u] n }
def TupAt (w : World) (T : Led) (a : Addr) (q : Rat) : Prop := ∃ t u n, (Mine.hd.heap_39 w.params).lookup a = some (tupO q.num q.den t u n) ∨ (a, tupO q.num q.den t u n) ∈ T
theorem TupAt.mono {w : World} {T T' : Led} {a : Addr} {q : Rat} (h : TupAt w T a q) (s : ∀ p ∈ T, p ∈ T') : TupAt w T' a q := by
  obtain ⟨t, u, n, h | h⟩ := h
  · exact ⟨t, u, n, .inl h⟩
  · exact ⟨t, u, n, .inr (s _ h)⟩
theorem TupAt.new {w : World} {T : Led} {a : Addr} {q : Rat} {t u : Tok} {n : Nat} (h : (a, tupO q.num q.den t u n) ∈ T) : TupAt w T a q := ⟨t, u, n, .inr h⟩
theorem TupAt.tup {w : World} {T : Led} {a : Addr} {q : Rat} {g h : Heap} {L : Addr} {m : Str → Option Value} (x : TupAt w T a q) (F : Fr g L h m) (X : (Mine.hd.heap_39 w.params).In g) (N : News g L h T) :
    ∃ t u, IsTup h a [.int q.num t, .int q.den u].toArray := by
  obtain ⟨t, u, n, x | x⟩ := x
  · exact ⟨t, u, _, F.keep _ _ (X _ _ x), rfl, _, rfl⟩
  · exact ⟨t, u, _, N.get x, rfl, _, rfl⟩
theorem rat_item0 {w : World} {A : Around} {E : Value → Shared → Prop} {s : Shared} {T T' : Led} {a : Addr} {q : Rat} {g : Heap} {L : Addr} {m : Str → Option Value} {value slice : Expr} {u : Tok} {Q : Value → Shared → Prop}
    (x : TupAt w T a q) (F : Fr g L s.heap m) (X : (Mine.hd.heap_39 w.params).In g) (N : News g L s.heap T') (hs' : ∀ p ∈ T, p ∈ T') (h : ∀ t, Q (.int q.num t) s)
    (hs : subscripted slice false (.ref a) (.int 0 u) = operate [.ref a, .int 0 u] (getItem (.ref a) (.int 0 u)) := by with_unfolding_all rfl) :
    wpAny (model PySem.Challenge.rw_sa0095_01.row.prog w) A (subscriptTail value slice (.ref a) (.int 0 u)) Q E s := by
  obtain ⟨t, u', y⟩ := (x.mono hs').tup F X N
  exact item_tupleT y (by decide) (by decide) (j := 0) rfl rfl (h t) hs
theorem rat_item1 {w : World} {A : Around} {E : Value → Shared → Prop} {s : Shared} {T T' : Led} {a : Addr} {q : Rat} {g : Heap} {L : Addr} {m : Str → Option Value} {value slice : Expr} {u : Tok} {Q : Value → Shared → Prop}
    (x : TupAt w T a q) (F : Fr g L s.heap m) (X : (Mine.hd.heap_39 w.params).In g) (N : News g L s.heap T') (hs' : ∀ p ∈ T, p ∈ T') (h : ∀ t, Q (.int q.den t) s)
    (hs : subscripted slice false (.ref a) (.int 1 u) = operate [.ref a, .int 1 u] (getItem (.ref a) (.int 1 u)) := by with_unfolding_all rfl) :
    wpAny (model PySem.Challenge.rw_sa0095_01.row.prog w) A (subscriptTail value slice (.ref a) (.int 1 u)) Q E s := by
  obtain ⟨t, u', y⟩ := (x.mono hs').tup F X N
  exact item_tupleT y (by decide) (by decide) (j := 1) rfl rfl (h u') hs
theorem does_use {w : World} {p : Program} {loose : List Str} {mean : ExcName → Option Value} {mg mb : Str → Option Value} {dep uns : Nat} {f : Addr} {vs : List Value} {news : Led} {Post : Led → Value → Prop}
    {dp un : Nat} {gd : Option (List Code)} {cn : Str} {cs : Scope} {a : Addr} {ccd : Value} {cl : List (Str × Addr)} {outer : List Env} {A₀ : Around} {base h₀ : Heap} {L : Addr} {m : Str → Option Value} {s : Shared} {Q E : Value → Shared → Prop}
    (F : Fr h₀ L s.heap m) (N : News h₀ L s.heap news) (C : Does w p loose mean mg mb dep uns f vs news Post) (B : Below A₀ base outer h₀) (X : (Mine.hd.heap_39 w.params).In h₀) (T : Top p loose mean mg mb h₀) (hk : cs.kind = .function) (hd : dp + dep < recursionLimit) (hu : un + uns < cLine)
    (ret : ∀ r tl h' tk', Fr h₀ L h' m → News h₀ L h' (tl ++ news) → Abv tl news → Post tl r → Q r { s with heap := h', toks := tk' }) :
    wpAny (model PySem.Challenge.rw_sa0095_01.row.prog w) (ktrTop dp un gd cn cs L a ccd cl outer) (call (.ref f) vs) Q E s := C _ _ _ _ _ _ _ _ _ _ _ _ _ _ _ _ _ B F X N T hk hd hu ret
theorem rulesM2a : True := by
  k_with_none
  k_with "st" => (repeat' (first | (k_unfold; (try dsimp only)) | ((try dsimp only); walk1)))
  k_with "exec While Compare cons nil" => refine stopHere ?_
  k_with "ktr_rel" => first | exact fun _ h => h | exact List.forall_mem_nil _ | exact fun _ h => List.mem_append_right _ h | exact fun _ h => List.mem_cons_of_mem _ h | (refine sub_app ?_; ktr_rel; done) | (refine sub_cons ?_; ktr_rel; done) | (intro p hp; simp only [List.mem_append, List.mem_cons, hp, true_or, or_true])
  k_with "subscriptTail Name Constant ref int" => (k_here; k_dflt (first
      | ((fail_if_success fail_if_success (with_reducible show wpAny _ _ (subscriptTail _ _ (Value.ref _) (Value.int 0 _)) _ _ _)); refine' rat_item0 (by assumption) (by assumption) (by assumption) (by assumption) (by ktr_rel) ?_ ?_; rotate_left; (with_unfolding_all rfl); intro t'q)
      | ((fail_if_success fail_if_success (with_reducible show wpAny _ _ (subscriptTail _ _ (Value.ref _) (Value.int 1 _)) _ _ _)); refine' rat_item1 (by assumption) (by assumption) (by assumption) (by assumption) (by ktr_rel) ?_ ?_; rotate_left; (with_unfolding_all rfl); intro t'q)))
  exact True.intro
section
variable {w : World} {p : Program} {loose : List Str} {mean : ExcName → Option Value} {mg mb : Str → Option Value}
theorem gcd_step {a b : Int} (ha : 0 ≤ a) (hb : 0 ≤ b) (h : b ≠ 0) : 0 ≤ a.fmod b ∧ (a.fmod b).natAbs < b.natAbs ∧ Int.gcd b (a.fmod b) = Int.gcd a b := by
  have e : a.fmod b = a % b := Int.fmod_eq_emod_of_nonneg a hb
  rw [e]
  have h1 := Int.emod_nonneg a h
  have h2 := Int.emod_lt_of_pos a (by omega : 0 < b)
  refine ⟨h1, by omega, ?_⟩
  have h3 : (a % b).natAbs = a.natAbs % b.natAbs := by
    rw [Int.natAbs_emod_of_nonneg ha]
  show Nat.gcd b.natAbs (a % b).natAbs = Nat.gcd a.natAbs b.natAbs
  rw [h3, Nat.gcd_comm, ← Nat.gcd_rec, Nat.gcd_comm]
theorem gcd_does (x y : Int) (t u : Tok) (news : Led) : Does w p loose mean mg mb 1 8 41 [.int x t, .int y u] news (fun _ r => ∃ t', r = .int (Int.gcd x y) t') := by
  refine does_of (dep := 0) (uns := 5) [(Str.ofString "a", .int x t), (Str.ofString "b", .int y u)] (by k_is) (by k_is) (fun s => BindsTo.of_eq rfl) (locs rfl) rfl rfl rfl (by decide) ?_
  unfold Runs
  intro dp un gd outer A₀ base g L s Q E B F X N T hd hu hE hret
  k_fold
  k_steps
  rename Fr _ _ _ _ => F1
  rename News _ _ _ _ => N1
  unfold Stop
  refine While_inv (fun n m₁ nw => nw = news ∧ ∃ (a b : Int) (t u : Tok), m₁ (Str.ofString "a") = some (.int a t) ∧ m₁ (Str.ofString "b") = some (.int b u) ∧ n = b.natAbs ∧ 0 ≤ a ∧ 0 ≤ b ∧ Int.gcd a b = Int.gcd x y) F1 (News.drop N1) ⟨rfl, _, _, _, _, rfl, rfl, rfl, ?_, ?_, ?_⟩ ?_ hE
  · split <;> omega
  · split <;> omega
  · have e1 : (if x < 0 then -x else x) = (x.natAbs : Int) := by split <;> omega
    have e2 : (if y < 0 then -y else y) = (y.natAbs : Int) := by split <;> omega
    rw [e1, e2]
    simp [Int.gcd]
  · rintro n m₁ nw h₁ tk₁ F₁ N₁ hJ1
    refine and2 hJ1 fun hE2 hN3 => ?_
    clear hJ1
    subst hE2
    refine ex4 hN3 fun a b t u hC5 => and6 hC5 fun h1 h2 hE4 ha hb hg => ?_
    clear hC5
    subst hE4
    clear hN3
    replace F₁ := fr_known2 h1 h2 F₁
    clear F1 N1
    (try dsimp only)
    (try k_fold)
    k_steps
    all_goals (try dsimp only)
    · obtain ⟨g1, g2, g3⟩ := gcd_step ha hb (by assumption)
      exact WhileStep.intro (by assumption) (News.drop (by assumption)) g2 ⟨rfl, _, _, _, _, rfl, rfl, rfl, hb, g1, g3.trans hg⟩
    · refine hret _ [] _ _ _ F₁ N₁ Abv.nil ⟨t, ?_⟩
      have hb0 : b = 0 := by assumption
      subst hb0
      rw [← hg]
      show Value.int a t = Value.int _ t
      congr 1
      simp [Int.gcd]
      omega
theorem call_gcd {dp un : Nat} {gd : Option (List Code)} {cn : Str} {cs : Scope} {a : Addr} {ccd : Value} {cl : List (Str × Addr)} {outer : List Env} {A₀ : Around} {base h₀ : Heap} {L : Addr} {m : Str → Option Value} {s : Shared} {Q E : Value → Shared → Prop} {news : Led} {x y : Int} {t u : Tok}
    (F : Fr h₀ L s.heap m) (N : News h₀ L s.heap news) (B : Below A₀ base outer h₀) (X : (Mine.hd.heap_39 w.params).In h₀) (T : Top p loose mean mg mb h₀) (hk : cs.kind = .function) (hd : dp + 1 < recursionLimit) (hu : un + 8 < cLine)
    (ret : ∀ t' h' tk', Fr h₀ L h' m → News h₀ L h' news → Q (.int (Int.gcd x y) t') { s with heap := h', toks := tk' }) :
    wpAny (model PySem.Challenge.rw_sa0095_01.row.prog w) (ktrTop dp un gd cn cs L a ccd cl outer) (call (.ref 41) [.int x t, .int y u]) Q E s :=
  does_use F N (gcd_does x y t u news) B X T hk hd hu fun r tl h' tk' F' N' _ ⟨t', e⟩ => by
    subst e
    exact ret t' h' tk' F' (News.sub N' fun _ h => List.mem_append_right _ h)
theorem rulesM2b : True := by
  k_with "call ref" => (k_here; (fail_if_success fail_if_success (with_reducible show wpAny _ _ (call (Value.ref 41) _) _ _ _)); k_dflt (refine' call_gcd (by assumption) (by assumption) (by assumption) (by assumption) (by assumption) (by exact rfl) (by first | exact room (by assumption) (by decide) | omega) (by first | exact room (by assumption) (by decide) | omega) ?_); (intro t'q h'q tk'q F'q N'q); (try k_sweep))
  exact True.intro
theorem floordiv_small {A : Around} {E : Value → Shared → Prop} {s : Shared} {a b : Int} {t u : Tok} {Q : Value → Shared → Prop} (hb : b ≠ 0) (hl : b.natAbs < 2 ^ 200) (h : Q (.int (a.fdiv b) s.toks) { s with toks := s.toks + 1 }) :
    wpAny (model PySem.Challenge.rw_sa0095_01.row.prog w) A (binaryOp .FloorDiv (.int a t) (.int b u)) Q E s :=
  floordiv_int hb h (Or.inl (PyProof.noPylong_of_log2 (Nat.lt_trans ((Nat.log2_lt (by omega)).mpr hl) (by decide))))
theorem rulesM2c : True := by
  k_with "binaryOp FloorDiv int int" => (k_here; k_dflt (refine' floordiv_small (by assumption) (by assumption) ?_))
  exact True.intro
theorem rat_does (x y : Int) (t u : Tok) (news : Led) (hy : y ≠ 0) (hs : y.natAbs < 2 ^ 200) : Does w p loose mean mg mb 2 16 57 [.int x t, .int y u] news (fun T r => ∃ a, r = .ref a ∧ TupAt w T a (Rat.divInt x y)) := by
  refine does_of (dep := 1) (uns := 13) [(Str.ofString "top", .int x t), (Str.ofString "bottom", .int y u)] (by k_is) (by k_is) (fun s => BindsTo.of_eq rfl) (locs rfl) rfl rfl rfl (by decide) ?_
  unfold Runs
  intro dp un gd outer A₀ base g L s Q E B F X N T hd hu hE hret
  k_fold
  have g1 : ((Int.gcd x y : Nat) : Int) ≠ 0 := gcd_ne hy
  have g2 : 0 - ((Int.gcd x y : Nat) : Int) ≠ 0 := by omega
  have g3 := gcd_le' (x := x) hy
  have g4 : ((Int.gcd x y : Nat) : Int).natAbs < 2 ^ 200 := Nat.lt_of_le_of_lt g3 hs
  have g5 : (0 - ((Int.gcd x y : Nat) : Int)).natAbs < 2 ^ 200 := by rw [Int.zero_sub, Int.natAbs_neg]; exact g4
  k_unmd
  k_steps
  · exact absurd (by assumption) hy
  · obtain ⟨e1, e2⟩ := rat_pos (x := x) (y := y) (by assumption)
    rename News _ _ _ _ => N1
    rename Fr _ _ _ _ => F1
    rw [← e1, ← e2] at N1
    exact hret _ [_] _ _ _ F1 N1 (Abv.cons (by assumption) Abv.nil) ⟨_, rfl, .new (.head _)⟩
  · obtain ⟨e1, e2⟩ := rat_neg (x := x) (y := y) (by omega)
    rename News _ _ _ _ => N1
    rename Fr _ _ _ _ => F1
    rw [← e1, ← e2] at N1
    exact hret _ [_] _ _ _ F1 N1 (Abv.cons (by assumption) Abv.nil) ⟨_, rfl, .new (.head _)⟩
end
end
section
def Tiny (q : Rat) : Prop := q.num.natAbs < 2 ^ 64 ∧ q.den < 2 ^ 64
theorem Tiny.nd {a b : Rat} (h : Tiny a) : IntMulOk a.num b.den ∧ IntMulOk b.num a.den ∧ IntMulOk a.den b.den ∧ IntMulOk a.num b.num ∧ IntMulOk a.den b.num := by
  obtain ⟨h1, h2⟩ := h
  refine ⟨?_, ?_, ?_, ?_, ?_⟩
  · exact IntMulOk.of_left (intBits_le_64 (by omega) (by omega))
  · exact IntMulOk.of_right (intBits_le_64 (by omega) (by omega))
  · exact IntMulOk.of_left (intBits_le_64 (by omega) (by omega))
  · exact IntMulOk.of_left (intBits_le_64 (by omega) (by omega))
  · exact IntMulOk.of_left (intBits_le_64 (by omega) (by omega))
theorem den_mul_ok {a b : Rat} (ha : Tiny a) (hb : Tiny b) : (a.den : Int) * (b.den : Int) ≠ 0 ∧ ((a.den : Int) * (b.den : Int)).natAbs < 2 ^ 200 := by
  constructor
  · have h1 := a.den_pos
    have h2 := b.den_pos
    exact Int.mul_ne_zero (by omega) (by omega)
  · rw [Int.natAbs_mul, Int.natAbs_natCast, Int.natAbs_natCast]
    exact Nat.lt_of_lt_of_le (Nat.mul_lt_mul'' ha.2 hb.2) (by rw [← Nat.pow_add]; exact Nat.pow_le_pow_right (by omega) (by omega))
theorem den_num_ok {a b : Rat} (ha : Tiny a) (hb : Tiny b) (h : b ≠ 0) : (a.den : Int) * b.num ≠ 0 ∧ ((a.den : Int) * b.num).natAbs < 2 ^ 200 := by
  constructor
  · have h1 := a.den_pos
    exact Int.mul_ne_zero (by omega) (fun e => h (Rat.num_eq_zero.mp e))
  · rw [Int.natAbs_mul, Int.natAbs_natCast]
    exact Nat.lt_of_lt_of_le (Nat.mul_lt_mul'' ha.2 hb.1) (by rw [← Nat.pow_add]; exact Nat.pow_le_pow_right (by omega) (by omega))
theorem rulesM3a : True := by
  k_with_none
  k_with "st" => (repeat' (first | (k_unfold; (try dsimp only)) | ((try dsimp only); walk1)))
  k_with "ktr_rel" => first | exact fun _ h => h | exact List.forall_mem_nil _ | exact fun _ h => List.mem_append_right _ h | exact fun _ h => List.mem_cons_of_mem _ h | (refine sub_app ?_; ktr_rel; done) | (refine sub_cons ?_; ktr_rel; done) | (intro p hp; simp only [List.mem_append, List.mem_cons, hp, true_or, or_true])
  k_with "subscriptTail Name Constant ref int" => (k_here; k_dflt (first
      | ((fail_if_success fail_if_success (with_reducible show wpAny _ _ (subscriptTail _ _ (Value.ref _) (Value.int 0 _)) _ _ _)); refine' rat_item0 (by assumption) (by assumption) (by assumption) (by assumption) (by ktr_rel) ?_ ?_; rotate_left; (with_unfolding_all rfl); intro t'q)
      | ((fail_if_success fail_if_success (with_reducible show wpAny _ _ (subscriptTail _ _ (Value.ref _) (Value.int 1 _)) _ _ _)); refine' rat_item1 (by assumption) (by assumption) (by assumption) (by assumption) (by ktr_rel) ?_ ?_; rotate_left; (with_unfolding_all rfl); intro t'q)))
  exact True.intro
section
variable {w : World} {p : Program} {loose : List Str} {mean : ExcName → Option Value} {mg mb : Str → Option Value}
theorem call_rat {dp un : Nat} {gd : Option (List Code)} {cn : Str} {cs : Scope} {a : Addr} {ccd : Value} {cl : List (Str × Addr)} {outer : List Env} {A₀ : Around} {base h₀ : Heap} {L : Addr} {m : Str → Option Value} {s : Shared} {Q E : Value → Shared → Prop} {news : Led} {x y : Int} {t u : Tok}
    (F : Fr h₀ L s.heap m) (N : News h₀ L s.heap news) (B : Below A₀ base outer h₀) (X : (Mine.hd.heap_39 w.params).In h₀) (T : Top p loose mean mg mb h₀) (hk : cs.kind = .function) (hd : dp + 2 < recursionLimit) (hu : un + 16 < cLine) (hy : y ≠ 0) (hs : y.natAbs < 2 ^ 200)
    (ret : ∀ a' tl h' tk', Fr h₀ L h' m → News h₀ L h' (tl ++ news) → Abv tl news → TupAt w tl a' (Rat.divInt x y) → Q (.ref a') { s with heap := h', toks := tk' }) :
    wpAny (model PySem.Challenge.rw_sa0095_01.row.prog w) (ktrTop dp un gd cn cs L a ccd cl outer) (call (.ref 57) [.int x t, .int y u]) Q E s :=
  does_use F N (rat_does x y t u news hy hs) B X T hk hd hu fun r tl h' tk' F' N' A' ⟨a', e, h⟩ => by
    subst e
    exact ret a' tl h' tk' F' N' A' h
theorem rulesM3b : True := by
  k_with "call ref" => (k_here; (fail_if_success fail_if_success (with_reducible show wpAny _ _ (call (Value.ref 57) _) _ _ _)); k_dflt (refine' call_rat (by assumption) (by assumption) (by assumption) (by assumption) (by assumption) (by exact rfl) (by first | exact room (by assumption) (by decide) | omega) (by first | exact room (by assumption) (by decide) | omega) (by assumption) (by assumption) ?_); (intro a'q tl'q h'q tk'q F'q N'q A'q R'q); (try k_sweep))
  exact True.intro
theorem radd_does {a1 a2 : Addr} {q1 q2 : Rat} {news : Led} (r1 : TupAt w news a1 q1) (r2 : TupAt w news a2 q2) (b1 : Tiny q1) (b2 : Tiny q2) : Does w p loose mean mg mb 3 24 64 [.ref a1, .ref a2] news (fun T r => ∃ a, r = .ref a ∧ TupAt w T a (q1 + q2)) := by
  refine does_of (dep := 2) (uns := 21) [(Str.ofString "a", .ref a1), (Str.ofString "b", .ref a2)] (by k_is) (by k_is) (fun s => BindsTo.of_eq rfl) (locs rfl) rfl rfl rfl (by decide) ?_
  unfold Runs
  intro dp un gd outer A₀ base g L s Q E B F X N T hd hu hE hret
  k_fold
  obtain ⟨m1, m2, m3, m4, m5⟩ := b1.nd (b := q2)
  obtain ⟨m1', m2', m3', m4', m5'⟩ := b2.nd (b := q1)
  obtain ⟨d1, d2⟩ := den_mul_ok b1 b2
  k_unmd
  k_steps
  rename TupAt _ _ _ (Rat.divInt _ _) => R1
  rename Abv _ _ => A1
  rename News _ _ _ _ => N1
  rename Fr _ _ _ _ => F1
  rw [add_val] at R1
  exact hret _ _ _ _ _ F1 N1 A1 ⟨_, rfl, R1⟩
theorem rsub_does {a1 a2 : Addr} {q1 q2 : Rat} {news : Led} (r1 : TupAt w news a1 q1) (r2 : TupAt w news a2 q2) (b1 : Tiny q1) (b2 : Tiny q2) : Does w p loose mean mg mb 3 24 71 [.ref a1, .ref a2] news (fun T r => ∃ a, r = .ref a ∧ TupAt w T a (q1 - q2)) := by
  refine does_of (dep := 2) (uns := 21) [(Str.ofString "a", .ref a1), (Str.ofString "b", .ref a2)] (by k_is) (by k_is) (fun s => BindsTo.of_eq rfl) (locs rfl) rfl rfl rfl (by decide) ?_
  unfold Runs
  intro dp un gd outer A₀ base g L s Q E B F X N T hd hu hE hret
  k_fold
  obtain ⟨m1, m2, m3, m4, m5⟩ := b1.nd (b := q2)
  obtain ⟨m1', m2', m3', m4', m5'⟩ := b2.nd (b := q1)
  obtain ⟨d1, d2⟩ := den_mul_ok b1 b2
  k_unmd
  k_steps
  rename TupAt _ _ _ (Rat.divInt _ _) => R1
  rename Abv _ _ => A1
  rename News _ _ _ _ => N1
  rename Fr _ _ _ _ => F1
  rw [sub_val] at R1
  exact hret _ _ _ _ _ F1 N1 A1 ⟨_, rfl, R1⟩
theorem rmul_does {a1 a2 : Addr} {q1 q2 : Rat} {news : Led} (r1 : TupAt w news a1 q1) (r2 : TupAt w news a2 q2) (b1 : Tiny q1) (b2 : Tiny q2) : Does w p loose mean mg mb 3 24 78 [.ref a1, .ref a2] news (fun T r => ∃ a, r = .ref a ∧ TupAt w T a (q1 * q2)) := by
  refine does_of (dep := 2) (uns := 21) [(Str.ofString "a", .ref a1), (Str.ofString "b", .ref a2)] (by k_is) (by k_is) (fun s => BindsTo.of_eq rfl) (locs rfl) rfl rfl rfl (by decide) ?_
  unfold Runs
  intro dp un gd outer A₀ base g L s Q E B F X N T hd hu hE hret
  k_fold
  obtain ⟨m1, m2, m3, m4, m5⟩ := b1.nd (b := q2)
  obtain ⟨m1', m2', m3', m4', m5'⟩ := b2.nd (b := q1)
  obtain ⟨d1, d2⟩ := den_mul_ok b1 b2
  k_unmd
  k_steps
  rename TupAt _ _ _ (Rat.divInt _ _) => R1
  rename Abv _ _ => A1
  rename News _ _ _ _ => N1
  rename Fr _ _ _ _ => F1
  rw [mul_val] at R1
  exact hret _ _ _ _ _ F1 N1 A1 ⟨_, rfl, R1⟩
theorem rdiv_does {a1 a2 : Addr} {q1 q2 : Rat} {news : Led} (r1 : TupAt w news a1 q1) (r2 : TupAt w news a2 q2) (b1 : Tiny q1) (b2 : Tiny q2) (nz : q2 ≠ 0) : Does w p loose mean mg mb 3 24 85 [.ref a1, .ref a2] news (fun T r => ∃ a, r = .ref a ∧ TupAt w T a (q1 / q2)) := by
  refine does_of (dep := 2) (uns := 21) [(Str.ofString "a", .ref a1), (Str.ofString "b", .ref a2)] (by k_is) (by k_is) (fun s => BindsTo.of_eq rfl) (locs rfl) rfl rfl rfl (by decide) ?_
  unfold Runs
  intro dp un gd outer A₀ base g L s Q E B F X N T hd hu hE hret
  k_fold
  obtain ⟨m1, m2, m3, m4, m5⟩ := b1.nd (b := q2)
  obtain ⟨m1', m2', m3', m4', m5'⟩ := b2.nd (b := q1)
  obtain ⟨d1, d2⟩ := den_num_ok b1 b2 nz
  k_unmd
  k_steps
  rename TupAt _ _ _ (Rat.divInt _ _) => R1
  rename Abv _ _ => A1
  rename News _ _ _ _ => N1
  rename Fr _ _ _ _ => F1
  rw [div_val] at R1
  exact hret _ _ _ _ _ F1 N1 A1 ⟨_, rfl, R1⟩
theorem call_radd {dp un : Nat} {gd : Option (List Code)} {cn : Str} {cs : Scope} {a : Addr} {ccd : Value} {cl : List (Str × Addr)} {outer : List Env} {A₀ : Around} {base h₀ : Heap} {L : Addr} {m : Str → Option Value} {s : Shared} {Q E : Value → Shared → Prop} {news : Led} {a1 a2 : Addr} {q1 q2 : Rat} {T1 T2 : Led}
    (F : Fr h₀ L s.heap m) (N : News h₀ L s.heap news) (B : Below A₀ base outer h₀) (X : (Mine.hd.heap_39 w.params).In h₀) (T : Top p loose mean mg mb h₀) (hk : cs.kind = .function) (hd : dp + 3 < recursionLimit) (hu : un + 24 < cLine) (r1 : TupAt w T1 a1 q1) (s1 : ∀ p ∈ T1, p ∈ news) (r2 : TupAt w T2 a2 q2) (s2 : ∀ p ∈ T2, p ∈ news) (b1 : Tiny q1) (b2 : Tiny q2)
    (ret : ∀ a' tl h' tk', Fr h₀ L h' m → News h₀ L h' (tl ++ news) → Abv tl news → TupAt w tl a' (q1 + q2) → Q (.ref a') { s with heap := h', toks := tk' }) :
    wpAny (model PySem.Challenge.rw_sa0095_01.row.prog w) (ktrTop dp un gd cn cs L a ccd cl outer) (call (.ref 64) [.ref a1, .ref a2]) Q E s :=
  does_use F N (radd_does (r1.mono s1) (r2.mono s2) b1 b2) B X T hk hd hu fun r tl h' tk' F' N' A' ⟨a', e, h⟩ => by
    subst e
    exact ret a' tl h' tk' F' N' A' h
theorem call_rsub {dp un : Nat} {gd : Option (List Code)} {cn : Str} {cs : Scope} {a : Addr} {ccd : Value} {cl : List (Str × Addr)} {outer : List Env} {A₀ : Around} {base h₀ : Heap} {L : Addr} {m : Str → Option Value} {s : Shared} {Q E : Value → Shared → Prop} {news : Led} {a1 a2 : Addr} {q1 q2 : Rat} {T1 T2 : Led}
    (F : Fr h₀ L s.heap m) (N : News h₀ L s.heap news) (B : Below A₀ base outer h₀) (X : (Mine.hd.heap_39 w.params).In h₀) (T : Top p loose mean mg mb h₀) (hk : cs.kind = .function) (hd : dp + 3 < recursionLimit) (hu : un + 24 < cLine) (r1 : TupAt w T1 a1 q1) (s1 : ∀ p ∈ T1, p ∈ news) (r2 : TupAt w T2 a2 q2) (s2 : ∀ p ∈ T2, p ∈ news) (b1 : Tiny q1) (b2 : Tiny q2)
    (ret : ∀ a' tl h' tk', Fr h₀ L h' m → News h₀ L h' (tl ++ news) → Abv tl news → TupAt w tl a' (q1 - q2) → Q (.ref a') { s with heap := h', toks := tk' }) :
    wpAny (model PySem.Challenge.rw_sa0095_01.row.prog w) (ktrTop dp un gd cn cs L a ccd cl outer) (call (.ref 71) [.ref a1, .ref a2]) Q E s :=
  does_use F N (rsub_does (r1.mono s1) (r2.mono s2) b1 b2) B X T hk hd hu fun r tl h' tk' F' N' A' ⟨a', e, h⟩ => by
    subst e
    exact ret a' tl h' tk' F' N' A' h
theorem call_rmul {dp un : Nat} {gd : Option (List Code)} {cn : Str} {cs : Scope} {a : Addr} {ccd : Value} {cl : List (Str × Addr)} {outer : List Env} {A₀ : Around} {base h₀ : Heap} {L : Addr} {m : Str → Option Value} {s : Shared} {Q E : Value → Shared → Prop} {news : Led} {a1 a2 : Addr} {q1 q2 : Rat} {T1 T2 : Led}
    (F : Fr h₀ L s.heap m) (N : News h₀ L s.heap news) (B : Below A₀ base outer h₀) (X : (Mine.hd.heap_39 w.params).In h₀) (T : Top p loose mean mg mb h₀) (hk : cs.kind = .function) (hd : dp + 3 < recursionLimit) (hu : un + 24 < cLine) (r1 : TupAt w T1 a1 q1) (s1 : ∀ p ∈ T1, p ∈ news) (r2 : TupAt w T2 a2 q2) (s2 : ∀ p ∈ T2, p ∈ news) (b1 : Tiny q1) (b2 : Tiny q2)
    (ret : ∀ a' tl h' tk', Fr h₀ L h' m → News h₀ L h' (tl ++ news) → Abv tl news → TupAt w tl a' (q1 * q2) → Q (.ref a') { s with heap := h', toks := tk' }) :
    wpAny (model PySem.Challenge.rw_sa0095_01.row.prog w) (ktrTop dp un gd cn cs L a ccd cl outer) (call (.ref 78) [.ref a1, .ref a2]) Q E s :=
  does_use F N (rmul_does (r1.mono s1) (r2.mono s2) b1 b2) B X T hk hd hu fun r tl h' tk' F' N' A' ⟨a', e, h⟩ => by
    subst e
    exact ret a' tl h' tk' F' N' A' h
theorem call_rdiv {dp un : Nat} {gd : Option (List Code)} {cn : Str} {cs : Scope} {a : Addr} {ccd : Value} {cl : List (Str × Addr)} {outer : List Env} {A₀ : Around} {base h₀ : Heap} {L : Addr} {m : Str → Option Value} {s : Shared} {Q E : Value → Shared → Prop} {news : Led} {a1 a2 : Addr} {q1 q2 : Rat} {T1 T2 : Led}
    (F : Fr h₀ L s.heap m) (N : News h₀ L s.heap news) (B : Below A₀ base outer h₀) (X : (Mine.hd.heap_39 w.params).In h₀) (T : Top p loose mean mg mb h₀) (hk : cs.kind = .function) (hd : dp + 3 < recursionLimit) (hu : un + 24 < cLine) (r1 : TupAt w T1 a1 q1) (s1 : ∀ p ∈ T1, p ∈ news) (r2 : TupAt w T2 a2 q2) (s2 : ∀ p ∈ T2, p ∈ news) (b1 : Tiny q1) (b2 : Tiny q2) (nz : q2 ≠ 0)
    (ret : ∀ a' tl h' tk', Fr h₀ L h' m → News h₀ L h' (tl ++ news) → Abv tl news → TupAt w tl a' (q1 / q2) → Q (.ref a') { s with heap := h', toks := tk' }) :
    wpAny (model PySem.Challenge.rw_sa0095_01.row.prog w) (ktrTop dp un gd cn cs L a ccd cl outer) (call (.ref 85) [.ref a1, .ref a2]) Q E s :=
  does_use F N (rdiv_does (r1.mono s1) (r2.mono s2) b1 b2 nz) B X T hk hd hu fun r tl h' tk' F' N' A' ⟨a', e, h⟩ => by
    subst e
    exact ret a' tl h' tk' F' N' A' h
end
end
section
/-- a list of ratios at an address -/
abbrev lstO (as : List Addr) (n : Nat) : Obj := { cls := .type "list", data := .seq (as.map Value.ref).toArray n }
def LstAt (w : World) (T : Led) (l : Addr) (qs : List Rat) : Prop :=
  ∃ (as : List Addr) (n : Nat), (l, lstO as n) ∈ T ∧ as.length = qs.length ∧ qs.length ≤ 1000 ∧ ∀ (i : Nat) a q, as[i]? = some a → qs[i]? = some q → TupAt w T a q
theorem LstAt.mono {w : World} {T T' : Led} {l : Addr} {qs : List Rat} (h : LstAt w T l qs) (s : ∀ p ∈ T, p ∈ T') : LstAt w T' l qs := by
  obtain ⟨as, n, h1, h2, h3, h4⟩ := h
  exact ⟨as, n, s _ h1, h2, h3, fun i a q ha hq => (h4 i a q ha hq).mono s⟩
theorem LstAt.le {w : World} {T : Led} {l : Addr} {qs : List Rat} (h : LstAt w T l qs) : qs.length ≤ 1000 := let ⟨_, _, _, _, h3, _⟩ := h; h3
def datR (q : Rat) : PyData := .tuple [.int q.num, .int q.den]
def datL (qs : List Rat) : PyData := .list (qs.map datR)
theorem datR_eqv (q r : Rat) : PyData.eqv (datR q) (datR r) = decide (q = r) := by
  unfold datR
  simp only [PyData.eqv, PyData.eqvAll, Bool.and_true]
  by_cases h : q = r
  · subst h; simp
  · rw [decide_eq_false h]
    simp only [Bool.and_eq_false_iff, beq_eq_false_iff_ne, ne_eq, decide_eq_false_iff_not]
    by_cases h1 : q.num = r.num
    · refine Or.inr fun h2 => h (Rat.ext h1 (by omega))
    · exact Or.inl h1
theorem datL_eqvAll : ∀ qs rs : List Rat, PyData.eqvAll (qs.map datR) (rs.map datR) = decide (qs = rs)
  | [], [] => by simp [PyData.eqvAll]
  | [], _ :: _ => by simp [PyData.eqvAll]
  | _ :: _, [] => by simp [PyData.eqvAll]
  | a :: r, b :: t => by
    simp only [List.map_cons, PyData.eqvAll, datR_eqv, datL_eqvAll r t]
    by_cases h : a = b <;> by_cases h' : r = t <;> simp [h, h']
theorem datL_eqv (qs rs : List Rat) : PyData.eqv (datL qs) (datL rs) = decide (qs = rs) := by
  unfold datL
  simp only [PyData.eqv]
  exact datL_eqvAll qs rs
theorem datR_shaped (q : Rat) : SeqAt.shaped (datR q) = true := by
  simp [datR, SeqAt.shaped, PyData.canLay0, PyData.canLayAll0, PyData.depth, PyData.depthAll]
theorem datL_lay : ∀ qs : List Rat, PyData.canLayAll0 (qs.map datR) = true ∧ PyData.depthAll (qs.map datR) ≤ 1
  | [] => by simp [PyData.canLayAll0, PyData.depthAll]
  | q :: r => by
    have ih := datL_lay r
    simp only [List.map_cons, PyData.canLayAll0, PyData.depthAll, ih.1, Bool.and_true]
    constructor
    · simp [datR, PyData.canLay0, PyData.canLayAll0]
    · have : (datR q).depth ≤ 1 := by simp [datR, PyData.depth, PyData.depthAll]
      have := ih.2
      omega
theorem datL_shaped (qs : List Rat) : SeqAt.shaped (datL qs) = true := by
  have h := datL_lay qs
  simp only [datL, SeqAt.shaped, PyData.canLay0, PyData.depth, h.1, Bool.true_and]
  exact decide_eq_true (by omega)
section
variable {w : World} {A : Around} {E : Value → Shared → Prop} {s : Shared} {T T' T'' : Led} {a b l : Addr} {q r : Rat} {qs rs : List Rat} {g : Heap} {L : Addr} {m : Str → Option Value} {value slice : Expr} {Q : Value → Shared → Prop}
theorem TupAt.reads {h : Heap} (x : TupAt w T a q) (F : Fr g L h m) (X : (Mine.hd.heap_39 w.params).In g) (N : News g L h T) : ∃ as, Reads h (.ref a) (datR q) as := by
  obtain ⟨t, u, o, ho, hc, n, hd⟩ := x.tup F X N
  exact ⟨_, reads_tuple_at ho hc hd (.cons (.int _ _) (.cons (.int _ _) .nil))⟩
theorem readsAll_of {h : Heap} (F : Fr g L h m) (X : (Mine.hd.heap_39 w.params).In g) (N : News g L h T) : ∀ (as : List Addr) (qs : List Rat), as.length = qs.length → (∀ (i : Nat) a q, as[i]? = some a → qs[i]? = some q → TupAt w T a q) → ∃ bs, ReadsAll h (as.map Value.ref) (qs.map datR) bs
  | [], [], _, _ => ⟨_, .nil⟩
  | a :: as, q :: qs, hl, hi => by
    obtain ⟨bs, h1⟩ := (hi 0 a q rfl rfl).reads F X N
    obtain ⟨cs, h2⟩ := readsAll_of F X N as qs (by simpa using hl) fun i a q ha hq => hi (i + 1) a q (by simpa using ha) (by simpa using hq)
    exact ⟨_, .cons h1 h2⟩
theorem LstAt.reads {h : Heap} (x : LstAt w T l qs) (F : Fr g L h m) (X : (Mine.hd.heap_39 w.params).In g) (N : News g L h T) : ∃ as, Reads h (.ref l) (datL qs) as := by
  obtain ⟨as, n, h1, h2, h3, h4⟩ := x
  obtain ⟨bs, hb⟩ := readsAll_of F X N as qs h2 h4
  exact ⟨_, reads_list_at (N.get h1) rfl rfl (by simpa using hb)⟩
theorem LstAt.isList {h : Heap} (x : LstAt w T l qs) (N : News g L h T) : ∃ as : List Addr, h.IsList l (as.map Value.ref).toArray ∧ as.length = qs.length ∧ ∀ (i : Nat) a q, as[i]? = some a → qs[i]? = some q → TupAt w T a q := by
  obtain ⟨as, n, h1, h2, h3, h4⟩ := x
  exact ⟨as, ⟨_, N.get h1, rfl, n, rfl⟩, h2, h4⟩
theorem tup_ne (x : TupAt w T a q) (y : TupAt w T' b r) (F : Fr g L s.heap m) (X : (Mine.hd.heap_39 w.params).In g) (N : News g L s.heap T'') (s1 : ∀ p ∈ T, p ∈ T'') (s2 : ∀ p ∈ T', p ∈ T'') (hu : A.units + 64 < cLine)
    (h : Q (.bool (!decide (q = r))) s) : wpAny (model PySem.Challenge.rw_sa0095_01.row.prog w) A (compareOp .NotEq (.ref a) (.ref b)) Q E s := by
  obtain ⟨_, ra⟩ := (x.mono s1).reads F X N
  obtain ⟨_, rb⟩ := (y.mono s2).reads F X N
  exact ne_dataH ra rb (datR_shaped q) (datR_shaped r) hu (by rw [datR_eqv]; exact h)
theorem tup_eq (x : TupAt w T a q) (y : TupAt w T' b r) (F : Fr g L s.heap m) (X : (Mine.hd.heap_39 w.params).In g) (N : News g L s.heap T'') (s1 : ∀ p ∈ T, p ∈ T'') (s2 : ∀ p ∈ T', p ∈ T'') (hu : A.units + 64 < cLine)
    (h : Q (.bool (decide (q = r))) s) : wpAny (model PySem.Challenge.rw_sa0095_01.row.prog w) A (compareOp .Eq (.ref a) (.ref b)) Q E s := by
  obtain ⟨_, ra⟩ := (x.mono s1).reads F X N
  obtain ⟨_, rb⟩ := (y.mono s2).reads F X N
  exact eq_dataH ra rb (datR_shaped q) (datR_shaped r) hu (by rw [datR_eqv]; exact h)
theorem lst_eq (x : LstAt w T a qs) (y : LstAt w T' b rs) (F : Fr g L s.heap m) (X : (Mine.hd.heap_39 w.params).In g) (N : News g L s.heap T'') (s1 : ∀ p ∈ T, p ∈ T'') (s2 : ∀ p ∈ T', p ∈ T'') (hu : A.units + 64 < cLine)
    (h : Q (.bool (decide (qs = rs))) s) : wpAny (model PySem.Challenge.rw_sa0095_01.row.prog w) A (compareOp .Eq (.ref a) (.ref b)) Q E s := by
  obtain ⟨_, ra⟩ := (x.mono s1).reads F X N
  obtain ⟨_, rb⟩ := (y.mono s2).reads F X N
  exact eq_dataH ra rb (datL_shaped qs) (datL_shaped rs) hu (by rw [datL_eqv]; exact h)
theorem lst_ne (x : LstAt w T a qs) (y : LstAt w T' b rs) (F : Fr g L s.heap m) (X : (Mine.hd.heap_39 w.params).In g) (N : News g L s.heap T'') (s1 : ∀ p ∈ T, p ∈ T'') (s2 : ∀ p ∈ T', p ∈ T'') (hu : A.units + 64 < cLine)
    (h : Q (.bool (!decide (qs = rs))) s) : wpAny (model PySem.Challenge.rw_sa0095_01.row.prog w) A (compareOp .NotEq (.ref a) (.ref b)) Q E s := by
  obtain ⟨_, ra⟩ := (x.mono s1).reads F X N
  obtain ⟨_, rb⟩ := (y.mono s2).reads F X N
  exact ne_dataH ra rb (datL_shaped qs) (datL_shaped rs) hu (by rw [datL_eqv]; exact h)
theorem lst_len (x : LstAt w T l qs) (N : News g L s.heap T') (s1 : ∀ p ∈ T, p ∈ T') (h : Q (.int (qs.length : Nat) (s.toks + 1)) { s with toks := s.toks + 1 + 1 }) :
    wpAny (model PySem.Challenge.rw_sa0095_01.row.prog w) A (call (.builtin "len") [.ref l]) Q E s := by
  have hle := x.le
  obtain ⟨as, hl, he, _⟩ := (x.mono s1).isList N
  refine call_len_list hl (by simp; omega) ?_
  simp only [List.size_toArray, List.length_map, he]
  exact h
theorem lst_item {k : Int} {u : Tok} (x : LstAt w T l qs) (N : News g L s.heap T') (s1 : ∀ p ∈ T, p ∈ T') (h0 : 0 ≤ k) (h1 : k < qs.length) (h : ∀ a, TupAt w T' a (qs.getD k.toNat 0) → Q (.ref a) s)
    (hs : subscripted slice false (.ref l) (.int k u) = operate [.ref l, .int k u] (getItem (.ref l) (.int k u)) := by with_unfolding_all rfl) :
    wpAny (model PySem.Challenge.rw_sa0095_01.row.prog w) A (subscriptTail value slice (.ref l) (.int k u)) Q E s := by
  have hle := x.le
  obtain ⟨as, hl, he, hi⟩ := (x.mono s1).isList N
  have hk : k.toNat < as.length := by omega
  have hk' : k.toNat < qs.length := by omega
  refine tail_any hl.typeIs slot_list_getitem.lookup (wpAny_getItem_list hl h0 (by omega) (x := .ref as[k.toNat]) (by simp [hk]) (h _ (hi k.toNat _ _ (by simp [hk]) ?_))) hs
  simp [hk', List.getD]
end
theorem tup49 {w : World} {T : Led} : TupAt w T 49 0 := ⟨_, _, _, .inl (by k_is)⟩
theorem tup50 {w : World} {T : Led} : TupAt w T 50 1 := ⟨_, _, _, .inl (by k_is)⟩
end
section
theorem rulesM5a : True := by
  k_with_none
  k_with "st" => (repeat' (first | (k_unfold; (try dsimp only)) | ((try dsimp only); walk1)))
  k_with "ktr_rel" => first | exact fun _ h => h | exact List.forall_mem_nil _ | exact fun _ h => List.mem_append_right _ h | exact fun _ h => List.mem_cons_of_mem _ h | (refine sub_app ?_; ktr_rel; done) | (refine sub_cons ?_; ktr_rel; done) | (intro p hp; simp only [List.mem_append, List.mem_cons, hp, true_or, or_true])
  k_with "exec While Compare cons nil" => refine stopHere ?_
  k_with "subscriptTail Name Constant ref int" => (k_here; k_dflt (first
      | ((fail_if_success fail_if_success (with_reducible show wpAny _ _ (subscriptTail _ _ (Value.ref _) (Value.int 0 _)) _ _ _)); refine' rat_item0 (by assumption) (by assumption) (by assumption) (by assumption) (by ktr_rel) ?_ ?_; rotate_left; (with_unfolding_all rfl); intro t'q)
      | ((fail_if_success fail_if_success (with_reducible show wpAny _ _ (subscriptTail _ _ (Value.ref _) (Value.int 1 _)) _ _ _)); refine' rat_item1 (by assumption) (by assumption) (by assumption) (by assumption) (by ktr_rel) ?_ ?_; rotate_left; (with_unfolding_all rfl); intro t'q)
      | ((fail_if_success fail_if_success (with_reducible show wpAny _ _ (subscriptTail _ _ (Value.ref _) (Value.int _ _)) _ _ _)); refine' lst_item (by assumption) (by assumption) (by ktr_rel) (by first | exact Int.natCast_nonneg _ | omega) (by first | assumption | omega) ?_ ?_; rotate_left; (with_unfolding_all rfl); intro a'q R'q)))
  k_with "subscriptTail Name Name ref int" => (k_here; k_dflt ((fail_if_success fail_if_success (with_reducible show wpAny _ _ (subscriptTail _ _ (Value.ref _) (Value.int _ _)) _ _ _)); refine' lst_item (by assumption) (by assumption) (by ktr_rel) (by first | exact Int.natCast_nonneg _ | omega) (by first | assumption | omega) ?_ ?_; rotate_left; (with_unfolding_all rfl); intro a'q R'q))
  k_with "subscriptTail Name BinOp ref int" => (k_here; k_dflt ((fail_if_success fail_if_success (with_reducible show wpAny _ _ (subscriptTail _ _ (Value.ref _) (Value.int _ _)) _ _ _)); refine' lst_item (by assumption) (by assumption) (by ktr_rel) (by first | exact Int.natCast_nonneg _ | omega) (by first | assumption | omega) ?_ ?_; rotate_left; (with_unfolding_all rfl); intro a'q R'q))
  k_with "call builtin:len" => (k_here; (fail_if_success fail_if_success (with_reducible show wpAny _ _ (call (Value.builtin "len") [Value.ref _]) _ _ _)); k_dflt (refine' lst_len (by assumption) (by assumption) (by ktr_rel) ?_))
  k_with "compareOp NotEq ref ref" => (k_here; (fail_if_success fail_if_success (with_reducible show wpAny _ _ (compareOp CmpOp.NotEq (Value.ref _) (Value.ref _)) _ _ _)); k_dflt (first
      | (refine' tup_ne (by assumption) (by first | assumption | exact tup49 (T := [])) (by assumption) (by assumption) (by assumption) (by ktr_rel) (by ktr_rel) (by first | exact room (by assumption) (by decide) | ((try dsimp only); first | exact room (by assumption) (by decide) | omega)) ?_)
      | (refine' lst_ne (by assumption) (by assumption) (by assumption) (by assumption) (by assumption) (by ktr_rel) (by ktr_rel) (by first | exact room (by assumption) (by decide) | ((try dsimp only); first | exact room (by assumption) (by decide) | omega)) ?_)))
  k_with "compareOp Eq ref ref" => (k_here; (fail_if_success fail_if_success (with_reducible show wpAny _ _ (compareOp CmpOp.Eq (Value.ref _) (Value.ref _)) _ _ _)); k_dflt (refine' lst_eq (by assumption) (by assumption) (by assumption) (by assumption) (by assumption) (by ktr_rel) (by ktr_rel) (by first | exact room (by assumption) (by decide) | ((try dsimp only); first | exact room (by assumption) (by decide) | omega)) ?_))
  exact True.intro
theorem off_zero (k : Int) : b2i (decide (0 < k - k)) - b2i (decide (k - k < 0)) = 0 := by simp [b2i]
theorem tiny0 : Tiny 0 := ⟨Nat.two_pow_pos 64, Nat.one_lt_two_pow (by omega)⟩
theorem vast_no {n : Int} {d : Nat} (h1 : n.natAbs < 2 ^ 64) (h2 : d < 2 ^ 64) : ¬ ((2 : Int) ^ Int.toNat 64 ≤ if (d : Int) > (if n < 0 then -n else n) then (d : Int) else if n < 0 then -n else n) := by
  show ¬ ((2 : Int) ^ 64 ≤ _)
  split <;> split <;> omega
section
variable {w : World} {p : Program} {loose : List Str} {mean : ExcName → Option Value} {mg mb : Str → Option Value}
theorem is_vast_does {a1 : Addr} {q1 : Rat} {news : Led} (r1 : TupAt w news a1 q1) (b1 : Tiny q1) : Does w p loose mean mg mb 3 24 92 [.ref a1] news (fun _ r => r = .bool false) := by
  refine does_of (dep := 2) (uns := 21) [(Str.ofString "a", .ref a1)] (by k_is) (by k_is) (fun s => BindsTo.of_eq rfl) (locs rfl) rfl rfl rfl (by decide) ?_
  unfold Runs
  intro dp un gd outer A₀ base g L s Q E B F X N T hd hu hE hret
  k_fold
  have hv := vast_no b1.1 b1.2
  k_unmd
  k_extra "st"
  rename News _ _ _ _ => N1
  rename Fr _ _ _ _ => F1
  refine hret _ [] _ _ _ F1 N1 Abv.nil ?_
  rw [decide_eq_false hv]
theorem call_vast {dp un : Nat} {gd : Option (List Code)} {cn : Str} {cs : Scope} {a : Addr} {ccd : Value} {cl : List (Str × Addr)} {outer : List Env} {A₀ : Around} {base h₀ : Heap} {L : Addr} {m : Str → Option Value} {s : Shared} {Q E : Value → Shared → Prop} {news : Led} {a1 : Addr} {q1 : Rat} {T1 : Led}
    (F : Fr h₀ L s.heap m) (N : News h₀ L s.heap news) (B : Below A₀ base outer h₀) (X : (Mine.hd.heap_39 w.params).In h₀) (T : Top p loose mean mg mb h₀) (hk : cs.kind = .function) (hd : dp + 3 < recursionLimit) (hu : un + 24 < cLine) (r1 : TupAt w T1 a1 q1) (s1 : ∀ p ∈ T1, p ∈ news) (b1 : Tiny q1)
    (ret : ∀ h' tk', Fr h₀ L h' m → News h₀ L h' news → Q (.bool false) { s with heap := h', toks := tk' }) :
    wpAny (model PySem.Challenge.rw_sa0095_01.row.prog w) (ktrTop dp un gd cn cs L a ccd cl outer) (call (.ref 92) [.ref a1]) Q E s :=
  does_use F N (is_vast_does (r1.mono s1) b1) B X T hk hd hu fun r tl h' tk' F' N' _ e => by
    subst e
    exact ret h' tk' F' (News.sub N' fun _ h => List.mem_append_right _ h)
theorem rulesM5b : True := by
  k_with "call ref" => (k_here; (fail_if_success fail_if_success (with_reducible show wpAny _ _ (call (Value.ref 92) _) _ _ _)); k_dflt (refine' call_vast (by assumption) (by assumption) (by assumption) (by assumption) (by assumption) (by exact rfl) (by first | exact room (by assumption) (by decide) | omega) (by first | exact room (by assumption) (by decide) | omega) (by assumption) (by ktr_rel) (by assumption) ?_); (intro h'q tk'q F'q N'q); (try k_sweep))
  exact True.intro
theorem let_does {a1 : Addr} {q1 : Rat} {news : Led} (r1 : TupAt w news a1 q1) (b1 : Tiny q1) : Does w p loose mean mg mb 4 30 113 [.ref a1] news (fun _ r => r = .ref a1) := by
  refine does_of (dep := 3) (uns := 27) [(Str.ofString "number", .ref a1)] (by k_is) (by k_is) (fun s => BindsTo.of_eq rfl) (locs rfl) rfl rfl rfl (by decide) ?_
  unfold Runs
  intro dp un gd outer A₀ base g L s Q E B F X N T hd hu hE hret
  k_fold
  k_extra "st"
  rename News _ _ _ _ => N1
  rename Fr _ _ _ _ => F1
  exact hret _ [] _ _ _ F1 N1 Abv.nil rfl
theorem call_let {dp un : Nat} {gd : Option (List Code)} {cn : Str} {cs : Scope} {a : Addr} {ccd : Value} {cl : List (Str × Addr)} {outer : List Env} {A₀ : Around} {base h₀ : Heap} {L : Addr} {m : Str → Option Value} {s : Shared} {Q E : Value → Shared → Prop} {news : Led} {a1 : Addr} {q1 : Rat} {T1 : Led}
    (F : Fr h₀ L s.heap m) (N : News h₀ L s.heap news) (B : Below A₀ base outer h₀) (X : (Mine.hd.heap_39 w.params).In h₀) (T : Top p loose mean mg mb h₀) (hk : cs.kind = .function) (hd : dp + 4 < recursionLimit) (hu : un + 30 < cLine) (r1 : TupAt w T1 a1 q1) (s1 : ∀ p ∈ T1, p ∈ news) (b1 : Tiny q1)
    (ret : ∀ h' tk', Fr h₀ L h' m → News h₀ L h' news → Q (.ref a1) { s with heap := h', toks := tk' }) :
    wpAny (model PySem.Challenge.rw_sa0095_01.row.prog w) (ktrTop dp un gd cn cs L a ccd cl outer) (call (.ref 113) [.ref a1]) Q E s :=
  does_use F N (let_does (r1.mono s1) b1) B X T hk hd hu fun r tl h' tk' F' N' _ e => by
    subst e
    exact ret h' tk' F' (News.sub N' fun _ h => List.mem_append_right _ h)
theorem rcompare_does {a1 a2 : Addr} {q1 q2 : Rat} {news : Led} (r1 : TupAt w news a1 q1) (r2 : TupAt w news a2 q2) (e : q1 = q2) (b1 : Tiny q1) : Does w p loose mean mg mb 3 24 99 [.ref a1, .ref a2] news (fun _ r => ∃ t, r = .int 0 t) := by
  subst e
  refine does_of (dep := 2) (uns := 21) [(Str.ofString "a", .ref a1), (Str.ofString "b", .ref a2)] (by k_is) (by k_is) (fun s => BindsTo.of_eq rfl) (locs rfl) rfl rfl rfl (by decide) ?_
  unfold Runs
  intro dp un gd outer A₀ base g L s Q E B F X N T hd hu hE hret
  k_fold
  obtain ⟨m1, m2, m3, m4, m5⟩ := b1.nd (b := q1)
  k_unmd
  k_extra "st"
  rename News _ _ _ _ => N1
  rename Fr _ _ _ _ => F1
  exact hret _ [] _ _ _ F1 N1 Abv.nil ⟨_, congrArg (fun k => Value.int k _) (off_zero _)⟩
theorem call_rcompare {dp un : Nat} {gd : Option (List Code)} {cn : Str} {cs : Scope} {a : Addr} {ccd : Value} {cl : List (Str × Addr)} {outer : List Env} {A₀ : Around} {base h₀ : Heap} {L : Addr} {m : Str → Option Value} {s : Shared} {Q E : Value → Shared → Prop} {news : Led} {a1 a2 : Addr} {q1 q2 : Rat} {T1 T2 : Led}
    (F : Fr h₀ L s.heap m) (N : News h₀ L s.heap news) (B : Below A₀ base outer h₀) (X : (Mine.hd.heap_39 w.params).In h₀) (T : Top p loose mean mg mb h₀) (hk : cs.kind = .function) (hd : dp + 3 < recursionLimit) (hu : un + 24 < cLine) (r1 : TupAt w T1 a1 q1) (s1 : ∀ p ∈ T1, p ∈ news) (r2 : TupAt w T2 a2 q2) (s2 : ∀ p ∈ T2, p ∈ news) (e : q1 = q2) (b1 : Tiny q1)
    (ret : ∀ t' h' tk', Fr h₀ L h' m → News h₀ L h' news → Q (.int 0 t') { s with heap := h', toks := tk' }) :
    wpAny (model PySem.Challenge.rw_sa0095_01.row.prog w) (ktrTop dp un gd cn cs L a ccd cl outer) (call (.ref 99) [.ref a1, .ref a2]) Q E s :=
  does_use F N (rcompare_does (r1.mono s1) (r2.mono s2) e b1) B X T hk hd hu fun r tl h' tk' F' N' _ ⟨t', e⟩ => by
    subst e
    exact ret t' h' tk' F' (News.sub N' fun _ h => List.mem_append_right _ h)
theorem rulesM5c : True := by
  k_with "call ref" => (k_here; (fail_if_success fail_if_success (with_reducible show wpAny _ _ (call (Value.ref 99) _) _ _ _)); k_dflt (refine' call_rcompare (by assumption) (by assumption) (by assumption) (by assumption) (by assumption) (by exact rfl) (by first | exact room (by assumption) (by decide) | omega) (by first | exact room (by assumption) (by decide) | omega) (by assumption) (by ktr_rel) (by first | assumption | exact tup49 (T := [])) (by ktr_rel) (by assumption) (by assumption) ?_); (intro t'q h'q tk'q F'q N'q); (try k_sweep))
  exact True.intro
theorem need_begin_does {a1 : Addr} {qs : List Rat} {news : Led} (r1 : LstAt w news a1 qs) (h0 : qs.getD 0 0 = 0) (hl : 0 < qs.length) : Does w p loose mean mg mb 4 30 144 [.ref a1, .ref 49] news (fun _ r => r = .none) := by
  refine does_of (dep := 3) (uns := 27) [(Str.ofString "a", .ref a1), (Str.ofString "number", .ref 49)] (by k_is) (by k_is) (fun s => BindsTo.of_eq rfl) (locs rfl) rfl rfl rfl (by decide) ?_
  unfold Runs
  intro dp un gd outer A₀ base g L s Q E B F X N T hd hu hE hret
  k_fold
  have e0 : qs.getD (Int.toNat 0) 0 = 0 := h0
  have e1 : Tiny (qs.getD (Int.toNat 0) 0) := by rw [e0]; exact tiny0
  k_unmd
  k_extra "st"
  rename News _ _ _ _ => N1
  rename Fr _ _ _ _ => F1
  exact hret _ [] _ _ _ F1 N1 Abv.nil rfl
theorem call_need_begin {dp un : Nat} {gd : Option (List Code)} {cn : Str} {cs : Scope} {a : Addr} {ccd : Value} {cl : List (Str × Addr)} {outer : List Env} {A₀ : Around} {base h₀ : Heap} {L : Addr} {m : Str → Option Value} {s : Shared} {Q E : Value → Shared → Prop} {news : Led} {a1 : Addr} {qs : List Rat} {T1 : Led}
    (F : Fr h₀ L s.heap m) (N : News h₀ L s.heap news) (B : Below A₀ base outer h₀) (X : (Mine.hd.heap_39 w.params).In h₀) (T : Top p loose mean mg mb h₀) (hk : cs.kind = .function) (hd : dp + 4 < recursionLimit) (hu : un + 30 < cLine) (r1 : LstAt w T1 a1 qs) (s1 : ∀ p ∈ T1, p ∈ news) (h0 : qs.getD 0 0 = 0) (hl : 0 < qs.length)
    (ret : ∀ h' tk', Fr h₀ L h' m → News h₀ L h' news → Q (.none) { s with heap := h', toks := tk' }) :
    wpAny (model PySem.Challenge.rw_sa0095_01.row.prog w) (ktrTop dp un gd cn cs L a ccd cl outer) (call (.ref 144) [.ref a1, .ref 49]) Q E s :=
  does_use F N (need_begin_does (r1.mono s1) h0 hl) B X T hk hd hu fun r tl h' tk' F' N' _ e => by
    subst e
    exact ret h' tk' F' (News.sub N' fun _ h => List.mem_append_right _ h)
end
end
section
section
variable {prog : Program} {w : World} {A : Around} {E : Value → Shared → Prop} {s : Shared} {env : Env} {h₀ : Heap} {x : Str} {body : List Stmt} {Q : Flow → Shared → Prop}
def GrowEnd (h₀ : Heap) (L : Addr) (J : (Str → Option Value) → Led → Prop) (I : Addr) (oI : Obj) (s₁ s₂ : Shared) : Prop :=
  ∃ h' tk m' nw, s₂ = { s₁ with heap := h', toks := tk } ∧ Fr h₀ L h' m' ∧ News h₀ L h' ((I, oI) :: nw) ∧ (∀ p ∈ nw, p.1 ≠ I) ∧ J m' nw
def GrowPost (h₀ : Heap) (L : Addr) (J : (Str → Option Value) → Led → Prop) (I : Addr) (oI : Obj) (s₁ : Shared) (Q : Flow → Shared → Prop) (f : Flow) (s₂ : Shared) : Prop :=
  match f with
  | .ret v => Q (.ret v) s₂
  | .brk => Q .next s₂
  | _ => GrowEnd h₀ L J I oI s₁ s₂
theorem GrowEnd.intro {L : Addr} {J : (Str → Option Value) → Led → Prop} {I : Addr} {oI : Obj} {s₁ : Shared} {h' : Heap} {tk : Nat} {m' : Str → Option Value} {nw : Led} (F : Fr h₀ L h' m') (N : News h₀ L h' ((I, oI) :: nw)) (ho : ∀ p ∈ nw, p.1 ≠ I) (j : J m' nw) :
    GrowEnd h₀ L J I oI s₁ { s₁ with heap := h', toks := tk } := ⟨h', tk, m', nw, rfl, F, N, ho, j⟩
theorem iter_grow {r : Addr} {a₀ b₀ c₀ : Int} {t₀ u₀ v₀ : Tok} {n : Nat} {m₀ : Str → Option Value} {news : Led} (J : Nat → (Str → Option Value) → Led → Prop)
    (hh : A.handled = none) (hr : IsRange s.heap r a₀ b₀ c₀ t₀ u₀ v₀) (hsmall : Builtin.Range.small a₀ b₀ c₀ = true) (hn : Builtin.Range.rangeSize a₀ b₀ c₀ = (n : Int)) (F : Fr h₀ env.locals s.heap m₀) (N : News h₀ env.locals s.heap news) (hj : J 0 m₀ news)
    (turn : ∀ i t m₁ nw h tk I oI, i < n → J i m₁ nw → (∀ p ∈ nw, p.1 ≠ I) → oI.cls = .type "range_iterator" → Fr h₀ env.locals h (fun y => if y = x then some (.int (a₀ + i * c₀) t) else m₁ y) → News h₀ env.locals h ((I, oI) :: nw) →
      wpAny (model prog w) A (execs body env) (GrowPost h₀ env.locals (J (i + 1)) I oI { s with heap := h, toks := tk } Q) E { s with heap := h, toks := tk })
    (done : ∀ m₁ nw h tk, J n m₁ nw → Fr h₀ env.locals h m₁ → News h₀ env.locals h nw → Q .next { s with heap := h, toks := tk }) :
    wpAny (model prog w) A (pyIter (.ref r)) (fun it s₂ => LoopAtV prog w A h₀ env x body Q E it s₂) E s := by
  refine wpAny_pyIter_range hr hsmall ?_
  have W : Walks prog w A s.heap.objs.size [s.heap.objs.size] [s.heap.objs.size] n (fun i v => i < n ∧ ∃ t, v = .int (a₀ + i * c₀) t)
      (fun i h => IsRangeIter h s.heap.objs.size (a₀ + (i : Nat) * c₀) ((n : Int) - (i : Nat)) c₀) := (Walks.range hh _ a₀ c₀ n).bound
  refine ⟨s.heap.objs.size, _, _, n, _, _, m₀, news, J, rfl, W, ?_, ?_, ?_, (by show IsRangeIter _ _ _ _ _; rw [hn]; simpa using Heap.get?_push_size _ rfl), F.push _, (fun p hp => ⟨Heap.get?_push_of_some _ (N p hp).1, (N p hp).2⟩), hj, ?_, ?_⟩
  · intro hm
    exact absurd F.ns.lt ((List.mem_singleton.mp hm) ▸ Nat.lt_irrefl _)
  · intro b hb
    rw [List.mem_singleton.mp hb]
    exact next_is_new F
  · intro p hp hI
    exact absurd (Heap.lt_size (N p hp).1) ((List.mem_singleton.mp hI) ▸ Nat.lt_irrefl _)
  · rintro i v m₁ nw s₁ own ⟨hh', tk', rfl⟩ hin ⟨_, t, rfl⟩ hJ hoff hown hlive hall hst F₁ N₁
    obtain ⟨oI, hst', hcI⟩ : ∃ o, hh'.get? s.heap.objs.size = some o ∧ o.cls = .type "range_iterator" := ⟨_, hst, rfl⟩
    have hI := hall s.heap.objs.size (.head _) (next_is_new F) _ hst'
    have hoff' : ∀ p ∈ nw, p.1 ≠ s.heap.objs.size := fun p hp e => hoff p hp (by rw [e]; exact .head _)
    have N₂ : News h₀ env.locals hh' ((s.heap.objs.size, oI) :: nw) := fun p hp => by
      rcases List.mem_cons.mp hp with rfl | hp
      · exact N₁ _ (List.mem_append_left _ hI)
      · exact N₁ _ (List.mem_append_right _ hp)
    refine wpAny_mono (turn i t m₁ nw hh' tk' _ oI hin hJ hoff' hcI F₁ N₂) (fun f s₂ p => ?_) fun _ _ e => e
    have fin : GrowEnd h₀ env.locals (J (i + 1)) s.heap.objs.size oI { s with heap := hh', toks := tk' } s₂ → LoopStepU h₀ env.locals [s.heap.objs.size] own (J (i + 1)) { s with heap := hh', toks := tk' } .next s₂ := by
      rintro ⟨h', tk, m', nw', e, F', N', ho, hj'⟩
      refine ⟨rfl, h', tk, m', nw', e, F', fun p hp => ?_, fun p hp hq => ho p hp (List.mem_singleton.mp hq), hj'⟩
      rcases List.mem_append.mp hp with hp | hp
      · have e1 : p.1 = s.heap.objs.size := List.mem_singleton.mp (hown p hp)
        have e2 := hlive p hp
        rw [e1, hst'] at e2
        have e3 : p = (s.heap.objs.size, oI) := Prod.ext e1 (Option.some.inj e2).symm
        rw [e3]
        exact N' _ (.head _)
      · exact N' _ (.tail _ hp)
    cases f with
    | ret v => exact .ret p
    | brk => exact .brk p
    | next => exact .next (fin p)
    | cont => exact .cont (fin p)
  · rintro h' tk m' news' F' N' _ hJ
    exact done m' news' h' tk hJ F' N'
end
theorem grow1 {g h : Heap} {L I : Addr} {oI : Obj} {t1 tl news : Led} (N : News g L h (t1 ++ (I, oI) :: (tl ++ news))) (A1 : Abv t1 ((I, oI) :: (tl ++ news))) (ho : ∀ p ∈ tl ++ news, p.1 ≠ I) (A : Abv tl news) :
    News g L h ((I, oI) :: ((t1 ++ tl) ++ news)) ∧ (∀ p ∈ (t1 ++ tl) ++ news, p.1 ≠ I) ∧ Abv (t1 ++ tl) news := by
  refine ⟨News.sub N fun p hp => ?_, fun p hp => ?_, fun q hq p hp => ?_⟩
  · simp only [List.mem_append, List.mem_cons] at hp ⊢
    rcases hp with h | (h | h) | h <;> simp [h]
  · simp only [List.mem_append, List.append_assoc] at hp
    rcases hp with h | h
    · exact (A1 (I, oI) (.head _) p h).symm
    · exact ho p (List.mem_append.mpr h)
  · rcases List.mem_append.mp hp with h | h
    · exact A1 q (.tail _ (List.mem_append_right _ hq)) p h
    · exact A q hq p h
theorem grow2 {g h : Heap} {L I : Addr} {oI : Obj} {t1 t2 tl news : Led} (N : News g L h (t2 ++ (t1 ++ (I, oI) :: (tl ++ news)))) (A1 : Abv t1 ((I, oI) :: (tl ++ news))) (A2 : Abv t2 (t1 ++ (I, oI) :: (tl ++ news))) (ho : ∀ p ∈ tl ++ news, p.1 ≠ I) (A : Abv tl news) :
    News g L h ((I, oI) :: ((t2 ++ t1 ++ tl) ++ news)) ∧ (∀ p ∈ (t2 ++ t1 ++ tl) ++ news, p.1 ≠ I) ∧ Abv (t2 ++ t1 ++ tl) news := by
  rw [← List.append_assoc] at N
  exact grow1 N (A2.app A1) ho A
theorem grow3 {g h : Heap} {L I : Addr} {oI : Obj} {t1 t2 t3 tl news : Led} (N : News g L h (t3 ++ (t2 ++ (t1 ++ (I, oI) :: (tl ++ news))))) (A1 : Abv t1 ((I, oI) :: (tl ++ news))) (A2 : Abv t2 (t1 ++ (I, oI) :: (tl ++ news))) (A3 : Abv t3 (t2 ++ (t1 ++ (I, oI) :: (tl ++ news)))) (ho : ∀ p ∈ tl ++ news, p.1 ≠ I) (A : Abv tl news) :
    News g L h ((I, oI) :: ((t3 ++ (t2 ++ t1) ++ tl) ++ news)) ∧ (∀ p ∈ (t3 ++ (t2 ++ t1) ++ tl) ++ news, p.1 ≠ I) ∧ Abv (t3 ++ (t2 ++ t1) ++ tl) news := by
  rw [← List.append_assoc t2, ← List.append_assoc] at N
  rw [← List.append_assoc] at A3
  exact grow1 N (A3.app (A2.app A1)) ho A
end
section
theorem rulesM7a : True := by
  k_with_none
  k_with "st" => (repeat' (first | (k_unfold; (try dsimp only)) | ((try dsimp only); walk1)))
  k_with "ktr_rel" => first | exact fun _ h => h | exact List.forall_mem_nil _ | exact fun _ h => List.mem_append_right _ h | exact fun _ h => List.mem_cons_of_mem _ h | (refine sub_app ?_; ktr_rel; done) | (refine sub_cons ?_; ktr_rel; done) | (intro p hp; simp only [List.mem_append, List.mem_cons, hp, true_or, or_true])
  k_with "exec While Compare cons nil" => refine stopHere ?_
  k_with "subscriptTail Name Constant ref int" => (k_here; k_dflt (first
      | ((fail_if_success fail_if_success (with_reducible show wpAny _ _ (subscriptTail _ _ (Value.ref _) (Value.int 0 _)) _ _ _)); refine' rat_item0 (by assumption) (by assumption) (by assumption) (by assumption) (by ktr_rel) ?_ ?_; rotate_left; (with_unfolding_all rfl); intro t'q)
      | ((fail_if_success fail_if_success (with_reducible show wpAny _ _ (subscriptTail _ _ (Value.ref _) (Value.int 1 _)) _ _ _)); refine' rat_item1 (by assumption) (by assumption) (by assumption) (by assumption) (by ktr_rel) ?_ ?_; rotate_left; (with_unfolding_all rfl); intro t'q)
      | ((fail_if_success fail_if_success (with_reducible show wpAny _ _ (subscriptTail _ _ (Value.ref _) (Value.int _ _)) _ _ _)); refine' lst_item (by assumption) (by assumption) (by ktr_rel) (by first | exact Int.natCast_nonneg _ | omega) (by first | assumption | omega) ?_ ?_; rotate_left; (with_unfolding_all rfl); intro a'q R'q)))
  k_with "subscriptTail Name Name ref int" => (k_here; k_dflt ((fail_if_success fail_if_success (with_reducible show wpAny _ _ (subscriptTail _ _ (Value.ref _) (Value.int _ _)) _ _ _)); refine' lst_item (by assumption) (by assumption) (by ktr_rel) (by first | exact Int.natCast_nonneg _ | omega) (by first | assumption | omega) ?_ ?_; rotate_left; (with_unfolding_all rfl); intro a'q R'q))
  k_with "subscriptTail Name BinOp ref int" => (k_here; k_dflt ((fail_if_success fail_if_success (with_reducible show wpAny _ _ (subscriptTail _ _ (Value.ref _) (Value.int _ _)) _ _ _)); refine' lst_item (by assumption) (by assumption) (by ktr_rel) (by first | exact Int.natCast_nonneg _ | omega) (by first | assumption | omega) ?_ ?_; rotate_left; (with_unfolding_all rfl); intro a'q R'q))
  k_with "call builtin:len" => (k_here; (fail_if_success fail_if_success (with_reducible show wpAny _ _ (call (Value.builtin "len") [Value.ref _]) _ _ _)); k_dflt (refine' lst_len (by assumption) (by assumption) (by ktr_rel) ?_))
  k_with "compareOp NotEq ref ref" => (k_here; (fail_if_success fail_if_success (with_reducible show wpAny _ _ (compareOp CmpOp.NotEq (Value.ref _) (Value.ref _)) _ _ _)); k_dflt (first
      | (refine' tup_ne (by assumption) (by first | assumption | exact tup49 (T := [])) (by assumption) (by assumption) (by assumption) (by ktr_rel) (by ktr_rel) (by first | exact room (by assumption) (by decide) | ((try dsimp only); first | exact room (by assumption) (by decide) | omega)) ?_)
      | (refine' lst_ne (by assumption) (by assumption) (by assumption) (by assumption) (by assumption) (by ktr_rel) (by ktr_rel) (by first | exact room (by assumption) (by decide) | ((try dsimp only); first | exact room (by assumption) (by decide) | omega)) ?_)))
  k_with "compareOp Eq ref ref" => (k_here; (fail_if_success fail_if_success (with_reducible show wpAny _ _ (compareOp CmpOp.Eq (Value.ref _) (Value.ref _)) _ _ _)); k_dflt (refine' lst_eq (by assumption) (by assumption) (by assumption) (by assumption) (by assumption) (by ktr_rel) (by ktr_rel) (by first | exact room (by assumption) (by decide) | ((try dsimp only); first | exact room (by assumption) (by decide) | omega)) ?_))
  k_with "call ref" => (k_here; (fail_if_success fail_if_success (with_reducible show wpAny _ _ (call (Value.ref 64) _) _ _ _)); k_dflt (refine' call_radd (by assumption) (by assumption) (by assumption) (by assumption) (by assumption) (by exact rfl) (by first | exact room (by assumption) (by decide) | omega) (by first | exact room (by assumption) (by decide) | omega) (by first | assumption | exact tup49 (T := []) | exact tup50 (T := [])) (by ktr_rel) (by first | assumption | exact tup49 (T := []) | exact tup50 (T := [])) (by ktr_rel) (by assumption) (by assumption) ?_); (intro a'q tl'q h'q tk'q F'q N'q A'q R'q); (try k_sweep))
  k_with "call ref" => (k_here; (fail_if_success fail_if_success (with_reducible show wpAny _ _ (call (Value.ref 71) _) _ _ _)); k_dflt (refine' call_rsub (by assumption) (by assumption) (by assumption) (by assumption) (by assumption) (by exact rfl) (by first | exact room (by assumption) (by decide) | omega) (by first | exact room (by assumption) (by decide) | omega) (by first | assumption | exact tup49 (T := []) | exact tup50 (T := [])) (by ktr_rel) (by first | assumption | exact tup49 (T := []) | exact tup50 (T := [])) (by ktr_rel) (by assumption) (by assumption) ?_); (intro a'q tl'q h'q tk'q F'q N'q A'q R'q); (try k_sweep))
  k_with "call ref" => (k_here; (fail_if_success fail_if_success (with_reducible show wpAny _ _ (call (Value.ref 78) _) _ _ _)); k_dflt (refine' call_rmul (by assumption) (by assumption) (by assumption) (by assumption) (by assumption) (by exact rfl) (by first | exact room (by assumption) (by decide) | omega) (by first | exact room (by assumption) (by decide) | omega) (by first | assumption | exact tup49 (T := []) | exact tup50 (T := [])) (by ktr_rel) (by first | assumption | exact tup49 (T := []) | exact tup50 (T := [])) (by ktr_rel) (by assumption) (by assumption) ?_); (intro a'q tl'q h'q tk'q F'q N'q A'q R'q); (try k_sweep))
  k_with "call ref" => (k_here; (fail_if_success fail_if_success (with_reducible show wpAny _ _ (call (Value.ref 85) _) _ _ _)); k_dflt (refine' call_rdiv (by assumption) (by assumption) (by assumption) (by assumption) (by assumption) (by exact rfl) (by first | exact room (by assumption) (by decide) | omega) (by first | exact room (by assumption) (by decide) | omega) (by first | assumption | exact tup49 (T := []) | exact tup50 (T := [])) (by ktr_rel) (by first | assumption | exact tup49 (T := []) | exact tup50 (T := [])) (by ktr_rel) (by assumption) (by assumption) (by assumption) ?_); (intro a'q tl'q h'q tk'q F'q N'q A'q R'q); (try k_sweep))
  k_with "exec For Name Call cons nil" => (k_here; (rename Fr _ _ _ _ => lF'q); (with_unfolding_all refine' For_invVF lF'q (by exact rfl) (by exact rfl) ?_; k_whole))
  k_with "pyIter ref" => refine stopHere ?_
  k_with "eval ListComp" => refine stopHere ?_
  k_with "CompSrc" => refine stopHere ?_
  exact True.intro
/-- the sum that mixed gathers -/
def mixS (a b : List Rat) (n : Nat) : Nat → Rat
  | 0 => 0
  | j + 1 => mixS a b n j + a.getD j 0 * b.getD (n - j) 0
def MixOk (a b : List Rat) (n : Nat) : Prop := ∀ j, j ≤ n → Tiny (a.getD j 0) ∧ Tiny (b.getD (n - j) 0) ∧ Tiny (a.getD j 0 * b.getD (n - j) 0) ∧ Tiny (mixS a b n j)
section
variable {w : World} {p : Program} {loose : List Str} {mean : ExcName → Option Value} {mg mb : Str → Option Value}
theorem mixed_does {a1 b1 : Addr} {qs rs : List Rat} {n : Nat} {t : Tok} {news : Led} (r1 : LstAt w news a1 qs) (r2 : LstAt w news b1 rs) (h1 : n < qs.length) (h2 : n < rs.length) (ok : MixOk qs rs n) :
    Does w p loose mean mg mb 4 123 120 [.ref a1, .ref b1, .int n t] news (fun tl r => ∃ a, r = .ref a ∧ TupAt w tl a (mixS qs rs n (n + 1))) := by
  refine does_of (dep := 3) (uns := 120) [(Str.ofString "a", .ref a1), (Str.ofString "b", .ref b1), (Str.ofString "at", .int n t)] (by k_is) (by k_is) (fun s => BindsTo.of_eq rfl) (locs rfl) rfl rfl rfl (by decide) ?_
  unfold Runs
  intro dp un gd outer A₀ base g L s Q E B F X N T hd hu hE hret
  k_fold
  have hl := r1.le
  k_unmd
  k_extra "st"
  rename IsRange _ _ _ _ _ _ _ _ => IR
  rename News _ _ _ _ => N1
  rename Fr _ _ _ _ => F1
  unfold Stop
  refine iter_grow (n := n + 1) (fun i m₁ nw => ∃ tl fa, nw = tl ++ news ∧ Abv tl news ∧ TupAt w tl fa (mixS qs rs n i) ∧ m₁ (Str.ofString "found") = some (.ref fa) ∧ m₁ (Str.ofString "a") = some (.ref a1) ∧ m₁ (Str.ofString "b") = some (.ref b1) ∧ m₁ (Str.ofString "at") = some (.int n t))
    rfl IR (small_one (by omega) (by omega) (by omega) (by omega)) (by rw [rangeSize_nat]; first | exact tn_pred _ | omega) F1 N1 ⟨[], 49, rfl, Abv.nil, tup49, rfl, rfl, rfl, rfl⟩ ?_ ?_
  · rintro i t' m₁ nw h tk I oI hi hJ6 ho _ F₂ N₂
    refine hideQ fun Z0 hZ0 => ?_
    refine ex2 hJ6 fun tl fa hC8 => and7 hC8 fun hE7 ha hf e1 e2 e3 e4 => ?_
    clear hJ6
    clear hC8
    subst hE7
    clear F1 N1 IR
    have em : fmo [(Str.ofString "found", .ref fa), (Str.ofString "a", .ref a1), (Str.ofString "b", .ref b1), (Str.ofString "at", .int n t)] m₁ = m₁ := fmo_known (by simp [e1, e2, e3, e4])
    rw [← em] at F₂
    simp only [Int.mul_one, Int.zero_add] at F₂
    refine and4 (ok i (by omega)) fun k1 k2 k3 k4 => ?_
    have x1 : (i : Int).toNat = i := Int.toNat_natCast i
    have x2 : ((n : Int) - (i : Int)).toNat = n - i := tn_sub n i
    rw [← x2] at k2 k3
    rw [← x1] at k1
    conv at k3 => arg 1; arg 1; rw [← x1]
    replace F₂ : Fr g L h _ := F₂
    replace N₂ : News g L h _ := N₂
    clear em e1 e2 e3 e4
    clear x1 x2
    k_unmd
    (try k_fold)
    k_extra "st"
    · refine hZ0 _ _ ?_
      refine GrowEnd.intro F₂ N₂ ho ⟨tl, fa, rfl, ha, ?_, rfl, rfl, rfl, rfl⟩
      have e0 : qs.getD (i : Int).toNat 0 = 0 := by assumption
      rw [Int.toNat_natCast] at e0
      rw [mixS, e0, Rat.zero_mul, Rat.add_zero]
      exact hf
    · refine hZ0 _ _ ?_
      refine GrowEnd.intro F₂ N₂ ho ⟨tl, fa, rfl, ha, ?_, rfl, rfl, rfl, rfl⟩
      have e0 : rs.getD ((n : Int) - (i : Int)).toNat 0 = 0 := by assumption
      rw [tn_sub] at e0
      rw [mixS, e0, Rat.mul_zero, Rat.add_zero]
      exact hf
    · rename TupAt _ _ _ (_ + _ : Rat) => R3
      rename Fr _ _ _ _ => F3
      rename News _ _ _ _ => N3
      refine and3 (grow2 N3 (by assumption) (by assumption) ho ha) fun n1 n2 n3 => ?_
      refine hZ0 _ _ ?_
      refine GrowEnd.intro F3 n1 n2 ⟨_, _, rfl, n3, ?_, rfl, rfl, rfl, rfl⟩
      rw [Int.toNat_natCast, tn_sub] at R3
      rw [mixS]
      exact R3.mono (by ktr_rel)
  · rintro m₁ nw h tk hJ9 F₂ N₂
    refine ex2 hJ9 fun tl fa hC11 => and7 hC11 fun hE10 ha hf e1 e2 e3 e4 => ?_
    clear hJ9
    clear hC11
    subst hE10
    clear F1 N1 IR
    replace F₂ := fr_known1 e1 F₂
    (try dsimp only)
    k_extra "st"
    exact hret _ tl _ _ _ F₂ N₂ ha ⟨fa, rfl, hf⟩
end
end
section
/-- the contract of a body whose names a block closes over -/
def RunsC (w : World) (p : Program) (loose : List Str) (mean : ExcName → Option Value) (mg mb : Str → Option Value) (dep uns : Nat) (qual : Str) (scope : Scope) (f : Addr) (cdv : Value) (body : List Stmt) (binds : List (Str × Value)) (news : Led) (Post : Led → Value → Prop) : Prop :=
  ∀ (dp un : Nat) (gd : Option (List Code)) (outer : List Env) (A₀ : Around) (base g : Heap) (L : Addr) (s : Shared) (cells : Led) (Q E : Value → Shared → Prop),
    Below A₀ base outer g → Fr g L s.heap (bindL (envOfC qual scope L f cdv).kindOf binds fun _ => none) → (Mine.hd.heap_39 w.params).In g →
    CellsAre (bindC (envOfC qual scope L f cdv).kindOf binds fun _ => none) (cellsFrom (L + 1) scope.names []) cells → News g L s.heap (cells ++ news) → (∀ p ∈ news, p.1 < L) → Top p loose mean mg mb g → dp + dep < recursionLimit → un + uns < cLine →
    PassesOwn (model PySem.Challenge.rw_sa0095_01.row.prog w) (ktrTop dp un gd qual scope L f cdv (cellsFrom (L + 1) scope.names []) outer) (envX qual scope L f cdv (cellsFrom (L + 1) scope.names [])) E →
    (∀ r tl h' tk' m', Fr g L h' m' → News g L h' (tl ++ news) → Abv tl news → Post tl r → Q r { s with heap := h', toks := tk' }) →
    wpAny (model PySem.Challenge.rw_sa0095_01.row.prog w) (ktrTop dp un gd qual scope L f cdv (cellsFrom (L + 1) scope.names []) outer) (execs body (envX qual scope L f cdv (cellsFrom (L + 1) scope.names [])))
      (fun fl s' => Q (match fl with | .ret v => v | _ => .none) s') E s
theorem doesC_of {w : World} {p : Program} {loose : List Str} {mean : ExcName → Option Value} {mg mb : Str → Option Value} {dep uns : Nat} {f : Addr} {vs : List Value} {news : Led} {Post : Led → Value → Prop}
    {name qual : Str} {params : Arguments} {body : List Stmt} {scope : Scope} {dV kV doc pm cdv ct oc : Value} {an od : Option Addr} {osl : Array (Option Value)} (binds : List (Str × Value))
    (ho : (Mine.hd.heap_39 w.params).lookup f = some ⟨oc, od, .func (fnOf name qual params body scope dV kV doc pm an cdv ct), osl⟩)
    (hcd : codeIn (Mine.hd.heap_39 w.params) cdv qual = true)
    (hbind : ∀ s, BindsTo s (fnOf name qual params body scope dV kV doc pm an cdv ct) ⟨vs, []⟩ binds)
    (hkind : (binds.all fun y => scope.names.lookup y.1 == some .local || scope.names.lookup y.1 == some .cell) = true)
    (hnd : ((cellsFrom 0 scope.names []).map (·.1)).Nodup)
    (hco : scope.isCoroutine = false) (hgen : scope.isGenerator = false) (hk : scope.kind = .function)
    (h : RunsC w p loose mean mg mb dep uns qual scope f cdv body binds news Post) : Does w p loose mean mg mb (dep + 1) (uns + 3) f vs news Post := by
  intro dp un gd cn cs a ccd cl outer A₀ base h₀ L m s Q E B F X N T hcs hd hu hret
  refine wpAny_call (code_defC B F X N T rfl rfl hcs ho hcd (dep_lt hd) (hbind s) hkind hnd ?_ hco hgen hk)
  intro g L' h₁ tk cells FG F₁ N₁ Y B₁ X₁ T₁ l1
  refine h (dp + 1) (un + 3) gd (envX cn cs L a ccd cl :: outer) _ base g L' { s with heap := h₁, toks := tk } cells (fun v s' => LeaveK h₀ L m g _ v s') _ B₁ F₁ X₁ Y N₁ l1 T₁ (dep_in hd) (uns_in hu) PassesOwn.leaving ?_
  intro r tl h' tk' m' F' N' ha hp
  exact ⟨L', m', tl ++ news, F', N', fun F₂ N₂ => hret r tl h' tk' F₂ N₂ ha hp⟩
section
open LCg
variable {prog : Program} {w : World} {A : Around} {h₀ : Heap} {L : Addr} {m : Str → Option Value} {env : Env} {elt : Expr} {x : Str} {scope : Scope} {cl : List (Str × Addr)} {s : Shared} {S : Led → Prop} {P : Nat → Value → Prop} {Fin : List Value → Led → Prop}
theorem comp_rest {n : Nat} (J : Nat → List Value → Led → Prop)
    (step : ∀ i ys nw, i < n → J i ys nw → ∀ v I oI C oC D m₂ h tk (E' : Value → Shared → Prop), P i v → NsObj oC m₂ → m₂ x = some v → Fr h₀ L h m → News h₀ L h ((I, oI) :: (C, oC) :: (D, lst ys) :: nw) → Off3 I C D nw → ((@Ne Nat I C) ∧ (@Ne Nat I D) ∧ (@Ne Nat C D)) →
      ∀ R : Value → Led → Prop, (∀ y nw', J (i + 1) (ys ++ [y]) nw' → R y nw') →
      wpAny (model prog w) A (eval elt (compEnvC scope cl C env)) (CompEnd h₀ L m { s with heap := h, toks := tk } I oI C oC D (lst ys) S R) E' { s with heap := h, toks := tk })
    (fin : ∀ ys nw, J n ys nw → Fin ys nw) : ∀ k i ys nw, i + k = n → J i ys nw → CompRest prog w A h₀ L m env elt x scope cl s S P Fin k i ys nw
  | 0, i, ys, nw, e, j => CompRest.zero (fin ys nw (show J n ys nw from (show i = n from e) ▸ j))
  | k + 1, i, ys, nw, e, j => CompRest.succ fun v I oI C oC D m₂ h tk E' hP hC hx F N off ne =>
      step i ys nw (by omega) j v I oI C oC D m₂ h tk E' hP hC hx F N off ne _ fun y nw' j' => comp_rest J step fin k (i + 1) (ys ++ [y]) nw' (by omega) j'
/-- the end of a turn of a comprehension behind one stretch of new objects -/
theorem comp_end1 {h : Heap} {I C D : Addr} {oI oC oD : Obj} {t1 nw : Led} (N : News h₀ L h (t1 ++ (I, oI) :: (C, oC) :: (D, oD) :: nw)) (A1 : Abv t1 ((I, oI) :: (C, oC) :: (D, oD) :: nw)) (off : Off3 I C D nw) :
    News h₀ L h ((I, oI) :: (C, oC) :: (D, oD) :: (t1 ++ nw)) ∧ Off3 I C D (t1 ++ nw) := by
  constructor
  · refine News.sub N fun p hp => ?_
    simp only [List.mem_append, List.mem_cons] at hp ⊢
    rcases hp with h | h | h | h | h <;> simp [h]
  · refine Off3.of fun p hp => ?_
    rcases List.mem_append.mp hp with h | h
    · exact ⟨(A1 (I, oI) (.head _) p h).symm, (A1 (C, oC) (.tail _ (.head _)) p h).symm, (A1 (D, oD) (.tail _ (.tail _ (.head _))) p h).symm⟩
    · exact off.mem p h
theorem comp_end2 {h : Heap} {I C D d : Addr} {oI oC oD od : Obj} {t1 nw : Led} (N : News h₀ L h (t1 ++ (d, od) :: (I, oI) :: (C, oC) :: (D, oD) :: nw)) (A1 : Abv t1 ((d, od) :: (I, oI) :: (C, oC) :: (D, oD) :: nw)) (hd : ∀ p ∈ (I, oI) :: (C, oC) :: (D, oD) :: nw, p.1 < d) (off : Off3 I C D nw) :
    News h₀ L h ((I, oI) :: (C, oC) :: (D, oD) :: ((t1 ++ [(d, od)]) ++ nw)) ∧ Off3 I C D ((t1 ++ [(d, od)]) ++ nw) ∧ Abv (t1 ++ [(d, od)]) ((I, oI) :: (C, oC) :: (D, oD) :: nw) := by
  have a2 : Abv (t1 ++ [(d, od)]) ((I, oI) :: (C, oC) :: (D, oD) :: nw) := by
    intro q hq p hp
    rcases List.mem_append.mp hp with h | h
    · exact A1 q (.tail _ hq) p h
    · rw [List.mem_singleton.mp h]
      exact Nat.ne_of_lt (hd q hq)
  have e : t1 ++ (d, od) :: (I, oI) :: (C, oC) :: (D, oD) :: nw = (t1 ++ [(d, od)]) ++ (I, oI) :: (C, oC) :: (D, oD) :: nw := by simp
  rw [e] at N
  refine and2 (comp_end1 N a2 off) fun n1 n2 => ?_
  exact ⟨n1, n2, a2⟩
theorem led_of {h : Heap} {news : Led} (N : News h₀ L h news) : ∃ base : Led, base = news ∧ News h₀ L h base := ⟨_, rfl, N⟩
theorem off1_ne {D : Addr} : ∀ {l : Led}, Off1 D l → ∀ p ∈ l, p.1 ≠ D
  | [], _, _, h => nomatch h
  | _ :: _, x, p, h => by
    rcases List.mem_cons.mp h with rfl | h
    · exact x.1
    · exact off1_ne x.2 p h
theorem abv_drop3 {t1 nw : Led} {a b c : Addr × Obj} (A1 : Abv t1 (a :: b :: c :: nw)) : Abv t1 nw := fun q hq p hp => A1 q (.tail _ (.tail _ (.tail _ hq))) p hp
end
theorem items_snoc {P : Nat → Addr → Prop} {as : List Addr} {b : Addr} (h : ∀ (j : Nat) (a : Addr), as[j]? = some a → P j a) (hb : P as.length b) : ∀ (j : Nat) (a : Addr), (as ++ [b])[j]? = some a → P j a := by
  intro j a hj
  by_cases h1 : j < as.length
  · rw [List.getElem?_append_left h1] at hj
    exact h j a hj
  · rw [List.getElem?_append_right (by omega)] at hj
    have h2 : j - as.length = 0 := by
      cases hz : j - as.length with
      | zero => rfl
      | succ k => rw [hz] at hj; simp at hj
    rw [h2] at hj
    have h3 : j = as.length := by omega
    subst h3
    cases hj
    exact hb
theorem lst_range {w : World} {T : Led} {D : Addr} {as : List Addr} {k n : Nat} {f : Nat → Rat} (hm : (D, lstO as k) ∈ T) (hn : as.length = n) (hle : n ≤ 1000) (hit : ∀ (j : Nat) (a : Addr), as[j]? = some a → TupAt w T a (f j)) :
    LstAt w T D ((List.range n).map f) := by
  refine ⟨as, k, hm, by simp [hn], by simpa using hle, fun i a q ha hq => ?_⟩
  have hi : i < as.length := by
    rcases Nat.lt_or_ge i as.length with h | h
    · exact h
    · rw [List.getElem?_eq_none h] at ha; cases ha
  have : q = f i := by
    rw [List.getElem?_map, List.getElem?_range (by omega)] at hq
    cases hq; rfl
  rw [this]
  exact hit i a ha
theorem cells_abv2 {L : Addr} {o o2 : Obj} {news : Led} (l : ∀ p ∈ news, p.1 < L) : Abv [(L + 1 + 1, o), (L + 1, o2)] news := by
  intro q hq p hp
  have h := l q hq
  rcases List.mem_cons.mp hp with rfl | hp
  · exact Nat.ne_of_lt (Nat.lt_succ_of_lt (Nat.lt_succ_of_lt h))
  · rw [List.mem_singleton.mp hp]
    exact Nat.ne_of_lt (Nat.lt_succ_of_lt h)
theorem cells_abv1 {L : Addr} {o : Obj} {news : Led} (l : ∀ p ∈ news, p.1 < L) : Abv [(L + 1, o)] news := by
  intro q hq p hp
  have h := l q hq
  rw [List.mem_singleton.mp hp]
  exact Nat.ne_of_lt (Nat.lt_succ_of_lt h)
theorem comp_fin {w : World} {g h : Heap} {L D : Addr} {as : List Addr} {tl cells news : Led} {n : Nat} {f : Nat → Rat} (N : News g L h ((D, LCg.lst (as.map Value.ref)) :: (tl ++ (cells ++ news)))) (off : LCg.Off1 D (tl ++ (cells ++ news)))
    (ha : Abv tl (cells ++ news)) (hc : Abv cells news) (hn : as.length = n) (hle : n ≤ 1000) (hit : ∀ (j : Nat) (a : Addr), as[j]? = some a → TupAt w tl a (f j)) :
    ∃ T : Led, News g L h (T ++ news) ∧ Abv T news ∧ LstAt w (T ++ news) D ((List.range n).map f) ∧ ∀ q ∈ news, q.1 ≠ D := by
  have hne := off1_ne off
  refine ⟨(D, LCg.lst (as.map Value.ref)) :: (tl ++ cells), ?_, ?_, ?_, ?_⟩
  · rw [List.cons_append, List.append_assoc]; exact N
  · refine Abv.cons' (fun p hp => hne p ?_) (Abv.app ha hc)
    rw [List.append_assoc] at hp
    exact hp
  · refine lst_range (k := (as.map Value.ref).length) (.head _) hn hle fun j a hj => (hit j a hj).mono fun p hp => ?_
    exact .tail _ (List.mem_append_left _ (List.mem_append_left _ hp))
  · exact fun q hq => hne q (List.mem_append_right _ (List.mem_append_right _ hq))
end
section
theorem rulesM9a : True := by
  k_with_none
  k_with "st" => (repeat' (first | (k_unfold; (try dsimp only)) | ((try dsimp only); walk1)))
  k_with "ktr_rel" => first | exact fun _ h => h | exact List.forall_mem_nil _ | exact fun _ h => List.mem_append_right _ h | exact fun _ h => List.mem_cons_of_mem _ h | (refine sub_app ?_; ktr_rel; done) | (refine sub_cons ?_; ktr_rel; done) | (intro p hp; simp only [List.mem_append, List.mem_cons, hp, true_or, or_true])
  k_with "exec While Compare cons nil" => refine stopHere ?_
  k_with "subscriptTail Name Constant ref int" => (k_here; k_dflt (first
      | ((fail_if_success fail_if_success (with_reducible show wpAny _ _ (subscriptTail _ _ (Value.ref _) (Value.int 0 _)) _ _ _)); refine' rat_item0 (by assumption) (by assumption) (by assumption) (by assumption) (by ktr_rel) ?_ ?_; rotate_left; (with_unfolding_all rfl); intro t'q)
      | ((fail_if_success fail_if_success (with_reducible show wpAny _ _ (subscriptTail _ _ (Value.ref _) (Value.int 1 _)) _ _ _)); refine' rat_item1 (by assumption) (by assumption) (by assumption) (by assumption) (by ktr_rel) ?_ ?_; rotate_left; (with_unfolding_all rfl); intro t'q)
      | ((fail_if_success fail_if_success (with_reducible show wpAny _ _ (subscriptTail _ _ (Value.ref _) (Value.int _ _)) _ _ _)); refine' lst_item (by assumption) (by assumption) (by ktr_rel) (by first | exact Int.natCast_nonneg _ | omega) (by first | assumption | omega) ?_ ?_; rotate_left; (with_unfolding_all rfl); intro a'q R'q)))
  k_with "subscriptTail Name Name ref int" => (k_here; k_dflt ((fail_if_success fail_if_success (with_reducible show wpAny _ _ (subscriptTail _ _ (Value.ref _) (Value.int _ _)) _ _ _)); refine' lst_item (by assumption) (by assumption) (by ktr_rel) (by first | exact Int.natCast_nonneg _ | omega) (by first | assumption | omega) ?_ ?_; rotate_left; (with_unfolding_all rfl); intro a'q R'q))
  k_with "subscriptTail Name BinOp ref int" => (k_here; k_dflt ((fail_if_success fail_if_success (with_reducible show wpAny _ _ (subscriptTail _ _ (Value.ref _) (Value.int _ _)) _ _ _)); refine' lst_item (by assumption) (by assumption) (by ktr_rel) (by first | exact Int.natCast_nonneg _ | omega) (by first | assumption | omega) ?_ ?_; rotate_left; (with_unfolding_all rfl); intro a'q R'q))
  k_with "call builtin:len" => (k_here; (fail_if_success fail_if_success (with_reducible show wpAny _ _ (call (Value.builtin "len") [Value.ref _]) _ _ _)); k_dflt (refine' lst_len (by assumption) (by assumption) (by ktr_rel) ?_))
  k_with "compareOp NotEq ref ref" => (k_here; (fail_if_success fail_if_success (with_reducible show wpAny _ _ (compareOp CmpOp.NotEq (Value.ref _) (Value.ref _)) _ _ _)); k_dflt (first
      | (refine' tup_ne (by assumption) (by first | assumption | exact tup49 (T := [])) (by assumption) (by assumption) (by assumption) (by ktr_rel) (by ktr_rel) (by first | exact room (by assumption) (by decide) | ((try dsimp only); first | exact room (by assumption) (by decide) | omega)) ?_)
      | (refine' lst_ne (by assumption) (by assumption) (by assumption) (by assumption) (by assumption) (by ktr_rel) (by ktr_rel) (by first | exact room (by assumption) (by decide) | ((try dsimp only); first | exact room (by assumption) (by decide) | omega)) ?_)))
  k_with "compareOp Eq ref ref" => (k_here; (fail_if_success fail_if_success (with_reducible show wpAny _ _ (compareOp CmpOp.Eq (Value.ref _) (Value.ref _)) _ _ _)); k_dflt (refine' lst_eq (by assumption) (by assumption) (by assumption) (by assumption) (by assumption) (by ktr_rel) (by ktr_rel) (by first | exact room (by assumption) (by decide) | ((try dsimp only); first | exact room (by assumption) (by decide) | omega)) ?_))
  k_with "call ref" => (k_here; (fail_if_success fail_if_success (with_reducible show wpAny _ _ (call (Value.ref 113) _) _ _ _)); k_dflt (refine' call_let (by assumption) (by assumption) (by assumption) (by assumption) (by assumption) (by exact rfl) (by first | exact room (by assumption) (by decide) | omega) (by first | exact room (by assumption) (by decide) | omega) (by assumption) (by ktr_rel) (by assumption) ?_); (intro h'q tk'q F'q N'q); (try k_sweep))
  k_with "exec For Name Call cons nil" => (k_here; (rename Fr _ _ _ _ => lF'q); (with_unfolding_all refine' For_invVF lF'q (by exact rfl) (by exact rfl) ?_; k_whole))
  k_with "pyIter ref" => refine stopHere ?_
  k_with "eval ListComp" => refine stopHere ?_
  k_with "CompSrc" => refine stopHere ?_
  k_with "lcg_sub" => first
      | exact List.Mem.head _
      | (refine List.Mem.tail _ ?_; lcg_sub)
      | (refine List.mem_append_right _ ?_; lcg_sub)
  k_with "eval Name" => (k_here; (fail_if_success fail_if_success (with_reducible show wpAny _ _ (eval (Expr.Name _ _) (compEnvC _ _ _ _)) _ _ _)); k_dflt (first
      | (refine' lcf_cell (by assumption) (by exact rfl) (by lcg_sub) (by assumption) ?_ rfl rfl)
      | (refine' LCgL.ld_own (by assumption) ?_ (by assumption) (by assumption) ?_ rfl rfl (by decide); lcg_sub)
      | (refine' LCgL.ld_global (by assumption) (by assumption) (by assumption) (by k_is) ?_ rfl rfl rfl (by decide))))
  exact True.intro
def smulF (a b : List Rat) : List Rat := (List.range (min a.length b.length)).map fun n => mixS a b n (n + 1)
def SmulOk (a b : List Rat) : Prop := ∀ n, n < min a.length b.length → MixOk a b n ∧ Tiny (mixS a b n (n + 1))
section
variable {w : World} {p : Program} {loose : List Str} {mean : ExcName → Option Value} {mg mb : Str → Option Value}
theorem call_mixed {dp un : Nat} {gd : Option (List Code)} {cn : Str} {cs : Scope} {a : Addr} {ccd : Value} {cl : List (Str × Addr)} {outer : List Env} {A₀ : Around} {base h₀ : Heap} {L : Addr} {m : Str → Option Value} {s : Shared} {Q E : Value → Shared → Prop} {news : Led} {a1 b1 : Addr} {qs rs : List Rat} {n : Nat} {t : Tok} {T1 T2 : Led}
    (F : Fr h₀ L s.heap m) (N : News h₀ L s.heap news) (B : Below A₀ base outer h₀) (X : (Mine.hd.heap_39 w.params).In h₀) (T : Top p loose mean mg mb h₀) (hk : cs.kind = .function) (hd : dp + 4 < recursionLimit) (hu : un + 123 < cLine) (r1 : LstAt w T1 a1 qs) (s1 : ∀ p ∈ T1, p ∈ news) (r2 : LstAt w T2 b1 rs) (s2 : ∀ p ∈ T2, p ∈ news) (h1 : n < qs.length) (h2 : n < rs.length) (ok : MixOk qs rs n)
    (ret : ∀ a' tl h' tk', Fr h₀ L h' m → News h₀ L h' (tl ++ news) → Abv tl news → TupAt w tl a' (mixS qs rs n (n + 1)) → Q (.ref a') { s with heap := h', toks := tk' }) :
    wpAny (model PySem.Challenge.rw_sa0095_01.row.prog w) (ktrTop dp un gd cn cs L a ccd cl outer) (call (.ref 120) [.ref a1, .ref b1, .int n t]) Q E s :=
  does_use F N (mixed_does (r1.mono s1) (r2.mono s2) h1 h2 ok) B X T hk hd hu fun r tl h' tk' F' N' A' ⟨a', e, h⟩ => by
    subst e
    exact ret a' tl h' tk' F' N' A' h
theorem rulesM9b : True := by
  k_with "call ref" => (k_here; (fail_if_success fail_if_success (with_reducible show wpAny _ _ (call (Value.ref 120) _) _ _ _)); k_dflt (refine' call_mixed (by assumption) (by assumption) (by assumption) (by assumption) (by assumption) (by exact rfl) (by first | exact room (by assumption) (by decide) | omega) (by first | exact room (by assumption) (by decide) | omega) (by assumption) (by ktr_rel) (by assumption) (by ktr_rel) (by first | assumption | omega) (by first | assumption | omega) (by assumption) ?_); (intro a'q tl'q h'q tk'q F'q N'q A'q R'q); (try k_sweep))
  exact True.intro
theorem smul_does {a1 b1 : Addr} {qs rs : List Rat} {news : Led} (r1 : LstAt w news a1 qs) (r2 : LstAt w news b1 rs) (ok : SmulOk qs rs) :
    Does w p loose mean mg mb 6 140 125 [.ref a1, .ref b1] news (fun tl r => ∃ l, r = .ref l ∧ LstAt w (tl ++ news) l (smulF qs rs) ∧ ∀ q ∈ news, q.1 ≠ l) := by
  refine doesC_of (dep := 5) (uns := 137) [(Str.ofString "a", .ref a1), (Str.ofString "b", .ref b1)] (by k_is) (by k_is) (fun s => BindsTo.of_eq rfl) rfl (by decide +kernel) rfl rfl rfl ?_
  unfold RunsC
  intro dp un gd outer A₀ base g L s cells Q E B F X Y N l1 T hd hu hE hret
  k_cells Y
  k_unmd
  k_fold
  have hl := r1.le
  have hl2 := r2.le
  simp only [List.cons_append, List.nil_append] at N
  k_unmd
  k_extra "st"
  unfold Stop
  refine LCg.ListComp_U (F₀ := F) (by with_unfolding_all rfl) (by decide) (by rfl) (by decide) (by rfl) ?_
  (try k_fold)
  k_extra "st"
  rename IsRange _ _ _ _ _ _ _ _ => IR
  rename News _ _ _ _ => N1
  rename Fr _ _ _ _ => F1
  unfold Stop
  obtain ⟨nb, hb, N2⟩ := led_of N1
  refine LCg.CompSrc.range (n := min qs.length rs.length) rfl F1 N2 IR (small_one (by omega) (by omega) (by split <;> omega) (by split <;> omega)) (by rw [rangeSize_nat]; first | exact if_max _ _ | exact if_min' _ _ | (split <;> omega)) (by rw [sizeLine_eq]; omega) ?_
  intro g'
  refine comp_rest (n := min qs.length rs.length) (fun i ys nw => ∃ (tl : Led) (as : List Addr), nw = tl ++ nb ∧ Abv tl nb ∧ ys = as.map Value.ref ∧ as.length = i ∧ ∀ (j : Nat) (a : Addr), as[j]? = some a → TupAt w tl a (mixS qs rs j (j + 1)))
    ?_ ?_ _ 0 [] _ (by omega) ⟨[], [], rfl, Abv.nil, rfl, rfl, fun j a h => by simp at h⟩
  · rintro i ys nw hi hJ12 v I oI C oC D m₂ h tk E' hJ13 hC hx F₂ N₂ off ne R hR
    refine hideQ fun Z0 hZ0 => ?_
    refine ex2 hJ12 fun tl as hC16 => and5 hC16 fun hE14 ha hE15 hlen hit => ?_
    clear hJ12
    clear hC16
    subst hE14
    subst hE15
    refine ex1 hJ13 fun t hE17 => ?_
    clear hJ13
    subst hE17
    subst hb
    clear F1 N1 N2 IR ne
    refine and2 (ok i hi) fun ok1 ok2 => ?_
    have hia : i < qs.length := Nat.lt_of_lt_of_le hi (Nat.min_le_left _ _)
    have hib : i < rs.length := Nat.lt_of_lt_of_le hi (Nat.min_le_right _ _)
    rw [Int.zero_add] at hx
    k_unmd
    (try k_fold)
    k_extra "st"
    rename TupAt _ _ _ (mixS _ _ _ _) => R3
    rename Fr _ _ _ _ => F3
    rename News _ _ _ _ => N3
    rename Abv _ ((_, _) :: _) => A3
    refine and2 (comp_end1 N3 A3 off) fun n1 n2 => ?_
    refine hZ0 _ _ ?_
    refine LCg.CompEnd.intro F3 n1 _ (fun _ h => h) n2 trivial (hR _ _ ⟨_ ++ tl, as ++ [_], (List.append_assoc _ _ _).symm, (abv_drop3 A3).app ha, by rw [List.map_append]; rfl, by rw [List.length_append, hlen]; rfl, fun j a hj => ?_⟩)
    exact items_snoc (P := fun j a => TupAt w _ a (mixS qs rs j (j + 1))) (fun j a h => (hit j a h).mono fun _ h => List.mem_append_right _ h) (by rw [hlen]; exact R3.mono fun _ h => List.mem_append_left _ h) j a hj
  · rintro ys nw hJ18 D h tk F₂ N₂ off
    refine ex2 hJ18 fun tl as hC21 => and5 hC21 fun hE19 ha hE20 hlen hit => ?_
    clear hJ18
    clear hC21
    subst hE19
    subst hE20
    subst hb
    clear F1 N1 N2 IR
    refine ex1 (comp_fin (cells := [_, _]) N₂ off ha (cells_abv2 l1) hlen (by omega) hit) fun T' hCo => and4 hCo fun t1 t2 t3 t4 => ?_
    clear hCo
    exact hret _ T' _ _ _ F₂ t1 t2 ⟨D, rfl, t3, t4⟩
end
end
section
/-- T bears what base bears; all else lies apart from it -/
def Ext (T base : Led) : Prop := (∀ p ∈ base, p ∈ T) ∧ ∀ p ∈ T, p ∈ base ∨ ∀ q ∈ base, q.1 ≠ p.1
theorem Ext.refl {T : Led} : Ext T T := ⟨fun _ h => h, fun _ h => .inl h⟩
theorem Ext.app {tl T base : Led} (x : Ext T base) (a : Abv tl T) : Ext (tl ++ T) base := by
  refine ⟨fun p hp => List.mem_append_right _ (x.1 p hp), fun p hp => ?_⟩
  rcases List.mem_append.mp hp with h | h
  · exact .inr fun q hq => a q (x.1 q hq) p h
  · exact x.2 p h
theorem Ext.cons {a : Addr} {o : Obj} {T base : Led} (x : Ext T base) (h : ∀ p ∈ T, p.1 < a) : Ext ((a, o) :: T) base := by
  refine ⟨fun p hp => .tail _ (x.1 p hp), fun p hp => ?_⟩
  rcases List.mem_cons.mp hp with rfl | hp
  · exact .inr fun q hq => Nat.ne_of_lt (h q (x.1 q hq))
  · exact x.2 p hp
theorem Ext.cons' {a : Addr} {o : Obj} {T base : Led} (x : Ext T base) (h : ∀ p ∈ T, p.1 ≠ a) : Ext ((a, o) :: T) base := by
  refine ⟨fun p hp => .tail _ (x.1 p hp), fun p hp => ?_⟩
  rcases List.mem_cons.mp hp with rfl | hp
  · exact .inr fun q hq => h q (x.1 q hq)
  · exact x.2 p hp
theorem Ext.trans {T S base : Led} (x : Ext T S) (y : Ext S base) : Ext T base := by
  refine ⟨fun p hp => x.1 p (y.1 p hp), fun p hp => ?_⟩
  rcases x.2 p hp with h | h
  · exact y.2 p h
  · exact .inr fun q hq => h q (y.1 q hq)
theorem Ext.of_abv {tl base : Led} (a : Abv tl base) : Ext (tl ++ base) base := Ext.refl.app a
theorem ext_split {T base : Led} (x : Ext T base) : ∃ tl : Led, (∀ p ∈ tl ++ base, p ∈ T) ∧ (∀ p ∈ T, p ∈ tl ++ base) ∧ Abv tl base := by
  classical
  refine ⟨T.filter (fun p => decide (∀ q ∈ base, q.1 ≠ p.1)), fun p hp => ?_, fun p hp => ?_, fun q hq p hp => ?_⟩
  · rcases List.mem_append.mp hp with h | h
    · exact (List.mem_filter.mp h).1
    · exact x.1 p h
  · rcases x.2 p hp with h | h
    · exact List.mem_append_right _ h
    · exact List.mem_append_left _ (List.mem_filter.mpr ⟨hp, decide_eq_true h⟩)
  · exact of_decide_eq_true (List.mem_filter.mp hp).2 q hq
theorem news_one {g h : Heap} {L a : Addr} {o o' : Obj} {T : Led} (N : News g L h T) (h1 : (a, o) ∈ T) (h2 : (a, o') ∈ T) : o = o' := by
  have e1 := (N _ h1).1
  have e2 := (N _ h2).1
  exact Option.some.inj (e1.symm.trans e2)
/-- the ledger without an address -/
def dropL (I : Addr) (T : Led) : Led := T.filter (fun p => decide (p.1 ≠ I))
theorem mem_dropL {I : Addr} {T : Led} {p : Addr × Obj} : p ∈ dropL I T ↔ p ∈ T ∧ p.1 ≠ I := by simp [dropL]
/-- the ledger with another object at an address -/
def updL (l : Addr) (o : Obj) (T : Led) : Led := (l, o) :: dropL l T
theorem upd_mem {l : Addr} {o : Obj} {T : Led} {p : Addr × Obj} (h : p ∈ T) (hne : p.1 ≠ l) : p ∈ updL l o T := .tail _ (mem_dropL.mpr ⟨h, hne⟩)
theorem Ext.drop {I : Addr} {T base : Led} (x : Ext T base) (h : ∀ q ∈ base, q.1 ≠ I) : Ext (dropL I T) base :=
  ⟨fun p hp => mem_dropL.mpr ⟨x.1 p hp, h p hp⟩, fun p hp => x.2 p (mem_dropL.mp hp).1⟩
theorem Ext.upd {l : Addr} {o : Obj} {T base : Led} (x : Ext T base) (h : ∀ q ∈ base, q.1 ≠ l) : Ext (updL l o T) base := by
  refine ⟨fun p hp => .tail _ (mem_dropL.mpr ⟨x.1 p hp, h p hp⟩), fun p hp => ?_⟩
  rcases List.mem_cons.mp hp with rfl | hp
  · exact .inr h
  · exact x.2 p (mem_dropL.mp hp).1
section
variable {w : World} {g h h' : Heap} {L : Addr} {m : Str → Option Value} {T T' : Led} {a l l2 I : Addr} {q : Rat} {qs : List Rat} {as : List Addr} {n : Nat} {o o' : Obj}
theorem upd_news (F : Fr g L h m) (N : News g L h T) (hm : (l, o) ∈ T) (hs : Heap.SameBut l h h') (ho : h'.get? l = some o') : Fr g L h' m ∧ News g L h' (updL l o' T) := by
  have z := N _ hm
  refine ⟨F.change hs z.2.1 z.2.2, fun p hp => ?_⟩
  rcases List.mem_cons.mp hp with rfl | hp
  · exact ⟨ho, z.2⟩
  · obtain ⟨h1, h2⟩ := mem_dropL.mp hp
    exact ⟨(hs.2 p.1 h2).trans (N p h1).1, (N p h1).2⟩
theorem TupAt.drop (N : News g L h T) (hm : (l, o) ∈ T) (ho : o.cls ≠ .type "tuple") (x : TupAt w T a q) : TupAt w (dropL l T) a q := by
  obtain ⟨t, u, k, x | x⟩ := x
  · exact ⟨t, u, k, .inl x⟩
  · refine ⟨t, u, k, .inr (mem_dropL.mpr ⟨x, fun e => ?_⟩)⟩
    have e' : a = l := e
    subst e'
    have := news_one N hm x
    rw [this] at ho
    exact ho rfl
theorem LstAt.addr_ne (x : LstAt w T l qs) (h : ∀ p ∈ T, p.1 ≠ a) : l ≠ a := by
  obtain ⟨as, k, h1, _⟩ := x
  exact h _ h1
theorem LstAt.drop (N : News g L h T) (hm : (l, o) ∈ T) (ho : o.cls ≠ .type "tuple") (hne : l2 ≠ l) (x : LstAt w T l2 qs) : LstAt w (dropL l T) l2 qs := by
  obtain ⟨as, k, h1, h2, h3, h4⟩ := x
  exact ⟨as, k, mem_dropL.mpr ⟨h1, hne⟩, h2, h3, fun i a q ha hq => (h4 i a q ha hq).drop N hm ho⟩
theorem LstAt.drop' (N : News g L h T) (hm : (l, o) ∈ T) (ho : o.cls ≠ .type "tuple") (ho' : o.cls ≠ .type "list") (x : LstAt w T l2 qs) : LstAt w (dropL l T) l2 qs := by
  refine LstAt.drop N hm ho (fun e => ?_) x
  obtain ⟨as, k, h1, _⟩ := x
  subst e
  rw [news_one N hm h1] at ho'
  exact ho' rfl
theorem TupAt.upd (N : News g L h T) (hm : LstAt w T l qs) (x : TupAt w T a q) : TupAt w (updL l o' T) a q := by
  obtain ⟨as, k, h1, _⟩ := hm
  exact (x.drop N h1 (by simp)).mono fun _ h => .tail _ h
theorem LstAt.upd {rs : List Rat} (N : News g L h T) (hm : LstAt w T l qs) (hne : l2 ≠ l) (x : LstAt w T l2 rs) : LstAt w (updL l o' T) l2 rs := by
  obtain ⟨as, k, h1, _⟩ := hm
  exact (x.drop N h1 (by simp) hne).mono fun _ h => .tail _ h
/-- the end of a turn of a loop over a range -/
theorem turn_end {oI : Obj} {news : Led} (N : News g L h T) (hI : (I, oI) ∈ T) (hc : oI.cls = .type "range_iterator") (x : Ext T news) (hn : ∀ q ∈ news, q.1 ≠ I) :
    ∃ nw, News g L h ((I, oI) :: nw) ∧ (∀ p ∈ nw, p.1 ≠ I) ∧ Ext nw news ∧ (∀ a q, TupAt w T a q → TupAt w nw a q) ∧ (∀ l qs, LstAt w T l qs → LstAt w nw l qs) := by
  refine ⟨dropL I T, News.sub N fun p hp => ?_, fun p hp => (mem_dropL.mp hp).2, x.drop hn, fun a q y => y.drop N hI (by rw [hc]; simp), fun l qs y => y.drop' N hI (by rw [hc]; simp) (by rw [hc]; simp)⟩
  rcases List.mem_cons.mp hp with rfl | hp
  · exact hI
  · exact (mem_dropL.mp hp).1
end
section
variable {w : World} {A : Around} {E : Value → Shared → Prop} {s : Shared} {T T1 T2 : Led} {a b l : Addr} {q r : Rat} {qs rs : List Rat} {g : Heap} {L : Addr} {m : Str → Option Value} {value slice : Expr} {Q : Value → Shared → Prop}
theorem lst_new {as : List Addr} {k : Nat} (hm : (l, lstO as k) ∈ T) (hl : as.length = qs.length) (hle : qs.length ≤ 1000) (hi : ∀ (i : Nat) a q, as[i]? = some a → qs[i]? = some q → TupAt w T a q) : LstAt w T l qs := ⟨as, k, hm, hl, hle, hi⟩
theorem lst_append (x : LstAt w T1 l qs) (s1 : ∀ p ∈ T1, p ∈ T) (y : TupAt w T2 a q) (s2 : ∀ p ∈ T2, p ∈ T) (F : Fr g L s.heap m) (N : News g L s.heap T) (hl : qs.length < 1000)
    (h : ∀ o' h', Fr g L h' m → News g L h' (updL l o' T) → LstAt w (updL l o' T) l (qs ++ [q]) → Q .none { s with heap := h' }) :
    wpAny (model PySem.Challenge.rw_sa0095_01.row.prog w) A (call (.builtin "list.append") [.ref l, .ref a]) Q E s := by
  have x' := x.mono s1
  have y' := y.mono s2
  obtain ⟨as, k, h1, h2, h3, h4⟩ := id x'
  refine append_at (hsz := by rw [sizeLine_eq]; simp; omega) (N.get h1) fun h' hs ho => ?_
  have e : ({ cls := .type "list", data := .seq ((as.map Value.ref).toArray.push (.ref a)) (k + 1) } : Obj) = lstO (as ++ [a]) (k + 1) := by
    simp
  rw [e] at ho
  obtain ⟨F', N'⟩ := upd_news F N h1 hs ho
  refine h _ h' F' N' (lst_new (.head _) (by simp [h2]) (by simp; omega) fun i b r hb hr => ?_)
  by_cases hi : i < as.length
  · rw [List.getElem?_append_left hi] at hb
    rw [List.getElem?_append_left (by omega)] at hr
    exact (h4 i b r hb hr).upd N x'
  · rw [List.getElem?_append_right (by omega)] at hb
    rw [List.getElem?_append_right (by omega)] at hr
    have hz : i - as.length = 0 := by
      cases hz : i - as.length with
      | zero => rfl
      | succ k => rw [hz] at hb; simp at hb
    rw [hz] at hb
    rw [← h2, hz] at hr
    cases hb
    cases hr
    exact y'.upd N x'
theorem lst_set {k : Int} {t : Tok} {Q : Unit → Shared → Prop} (x : LstAt w T1 l qs) (s1 : ∀ p ∈ T1, p ∈ T) (y : TupAt w T2 a q) (s2 : ∀ p ∈ T2, p ∈ T) (F : Fr g L s.heap m) (N : News g L s.heap T) (h0 : 0 ≤ k) (hk : k < qs.length)
    (h : ∀ o' h', Fr g L h' m → News g L h' (updL l o' T) → LstAt w (updL l o' T) l (qs.set k.toNat q) → Q () { s with heap := h' }) :
    wpAny (model PySem.Challenge.rw_sa0095_01.row.prog w) A (setItem (.ref l) (.int k t) (.ref a)) Q E s := by
  have x' := x.mono s1
  have y' := y.mono s2
  obtain ⟨as, n, h1, h2, h3, h4⟩ := id x'
  have hk' : k.toNat < as.length := by omega
  refine ki_setAt (items := (as.map Value.ref).toArray) (n := n) (N.get h1) h0 (by omega) (by simp; omega) ?_
  have ho : (s.heap.update l (Obj.mapSeq (·.setIfInBounds k.toNat (.ref a)))).get? l = some (lstO (as.set k.toNat a) n) := by
    rw [Heap.get?_update_self _ (N.get h1) (by rfl)]
    congr 1
    show ({ cls := .type "list", data := .seq (((as.map Value.ref).toArray).setIfInBounds k.toNat (.ref a)) _ } : Obj) = lstO (as.set k.toNat a) n
    simp [lstO, List.map_set]
  obtain ⟨F', N'⟩ := upd_news F N h1 (Heap.SameBut.update ..) ho
  refine h _ _ F' N' (lst_new (.head _) (by simp [h2]) (by simpa using h3) fun i b r hb hr => ?_)
  by_cases hi : i = k.toNat
  · subst hi
    rw [List.getElem?_set_self hk'] at hb
    rw [List.getElem?_set_self (by omega)] at hr
    cases hb
    cases hr
    exact y'.upd N x'
  · rw [List.getElem?_set_ne (Ne.symm hi)] at hb hr
    exact (h4 i b r hb hr).upd N x'
end
end
section
def pickR (qs : List Rat) (lo hi : Option Int) : List Rat := (qs.drop (kms_lo lo qs.length)).take (kms_hi hi qs.length - kms_lo lo qs.length)
theorem pick_upto {qs : List Rat} {k : Int} (h : 0 ≤ k) : pickR qs none (some k) = qs.take k.toNat := by
  have h' : ¬ k < 0 := by omega
  simp only [pickR, kms_lo, kms_hi, if_neg h', List.drop_zero, Nat.sub_zero]
  exact kmk_take_min _ _
theorem pick_from {qs : List Rat} {k : Int} (h : 0 ≤ k) : pickR qs (some k) none = qs.drop k.toNat := by
  have h' : ¬ k < 0 := by omega
  simp only [pickR, kms_lo, kms_hi, if_neg h']
  rw [kmk_drop_min]
  apply List.take_of_length_le
  rw [List.length_drop]
  exact Nat.sub_le_sub_left (Nat.min_le_left _ _) _
section
variable {w : World} {A : Around} {E : Value → Shared → Prop} {s : Shared} {T T1 T2 : Led} {a b l l2 : Addr} {q r : Rat} {qs rs : List Rat} {g : Heap} {L : Addr} {m : Str → Option Value} {value slice : Expr} {Q : Value → Shared → Prop}
theorem lst_of_list {as : List Addr} {k : Nat} {vs : List Value} (hv : vs = as.map Value.ref) (hl : as.length = qs.length) (hle : qs.length ≤ 1000) (hi : ∀ (i : Nat) a q, as[i]? = some a → qs[i]? = some q → TupAt w T a q) :
    LstAt w ((l, ({ cls := .type "list", data := .seq vs.toArray k } : Obj)) :: T) l qs := by
  subst hv
  exact lst_new (.head _) hl hle fun i a q ha hq => (hi i a q ha hq).mono fun _ h => .tail _ h
theorem lst_slice {vl vu : Value} {lo hi : Option Int} (x : LstAt w T1 l qs) (s1 : ∀ p ∈ T1, p ∈ T) (F : Fr g L s.heap m) (N : News g L s.heap T) (pl : IsPart vl lo) (pu : IsPart vu hi)
    (h : ∀ D o h', Fr g L h' m → News g L h' ((D, o) :: T) → LstAt w ((D, o) :: T) D (pickR qs lo hi) → (∀ p ∈ T, p.1 < D) → Q (.ref D) { s with heap := h' })
    (hs : subscripted slice false (.ref l) (.ref s.heap.objs.size) = operate [.ref s.heap.objs.size, .ref l] (getItem (.ref l) (.ref s.heap.objs.size)) := by with_unfolding_all rfl) :
    wpAny (model PySem.Challenge.rw_sa0095_01.row.prog w) A (subscriptTail value slice (.ref l) (.ref s.heap.objs.size)) Q E { s with heap := s.heap.push { cls := .type "slice", data := .fields #[vl, vu, .none] } } := by
  obtain ⟨as, k, h1, h2, h3, h4⟩ := x.mono s1
  have hl : s.heap.IsList l (as.map Value.ref).toArray := ⟨_, N.get h1, rfl, k, rfl⟩
  refine tail_any (Heap.IsList.typeIs (s := { s with heap := s.heap.push { cls := .type "slice", data := .fields #[vl, vu, .none] } }) (hl.push _)) list_getitem_lookup
    (wpAny_getItem_list_slice (hl.push _) (Heap.IsSliceOf.new ..) pl pu .none (by simp) ?_ (by rw [sizeLine_eq]; simp; omega)) hs
  have N1 := News.push (F.push { cls := .type "slice", data := .fields #[vl, vu, .none] }) (N.grown fun _ _ e => Heap.get?_push_of_some _ e) { cls := .type "list", data := .seq (slicePick (as.map Value.ref).toArray lo hi none) }
  rw [Heap.size_push] at N1
  show Q (.ref (s.heap.push _).objs.size) _
  rw [Heap.size_push]
  refine h _ _ _ ((F.push _).push _) N1 ?_ fun p hp => Nat.lt_succ_of_lt (Heap.lt_size (N p hp).1)
  rw [kms_pick_eq]
  refine lst_of_list (as := (as.drop (kms_lo lo as.length)).take (kms_hi hi as.length - kms_lo lo as.length)) ?_ ?_ ?_ ?_
  · simp [kms_pick, List.map_take, List.map_drop]
  · simp [pickR, h2]
  · have := List.length_take_le (kms_hi hi qs.length - kms_lo lo qs.length) (qs.drop (kms_lo lo qs.length))
    have h5 : (qs.drop (kms_lo lo qs.length)).length ≤ qs.length := by rw [List.length_drop]; omega
    have h6 : (pickR qs lo hi).length ≤ (qs.drop (kms_lo lo qs.length)).length := by
      unfold pickR
      rw [List.length_take]; omega
    omega
  · intro i a q ha hq
    unfold pickR at hq
    rw [← h2] at hq
    rw [List.getElem?_take] at ha hq
    split at ha
    · rename_i hlt
      rw [if_pos hlt] at hq
      rw [List.getElem?_drop] at ha hq
      exact h4 _ a q ha hq
    · cases ha
theorem lst_upto {hp : Heap} {gs : Array GenState} {dr : Drawn} {tk : Nat} {os : OsState} {k : Int} {t : Tok} (x : LstAt w T1 l qs) (s1 : ∀ p ∈ T1, p ∈ T) (F : Fr g L hp m) (N : News g L hp T) (hk : 0 ≤ k)
    (h : ∀ D o h', Fr g L h' m → News g L h' ((D, o) :: T) → LstAt w ((D, o) :: T) D (qs.take k.toNat) → (∀ p ∈ T, p.1 < D) → Q (.ref D) ⟨h', gs, dr, tk, os⟩)
    (hs : subscripted slice false (.ref l) (.ref hp.objs.size) = operate [.ref hp.objs.size, .ref l] (getItem (.ref l) (.ref hp.objs.size)) := by with_unfolding_all rfl) :
    wpAny (model PySem.Challenge.rw_sa0095_01.row.prog w) A (subscriptTail value slice (.ref l) (.ref hp.objs.size)) Q E ⟨hp.push { cls := .type "slice", data := .fields #[.none, .int k t, .none] }, gs, dr, tk, os⟩ :=
  lst_slice (s := ⟨hp, gs, dr, tk, os⟩) x s1 F N .none (.int k t) (fun D o h' F' N' y l1 => h D o h' F' N' (by rw [pick_upto hk] at y; exact y) l1) hs
theorem lst_from {hp : Heap} {gs : Array GenState} {dr : Drawn} {tk : Nat} {os : OsState} {k : Int} {t : Tok} (x : LstAt w T1 l qs) (s1 : ∀ p ∈ T1, p ∈ T) (F : Fr g L hp m) (N : News g L hp T) (hk : 0 ≤ k)
    (h : ∀ D o h', Fr g L h' m → News g L h' ((D, o) :: T) → LstAt w ((D, o) :: T) D (qs.drop k.toNat) → (∀ p ∈ T, p.1 < D) → Q (.ref D) ⟨h', gs, dr, tk, os⟩)
    (hs : subscripted slice false (.ref l) (.ref hp.objs.size) = operate [.ref hp.objs.size, .ref l] (getItem (.ref l) (.ref hp.objs.size)) := by with_unfolding_all rfl) :
    wpAny (model PySem.Challenge.rw_sa0095_01.row.prog w) A (subscriptTail value slice (.ref l) (.ref hp.objs.size)) Q E ⟨hp.push { cls := .type "slice", data := .fields #[.int k t, .none, .none] }, gs, dr, tk, os⟩ :=
  lst_slice (s := ⟨hp, gs, dr, tk, os⟩) x s1 F N (.int k t) .none (fun D o h' F' N' y l1 => h D o h' F' N' (by rw [pick_from hk] at y; exact y) l1) hs
theorem lst_copy (x : LstAt w T1 l qs) (s1 : ∀ p ∈ T1, p ∈ T) (F : Fr g L s.heap m) (N : News g L s.heap T)
    (h : ∀ D o h', Fr g L h' m → News g L h' ((D, o) :: T) → LstAt w ((D, o) :: T) D qs → (∀ p ∈ T, p.1 < D) → Q (.ref D) { s with heap := h' }) :
    wpAny (model PySem.Challenge.rw_sa0095_01.row.prog w) A (call (.type "list") [.ref l]) Q E s := by
  obtain ⟨as, k, h1, h2, h3, h4⟩ := x.mono s1
  have hl : s.heap.IsList l (as.map Value.ref).toArray := ⟨_, N.get h1, rfl, k, rfl⟩
  exact list_copyK F N hl (fun D c h' F' N' l1 => h D _ h' F' N' (lst_of_list rfl h2 h3 h4) l1) (by rw [sizeLine_eq]; simp; omega)
theorem foldl_app {α : Type} (xs : Array α) : ∀ (k : Nat) (acc : Array α), ((List.replicate k xs).foldl (fun x1 x2 => x1 ++ x2) acc).toList = acc.toList ++ (List.replicate k xs.toList).flatten
  | 0, acc => by simp
  | k + 1, acc => by
    rw [List.replicate_succ, List.foldl_cons, foldl_app xs k, List.replicate_succ, List.flatten_cons]
    simp
theorem lst_mul1 {k : Int} {t : Tok} (x : LstAt w T1 l [q]) (s1 : ∀ p ∈ T1, p ∈ T) (F : Fr g L s.heap m) (N : News g L s.heap T) (h0 : 0 ≤ k) (hk : k ≤ 1000)
    (h : ∀ D o h', Fr g L h' m → News g L h' ((D, o) :: T) → LstAt w ((D, o) :: T) D (List.replicate k.toNat q) → (∀ p ∈ T, p.1 < D) → Q (.ref D) { s with heap := h' }) :
    wpAny (model PySem.Challenge.rw_sa0095_01.row.prog w) A (binaryOp .Mult (.ref l) (.int k t)) Q E s := by
  obtain ⟨as, n, h1, h2, h3, h4⟩ := x.mono s1
  match as, h2, h4, h1 with
  | [a], _, h4, h1 =>
    refine mul_list F N (N.get h1) (by omega) (by omega) (by simp; omega) fun h' F' N' => ?_
    have e : (List.foldl (fun x1 x2 => x1 ++ x2) #[] (List.replicate (if (List.map Value.ref [a]).toArray.isEmpty = true then 0 else k.toNat) (List.map Value.ref [a]).toArray)) = (List.map Value.ref (List.replicate k.toNat a)).toArray := by
      apply Array.toList_inj.mp
      rw [foldl_app]
      simp
    rw [e] at N'
    refine h _ _ h' F' N' (lst_of_list (as := List.replicate k.toNat a) rfl (by simp) (by simp; omega) fun i b r hb hr => ?_) fun p hp => Heap.lt_size (N p hp).1
    rw [List.getElem?_replicate] at hb hr
    split at hb
    · rename_i hlt
      rw [if_pos hlt] at hr
      cases hb
      cases hr
      exact h4 0 a q rfl rfl
    · cases hb
theorem lst_add (x : LstAt w T1 l qs) (s1 : ∀ p ∈ T1, p ∈ T) (y : LstAt w T2 l2 rs) (s2 : ∀ p ∈ T2, p ∈ T) (F : Fr g L s.heap m) (N : News g L s.heap T) (hle : qs.length + rs.length ≤ 1000)
    (h : ∀ D o h', Fr g L h' m → News g L h' ((D, o) :: T) → LstAt w ((D, o) :: T) D (qs ++ rs) → (∀ p ∈ T, p.1 < D) → Q (.ref D) { s with heap := h' }) :
    wpAny (model PySem.Challenge.rw_sa0095_01.row.prog w) A (binaryOp .Add (.ref l) (.ref l2)) Q E s := by
  obtain ⟨as, n, h1, h2, h3, h4⟩ := x.mono s1
  obtain ⟨bs, n', h1', h2', h3', h4'⟩ := y.mono s2
  have hl : s.heap.IsList l (as.map Value.ref).toArray := ⟨_, N.get h1, rfl, n, rfl⟩
  have hl' : s.heap.IsList l2 (bs.map Value.ref).toArray := ⟨_, N.get h1', rfl, n', rfl⟩
  refine add_arrays F N hl hl' (fun h' F' N' => ?_) (by rw [sizeLine_eq]; simp; omega)
  refine h _ _ h' F' N' (lst_of_list (as := as ++ bs) (by simp) (by simp [h2, h2']) (by simp; omega) fun i b r hb hr => ?_) fun p hp => Heap.lt_size (N p hp).1
  by_cases hi : i < as.length
  · rw [List.getElem?_append_left hi] at hb
    rw [List.getElem?_append_left (by omega)] at hr
    exact h4 i b r hb hr
  · rw [List.getElem?_append_right (by omega)] at hb
    rw [List.getElem?_append_right (by omega)] at hr
    rw [h2] at hb
    exact h4' _ b r hb hr
theorem lst_getAppend {pl : Sem Bool} {Q : Value × List Value → Shared → Prop} (x : LstAt w T1 l qs) (s1 : ∀ p ∈ T1, p ∈ T) (N : News g L s.heap T) (h : Q (.builtin "list.append", [.ref l]) s) :
    wpAny (model PySem.Challenge.rw_sa0095_01.row.prog w) A (getMethod (.ref l) (Str.ofString "append") pl) Q E s := by
  obtain ⟨as, k, h1, _⟩ := x.mono s1
  exact getMethod_list_append (N.get h1) rfl rfl h
theorem newlst0 (F : Fr g L s.heap m) (N : News g L s.heap T)
    (h : ∀ D o h', Fr g L h' m → News g L h' ((D, o) :: T) → LstAt w ((D, o) :: T) D [] → (∀ p ∈ T, p.1 < D) → Q (.ref D) { s with heap := h' }) :
    wpAny (model PySem.Challenge.rw_sa0095_01.row.prog w) A (newList []) Q E s :=
  newList_K F N (fun D h' F' N' l1 => h D _ h' F' N' (lst_of_list (as := []) rfl rfl (by simp) fun i a q ha => by simp at ha) l1)
theorem newlst1 (y : TupAt w T1 a q) (s1 : ∀ p ∈ T1, p ∈ T) (F : Fr g L s.heap m) (N : News g L s.heap T)
    (h : ∀ D o h', Fr g L h' m → News g L h' ((D, o) :: T) → LstAt w ((D, o) :: T) D [q] → (∀ p ∈ T, p.1 < D) → Q (.ref D) { s with heap := h' }) :
    wpAny (model PySem.Challenge.rw_sa0095_01.row.prog w) A (newList [.ref a]) Q E s :=
  newList_K F N (fun D h' F' N' l1 => h D _ h' F' N' (lst_of_list (as := [a]) rfl rfl (by simp) fun i b r hb hr => by
    cases i with
    | zero => cases hb; cases hr; exact y.mono s1
    | succ i => simp at hb) l1)
theorem newlst2 (y : TupAt w T1 a q) (s1 : ∀ p ∈ T1, p ∈ T) (z : TupAt w T2 b r) (s2 : ∀ p ∈ T2, p ∈ T) (F : Fr g L s.heap m) (N : News g L s.heap T)
    (h : ∀ D o h', Fr g L h' m → News g L h' ((D, o) :: T) → LstAt w ((D, o) :: T) D [q, r] → (∀ p ∈ T, p.1 < D) → Q (.ref D) { s with heap := h' }) :
    wpAny (model PySem.Challenge.rw_sa0095_01.row.prog w) A (newList [.ref a, .ref b]) Q E s :=
  newList_K F N (fun D h' F' N' l1 => h D _ h' F' N' (lst_of_list (as := [a, b]) rfl rfl (by simp) fun i c u hc hu => by
    match i, hc, hu with
    | 0, hc, hu => cases hc; cases hu; exact y.mono s1
    | 1, hc, hu => cases hc; cases hu; exact z.mono s2) l1)
/-- a pair of an int and 1, made a moment ago -/
theorem tup_int {h : Heap} {k : Int} {t u : Tok} {n : Nat} (N : News g L h ((a, tupO k 1 t u n) :: T)) : TupAt w ((a, tupO k 1 t u n) :: T) a (k : Rat) := ⟨t, u, n, .inr (.head _)⟩
theorem fin_lst {h : Heap} {D : Addr} {news : Led} (N : News g L h T) (x : Ext T news) (R : LstAt w T D qs) (hf : ∀ q ∈ news, q.1 ≠ D) :
    ∃ tl : Led, News g L h (tl ++ news) ∧ Abv tl news ∧ LstAt w (tl ++ news) D qs ∧ ∀ q ∈ news, q.1 ≠ D := by
  obtain ⟨tl, h1, h2, h3⟩ := ext_split x
  exact ⟨tl, News.sub N h1, h3, R.mono h2, hf⟩
end
end
section
theorem rulesM12a : True := by
  k_with_none
  k_with "st" => (repeat' (first | (k_unfold; (try dsimp only)) | ((try dsimp only); walk1)))
  k_with "ktr_rel" => first | exact fun _ h => h | exact List.forall_mem_nil _ | exact fun _ h => List.mem_append_right _ h | exact fun _ h => List.mem_cons_of_mem _ h | (refine sub_app ?_; ktr_rel; done) | (refine sub_cons ?_; ktr_rel; done) | (intro p hp; simp only [List.mem_append, List.mem_cons, hp, true_or, or_true])
  k_with "exec While Compare cons nil" => refine stopHere ?_
  k_with "subscriptTail Name Constant ref int" => (k_here; k_dflt (first
      | ((fail_if_success fail_if_success (with_reducible show wpAny _ _ (subscriptTail _ _ (Value.ref _) (Value.int 0 _)) _ _ _)); refine' rat_item0 (by assumption) (by assumption) (by assumption) (by assumption) (by ktr_rel) ?_ ?_; rotate_left; (with_unfolding_all rfl); intro t'q)
      | ((fail_if_success fail_if_success (with_reducible show wpAny _ _ (subscriptTail _ _ (Value.ref _) (Value.int 1 _)) _ _ _)); refine' rat_item1 (by assumption) (by assumption) (by assumption) (by assumption) (by ktr_rel) ?_ ?_; rotate_left; (with_unfolding_all rfl); intro t'q)
      | ((fail_if_success fail_if_success (with_reducible show wpAny _ _ (subscriptTail _ _ (Value.ref _) (Value.int _ _)) _ _ _)); refine' lst_item (by assumption) (by assumption) (by ktr_rel) (by first | exact Int.natCast_nonneg _ | omega) (by first | assumption | omega) ?_ ?_; rotate_left; (with_unfolding_all rfl); intro a'q R'q)))
  k_with "subscriptTail Name Name ref int" => (k_here; k_dflt ((fail_if_success fail_if_success (with_reducible show wpAny _ _ (subscriptTail _ _ (Value.ref _) (Value.int _ _)) _ _ _)); refine' lst_item (by assumption) (by assumption) (by ktr_rel) (by first | exact Int.natCast_nonneg _ | omega) (by first | assumption | omega) ?_ ?_; rotate_left; (with_unfolding_all rfl); intro a'q R'q))
  k_with "subscriptTail Name BinOp ref int" => (k_here; k_dflt ((fail_if_success fail_if_success (with_reducible show wpAny _ _ (subscriptTail _ _ (Value.ref _) (Value.int _ _)) _ _ _)); refine' lst_item (by assumption) (by assumption) (by ktr_rel) (by first | exact Int.natCast_nonneg _ | omega) (by first | assumption | omega) ?_ ?_; rotate_left; (with_unfolding_all rfl); intro a'q R'q))
  k_with "call builtin:len" => (k_here; (fail_if_success fail_if_success (with_reducible show wpAny _ _ (call (Value.builtin "len") [Value.ref _]) _ _ _)); k_dflt (refine' lst_len (by assumption) (by assumption) (by ktr_rel) ?_))
  k_with "compareOp NotEq ref ref" => (k_here; (fail_if_success fail_if_success (with_reducible show wpAny _ _ (compareOp CmpOp.NotEq (Value.ref _) (Value.ref _)) _ _ _)); k_dflt (first
      | (refine' tup_ne (by assumption) (by first | assumption | exact tup49 (T := [])) (by assumption) (by assumption) (by assumption) (by ktr_rel) (by ktr_rel) (by first | exact room (by assumption) (by decide) | ((try dsimp only); first | exact room (by assumption) (by decide) | omega)) ?_)
      | (refine' lst_ne (by assumption) (by assumption) (by assumption) (by assumption) (by assumption) (by ktr_rel) (by ktr_rel) (by first | exact room (by assumption) (by decide) | ((try dsimp only); first | exact room (by assumption) (by decide) | omega)) ?_)))
  k_with "compareOp Eq ref ref" => (k_here; (fail_if_success fail_if_success (with_reducible show wpAny _ _ (compareOp CmpOp.Eq (Value.ref _) (Value.ref _)) _ _ _)); k_dflt (first
      | (refine' tup_eq (by assumption) (by first | assumption | exact tup49 (T := [])) (by assumption) (by assumption) (by assumption) (by ktr_rel) (by ktr_rel) (by first | exact room (by assumption) (by decide) | ((try dsimp only); first | exact room (by assumption) (by decide) | omega)) ?_)
      | (refine' lst_eq (by assumption) (by assumption) (by assumption) (by assumption) (by assumption) (by ktr_rel) (by ktr_rel) (by first | exact room (by assumption) (by decide) | ((try dsimp only); first | exact room (by assumption) (by decide) | omega)) ?_)))
  k_with "call ref" => (k_here; (fail_if_success fail_if_success (with_reducible show wpAny _ _ (call (Value.ref 64) _) _ _ _)); k_dflt (refine' call_radd (by assumption) (by assumption) (by assumption) (by assumption) (by assumption) (by exact rfl) (by first | exact room (by assumption) (by decide) | omega) (by first | exact room (by assumption) (by decide) | omega) (by first | assumption | exact tup49 (T := []) | exact tup50 (T := []) | exact tup_int (by assumption)) (by ktr_rel) (by first | assumption | exact tup49 (T := []) | exact tup50 (T := []) | exact tup_int (by assumption)) (by ktr_rel) (by assumption) (by assumption) ?_); (intro a'q tl'q h'q tk'q F'q N'q A'q R'q); (try k_sweep))
  k_with "call ref" => (k_here; (fail_if_success fail_if_success (with_reducible show wpAny _ _ (call (Value.ref 71) _) _ _ _)); k_dflt (refine' call_rsub (by assumption) (by assumption) (by assumption) (by assumption) (by assumption) (by exact rfl) (by first | exact room (by assumption) (by decide) | omega) (by first | exact room (by assumption) (by decide) | omega) (by first | assumption | exact tup49 (T := []) | exact tup50 (T := []) | exact tup_int (by assumption)) (by ktr_rel) (by first | assumption | exact tup49 (T := []) | exact tup50 (T := []) | exact tup_int (by assumption)) (by ktr_rel) (by assumption) (by assumption) ?_); (intro a'q tl'q h'q tk'q F'q N'q A'q R'q); (try k_sweep))
  k_with "call ref" => (k_here; (fail_if_success fail_if_success (with_reducible show wpAny _ _ (call (Value.ref 78) _) _ _ _)); k_dflt (refine' call_rmul (by assumption) (by assumption) (by assumption) (by assumption) (by assumption) (by exact rfl) (by first | exact room (by assumption) (by decide) | omega) (by first | exact room (by assumption) (by decide) | omega) (by first | assumption | exact tup49 (T := []) | exact tup50 (T := []) | exact tup_int (by assumption)) (by ktr_rel) (by first | assumption | exact tup49 (T := []) | exact tup50 (T := []) | exact tup_int (by assumption)) (by ktr_rel) (by assumption) (by assumption) ?_); (intro a'q tl'q h'q tk'q F'q N'q A'q R'q); (try k_sweep))
  k_with "call ref" => (k_here; (fail_if_success fail_if_success (with_reducible show wpAny _ _ (call (Value.ref 85) _) _ _ _)); k_dflt (refine' call_rdiv (by assumption) (by assumption) (by assumption) (by assumption) (by assumption) (by exact rfl) (by first | exact room (by assumption) (by decide) | omega) (by first | exact room (by assumption) (by decide) | omega) (by first | assumption | exact tup49 (T := []) | exact tup50 (T := []) | exact tup_int (by assumption)) (by ktr_rel) (by first | assumption | exact tup49 (T := []) | exact tup50 (T := []) | exact tup_int (by assumption)) (by ktr_rel) (by assumption) (by assumption) (by assumption) ?_); (intro a'q tl'q h'q tk'q F'q N'q A'q R'q); (try k_sweep))
  k_with "call ref" => (k_here; (fail_if_success fail_if_success (with_reducible show wpAny _ _ (call (Value.ref 113) _) _ _ _)); k_dflt (refine' call_let (by assumption) (by assumption) (by assumption) (by assumption) (by assumption) (by exact rfl) (by first | exact room (by assumption) (by decide) | omega) (by first | exact room (by assumption) (by decide) | omega) (by assumption) (by ktr_rel) (by assumption) ?_); (intro h'q tk'q F'q N'q); (try k_sweep))
  k_with "exec For Name Call cons nil" => (k_here; (rename Fr _ _ _ _ => lF'q); (with_unfolding_all refine' For_invVF lF'q (by exact rfl) (by exact rfl) ?_; k_whole))
  k_with "pyIter ref" => refine stopHere ?_
  k_with "eval ListComp" => refine stopHere ?_
  k_with "CompSrc" => refine stopHere ?_
  k_with "lcg_sub" => first
      | exact List.Mem.head _
      | (refine List.Mem.tail _ ?_; lcg_sub)
      | (refine List.mem_append_right _ ?_; lcg_sub)
  k_with "eval Name" => (k_here; (fail_if_success fail_if_success (with_reducible show wpAny _ _ (eval (Expr.Name _ _) (compEnvC _ _ _ _)) _ _ _)); k_dflt (first
      | (refine' lcf_cell (by assumption) (by exact rfl) (by lcg_sub) (by assumption) ?_ rfl rfl)
      | (refine' LCgL.ld_own (by assumption) ?_ (by assumption) (by assumption) ?_ rfl rfl (by decide); lcg_sub)
      | (refine' LCgL.ld_global (by assumption) (by assumption) (by assumption) (by k_is) ?_ rfl rfl rfl (by decide))))
  k_with "subscriptTail Name Slice ref ref" => (k_here; k_dflt (first
      | (refine' lst_upto (by assumption) ?_ (by assumption) (by assumption) (by first | assumption | omega) ?_ (by with_unfolding_all rfl); ktr_rel)
      | (refine' lst_from (by assumption) ?_ (by assumption) (by assumption) (by first | assumption | omega) ?_ (by with_unfolding_all rfl); ktr_rel)); intro D'q o'q h'q F'q N'q R'q l1'q; (try k_sweep))
  k_with "subscriptTail ListComp Slice ref ref" => (k_here; k_dflt (first
      | (refine' lst_from (by assumption) ?_ (by assumption) (by assumption) (by first | assumption | omega) ?_ (by with_unfolding_all rfl); ktr_rel)); intro D'q o'q h'q F'q N'q R'q l1'q; (try k_sweep))
  k_with "call type:list" => (k_here; (fail_if_success fail_if_success (with_reducible show wpAny _ _ (call (Value.type "list") [Value.ref _]) _ _ _)); k_dflt (refine' lst_copy (by assumption) ?_ (by assumption) (by assumption) ?_; ktr_rel); intro D'q o'q h'q F'q N'q R'q l1'q; (try k_sweep))
  k_with "binaryOp Mult ref int" => (k_here; (fail_if_success fail_if_success (with_reducible show wpAny _ _ (binaryOp _ (Value.ref _) (Value.int _ _)) _ _ _)); k_dflt (refine' lst_mul1 (by assumption) ?_ (by assumption) (by assumption) (by first | omega | (simp only [List.length_nil, List.length_cons]; omega)) (by first | omega | (simp only [List.length_nil, List.length_cons]; omega)) ?_; ktr_rel); intro D'q o'q h'q F'q N'q R'q l1'q; (try k_sweep))
  k_with "binaryOp Add ref ref" => (k_here; (fail_if_success fail_if_success (with_reducible show wpAny _ _ (binaryOp _ (Value.ref _) (Value.ref _)) _ _ _)); k_dflt (refine' lst_add (by assumption) ?_ (by assumption) ?_ (by assumption) (by assumption) (by ((try simp only [List.length_take, List.length_drop, List.length_replicate, List.length_cons, List.length_nil]); omega)) ?_; ktr_rel; ktr_rel); intro D'q o'q h'q F'q N'q R'q l1'q; (try k_sweep))
  k_with "newList" => (k_here; k_dflt (first
      | ((fail_if_success fail_if_success (with_reducible show wpAny _ _ (newList []) _ _ _)); refine' newlst0 (w := _) (by assumption) (by assumption) ?_)
      | ((fail_if_success fail_if_success (with_reducible show wpAny _ _ (newList [Value.ref _]) _ _ _)); refine' newlst1 (by first | assumption | exact tup49 (T := []) | exact tup50 (T := [])) ?_ (by assumption) (by assumption) ?_; ktr_rel)
      | ((fail_if_success fail_if_success (with_reducible show wpAny _ _ (newList [Value.ref _, Value.ref _]) _ _ _)); refine' newlst2 (by first | assumption | exact tup49 (T := []) | exact tup50 (T := [])) ?_ (by first | assumption | exact tup49 (T := []) | exact tup50 (T := [])) ?_ (by assumption) (by assumption) ?_; ktr_rel; ktr_rel)); intro D'q o'q h'q F'q N'q R'q l1'q; (try k_sweep))
  k_with "getMethod ref" => (k_here; (fail_if_success fail_if_success (with_reducible show wpAny _ _ (getMethod (Value.ref _) (Str.ofString "append") _) _ _ _)); k_dflt (refine' lst_getAppend (by assumption) ?_ (by assumption) ?_; ktr_rel))
  k_with "call builtin:list.append" => refine stopHere ?_
  k_with "setItem ref int ref" => refine stopHere ?_
  k_with "lcg_off" => first | exact Ext.refl | (refine Ext.cons ?_ (by assumption); lcg_off) | (refine Ext.app ?_ (by assumption); lcg_off) | assumption
  exact True.intro
section
variable {w : World} {p : Program} {loose : List Str} {mean : ExcName → Option Value} {mg mb : Str → Option Value}
theorem cut_does {a1 : Addr} {k : Int} {t : Tok} {news : Led} (r1 : LstAt w news a1 []) (h0 : 0 ≤ k) (hn : k ≤ 1000) :
    Does w p loose mean mg mb 2 100 106 [.ref a1, .int k t] news (fun tl r => ∃ l, r = .ref l ∧ LstAt w (tl ++ news) l (List.replicate k.toNat 0) ∧ ∀ q ∈ news, q.1 ≠ l) := by
  refine does_of (dep := 1) (uns := 97) [(Str.ofString "a", .ref a1), (Str.ofString "order", .int k t)] (by k_is) (by k_is) (fun s => BindsTo.of_eq rfl) (locs rfl) rfl rfl rfl (by decide) ?_
  unfold Runs
  intro dp un gd outer A₀ base g L s Q E B F X N T hd hu hE hret
  k_fold
  k_extra "st"
  rename LstAt _ _ _ (_ ++ _) => R3
  rename News _ _ _ _ => N3
  rename Fr _ _ _ _ => F3
  rename (∀ p ∈ (_ : Led), p.1 < (_ : Addr)) => l3
  have e : List.take k.toNat ([] : List Rat) ++ List.replicate (k - (([] : List Rat).length : Nat)).toNat 0 = List.replicate k.toNat 0 := by simp
  rw [e] at R3
  obtain ⟨tl, n1, n2, n3, n4⟩ := fin_lst N3 (news := news) (by lcg_off) R3 (fun q hq => Nat.ne_of_lt (l3 q (by simp [hq])))
  exact hret _ tl _ _ _ F3 n1 n2 ⟨_, rfl, n3, n4⟩
theorem call_cut {dp un : Nat} {gd : Option (List Code)} {cn : Str} {cs : Scope} {a : Addr} {ccd : Value} {cl : List (Str × Addr)} {outer : List Env} {A₀ : Around} {base h₀ : Heap} {L : Addr} {m : Str → Option Value} {s : Shared} {Q E : Value → Shared → Prop} {news : Led} {a1 : Addr} {k : Int} {t : Tok} {T1 : Led}
    (F : Fr h₀ L s.heap m) (N : News h₀ L s.heap news) (B : Below A₀ base outer h₀) (X : (Mine.hd.heap_39 w.params).In h₀) (T : Top p loose mean mg mb h₀) (hk : cs.kind = .function) (hd : dp + 2 < recursionLimit) (hu : un + 100 < cLine) (r1 : LstAt w T1 a1 []) (s1 : ∀ p ∈ T1, p ∈ news) (h0 : 0 ≤ k) (hn : k ≤ 1000)
    (ret : ∀ a' tl h' tk', Fr h₀ L h' m → News h₀ L h' (tl ++ news) → Abv tl news → LstAt w (tl ++ news) a' (List.replicate k.toNat 0) → (∀ q ∈ news, q.1 ≠ a') → Q (.ref a') { s with heap := h', toks := tk' }) :
    wpAny (model PySem.Challenge.rw_sa0095_01.row.prog w) (ktrTop dp un gd cn cs L a ccd cl outer) (call (.ref 106) [.ref a1, .int k t]) Q E s :=
  does_use F N (cut_does (r1.mono s1) h0 hn) B X T hk hd hu fun r tl h' tk' F' N' A' ⟨a', e, h, hf⟩ => by
    subst e
    exact ret a' tl h' tk' F' N' A' h hf
theorem call_smul {dp un : Nat} {gd : Option (List Code)} {cn : Str} {cs : Scope} {a : Addr} {ccd : Value} {cl : List (Str × Addr)} {outer : List Env} {A₀ : Around} {base h₀ : Heap} {L : Addr} {m : Str → Option Value} {s : Shared} {Q E : Value → Shared → Prop} {news : Led} {a1 b1 : Addr} {qs rs : List Rat} {T1 T2 : Led}
    (F : Fr h₀ L s.heap m) (N : News h₀ L s.heap news) (B : Below A₀ base outer h₀) (X : (Mine.hd.heap_39 w.params).In h₀) (T : Top p loose mean mg mb h₀) (hk : cs.kind = .function) (hd : dp + 6 < recursionLimit) (hu : un + 140 < cLine) (r1 : LstAt w T1 a1 qs) (s1 : ∀ p ∈ T1, p ∈ news) (r2 : LstAt w T2 b1 rs) (s2 : ∀ p ∈ T2, p ∈ news) (ok : SmulOk qs rs)
    (ret : ∀ a' tl h' tk', Fr h₀ L h' m → News h₀ L h' (tl ++ news) → Abv tl news → LstAt w (tl ++ news) a' (smulF qs rs) → (∀ q ∈ news, q.1 ≠ a') → Q (.ref a') { s with heap := h', toks := tk' }) :
    wpAny (model PySem.Challenge.rw_sa0095_01.row.prog w) (ktrTop dp un gd cn cs L a ccd cl outer) (call (.ref 125) [.ref a1, .ref b1]) Q E s :=
  does_use F N (smul_does (r1.mono s1) (r2.mono s2) ok) B X T hk hd hu fun r tl h' tk' F' N' A' ⟨a', e, h, hf⟩ => by
    subst e
    exact ret a' tl h' tk' F' N' A' h hf
end
end
section
theorem rulesM13a : True := by
  k_with_none
  k_with "st" => (repeat' (first | (k_unfold; (try dsimp only)) | ((try dsimp only); walk1)))
  k_with "ktr_rel" => first | exact fun _ h => h | exact List.forall_mem_nil _ | exact fun _ h => List.mem_append_right _ h | exact fun _ h => List.mem_cons_of_mem _ h | (refine sub_app ?_; ktr_rel; done) | (refine sub_cons ?_; ktr_rel; done) | (intro p hp; simp only [List.mem_append, List.mem_cons, hp, true_or, or_true])
  k_with "exec While Compare cons nil" => refine stopHere ?_
  k_with "subscriptTail Name Constant ref int" => (k_here; k_dflt (first
      | ((fail_if_success fail_if_success (with_reducible show wpAny _ _ (subscriptTail _ _ (Value.ref _) (Value.int 0 _)) _ _ _)); refine' rat_item0 (by assumption) (by assumption) (by assumption) (by assumption) (by ktr_rel) ?_ ?_; rotate_left; (with_unfolding_all rfl); intro t'q)
      | ((fail_if_success fail_if_success (with_reducible show wpAny _ _ (subscriptTail _ _ (Value.ref _) (Value.int 1 _)) _ _ _)); refine' rat_item1 (by assumption) (by assumption) (by assumption) (by assumption) (by ktr_rel) ?_ ?_; rotate_left; (with_unfolding_all rfl); intro t'q)
      | ((fail_if_success fail_if_success (with_reducible show wpAny _ _ (subscriptTail _ _ (Value.ref _) (Value.int _ _)) _ _ _)); refine' lst_item (by assumption) (by assumption) (by ktr_rel) (by first | exact Int.natCast_nonneg _ | omega) (by first | assumption | omega) ?_ ?_; rotate_left; (with_unfolding_all rfl); intro a'q R'q)))
  k_with "subscriptTail Name Name ref int" => (k_here; k_dflt ((fail_if_success fail_if_success (with_reducible show wpAny _ _ (subscriptTail _ _ (Value.ref _) (Value.int _ _)) _ _ _)); refine' lst_item (by assumption) (by assumption) (by ktr_rel) (by first | exact Int.natCast_nonneg _ | omega) (by first | assumption | omega) ?_ ?_; rotate_left; (with_unfolding_all rfl); intro a'q R'q))
  k_with "subscriptTail Name BinOp ref int" => (k_here; k_dflt ((fail_if_success fail_if_success (with_reducible show wpAny _ _ (subscriptTail _ _ (Value.ref _) (Value.int _ _)) _ _ _)); refine' lst_item (by assumption) (by assumption) (by ktr_rel) (by first | exact Int.natCast_nonneg _ | omega) (by first | assumption | omega) ?_ ?_; rotate_left; (with_unfolding_all rfl); intro a'q R'q))
  k_with "call builtin:len" => (k_here; (fail_if_success fail_if_success (with_reducible show wpAny _ _ (call (Value.builtin "len") [Value.ref _]) _ _ _)); k_dflt (refine' lst_len (by assumption) (by assumption) (by ktr_rel) ?_))
  k_with "compareOp NotEq ref ref" => (k_here; (fail_if_success fail_if_success (with_reducible show wpAny _ _ (compareOp CmpOp.NotEq (Value.ref _) (Value.ref _)) _ _ _)); k_dflt (first
      | (refine' tup_ne (by assumption) (by first | assumption | exact tup49 (T := [])) (by assumption) (by assumption) (by assumption) (by ktr_rel) (by ktr_rel) (by first | exact room (by assumption) (by decide) | ((try dsimp only); first | exact room (by assumption) (by decide) | omega)) ?_)
      | (refine' lst_ne (by assumption) (by assumption) (by assumption) (by assumption) (by assumption) (by ktr_rel) (by ktr_rel) (by first | exact room (by assumption) (by decide) | ((try dsimp only); first | exact room (by assumption) (by decide) | omega)) ?_)))
  k_with "compareOp Eq ref ref" => (k_here; (fail_if_success fail_if_success (with_reducible show wpAny _ _ (compareOp CmpOp.Eq (Value.ref _) (Value.ref _)) _ _ _)); k_dflt (first
      | (refine' tup_eq (by assumption) (by first | assumption | exact tup49 (T := [])) (by assumption) (by assumption) (by assumption) (by ktr_rel) (by ktr_rel) (by first | exact room (by assumption) (by decide) | ((try dsimp only); first | exact room (by assumption) (by decide) | omega)) ?_)
      | (refine' lst_eq (by assumption) (by assumption) (by assumption) (by assumption) (by assumption) (by ktr_rel) (by ktr_rel) (by first | exact room (by assumption) (by decide) | ((try dsimp only); first | exact room (by assumption) (by decide) | omega)) ?_)))
  k_with "call ref" => (k_here; (fail_if_success fail_if_success (with_reducible show wpAny _ _ (call (Value.ref 64) _) _ _ _)); k_dflt (refine' call_radd (by assumption) (by assumption) (by assumption) (by assumption) (by assumption) (by exact rfl) (by first | exact room (by assumption) (by decide) | omega) (by first | exact room (by assumption) (by decide) | omega) (by first | assumption | exact tup49 (T := []) | exact tup50 (T := []) | exact tup_int (by assumption)) (by ktr_rel) (by first | assumption | exact tup49 (T := []) | exact tup50 (T := []) | exact tup_int (by assumption)) (by ktr_rel) (by assumption) (by assumption) ?_); (intro a'q tl'q h'q tk'q F'q N'q A'q R'q); (try k_sweep))
  k_with "call ref" => (k_here; (fail_if_success fail_if_success (with_reducible show wpAny _ _ (call (Value.ref 71) _) _ _ _)); k_dflt (refine' call_rsub (by assumption) (by assumption) (by assumption) (by assumption) (by assumption) (by exact rfl) (by first | exact room (by assumption) (by decide) | omega) (by first | exact room (by assumption) (by decide) | omega) (by first | assumption | exact tup49 (T := []) | exact tup50 (T := []) | exact tup_int (by assumption)) (by ktr_rel) (by first | assumption | exact tup49 (T := []) | exact tup50 (T := []) | exact tup_int (by assumption)) (by ktr_rel) (by assumption) (by assumption) ?_); (intro a'q tl'q h'q tk'q F'q N'q A'q R'q); (try k_sweep))
  k_with "call ref" => (k_here; (fail_if_success fail_if_success (with_reducible show wpAny _ _ (call (Value.ref 78) _) _ _ _)); k_dflt (refine' call_rmul (by assumption) (by assumption) (by assumption) (by assumption) (by assumption) (by exact rfl) (by first | exact room (by assumption) (by decide) | omega) (by first | exact room (by assumption) (by decide) | omega) (by first | assumption | exact tup49 (T := []) | exact tup50 (T := []) | exact tup_int (by assumption)) (by ktr_rel) (by first | assumption | exact tup49 (T := []) | exact tup50 (T := []) | exact tup_int (by assumption)) (by ktr_rel) (by assumption) (by assumption) ?_); (intro a'q tl'q h'q tk'q F'q N'q A'q R'q); (try k_sweep))
  k_with "call ref" => (k_here; (fail_if_success fail_if_success (with_reducible show wpAny _ _ (call (Value.ref 85) _) _ _ _)); k_dflt (refine' call_rdiv (by assumption) (by assumption) (by assumption) (by assumption) (by assumption) (by exact rfl) (by first | exact room (by assumption) (by decide) | omega) (by first | exact room (by assumption) (by decide) | omega) (by first | assumption | exact tup49 (T := []) | exact tup50 (T := []) | exact tup_int (by assumption)) (by ktr_rel) (by first | assumption | exact tup49 (T := []) | exact tup50 (T := []) | exact tup_int (by assumption)) (by ktr_rel) (by assumption) (by assumption) (by assumption) ?_); (intro a'q tl'q h'q tk'q F'q N'q A'q R'q); (try k_sweep))
  k_with "call ref" => (k_here; (fail_if_success fail_if_success (with_reducible show wpAny _ _ (call (Value.ref 113) _) _ _ _)); k_dflt (refine' call_let (by assumption) (by assumption) (by assumption) (by assumption) (by assumption) (by exact rfl) (by first | exact room (by assumption) (by decide) | omega) (by first | exact room (by assumption) (by decide) | omega) (by assumption) (by ktr_rel) (by assumption) ?_); (intro h'q tk'q F'q N'q); (try k_sweep))
  k_with "exec For Name Call cons nil" => (k_here; (rename Fr _ _ _ _ => lF'q); (with_unfolding_all refine' For_invVF lF'q (by exact rfl) (by exact rfl) ?_; k_whole))
  k_with "pyIter ref" => refine stopHere ?_
  k_with "eval ListComp" => refine stopHere ?_
  k_with "CompSrc" => refine stopHere ?_
  k_with "lcg_sub" => first
      | exact List.Mem.head _
      | (refine List.Mem.tail _ ?_; lcg_sub)
      | (refine List.mem_append_right _ ?_; lcg_sub)
  k_with "eval Name" => (k_here; (fail_if_success fail_if_success (with_reducible show wpAny _ _ (eval (Expr.Name _ _) (compEnvC _ _ _ _)) _ _ _)); k_dflt (first
      | (refine' lcf_cell (by assumption) (by exact rfl) (by lcg_sub) (by assumption) ?_ rfl rfl)
      | (refine' LCgL.ld_own (by assumption) ?_ (by assumption) (by assumption) ?_ rfl rfl (by decide); lcg_sub)
      | (refine' LCgL.ld_global (by assumption) (by assumption) (by assumption) (by k_is) ?_ rfl rfl rfl (by decide))))
  k_with "subscriptTail Name Slice ref ref" => (k_here; k_dflt (first
      | (refine' lst_upto (by assumption) ?_ (by assumption) (by assumption) (by first | assumption | omega) ?_ (by with_unfolding_all rfl); ktr_rel)
      | (refine' lst_from (by assumption) ?_ (by assumption) (by assumption) (by first | assumption | omega) ?_ (by with_unfolding_all rfl); ktr_rel)); intro D'q o'q h'q F'q N'q R'q l1'q; (try k_sweep))
  k_with "subscriptTail ListComp Slice ref ref" => (k_here; k_dflt (first
      | (refine' lst_from (by assumption) ?_ (by assumption) (by assumption) (by first | assumption | omega) ?_ (by with_unfolding_all rfl); ktr_rel)); intro D'q o'q h'q F'q N'q R'q l1'q; (try k_sweep))
  k_with "call type:list" => (k_here; (fail_if_success fail_if_success (with_reducible show wpAny _ _ (call (Value.type "list") [Value.ref _]) _ _ _)); k_dflt (refine' lst_copy (by assumption) ?_ (by assumption) (by assumption) ?_; ktr_rel); intro D'q o'q h'q F'q N'q R'q l1'q; (try k_sweep))
  k_with "binaryOp Mult ref int" => (k_here; (fail_if_success fail_if_success (with_reducible show wpAny _ _ (binaryOp _ (Value.ref _) (Value.int _ _)) _ _ _)); k_dflt (refine' lst_mul1 (by assumption) ?_ (by assumption) (by assumption) (by first | omega | (simp only [List.length_nil, List.length_cons]; omega)) (by first | omega | (simp only [List.length_nil, List.length_cons]; omega)) ?_; ktr_rel); intro D'q o'q h'q F'q N'q R'q l1'q; (try k_sweep))
  k_with "binaryOp Add ref ref" => (k_here; (fail_if_success fail_if_success (with_reducible show wpAny _ _ (binaryOp _ (Value.ref _) (Value.ref _)) _ _ _)); k_dflt (refine' lst_add (by assumption) ?_ (by assumption) ?_ (by assumption) (by assumption) (by ((try simp only [List.length_take, List.length_drop, List.length_replicate, List.length_cons, List.length_nil]); omega)) ?_; ktr_rel; ktr_rel); intro D'q o'q h'q F'q N'q R'q l1'q; (try k_sweep))
  k_with "newList" => (k_here; k_dflt (first
      | ((fail_if_success fail_if_success (with_reducible show wpAny _ _ (newList []) _ _ _)); refine' newlst0 (w := _) (by assumption) (by assumption) ?_)
      | ((fail_if_success fail_if_success (with_reducible show wpAny _ _ (newList [Value.ref _]) _ _ _)); refine' newlst1 (by first | assumption | exact tup49 (T := []) | exact tup50 (T := [])) ?_ (by assumption) (by assumption) ?_; ktr_rel)
      | ((fail_if_success fail_if_success (with_reducible show wpAny _ _ (newList [Value.ref _, Value.ref _]) _ _ _)); refine' newlst2 (by first | assumption | exact tup49 (T := []) | exact tup50 (T := [])) ?_ (by first | assumption | exact tup49 (T := []) | exact tup50 (T := [])) ?_ (by assumption) (by assumption) ?_; ktr_rel; ktr_rel)); intro D'q o'q h'q F'q N'q R'q l1'q; (try k_sweep))
  k_with "getMethod ref" => (k_here; (fail_if_success fail_if_success (with_reducible show wpAny _ _ (getMethod (Value.ref _) (Str.ofString "append") _) _ _ _)); k_dflt (refine' lst_getAppend (by assumption) ?_ (by assumption) ?_; ktr_rel))
  k_with "call builtin:list.append" => refine stopHere ?_
  k_with "setItem ref int ref" => refine stopHere ?_
  k_with "lcg_off" => first | exact Ext.refl | (refine Ext.cons ?_ (by assumption); lcg_off) | (refine Ext.app ?_ (by assumption); lcg_off) | assumption
  k_with "call ref" => (k_here; (fail_if_success fail_if_success (with_reducible show wpAny _ _ (call (Value.ref 106) _) _ _ _)); k_dflt (refine' call_cut (by assumption) (by assumption) (by assumption) (by assumption) (by assumption) (by exact rfl) (by first | exact room (by assumption) (by decide) | omega) (by first | exact room (by assumption) (by decide) | omega) (by assumption) (by ktr_rel) (by first | assumption | omega) (by first | assumption | omega) ?_); (intro a'q tl'q h'q tk'q F'q N'q A'q R'q Fh'q); (try k_sweep))
  k_with "call ref" => (k_here; (fail_if_success fail_if_success (with_reducible show wpAny _ _ (call (Value.ref 125) _) _ _ _)); k_dflt (refine' call_smul (by assumption) (by assumption) (by assumption) (by assumption) (by assumption) (by exact rfl) (by first | exact room (by assumption) (by decide) | omega) (by first | exact room (by assumption) (by decide) | omega) (by assumption) (by ktr_rel) (by assumption) (by ktr_rel) (by assumption) ?_); (intro a'q tl'q h'q tk'q F'q N'q A'q R'q Fh'q); (try k_sweep))
  k_with "call ref" => (k_here; (fail_if_success fail_if_success (with_reducible show wpAny _ _ (call (Value.ref 144) _) _ _ _)); k_dflt (refine' call_need_begin (by assumption) (by assumption) (by assumption) (by assumption) (by assumption) (by exact rfl) (by first | exact room (by assumption) (by decide) | omega) (by first | exact room (by assumption) (by decide) | omega) (by assumption) (by ktr_rel) (by assumption) (by assumption) ?_); (intro h'q tk'q F'q N'q); (try k_sweep))
  exact True.intro
/-- scompose's turns -/
def compS (qs rs : List Rat) (n : Nat) : Nat → List Rat
  | 0 => List.replicate n 0
  | i + 1 => (smulF (compS qs rs n i) (rs.take n)).set 0 ((smulF (compS qs rs n i) (rs.take n)).getD 0 0 + qs.getD (n - 1 - i) 0)
def compF (qs rs : List Rat) : List Rat := compS qs rs (min qs.length rs.length) (min qs.length rs.length)
def CompOk (qs rs : List Rat) (n : Nat) : Prop := ∀ i, i < n → SmulOk (compS qs rs n i) (rs.take n) ∧ Tiny ((smulF (compS qs rs n i) (rs.take n)).getD 0 0) ∧ Tiny (qs.getD (n - 1 - i) 0)
theorem smulF_length (a b : List Rat) : (smulF a b).length = min a.length b.length := by simp [smulF]
theorem compS_length {qs rs : List Rat} {n : Nat} (h : n ≤ rs.length) : ∀ i, (compS qs rs n i).length = n
  | 0 => by simp [compS]
  | i + 1 => by rw [compS, List.length_set, smulF_length, compS_length h i, List.length_take]; exact min_self3 h
section
variable {w : World} {p : Program} {loose : List Str} {mean : ExcName → Option Value} {mg mb : Str → Option Value}
theorem scompose_does {a1 b1 : Addr} {qs rs : List Rat} {news : Led} (r1 : LstAt w news a1 qs) (r2 : LstAt w news b1 rs) (hb0 : rs.getD 0 0 = 0) (hbl : 0 < rs.length) (ok : CompOk qs rs (min qs.length rs.length)) :
    Does w p loose mean mg mb 8 170 151 [.ref a1, .ref b1] news (fun tl r => ∃ l, r = .ref l ∧ LstAt w (tl ++ news) l (compF qs rs) ∧ ∀ q ∈ news, q.1 ≠ l) := by
  refine does_of (dep := 7) (uns := 167) [(Str.ofString "a", .ref a1), (Str.ofString "b", .ref b1)] (by k_is) (by k_is) (fun s => BindsTo.of_eq rfl) (locs rfl) rfl rfl rfl (by decide) ?_
  unfold Runs
  intro dp un gd outer A₀ base g L s Q E B F X N T hd hu hE hret
  k_fold
  have hl := r1.le
  have hl2 := r2.le
  k_unmd
  k_extra "st"
  rename IsRange _ _ _ _ _ _ _ _ => IR
  rename News _ _ _ _ => N1
  rename Fr _ _ _ _ => F1
  rename LstAt _ _ _ (List.replicate _ _) => R0
  have en : (if (rs.length : Int) < (qs.length : Int) then (rs.length : Int) else (qs.length : Int)) = ((min qs.length rs.length : Nat) : Int) := if_min _ _
  have hn1 : min qs.length rs.length ≤ qs.length := Nat.min_le_left _ _
  have hn2 : min qs.length rs.length ≤ rs.length := Nat.min_le_right _ _
  unfold compF at hret
  generalize hn : min qs.length rs.length = n at *
  simp only [en] at IR F1 R0
  clear en
  rw [Int.toNat_natCast] at R0
  unfold Stop
  refine iter_grow (n := n) (fun i m₁ nw => Ext nw news ∧ ∃ (fl : Addr) (t : Tok), LstAt w nw fl (compS qs rs n i) ∧ (∀ q ∈ news, q.1 ≠ fl) ∧ m₁ (Str.ofString "found") = some (.ref fl) ∧ m₁ (Str.ofString "a") = some (.ref a1) ∧ m₁ (Str.ofString "b") = some (.ref b1) ∧ m₁ (Str.ofString "order") = some (.int n t))
    rfl IR (small_down (by omega) (by omega) (by omega) (by omega)) (by rw [rangeSize_downNat]; omega) F1 N1 ⟨by lcg_off, _, _, R0, fun q hq => (by assumption : ∀ q ∈ _ :: news, q.1 ≠ _) q (.tail _ hq), rfl, rfl, rfl, rfl⟩ ?_ ?_
  · rintro i t' m₁ nw h tk I oI hi hJ22 ho hc F₂ N₂
    refine hideQ fun Z0 hZ0 => ?_
    refine and2 hJ22 fun hx hN23 => ?_
    clear hJ22
    refine ex2 hN23 fun fl t hC24 => and6 hC24 fun R1 hf e1 e2 e3 e4 => ?_
    clear hC24
    clear hN23
    clear F1 N1 IR R0
    have em : fmo [(Str.ofString "found", .ref fl), (Str.ofString "a", .ref a1), (Str.ofString "b", .ref b1), (Str.ofString "order", .int n t)] m₁ = m₁ := fmo_known (by simp [e1, e2, e3, e4])
    rw [← em] at F₂
    have ex : (n : Int) - 1 + (i : Int) * (-1) = ((n - 1 - i : Nat) : Int) := by omega
    rw [ex] at F₂
    refine and3 (ok i hi) fun k1 k2 k3 => ?_
    have x1 : ((n - 1 - i : Nat) : Int).toNat = n - 1 - i := Int.toNat_natCast _
    have x2 : (n : Int).toNat = n := Int.toNat_natCast _
    have x3 : Int.toNat 0 = 0 := rfl
    rw [← x2] at k1 k2
    rw [← x3] at k2
    rw [← x1] at k3
    replace F₂ : Fr g L h _ := F₂
    replace N₂ : News g L h _ := N₂
    have hlen : (smulF (compS qs rs n i) (rs.take (n : Int).toNat)).length = n := by rw [smulF_length, compS_length hn2, x2, List.length_take]; exact min_self3 hn2
    clear em e1 e2 e3 e4
    replace r1 := r1.mono hx.1
    replace r2 := r2.mono hx.1
    clear ex x1 x2 x3
    k_unmd
    (try k_fold)
    k_extra "st"
    rename LstAt _ _ _ (smulF _ _) => R2
    rename TupAt _ _ _ (_ + _ : Rat) => R3
    rename News _ _ _ _ => N3
    rename Fr _ _ _ _ => F3
    rename (∀ q ∈ (_ : Led), q.1 ≠ (_ : Addr)) => Fh
    have hxI : Ext ((I, oI) :: nw) news := hx.cons' ho
    unfold Stop
    refine lst_set R2 (by ktr_rel) R3 (by ktr_rel) F3 N3 (by omega) (by rw [hlen]; omega) ?_
    intro o' h' F' N' R'
    refine ex1 (turn_end (w := w) (news := news) N' (upd_mem (by simp) (Fh (I, oI) (.tail _ (.head _)))) hc (Ext.upd (by lcg_off) (fun q hq => Fh q (.tail _ (.tail _ (hx.1 q hq))))) (fun q hq => ho q (hx.1 q hq))) fun nw2 hCo => and5 hCo fun n1 n2 n3 n4 n5 => ?_
    clear hCo
    rw [Int.toNat_natCast, Int.toNat_natCast] at R'
    k_unmd
    k_extra "st"
    refine hZ0 _ _ ?_
    refine GrowEnd.intro F' n1 n2 ⟨n3, _, t, n5 _ _ R', fun q hq => Fh q (.tail _ (.tail _ (hx.1 q hq))), rfl, rfl, rfl, rfl⟩
  · rintro m₁ nw h tk hJ25 F₂ N₂
    refine and2 hJ25 fun hx hN26 => ?_
    clear hJ25
    refine ex2 hN26 fun fl t hC27 => and6 hC27 fun R1 hf e1 e2 e3 e4 => ?_
    clear hC27
    clear hN26
    clear F1 N1 IR
    replace F₂ := fr_known1 e1 F₂
    replace F₂ : Fr g L h _ := F₂
    replace N₂ : News g L h _ := N₂
    (try dsimp only)
    k_extra "st"
    refine ex1 (fin_lst N₂ hx R1 hf) fun tl hCo => and4 hCo fun n1 n2 n3 n4 => ?_
    clear hCo
    exact hret _ tl _ _ _ F₂ n1 n2 ⟨fl, rfl, n3, n4⟩
end
end
section
theorem rulesM14a : True := by
  k_with_none
  k_with "st" => (repeat' (first | (k_unfold; (try dsimp only)) | ((try dsimp only); walk1)))
  k_with "ktr_rel" => first | exact fun _ h => h | exact List.forall_mem_nil _ | exact fun _ h => List.mem_append_right _ h | exact fun _ h => List.mem_cons_of_mem _ h | (refine sub_app ?_; ktr_rel; done) | (refine sub_cons ?_; ktr_rel; done) | (intro p hp; simp only [List.mem_append, List.mem_cons, hp, true_or, or_true])
  k_with "exec While Compare cons nil" => refine stopHere ?_
  k_with "subscriptTail Name Constant ref int" => (k_here; k_dflt (first
      | ((fail_if_success fail_if_success (with_reducible show wpAny _ _ (subscriptTail _ _ (Value.ref _) (Value.int 0 _)) _ _ _)); refine' rat_item0 (by assumption) (by assumption) (by assumption) (by assumption) (by ktr_rel) ?_ ?_; rotate_left; (with_unfolding_all rfl); intro t'q)
      | ((fail_if_success fail_if_success (with_reducible show wpAny _ _ (subscriptTail _ _ (Value.ref _) (Value.int 1 _)) _ _ _)); refine' rat_item1 (by assumption) (by assumption) (by assumption) (by assumption) (by ktr_rel) ?_ ?_; rotate_left; (with_unfolding_all rfl); intro t'q)
      | ((fail_if_success fail_if_success (with_reducible show wpAny _ _ (subscriptTail _ _ (Value.ref _) (Value.int _ _)) _ _ _)); refine' lst_item (by assumption) (by assumption) (by ktr_rel) (by first | exact Int.natCast_nonneg _ | omega) (by first | assumption | omega) ?_ ?_; rotate_left; (with_unfolding_all rfl); intro a'q R'q)))
  k_with "subscriptTail Name Name ref int" => (k_here; k_dflt ((fail_if_success fail_if_success (with_reducible show wpAny _ _ (subscriptTail _ _ (Value.ref _) (Value.int _ _)) _ _ _)); refine' lst_item (by assumption) (by assumption) (by ktr_rel) (by first | exact Int.natCast_nonneg _ | omega) (by first | assumption | omega) ?_ ?_; rotate_left; (with_unfolding_all rfl); intro a'q R'q))
  k_with "subscriptTail Name BinOp ref int" => (k_here; k_dflt ((fail_if_success fail_if_success (with_reducible show wpAny _ _ (subscriptTail _ _ (Value.ref _) (Value.int _ _)) _ _ _)); refine' lst_item (by assumption) (by assumption) (by ktr_rel) (by first | exact Int.natCast_nonneg _ | omega) (by first | assumption | omega) ?_ ?_; rotate_left; (with_unfolding_all rfl); intro a'q R'q))
  k_with "call builtin:len" => (k_here; (fail_if_success fail_if_success (with_reducible show wpAny _ _ (call (Value.builtin "len") [Value.ref _]) _ _ _)); k_dflt (refine' lst_len (by assumption) (by assumption) (by ktr_rel) ?_))
  k_with "compareOp NotEq ref ref" => (k_here; (fail_if_success fail_if_success (with_reducible show wpAny _ _ (compareOp CmpOp.NotEq (Value.ref _) (Value.ref _)) _ _ _)); k_dflt (first
      | (refine' tup_ne (by assumption) (by first | assumption | exact tup49 (T := [])) (by assumption) (by assumption) (by assumption) (by ktr_rel) (by ktr_rel) (by first | exact room (by assumption) (by decide) | ((try dsimp only); first | exact room (by assumption) (by decide) | omega)) ?_)
      | (refine' lst_ne (by assumption) (by assumption) (by assumption) (by assumption) (by assumption) (by ktr_rel) (by ktr_rel) (by first | exact room (by assumption) (by decide) | ((try dsimp only); first | exact room (by assumption) (by decide) | omega)) ?_)))
  k_with "compareOp Eq ref ref" => (k_here; (fail_if_success fail_if_success (with_reducible show wpAny _ _ (compareOp CmpOp.Eq (Value.ref _) (Value.ref _)) _ _ _)); k_dflt (first
      | (refine' tup_eq (by assumption) (by first | assumption | exact tup49 (T := [])) (by assumption) (by assumption) (by assumption) (by ktr_rel) (by ktr_rel) (by first | exact room (by assumption) (by decide) | ((try dsimp only); first | exact room (by assumption) (by decide) | omega)) ?_)
      | (refine' lst_eq (by assumption) (by assumption) (by assumption) (by assumption) (by assumption) (by ktr_rel) (by ktr_rel) (by first | exact room (by assumption) (by decide) | ((try dsimp only); first | exact room (by assumption) (by decide) | omega)) ?_)))
  k_with "call ref" => (k_here; (fail_if_success fail_if_success (with_reducible show wpAny _ _ (call (Value.ref 64) _) _ _ _)); k_dflt (refine' call_radd (by assumption) (by assumption) (by assumption) (by assumption) (by assumption) (by exact rfl) (by first | exact room (by assumption) (by decide) | omega) (by first | exact room (by assumption) (by decide) | omega) (by first | assumption | exact tup49 (T := []) | exact tup50 (T := []) | exact tup_int (by assumption)) (by ktr_rel) (by first | assumption | exact tup49 (T := []) | exact tup50 (T := []) | exact tup_int (by assumption)) (by ktr_rel) (by assumption) (by assumption) ?_); (intro a'q tl'q h'q tk'q F'q N'q A'q R'q); (try k_sweep))
  k_with "call ref" => (k_here; (fail_if_success fail_if_success (with_reducible show wpAny _ _ (call (Value.ref 71) _) _ _ _)); k_dflt (refine' call_rsub (by assumption) (by assumption) (by assumption) (by assumption) (by assumption) (by exact rfl) (by first | exact room (by assumption) (by decide) | omega) (by first | exact room (by assumption) (by decide) | omega) (by first | assumption | exact tup49 (T := []) | exact tup50 (T := []) | exact tup_int (by assumption)) (by ktr_rel) (by first | assumption | exact tup49 (T := []) | exact tup50 (T := []) | exact tup_int (by assumption)) (by ktr_rel) (by assumption) (by assumption) ?_); (intro a'q tl'q h'q tk'q F'q N'q A'q R'q); (try k_sweep))
  k_with "call ref" => (k_here; (fail_if_success fail_if_success (with_reducible show wpAny _ _ (call (Value.ref 78) _) _ _ _)); k_dflt (refine' call_rmul (by assumption) (by assumption) (by assumption) (by assumption) (by assumption) (by exact rfl) (by first | exact room (by assumption) (by decide) | omega) (by first | exact room (by assumption) (by decide) | omega) (by first | assumption | exact tup49 (T := []) | exact tup50 (T := []) | exact tup_int (by assumption)) (by ktr_rel) (by first | assumption | exact tup49 (T := []) | exact tup50 (T := []) | exact tup_int (by assumption)) (by ktr_rel) (by assumption) (by assumption) ?_); (intro a'q tl'q h'q tk'q F'q N'q A'q R'q); (try k_sweep))
  k_with "call ref" => (k_here; (fail_if_success fail_if_success (with_reducible show wpAny _ _ (call (Value.ref 85) _) _ _ _)); k_dflt (refine' call_rdiv (by assumption) (by assumption) (by assumption) (by assumption) (by assumption) (by exact rfl) (by first | exact room (by assumption) (by decide) | omega) (by first | exact room (by assumption) (by decide) | omega) (by first | assumption | exact tup49 (T := []) | exact tup50 (T := []) | exact tup_int (by assumption)) (by ktr_rel) (by first | assumption | exact tup49 (T := []) | exact tup50 (T := []) | exact tup_int (by assumption)) (by ktr_rel) (by assumption) (by assumption) (by assumption) ?_); (intro a'q tl'q h'q tk'q F'q N'q A'q R'q); (try k_sweep))
  k_with "call ref" => (k_here; (fail_if_success fail_if_success (with_reducible show wpAny _ _ (call (Value.ref 113) _) _ _ _)); k_dflt (refine' call_let (by assumption) (by assumption) (by assumption) (by assumption) (by assumption) (by exact rfl) (by first | exact room (by assumption) (by decide) | omega) (by first | exact room (by assumption) (by decide) | omega) (by assumption) (by ktr_rel) (by assumption) ?_); (intro h'q tk'q F'q N'q); (try k_sweep))
  k_with "exec For Name Call cons nil" => (k_here; (rename Fr _ _ _ _ => lF'q); (with_unfolding_all refine' For_invVF lF'q (by exact rfl) (by exact rfl) ?_; k_whole))
  k_with "pyIter ref" => refine stopHere ?_
  k_with "eval ListComp" => refine stopHere ?_
  k_with "CompSrc" => refine stopHere ?_
  k_with "lcg_sub" => first
      | exact List.Mem.head _
      | (refine List.Mem.tail _ ?_; lcg_sub)
      | (refine List.mem_append_right _ ?_; lcg_sub)
  k_with "eval Name" => (k_here; (fail_if_success fail_if_success (with_reducible show wpAny _ _ (eval (Expr.Name _ _) (compEnvC _ _ _ _)) _ _ _)); k_dflt (first
      | (refine' lcf_cell (by assumption) (by exact rfl) (by lcg_sub) (by assumption) ?_ rfl rfl)
      | (refine' LCgL.ld_own (by assumption) ?_ (by assumption) (by assumption) ?_ rfl rfl (by decide); lcg_sub)
      | (refine' LCgL.ld_global (by assumption) (by assumption) (by assumption) (by k_is) ?_ rfl rfl rfl (by decide))))
  k_with "subscriptTail Name Slice ref ref" => (k_here; k_dflt (first
      | (refine' lst_upto (by assumption) ?_ (by assumption) (by assumption) (by first | assumption | omega) ?_ (by with_unfolding_all rfl); ktr_rel)
      | (refine' lst_from (by assumption) ?_ (by assumption) (by assumption) (by first | assumption | omega) ?_ (by with_unfolding_all rfl); ktr_rel)); intro D'q o'q h'q F'q N'q R'q l1'q; (try k_sweep))
  k_with "subscriptTail ListComp Slice ref ref" => (k_here; k_dflt (first
      | (refine' lst_from (by assumption) ?_ (by assumption) (by assumption) (by first | assumption | omega) ?_ (by with_unfolding_all rfl); ktr_rel)); intro D'q o'q h'q F'q N'q R'q l1'q; (try k_sweep))
  k_with "call type:list" => (k_here; (fail_if_success fail_if_success (with_reducible show wpAny _ _ (call (Value.type "list") [Value.ref _]) _ _ _)); k_dflt (refine' lst_copy (by assumption) ?_ (by assumption) (by assumption) ?_; ktr_rel); intro D'q o'q h'q F'q N'q R'q l1'q; (try k_sweep))
  k_with "binaryOp Mult ref int" => (k_here; (fail_if_success fail_if_success (with_reducible show wpAny _ _ (binaryOp _ (Value.ref _) (Value.int _ _)) _ _ _)); k_dflt (refine' lst_mul1 (by assumption) ?_ (by assumption) (by assumption) (by first | omega | (simp only [List.length_nil, List.length_cons]; omega)) (by first | omega | (simp only [List.length_nil, List.length_cons]; omega)) ?_; ktr_rel); intro D'q o'q h'q F'q N'q R'q l1'q; (try k_sweep))
  k_with "binaryOp Add ref ref" => (k_here; (fail_if_success fail_if_success (with_reducible show wpAny _ _ (binaryOp _ (Value.ref _) (Value.ref _)) _ _ _)); k_dflt (refine' lst_add (by assumption) ?_ (by assumption) ?_ (by assumption) (by assumption) (by ((try simp only [List.length_take, List.length_drop, List.length_replicate, List.length_cons, List.length_nil]); omega)) ?_; ktr_rel; ktr_rel); intro D'q o'q h'q F'q N'q R'q l1'q; (try k_sweep))
  k_with "newList" => (k_here; k_dflt (first
      | ((fail_if_success fail_if_success (with_reducible show wpAny _ _ (newList []) _ _ _)); refine' newlst0 (w := _) (by assumption) (by assumption) ?_)
      | ((fail_if_success fail_if_success (with_reducible show wpAny _ _ (newList [Value.ref _]) _ _ _)); refine' newlst1 (by first | assumption | exact tup49 (T := []) | exact tup50 (T := [])) ?_ (by assumption) (by assumption) ?_; ktr_rel)
      | ((fail_if_success fail_if_success (with_reducible show wpAny _ _ (newList [Value.ref _, Value.ref _]) _ _ _)); refine' newlst2 (by first | assumption | exact tup49 (T := []) | exact tup50 (T := [])) ?_ (by first | assumption | exact tup49 (T := []) | exact tup50 (T := [])) ?_ (by assumption) (by assumption) ?_; ktr_rel; ktr_rel)); intro D'q o'q h'q F'q N'q R'q l1'q; (try k_sweep))
  k_with "getMethod ref" => (k_here; (fail_if_success fail_if_success (with_reducible show wpAny _ _ (getMethod (Value.ref _) (Str.ofString "append") _) _ _ _)); k_dflt (refine' lst_getAppend (by assumption) ?_ (by assumption) ?_; ktr_rel))
  k_with "call builtin:list.append" => refine stopHere ?_
  k_with "setItem ref int ref" => refine stopHere ?_
  k_with "lcg_off" => first | exact Ext.refl | (refine Ext.cons ?_ (by assumption); lcg_off) | (refine Ext.app ?_ (by assumption); lcg_off) | assumption
  exact True.intro
def derF (qs : List Rat) : List Rat := (List.range (qs.length - 1)).map fun (n : Nat) => ((1 + (n : Int) : Int) : Rat) * qs.getD (n + 1) 0
theorem tiny_int {k : Int} (h : k.natAbs < 2 ^ 64) : Tiny (k : Rat) := ⟨h, Nat.one_lt_two_pow (by omega)⟩
section
variable {w : World} {p : Program} {loose : List Str} {mean : ExcName → Option Value} {mg mb : Str → Option Value}
theorem sderive_does {a1 : Addr} {qs : List Rat} {news : Led} (r1 : LstAt w news a1 qs) (ok : ∀ n, n < qs.length → Tiny (qs.getD n 0)) :
    Does w p loose mean mg mb 5 140 137 [.ref a1] news (fun tl r => ∃ l, r = .ref l ∧ LstAt w (tl ++ news) l (derF qs) ∧ ∀ q ∈ news, q.1 ≠ l) := by
  refine doesC_of (dep := 4) (uns := 137) [(Str.ofString "a", .ref a1)] (by k_is) (by k_is) (fun s => BindsTo.of_eq rfl) rfl (by decide +kernel) rfl rfl rfl ?_
  unfold RunsC
  intro dp un gd outer A₀ base g L s cells Q E B F X Y N l1 T hd hu hE hret
  k_cells Y
  k_unmd
  k_fold
  have hl := r1.le
  simp only [List.cons_append, List.nil_append] at N
  k_unmd
  k_extra "st"
  unfold Stop
  refine LCg.ListComp_U (F₀ := F) (by with_unfolding_all rfl) (by decide) (by rfl) (by decide) (by rfl) ?_
  (try k_fold)
  k_extra "st"
  rename IsRange _ _ _ _ _ _ _ _ => IR
  rename News _ _ _ _ => N1
  rename Fr _ _ _ _ => F1
  unfold Stop
  obtain ⟨nb, hb, N2⟩ := led_of N1
  refine LCg.CompSrc.range (n := qs.length - 1) rfl F1 N2 IR (small_one (by omega) (by omega) (by omega) (by omega)) (by rw [rangeSize_nat]; first | exact tn_pred _ | omega) (by rw [sizeLine_eq]; omega) ?_
  intro g'
  refine comp_rest (n := qs.length - 1) (fun i ys nw => ∃ (tl : Led) (as : List Addr), nw = tl ++ nb ∧ Abv tl nb ∧ ys = as.map Value.ref ∧ as.length = i ∧ ∀ (j : Nat) (a : Addr), as[j]? = some a → TupAt w tl a (((1 + (j : Int) : Int) : Rat) * qs.getD (j + 1) 0))
    ?_ ?_ _ 0 [] _ (by omega) ⟨[], [], rfl, Abv.nil, rfl, rfl, fun j a h => by simp at h⟩
  · rintro i ys nw hi hJ28 v I oI C oC D m₂ h tk E' hJ29 hC hx F₂ N₂ off ne R hR
    refine hideQ fun Z0 hZ0 => ?_
    refine ex2 hJ28 fun tl as hC32 => and5 hC32 fun hE30 ha hE31 hlen hit => ?_
    clear hJ28
    clear hC32
    subst hE30
    subst hE31
    refine ex1 hJ29 fun t hE33 => ?_
    clear hJ29
    subst hE33
    subst hb
    clear F1 N1 N2 IR ne
    have ok1 := ok (i + 1) (Nat.add_lt_of_lt_sub hi)
    have hi2 : 1 + (i : Int) < (qs.length : Int) := idx_s hi
    have x1 : (1 + (i : Int)).toNat = i + 1 := tn_add1 i
    have ok2 : Tiny ((1 + (i : Int) : Int) : Rat) := tiny_int (by first | exact nat64s (by assumption) (by assumption) | exact nat64 (Nat.le_trans (Nat.le_of_lt (by assumption)) (by assumption)) | omega)
    rw [← x1] at ok1
    clear x1
    k_unmd
    (try k_fold)
    k_extra "st"
    rename TupAt _ _ _ (_ * _ : Rat) => R3
    rename Fr _ _ _ _ => F3
    rename News _ _ _ _ => N3
    rename Abv _ ((_, _) :: _) => A3
    rename (_ ∧ _) => lt3
    refine and3 (comp_end2 N3 A3 (ktn_ltOf lt3) off) fun n1 n2 n3 => ?_
    refine hZ0 _ _ ?_
    refine LCg.CompEnd.intro F3 n1 _ (fun _ h => h) n2 trivial (hR _ _ ⟨_ ++ tl, as ++ [_], (List.append_assoc _ _ _).symm, (abv_drop3 n3).app ha, by rw [List.map_append]; rfl, by rw [List.length_append, hlen]; rfl, fun j a hj => ?_⟩)
    rw [tn_add1] at R3
    exact items_snoc (P := fun j a => TupAt w _ a (((1 + (j : Int) : Int) : Rat) * qs.getD (j + 1) 0)) (fun j a h => (hit j a h).mono fun _ h => List.mem_append_right _ h) (by rw [hlen]; exact R3.mono fun _ h => List.mem_append_left _ (List.mem_append_left _ h)) j a hj
  · rintro ys nw hJ34 D h tk F₂ N₂ off
    refine ex2 hJ34 fun tl as hC37 => and5 hC37 fun hE35 ha hE36 hlen hit => ?_
    clear hJ34
    clear hC37
    subst hE35
    subst hE36
    subst hb
    clear F1 N1 N2 IR
    refine ex1 (comp_fin (cells := [_]) N₂ off ha (cells_abv1 l1) hlen (by omega) hit) fun T' hCo => and4 hCo fun t1 t2 t3 t4 => ?_
    clear hCo
    exact hret _ T' _ _ _ F₂ t1 t2 ⟨D, rfl, t3, t4⟩
end
end
section
theorem rulesM15a : True := by
  k_with_none
  k_with "st" => (repeat' (first | (k_unfold; (try dsimp only)) | ((try dsimp only); walk1)))
  k_with "ktr_rel" => first | exact fun _ h => h | exact List.forall_mem_nil _ | exact fun _ h => List.mem_append_right _ h | exact fun _ h => List.mem_cons_of_mem _ h | (refine sub_app ?_; ktr_rel; done) | (refine sub_cons ?_; ktr_rel; done) | (intro p hp; simp only [List.mem_append, List.mem_cons, hp, true_or, or_true])
  k_with "exec While Compare cons nil" => refine stopHere ?_
  k_with "subscriptTail Name Constant ref int" => (k_here; k_dflt (first
      | ((fail_if_success fail_if_success (with_reducible show wpAny _ _ (subscriptTail _ _ (Value.ref _) (Value.int 0 _)) _ _ _)); refine' rat_item0 (by assumption) (by assumption) (by assumption) (by assumption) (by ktr_rel) ?_ ?_; rotate_left; (with_unfolding_all rfl); intro t'q)
      | ((fail_if_success fail_if_success (with_reducible show wpAny _ _ (subscriptTail _ _ (Value.ref _) (Value.int 1 _)) _ _ _)); refine' rat_item1 (by assumption) (by assumption) (by assumption) (by assumption) (by ktr_rel) ?_ ?_; rotate_left; (with_unfolding_all rfl); intro t'q)
      | ((fail_if_success fail_if_success (with_reducible show wpAny _ _ (subscriptTail _ _ (Value.ref _) (Value.int _ _)) _ _ _)); refine' lst_item (by assumption) (by assumption) (by ktr_rel) (by first | exact Int.natCast_nonneg _ | omega) (by first | assumption | omega) ?_ ?_; rotate_left; (with_unfolding_all rfl); intro a'q R'q)))
  k_with "subscriptTail Name Name ref int" => (k_here; k_dflt ((fail_if_success fail_if_success (with_reducible show wpAny _ _ (subscriptTail _ _ (Value.ref _) (Value.int _ _)) _ _ _)); refine' lst_item (by assumption) (by assumption) (by ktr_rel) (by first | exact Int.natCast_nonneg _ | omega) (by first | assumption | omega) ?_ ?_; rotate_left; (with_unfolding_all rfl); intro a'q R'q))
  k_with "subscriptTail Name BinOp ref int" => (k_here; k_dflt ((fail_if_success fail_if_success (with_reducible show wpAny _ _ (subscriptTail _ _ (Value.ref _) (Value.int _ _)) _ _ _)); refine' lst_item (by assumption) (by assumption) (by ktr_rel) (by first | exact Int.natCast_nonneg _ | omega) (by first | assumption | omega) ?_ ?_; rotate_left; (with_unfolding_all rfl); intro a'q R'q))
  k_with "call builtin:len" => (k_here; (fail_if_success fail_if_success (with_reducible show wpAny _ _ (call (Value.builtin "len") [Value.ref _]) _ _ _)); k_dflt (refine' lst_len (by assumption) (by assumption) (by ktr_rel) ?_))
  k_with "compareOp NotEq ref ref" => (k_here; (fail_if_success fail_if_success (with_reducible show wpAny _ _ (compareOp CmpOp.NotEq (Value.ref _) (Value.ref _)) _ _ _)); k_dflt (first
      | (refine' tup_ne (by assumption) (by first | assumption | exact tup49 (T := [])) (by assumption) (by assumption) (by assumption) (by ktr_rel) (by ktr_rel) (by first | exact room (by assumption) (by decide) | ((try dsimp only); first | exact room (by assumption) (by decide) | omega)) ?_)
      | (refine' lst_ne (by assumption) (by assumption) (by assumption) (by assumption) (by assumption) (by ktr_rel) (by ktr_rel) (by first | exact room (by assumption) (by decide) | ((try dsimp only); first | exact room (by assumption) (by decide) | omega)) ?_)))
  k_with "compareOp Eq ref ref" => (k_here; (fail_if_success fail_if_success (with_reducible show wpAny _ _ (compareOp CmpOp.Eq (Value.ref _) (Value.ref _)) _ _ _)); k_dflt (first
      | (refine' tup_eq (by assumption) (by first | assumption | exact tup49 (T := [])) (by assumption) (by assumption) (by assumption) (by ktr_rel) (by ktr_rel) (by first | exact room (by assumption) (by decide) | ((try dsimp only); first | exact room (by assumption) (by decide) | omega)) ?_)
      | (refine' lst_eq (by assumption) (by assumption) (by assumption) (by assumption) (by assumption) (by ktr_rel) (by ktr_rel) (by first | exact room (by assumption) (by decide) | ((try dsimp only); first | exact room (by assumption) (by decide) | omega)) ?_)))
  k_with "call ref" => (k_here; (fail_if_success fail_if_success (with_reducible show wpAny _ _ (call (Value.ref 64) _) _ _ _)); k_dflt (refine' call_radd (by assumption) (by assumption) (by assumption) (by assumption) (by assumption) (by exact rfl) (by first | exact room (by assumption) (by decide) | omega) (by first | exact room (by assumption) (by decide) | omega) (by first | assumption | exact tup49 (T := []) | exact tup50 (T := []) | exact tup_int (by assumption)) (by ktr_rel) (by first | assumption | exact tup49 (T := []) | exact tup50 (T := []) | exact tup_int (by assumption)) (by ktr_rel) (by assumption) (by assumption) ?_); (intro a'q tl'q h'q tk'q F'q N'q A'q R'q); (try k_sweep))
  k_with "call ref" => (k_here; (fail_if_success fail_if_success (with_reducible show wpAny _ _ (call (Value.ref 71) _) _ _ _)); k_dflt (refine' call_rsub (by assumption) (by assumption) (by assumption) (by assumption) (by assumption) (by exact rfl) (by first | exact room (by assumption) (by decide) | omega) (by first | exact room (by assumption) (by decide) | omega) (by first | assumption | exact tup49 (T := []) | exact tup50 (T := []) | exact tup_int (by assumption)) (by ktr_rel) (by first | assumption | exact tup49 (T := []) | exact tup50 (T := []) | exact tup_int (by assumption)) (by ktr_rel) (by assumption) (by assumption) ?_); (intro a'q tl'q h'q tk'q F'q N'q A'q R'q); (try k_sweep))
  k_with "call ref" => (k_here; (fail_if_success fail_if_success (with_reducible show wpAny _ _ (call (Value.ref 78) _) _ _ _)); k_dflt (refine' call_rmul (by assumption) (by assumption) (by assumption) (by assumption) (by assumption) (by exact rfl) (by first | exact room (by assumption) (by decide) | omega) (by first | exact room (by assumption) (by decide) | omega) (by first | assumption | exact tup49 (T := []) | exact tup50 (T := []) | exact tup_int (by assumption)) (by ktr_rel) (by first | assumption | exact tup49 (T := []) | exact tup50 (T := []) | exact tup_int (by assumption)) (by ktr_rel) (by assumption) (by assumption) ?_); (intro a'q tl'q h'q tk'q F'q N'q A'q R'q); (try k_sweep))
  k_with "call ref" => (k_here; (fail_if_success fail_if_success (with_reducible show wpAny _ _ (call (Value.ref 85) _) _ _ _)); k_dflt (refine' call_rdiv (by assumption) (by assumption) (by assumption) (by assumption) (by assumption) (by exact rfl) (by first | exact room (by assumption) (by decide) | omega) (by first | exact room (by assumption) (by decide) | omega) (by first | assumption | exact tup49 (T := []) | exact tup50 (T := []) | exact tup_int (by assumption)) (by ktr_rel) (by first | assumption | exact tup49 (T := []) | exact tup50 (T := []) | exact tup_int (by assumption)) (by ktr_rel) (by assumption) (by assumption) (by assumption) ?_); (intro a'q tl'q h'q tk'q F'q N'q A'q R'q); (try k_sweep))
  k_with "call ref" => (k_here; (fail_if_success fail_if_success (with_reducible show wpAny _ _ (call (Value.ref 113) _) _ _ _)); k_dflt (refine' call_let (by assumption) (by assumption) (by assumption) (by assumption) (by assumption) (by exact rfl) (by first | exact room (by assumption) (by decide) | omega) (by first | exact room (by assumption) (by decide) | omega) (by assumption) (by ktr_rel) (by assumption) ?_); (intro h'q tk'q F'q N'q); (try k_sweep))
  k_with "exec For Name Call cons nil" => (k_here; (rename Fr _ _ _ _ => lF'q); (with_unfolding_all refine' For_invVF lF'q (by exact rfl) (by exact rfl) ?_; k_whole))
  k_with "pyIter ref" => refine stopHere ?_
  k_with "eval ListComp" => refine stopHere ?_
  k_with "CompSrc" => refine stopHere ?_
  k_with "lcg_sub" => first
      | exact List.Mem.head _
      | (refine List.Mem.tail _ ?_; lcg_sub)
      | (refine List.mem_append_right _ ?_; lcg_sub)
  k_with "eval Name" => (k_here; (fail_if_success fail_if_success (with_reducible show wpAny _ _ (eval (Expr.Name _ _) (compEnvC _ _ _ _)) _ _ _)); k_dflt (first
      | (refine' lcf_cell (by assumption) (by exact rfl) (by lcg_sub) (by assumption) ?_ rfl rfl)
      | (refine' LCgL.ld_own (by assumption) ?_ (by assumption) (by assumption) ?_ rfl rfl (by decide); lcg_sub)
      | (refine' LCgL.ld_global (by assumption) (by assumption) (by assumption) (by k_is) ?_ rfl rfl rfl (by decide))))
  k_with "subscriptTail Name Slice ref ref" => (k_here; k_dflt (first
      | (refine' lst_upto (by assumption) ?_ (by assumption) (by assumption) (by first | assumption | omega) ?_ (by with_unfolding_all rfl); ktr_rel)
      | (refine' lst_from (by assumption) ?_ (by assumption) (by assumption) (by first | assumption | omega) ?_ (by with_unfolding_all rfl); ktr_rel)); intro D'q o'q h'q F'q N'q R'q l1'q; (try k_sweep))
  k_with "subscriptTail ListComp Slice ref ref" => (k_here; k_dflt (first
      | (refine' lst_from (by assumption) ?_ (by assumption) (by assumption) (by first | assumption | omega) ?_ (by with_unfolding_all rfl); ktr_rel)); intro D'q o'q h'q F'q N'q R'q l1'q; (try k_sweep))
  k_with "call type:list" => (k_here; (fail_if_success fail_if_success (with_reducible show wpAny _ _ (call (Value.type "list") [Value.ref _]) _ _ _)); k_dflt (refine' lst_copy (by assumption) ?_ (by assumption) (by assumption) ?_; ktr_rel); intro D'q o'q h'q F'q N'q R'q l1'q; (try k_sweep))
  k_with "binaryOp Mult ref int" => (k_here; (fail_if_success fail_if_success (with_reducible show wpAny _ _ (binaryOp _ (Value.ref _) (Value.int _ _)) _ _ _)); k_dflt (refine' lst_mul1 (by assumption) ?_ (by assumption) (by assumption) (by first | omega | (simp only [List.length_nil, List.length_cons]; omega)) (by first | omega | (simp only [List.length_nil, List.length_cons]; omega)) ?_; ktr_rel); intro D'q o'q h'q F'q N'q R'q l1'q; (try k_sweep))
  k_with "binaryOp Add ref ref" => (k_here; (fail_if_success fail_if_success (with_reducible show wpAny _ _ (binaryOp _ (Value.ref _) (Value.ref _)) _ _ _)); k_dflt (refine' lst_add (by assumption) ?_ (by assumption) ?_ (by assumption) (by assumption) (by ((try simp only [List.length_take, List.length_drop, List.length_replicate, List.length_cons, List.length_nil]); omega)) ?_; ktr_rel; ktr_rel); intro D'q o'q h'q F'q N'q R'q l1'q; (try k_sweep))
  k_with "newList" => (k_here; k_dflt (first
      | ((fail_if_success fail_if_success (with_reducible show wpAny _ _ (newList []) _ _ _)); refine' newlst0 (w := _) (by assumption) (by assumption) ?_)
      | ((fail_if_success fail_if_success (with_reducible show wpAny _ _ (newList [Value.ref _]) _ _ _)); refine' newlst1 (by first | assumption | exact tup49 (T := []) | exact tup50 (T := [])) ?_ (by assumption) (by assumption) ?_; ktr_rel)
      | ((fail_if_success fail_if_success (with_reducible show wpAny _ _ (newList [Value.ref _, Value.ref _]) _ _ _)); refine' newlst2 (by first | assumption | exact tup49 (T := []) | exact tup50 (T := [])) ?_ (by first | assumption | exact tup49 (T := []) | exact tup50 (T := [])) ?_ (by assumption) (by assumption) ?_; ktr_rel; ktr_rel)); intro D'q o'q h'q F'q N'q R'q l1'q; (try k_sweep))
  k_with "getMethod ref" => (k_here; (fail_if_success fail_if_success (with_reducible show wpAny _ _ (getMethod (Value.ref _) (Str.ofString "append") _) _ _ _)); k_dflt (refine' lst_getAppend (by assumption) ?_ (by assumption) ?_; ktr_rel))
  k_with "call builtin:list.append" => refine stopHere ?_
  k_with "setItem ref int ref" => refine stopHere ?_
  k_with "lcg_off" => first | exact Ext.refl | (refine Ext.cons ?_ (by assumption); lcg_off) | (refine Ext.app ?_ (by assumption); lcg_off) | assumption
  exact True.intro
/-- sinverse's inner turns and outer turns -/
def invT (qs f : List Rat) (i : Nat) : Nat → Rat
  | 0 => if i = 0 then 1 else 0
  | j + 1 => invT qs f i j - qs.getD (j + 1) 0 * f.getD (i - (j + 1)) 0
def invS (qs : List Rat) : Nat → List Rat
  | 0 => []
  | i + 1 => invS qs i ++ [invT qs (invS qs i) i i / qs.getD 0 0]
def invF (qs : List Rat) : List Rat := invS qs qs.length
theorem invS_length (qs : List Rat) : ∀ i, (invS qs i).length = i
  | 0 => rfl
  | i + 1 => by rw [invS, List.length_append, invS_length qs i]; rfl
def InvOk (qs : List Rat) : Prop := ∀ i, i < qs.length → (∀ j, j < i → Tiny (qs.getD (j + 1) 0) ∧ Tiny ((invS qs i).getD (i - (j + 1)) 0) ∧ Tiny (qs.getD (j + 1) 0 * (invS qs i).getD (i - (j + 1)) 0) ∧ Tiny (invT qs (invS qs i) i j)) ∧
  Tiny (invT qs (invS qs i) i i) ∧ Tiny (qs.getD 0 0) ∧ Tiny (invT qs (invS qs i) i i / qs.getD 0 0)
section
variable {w : World} {p : Program} {loose : List Str} {mean : ExcName → Option Value} {mg mb : Str → Option Value}
theorem sinverse_does {a1 : Addr} {qs : List Rat} {news : Led} (r1 : LstAt w news a1 qs) (h0 : qs.getD 0 0 ≠ 0) (hpos : 0 < qs.length) (ok : InvOk qs) :
    Does w p loose mean mg mb 6 140 132 [.ref a1] news (fun tl r => ∃ l, r = .ref l ∧ LstAt w (tl ++ news) l (invF qs) ∧ ∀ q ∈ news, q.1 ≠ l) := by
  refine does_of (dep := 5) (uns := 137) [(Str.ofString "a", .ref a1)] (by k_is) (by k_is) (fun s => BindsTo.of_eq rfl) (locs rfl) rfl rfl rfl (by decide) ?_
  unfold Runs
  intro dp un gd outer A₀ base g L s Q E B F X N T hd hu hE hret
  k_fold
  have hl := r1.le
  k_unmd
  k_extra "st"
  · exact absurd (by assumption) h0
  · rename IsRange _ _ _ _ _ _ _ _ => IR
    rename News _ _ _ _ => N1
    rename Fr _ _ _ _ => F1
    rename LstAt _ _ _ [] => R0
    rename (∀ q ∈ (_ : Led), q.1 < (_ : Addr)) => lt0
    unfold Stop
    refine iter_grow (n := qs.length) (fun i m₁ nw => Ext nw news ∧ ∃ (fl : Addr), LstAt w nw fl (invS qs i) ∧ (∀ q ∈ news, q.1 ≠ fl) ∧ m₁ (Str.ofString "found") = some (.ref fl) ∧ m₁ (Str.ofString "a") = some (.ref a1))
      rfl IR (small_one (by omega) (by omega) (by omega) (by omega)) (by rw [rangeSize_nat]; first | exact tn_pred _ | omega) F1 N1 ⟨by lcg_off, _, R0, fun q hq => Nat.ne_of_lt (lt0 q hq), rfl, rfl⟩ ?_ ?_
    · rintro i t' m₁ nw h tk I oI hi hJ38 ho hc F₂ N₂
      refine hideQ fun Z0 hZ0 => ?_
      refine and2 hJ38 fun hx hN39 => ?_
      clear hJ38
      refine ex1 hN39 fun fl hC40 => and4 hC40 fun R1 hf e1 e2 => ?_
      clear hC40
      clear hN39
      clear F1 N1 IR R0
      have em : fmo [(Str.ofString "found", .ref fl), (Str.ofString "a", .ref a1)] m₁ = m₁ := fmo_known (by simp [e1, e2])
      rw [← em] at F₂
      simp only [Int.mul_one, Int.zero_add] at F₂
      refine and4 (ok i hi) fun k1 k2 k3 k4 => ?_
      replace F₂ : Fr g L h _ := F₂
      replace N₂ : News g L h _ := N₂
      have hlen := invS_length qs i
      replace r1 := r1.mono hx.1
      clear em e1 e2
      k_unmd
      (try k_fold)
      k_extra "st"
      all_goals
        rename IsRange _ _ _ _ _ _ _ _ => IR
        rename News _ _ _ _ => N1
        rename Fr _ _ _ _ => F1
        unfold Stop
        refine iter_grow (n := i) (fun j m₂ nw2 => ∃ tl ta, nw2 = tl ++ ((I, oI) :: nw) ∧ Abv tl ((I, oI) :: nw) ∧ TupAt w tl ta (invT qs (invS qs i) i j) ∧ m₂ (Str.ofString "total") = some (.ref ta) ∧ m₂ (Str.ofString "found") = some (.ref fl) ∧ m₂ (Str.ofString "a") = some (.ref a1) ∧ ∃ t, m₂ (Str.ofString "at") = some (.int i t))
          rfl IR (small_one (by omega) (by omega) (by omega) (by omega)) (by rw [rangeSize_nat]; first | exact tn_pred _ | omega) F1 N1 ⟨[], _, rfl, Abv.nil, (by first | (rw [invT, if_pos (by omega)]; exact tup50) | (rw [invT, if_neg (by omega)]; exact tup49)), rfl, rfl, rfl, _, rfl⟩ ?_ ?_
        · rintro j t2 m₂ nw2 h2 tk2 I2 oI2 hj hJ41 ho2 _ F₃ N₃
          refine hideQ fun Z1 hZ1 => ?_
          refine ex2 hJ41 fun tl ta hC44 => and7 hC44 fun hE42 ha R2 e1 e2 e3 hN43 => ?_
          clear hJ41
          clear hC44
          subst hE42
          refine ex1 hN43 fun t3 e4 => ?_
          clear hN43
          clear F1 N1 IR
          have em : fmo [(Str.ofString "total", .ref ta), (Str.ofString "found", .ref fl), (Str.ofString "a", .ref a1), (Str.ofString "at", .int i t3)] m₂ = m₂ := fmo_known (by simp [e1, e2, e3, e4])
          rw [← em] at F₃
          simp only [Int.mul_one] at F₃
          refine and4 (k1 j hj) fun p1 p2 p3 p4 => ?_
          have x1 : (1 + (j : Int)).toNat = j + 1 := tn_add1 j
          have x2 : ((i : Int) - (1 + (j : Int))).toNat = i - (j + 1) := tn_sub1 i j
          rw [← x2] at p2 p3
          rw [← x1] at p1
          conv at p3 => arg 1; arg 1; rw [← x1]
          replace F₃ : Fr g L h2 _ := F₃
          replace N₃ : News g L h2 _ := N₃
          clear em e1 e2 e3 e4
          clear x1 x2
          k_unmd
          (try k_fold)
          k_extra "st"
          rename TupAt _ _ _ (_ - _ : Rat) => R4
          rename Fr _ _ _ _ => F4
          rename News _ _ _ _ => N4
          refine and3 (grow2 N4 (by assumption) (by assumption) ho2 ha) fun n1 n2 n3 => ?_
          refine hZ1 _ _ ?_
          refine GrowEnd.intro F4 n1 n2 ⟨_, _, rfl, n3, ?_, rfl, rfl, rfl, _, rfl⟩
          rw [tn_add1, tn_sub1] at R4
          rw [invT]
          exact R4.mono (by ktr_rel)
        · rintro m₂ nw2 h2 tk2 hJ45 F₃ N₃
          refine ex2 hJ45 fun tl ta hC48 => and7 hC48 fun hE46 ha R2 e1 e2 e3 hN47 => ?_
          clear hJ45
          clear hC48
          subst hE46
          refine ex1 hN47 fun t3 e4 => ?_
          clear hN47
          clear F1 N1 IR
          replace F₃ := fr_known3 e1 e2 e3 F₃
          replace F₃ : Fr g L h2 _ := F₃
          replace N₃ : News g L h2 _ := N₃
          (try dsimp only)
          have x3 : Int.toNat 0 = 0 := rfl
          rw [← x3] at k3 k4
          k_unmd
          k_extra "st"
          rename TupAt _ _ _ (_ / _ : Rat) => R5
          rename News _ _ _ _ => N5
          rename Fr _ _ _ _ => F5
          have hxI : Ext ((I, oI) :: nw) news := hx.cons' ho
          have hne := R1.addr_ne ho
          unfold Stop
          refine lst_append R1 (by ktr_rel) R5 (by ktr_rel) F5 N5 (by omega) ?_
          intro o' h' F' N' R'
          refine ex1 (turn_end (w := w) (news := news) N' (upd_mem (by simp) (Ne.symm hne)) hc (Ext.upd (by lcg_off) hf) (fun q hq => ho q (hx.1 q hq))) fun nw2 hCo => and5 hCo fun n1 n2 n3 n4 n5 => ?_
          clear hCo
          k_unmd
          k_extra "st"
          refine hZ0 _ _ ?_
          exact GrowEnd.intro F' n1 n2 ⟨n3, fl, n5 _ _ R', hf, rfl, rfl⟩
    · rintro m₁ nw h tk hJ49 F₂ N₂
      refine and2 hJ49 fun hx hN50 => ?_
      clear hJ49
      refine ex1 hN50 fun fl hC51 => and4 hC51 fun R1 hf e1 e2 => ?_
      clear hC51
      clear hN50
      clear F1 N1 IR
      replace F₂ := fr_known1 e1 F₂
      replace F₂ : Fr g L h _ := F₂
      replace N₂ : News g L h _ := N₂
      (try dsimp only)
      k_extra "st"
      refine ex1 (fin_lst N₂ hx R1 hf) fun tl hCo => and4 hCo fun n1 n2 n3 n4 => ?_
      clear hCo
      exact hret _ tl _ _ _ F₂ n1 n2 ⟨fl, rfl, n3, n4⟩
theorem call_sinverse {dp un : Nat} {gd : Option (List Code)} {cn : Str} {cs : Scope} {a : Addr} {ccd : Value} {cl : List (Str × Addr)} {outer : List Env} {A₀ : Around} {base h₀ : Heap} {L : Addr} {m : Str → Option Value} {s : Shared} {Q E : Value → Shared → Prop} {news : Led} {a1 : Addr} {qs : List Rat} {T1 : Led}
    (F : Fr h₀ L s.heap m) (N : News h₀ L s.heap news) (B : Below A₀ base outer h₀) (X : (Mine.hd.heap_39 w.params).In h₀) (T : Top p loose mean mg mb h₀) (hk : cs.kind = .function) (hd : dp + 6 < recursionLimit) (hu : un + 140 < cLine) (r1 : LstAt w T1 a1 qs) (s1 : ∀ p ∈ T1, p ∈ news) (h0 : qs.getD 0 0 ≠ 0) (hpos : 0 < qs.length) (ok : InvOk qs)
    (ret : ∀ a' tl h' tk', Fr h₀ L h' m → News h₀ L h' (tl ++ news) → Abv tl news → LstAt w (tl ++ news) a' (invF qs) → (∀ q ∈ news, q.1 ≠ a') → Q (.ref a') { s with heap := h', toks := tk' }) :
    wpAny (model PySem.Challenge.rw_sa0095_01.row.prog w) (ktrTop dp un gd cn cs L a ccd cl outer) (call (.ref 132) [.ref a1]) Q E s :=
  does_use F N (sinverse_does (r1.mono s1) h0 hpos ok) B X T hk hd hu fun r tl h' tk' F' N' A' ⟨a', e, h, hf⟩ => by
    subst e
    exact ret a' tl h' tk' F' N' A' h hf
end
end
section
theorem rulesM16a : True := by
  k_with_none
  k_with "st" => (repeat' (first | (k_unfold; (try dsimp only)) | ((try dsimp only); walk1)))
  k_with "ktr_rel" => first | exact fun _ h => h | exact List.forall_mem_nil _ | exact fun _ h => List.mem_append_right _ h | exact fun _ h => List.mem_cons_of_mem _ h | (refine sub_app ?_; ktr_rel; done) | (refine sub_cons ?_; ktr_rel; done) | (intro p hp; simp only [List.mem_append, List.mem_cons, hp, true_or, or_true])
  k_with "exec While Compare cons nil" => refine stopHere ?_
  k_with "subscriptTail Name Constant ref int" => (k_here; k_dflt (first
      | ((fail_if_success fail_if_success (with_reducible show wpAny _ _ (subscriptTail _ _ (Value.ref _) (Value.int 0 _)) _ _ _)); refine' rat_item0 (by assumption) (by assumption) (by assumption) (by assumption) (by ktr_rel) ?_ ?_; rotate_left; (with_unfolding_all rfl); intro t'q)
      | ((fail_if_success fail_if_success (with_reducible show wpAny _ _ (subscriptTail _ _ (Value.ref _) (Value.int 1 _)) _ _ _)); refine' rat_item1 (by assumption) (by assumption) (by assumption) (by assumption) (by ktr_rel) ?_ ?_; rotate_left; (with_unfolding_all rfl); intro t'q)
      | ((fail_if_success fail_if_success (with_reducible show wpAny _ _ (subscriptTail _ _ (Value.ref _) (Value.int _ _)) _ _ _)); refine' lst_item (by assumption) (by assumption) (by ktr_rel) (by first | exact Int.natCast_nonneg _ | omega) (by first | assumption | omega) ?_ ?_; rotate_left; (with_unfolding_all rfl); intro a'q R'q)))
  k_with "subscriptTail Name Name ref int" => (k_here; k_dflt ((fail_if_success fail_if_success (with_reducible show wpAny _ _ (subscriptTail _ _ (Value.ref _) (Value.int _ _)) _ _ _)); refine' lst_item (by assumption) (by assumption) (by ktr_rel) (by first | exact Int.natCast_nonneg _ | omega) (by first | assumption | omega) ?_ ?_; rotate_left; (with_unfolding_all rfl); intro a'q R'q))
  k_with "subscriptTail Name BinOp ref int" => (k_here; k_dflt ((fail_if_success fail_if_success (with_reducible show wpAny _ _ (subscriptTail _ _ (Value.ref _) (Value.int _ _)) _ _ _)); refine' lst_item (by assumption) (by assumption) (by ktr_rel) (by first | exact Int.natCast_nonneg _ | omega) (by first | assumption | omega) ?_ ?_; rotate_left; (with_unfolding_all rfl); intro a'q R'q))
  k_with "call builtin:len" => (k_here; (fail_if_success fail_if_success (with_reducible show wpAny _ _ (call (Value.builtin "len") [Value.ref _]) _ _ _)); k_dflt (refine' lst_len (by assumption) (by assumption) (by ktr_rel) ?_))
  k_with "compareOp NotEq ref ref" => (k_here; (fail_if_success fail_if_success (with_reducible show wpAny _ _ (compareOp CmpOp.NotEq (Value.ref _) (Value.ref _)) _ _ _)); k_dflt (first
      | (refine' tup_ne (by assumption) (by first | assumption | exact tup49 (T := [])) (by assumption) (by assumption) (by assumption) (by ktr_rel) (by ktr_rel) (by first | exact room (by assumption) (by decide) | ((try dsimp only); first | exact room (by assumption) (by decide) | omega)) ?_)
      | (refine' lst_ne (by assumption) (by assumption) (by assumption) (by assumption) (by assumption) (by ktr_rel) (by ktr_rel) (by first | exact room (by assumption) (by decide) | ((try dsimp only); first | exact room (by assumption) (by decide) | omega)) ?_)))
  k_with "compareOp Eq ref ref" => (k_here; (fail_if_success fail_if_success (with_reducible show wpAny _ _ (compareOp CmpOp.Eq (Value.ref _) (Value.ref _)) _ _ _)); k_dflt (first
      | (refine' tup_eq (by assumption) (by first | assumption | exact tup49 (T := [])) (by assumption) (by assumption) (by assumption) (by ktr_rel) (by ktr_rel) (by first | exact room (by assumption) (by decide) | ((try dsimp only); first | exact room (by assumption) (by decide) | omega)) ?_)
      | (refine' lst_eq (by assumption) (by assumption) (by assumption) (by assumption) (by assumption) (by ktr_rel) (by ktr_rel) (by first | exact room (by assumption) (by decide) | ((try dsimp only); first | exact room (by assumption) (by decide) | omega)) ?_)))
  k_with "call ref" => (k_here; (fail_if_success fail_if_success (with_reducible show wpAny _ _ (call (Value.ref 64) _) _ _ _)); k_dflt (refine' call_radd (by assumption) (by assumption) (by assumption) (by assumption) (by assumption) (by exact rfl) (by first | exact room (by assumption) (by decide) | omega) (by first | exact room (by assumption) (by decide) | omega) (by first | assumption | exact tup49 (T := []) | exact tup50 (T := []) | exact tup_int (by assumption)) (by ktr_rel) (by first | assumption | exact tup49 (T := []) | exact tup50 (T := []) | exact tup_int (by assumption)) (by ktr_rel) (by assumption) (by assumption) ?_); (intro a'q tl'q h'q tk'q F'q N'q A'q R'q); (try k_sweep))
  k_with "call ref" => (k_here; (fail_if_success fail_if_success (with_reducible show wpAny _ _ (call (Value.ref 71) _) _ _ _)); k_dflt (refine' call_rsub (by assumption) (by assumption) (by assumption) (by assumption) (by assumption) (by exact rfl) (by first | exact room (by assumption) (by decide) | omega) (by first | exact room (by assumption) (by decide) | omega) (by first | assumption | exact tup49 (T := []) | exact tup50 (T := []) | exact tup_int (by assumption)) (by ktr_rel) (by first | assumption | exact tup49 (T := []) | exact tup50 (T := []) | exact tup_int (by assumption)) (by ktr_rel) (by assumption) (by assumption) ?_); (intro a'q tl'q h'q tk'q F'q N'q A'q R'q); (try k_sweep))
  k_with "call ref" => (k_here; (fail_if_success fail_if_success (with_reducible show wpAny _ _ (call (Value.ref 78) _) _ _ _)); k_dflt (refine' call_rmul (by assumption) (by assumption) (by assumption) (by assumption) (by assumption) (by exact rfl) (by first | exact room (by assumption) (by decide) | omega) (by first | exact room (by assumption) (by decide) | omega) (by first | assumption | exact tup49 (T := []) | exact tup50 (T := []) | exact tup_int (by assumption)) (by ktr_rel) (by first | assumption | exact tup49 (T := []) | exact tup50 (T := []) | exact tup_int (by assumption)) (by ktr_rel) (by assumption) (by assumption) ?_); (intro a'q tl'q h'q tk'q F'q N'q A'q R'q); (try k_sweep))
  k_with "call ref" => (k_here; (fail_if_success fail_if_success (with_reducible show wpAny _ _ (call (Value.ref 85) _) _ _ _)); k_dflt (refine' call_rdiv (by assumption) (by assumption) (by assumption) (by assumption) (by assumption) (by exact rfl) (by first | exact room (by assumption) (by decide) | omega) (by first | exact room (by assumption) (by decide) | omega) (by first | assumption | exact tup49 (T := []) | exact tup50 (T := []) | exact tup_int (by assumption)) (by ktr_rel) (by first | assumption | exact tup49 (T := []) | exact tup50 (T := []) | exact tup_int (by assumption)) (by ktr_rel) (by assumption) (by assumption) (by assumption) ?_); (intro a'q tl'q h'q tk'q F'q N'q A'q R'q); (try k_sweep))
  k_with "call ref" => (k_here; (fail_if_success fail_if_success (with_reducible show wpAny _ _ (call (Value.ref 113) _) _ _ _)); k_dflt (refine' call_let (by assumption) (by assumption) (by assumption) (by assumption) (by assumption) (by exact rfl) (by first | exact room (by assumption) (by decide) | omega) (by first | exact room (by assumption) (by decide) | omega) (by assumption) (by ktr_rel) (by assumption) ?_); (intro h'q tk'q F'q N'q); (try k_sweep))
  k_with "exec For Name Call cons nil" => (k_here; (rename Fr _ _ _ _ => lF'q); (with_unfolding_all refine' For_invVF lF'q (by exact rfl) (by exact rfl) ?_; k_whole))
  k_with "pyIter ref" => refine stopHere ?_
  k_with "eval ListComp" => refine stopHere ?_
  k_with "CompSrc" => refine stopHere ?_
  k_with "lcg_sub" => first
      | exact List.Mem.head _
      | (refine List.Mem.tail _ ?_; lcg_sub)
      | (refine List.mem_append_right _ ?_; lcg_sub)
  k_with "eval Name" => (k_here; (fail_if_success fail_if_success (with_reducible show wpAny _ _ (eval (Expr.Name _ _) (compEnvC _ _ _ _)) _ _ _)); k_dflt (first
      | (refine' lcf_cell (by assumption) (by exact rfl) (by lcg_sub) (by assumption) ?_ rfl rfl)
      | (refine' LCgL.ld_own (by assumption) ?_ (by assumption) (by assumption) ?_ rfl rfl (by decide); lcg_sub)
      | (refine' LCgL.ld_global (by assumption) (by assumption) (by assumption) (by k_is) ?_ rfl rfl rfl (by decide))))
  k_with "subscriptTail Name Slice ref ref" => (k_here; k_dflt (first
      | (refine' lst_upto (by assumption) ?_ (by assumption) (by assumption) (by first | assumption | omega) ?_ (by with_unfolding_all rfl); ktr_rel)
      | (refine' lst_from (by assumption) ?_ (by assumption) (by assumption) (by first | assumption | omega) ?_ (by with_unfolding_all rfl); ktr_rel)); intro D'q o'q h'q F'q N'q R'q l1'q; (try k_sweep))
  k_with "subscriptTail ListComp Slice ref ref" => (k_here; k_dflt (first
      | (refine' lst_from (by assumption) ?_ (by assumption) (by assumption) (by first | assumption | omega) ?_ (by with_unfolding_all rfl); ktr_rel)); intro D'q o'q h'q F'q N'q R'q l1'q; (try k_sweep))
  k_with "call type:list" => (k_here; (fail_if_success fail_if_success (with_reducible show wpAny _ _ (call (Value.type "list") [Value.ref _]) _ _ _)); k_dflt (refine' lst_copy (by assumption) ?_ (by assumption) (by assumption) ?_; ktr_rel); intro D'q o'q h'q F'q N'q R'q l1'q; (try k_sweep))
  k_with "binaryOp Mult ref int" => (k_here; (fail_if_success fail_if_success (with_reducible show wpAny _ _ (binaryOp _ (Value.ref _) (Value.int _ _)) _ _ _)); k_dflt (refine' lst_mul1 (by assumption) ?_ (by assumption) (by assumption) (by first | omega | (simp only [List.length_nil, List.length_cons]; omega)) (by first | omega | (simp only [List.length_nil, List.length_cons]; omega)) ?_; ktr_rel); intro D'q o'q h'q F'q N'q R'q l1'q; (try k_sweep))
  k_with "binaryOp Add ref ref" => (k_here; (fail_if_success fail_if_success (with_reducible show wpAny _ _ (binaryOp _ (Value.ref _) (Value.ref _)) _ _ _)); k_dflt (refine' lst_add (by assumption) ?_ (by assumption) ?_ (by assumption) (by assumption) (by ((try simp only [List.length_take, List.length_drop, List.length_replicate, List.length_cons, List.length_nil]); omega)) ?_; ktr_rel; ktr_rel); intro D'q o'q h'q F'q N'q R'q l1'q; (try k_sweep))
  k_with "newList" => (k_here; k_dflt (first
      | ((fail_if_success fail_if_success (with_reducible show wpAny _ _ (newList []) _ _ _)); refine' newlst0 (w := _) (by assumption) (by assumption) ?_)
      | ((fail_if_success fail_if_success (with_reducible show wpAny _ _ (newList [Value.ref _]) _ _ _)); refine' newlst1 (by first | assumption | exact tup49 (T := []) | exact tup50 (T := [])) ?_ (by assumption) (by assumption) ?_; ktr_rel)
      | ((fail_if_success fail_if_success (with_reducible show wpAny _ _ (newList [Value.ref _, Value.ref _]) _ _ _)); refine' newlst2 (by first | assumption | exact tup49 (T := []) | exact tup50 (T := [])) ?_ (by first | assumption | exact tup49 (T := []) | exact tup50 (T := [])) ?_ (by assumption) (by assumption) ?_; ktr_rel; ktr_rel)); intro D'q o'q h'q F'q N'q R'q l1'q; (try k_sweep))
  k_with "getMethod ref" => (k_here; (fail_if_success fail_if_success (with_reducible show wpAny _ _ (getMethod (Value.ref _) (Str.ofString "append") _) _ _ _)); k_dflt (refine' lst_getAppend (by assumption) ?_ (by assumption) ?_; ktr_rel))
  k_with "call builtin:list.append" => refine stopHere ?_
  k_with "setItem ref int ref" => refine stopHere ?_
  k_with "lcg_off" => first | exact Ext.refl | (refine Ext.cons ?_ (by assumption); lcg_off) | (refine Ext.cons ?_ (ktn_ltOf (by assumption)); lcg_off) | (refine Ext.app ?_ (by assumption); lcg_off) | assumption
  k_with "call ref" => (k_here; (fail_if_success fail_if_success (with_reducible show wpAny _ _ (call (Value.ref 125) _) _ _ _)); k_dflt (refine' call_smul (by assumption) (by assumption) (by assumption) (by assumption) (by assumption) (by exact rfl) (by first | exact room (by assumption) (by decide) | omega) (by first | exact room (by assumption) (by decide) | omega) (by assumption) (by ktr_rel) (by assumption) (by ktr_rel) (by assumption) ?_); (intro a'q tl'q h'q tk'q F'q N'q A'q R'q Fh'q); (try k_sweep))
  k_with "call ref" => (k_here; (fail_if_success fail_if_success (with_reducible show wpAny _ _ (call (Value.ref 144) _) _ _ _)); k_dflt (refine' call_need_begin (by assumption) (by assumption) (by assumption) (by assumption) (by assumption) (by exact rfl) (by first | exact room (by assumption) (by decide) | omega) (by first | exact room (by assumption) (by decide) | omega) (by assumption) (by ktr_rel) (by assumption) (by assumption) ?_); (intro h'q tk'q F'q N'q); (try k_sweep))
  k_with "call ref" => (k_here; (fail_if_success fail_if_success (with_reducible show wpAny _ _ (call (Value.ref 132) _) _ _ _)); k_dflt (refine' call_sinverse (by assumption) (by assumption) (by assumption) (by assumption) (by assumption) (by exact rfl) (by first | exact room (by assumption) (by decide) | omega) (by first | exact room (by assumption) (by decide) | omega) (by assumption) (by ktr_rel) (by assumption) (by assumption) (by assumption) ?_); (intro a'q tl'q h'q tk'q F'q N'q A'q R'q Fh'q); (try k_sweep))
  exact True.intro
/-- sreverse's powers and coefficients -/
def revP (t : List Rat) (m : Nat) : Nat → List Rat
  | 0 => t
  | i + 1 => if 1 + i < m - 1 then smulF (revP t m i) t else revP t m i
def revS (t : List Rat) (m : Nat) : Nat → List Rat
  | 0 => [0]
  | i + 1 => revS t m i ++ [(revP t m i).getD i 0 / ((1 + (i : Int) : Int) : Rat)]
def revF (qs : List Rat) : List Rat := revS (invF (qs.drop 1)) qs.length (qs.length - 1)
theorem revP_length (t : List Rat) (m : Nat) : ∀ i, (revP t m i).length = t.length
  | 0 => rfl
  | i + 1 => by
    rw [revP]
    split
    · rw [smulF_length, revP_length t m i]; exact Nat.min_self _
    · exact revP_length t m i
theorem revS_length (t : List Rat) (m : Nat) : ∀ i, (revS t m i).length = i + 1
  | 0 => rfl
  | i + 1 => by rw [revS, List.length_append, revS_length t m i]; rfl
theorem invF_length (qs : List Rat) : (invF qs).length = qs.length := invS_length qs _
def RevOk (qs : List Rat) : Prop := InvOk (qs.drop 1) ∧ ∀ i, i < qs.length - 1 → Tiny ((revP (invF (qs.drop 1)) qs.length i).getD i 0) ∧ (1 + i < qs.length - 1 → SmulOk (revP (invF (qs.drop 1)) qs.length i) (invF (qs.drop 1)))
theorem int_ne {k : Int} (h : k ≠ 0) : (k : Rat) ≠ 0 := fun e => h (Rat.intCast_eq_zero_iff.mp e)
section
variable {w : World} {p : Program} {loose : List Str} {mean : ExcName → Option Value} {mg mb : Str → Option Value}
theorem sreverse_does {a1 : Addr} {qs : List Rat} {news : Led} (r1 : LstAt w news a1 qs) (hb0 : qs.getD 0 0 = 0) (h2 : 2 ≤ qs.length) (h1 : qs.getD 1 0 ≠ 0) (ok : RevOk qs) :
    Does w p loose mean mg mb 8 170 158 [.ref a1] news (fun tl r => ∃ l, r = .ref l ∧ LstAt w (tl ++ news) l (revF qs) ∧ ∀ q ∈ news, q.1 ≠ l) := by
  refine does_of (dep := 7) (uns := 167) [(Str.ofString "a", .ref a1)] (by k_is) (by k_is) (fun s => BindsTo.of_eq rfl) (locs rfl) rfl rfl rfl (by decide) ?_
  unfold Runs
  intro dp un gd outer A₀ base g L s Q E B F X N T hd hu hE hret
  k_fold
  have hl := r1.le
  refine and2 (ok) fun ok1 ok2 => ?_
  have hpos : 0 < qs.length := by omega
  have y1 : Int.toNat 1 = 1 := rfl
  have hd0 : (qs.drop (Int.toNat 1)).getD 0 0 ≠ 0 := by rw [y1]; simpa [List.getD] using h1
  have hd1 : 0 < (qs.drop (Int.toNat 1)).length := by rw [y1, List.length_drop]; omega
  rw [← y1] at ok1
  k_unmd
  k_extra "st"
  rename IsRange _ _ _ _ _ _ _ _ => IR
  rename News _ _ _ _ => N1
  rename Fr _ _ _ _ => F1
  rename LstAt _ _ _ [0] => Rf
  rename LstAt _ _ _ (invF _) => Rt
  rename (∀ q ∈ (_ : Led), q.1 < (_ : Addr)) => lt0
  rw [y1] at Rt ok1
  unfold revF at hret
  generalize ht : invF (qs.drop 1) = tq at *
  have htl : tq.length = qs.length - 1 := by rw [← ht, invF_length, List.length_drop]
  unfold Stop
  refine iter_grow (n := qs.length - 1) (fun i m₁ nw => Ext nw news ∧ ∃ (fl rl tt : Addr), LstAt w nw fl (revS tq qs.length i) ∧ LstAt w nw rl (revP tq qs.length i) ∧ LstAt w nw tt tq ∧ rl ≠ fl ∧ tt ≠ fl ∧ (∀ q ∈ news, q.1 ≠ fl) ∧ m₁ (Str.ofString "found") = some (.ref fl) ∧ m₁ (Str.ofString "raised") = some (.ref rl) ∧ m₁ (Str.ofString "turned") = some (.ref tt) ∧ m₁ (Str.ofString "a") = some (.ref a1))
    rfl IR (small_one (by omega) (by omega) (by omega) (by omega)) (by rw [rangeSize_nat]; first | exact tn_pred _ | omega) F1 N1 ⟨by lcg_off, _, _, _, Rf.mono (by ktr_rel), Rt.mono (by ktr_rel), Rt.mono (by ktr_rel), Rt.addr_ne (fun q hq => Nat.ne_of_lt (lt0 q hq)), Rt.addr_ne (fun q hq => Nat.ne_of_lt (lt0 q hq)), fun q hq => Nat.ne_of_lt (lt0 q (by simp [hq])), rfl, rfl, rfl, rfl⟩ ?_ ?_
  · rintro i t' m₁ nw h tk I oI hi hJ52 ho hc F₂ N₂
    refine hideQ fun Z0 hZ0 => ?_
    refine and2 hJ52 fun hx hN53 => ?_
    clear hJ52
    refine ex3 hN53 fun fl rl tt hC54 => and10 hC54 fun R1 R2 R3 hn1 hn2 hf e1 e2 e3 e4 => ?_
    clear hC54
    clear hN53
    clear F1 N1 IR Rf Rt
    have em : fmo [(Str.ofString "found", .ref fl), (Str.ofString "raised", .ref rl), (Str.ofString "turned", .ref tt), (Str.ofString "a", .ref a1)] m₁ = m₁ := fmo_known (by simp [e1, e2, e3, e4])
    rw [← em] at F₂
    simp only [Int.mul_one] at F₂
    refine and2 (ok2 i hi) fun k1 k2 => ?_
    have x1 : (1 + (i : Int) - 1).toNat = i := tn_one i
    have x2 : Tiny ((1 + (i : Int) : Int) : Rat) := tiny_int (by first | exact nat64s (by assumption) (by assumption) | exact nat64 (Nat.le_trans (Nat.le_of_lt (by assumption)) (by assumption)) | omega)
    have x3 : ((1 + (i : Int) : Int) : Rat) ≠ 0 := int_ne (by omega)
    conv at k1 => arg 1; arg 2; rw [← x1]
    have hlP := revP_length tq qs.length i
    have hlS := revS_length tq qs.length i
    replace F₂ : Fr g L h _ := F₂
    replace N₂ : News g L h _ := N₂
    have ha1 : a1 ≠ fl := r1.addr_ne hf
    replace r1 := r1.mono hx.1
    clear em e1 e2 e3 e4
    clear x1
    k_unmd
    (try k_fold)
    k_extra "st"
    rename TupAt _ _ _ (_ / _ : Rat) => R5
    rename News _ _ _ _ => N5
    rename Fr _ _ _ _ => F5
    rename Abv _ _ => A5
    have hxI : Ext ((I, oI) :: nw) news := hx.cons' ho
    have hneI := R1.addr_ne ho
    have hIn : ∀ q ∈ news, q.1 ≠ I := fun q hq => ho q (hx.1 q hq)
    unfold Stop
    refine lst_append R1 (by ktr_rel) R5 (by ktr_rel) F5 N5 (lt1000 hlS hi hl) ?_
    intro o' h' F' N' R'
    have Q2 := LstAt.upd (o' := o') N5 (R1.mono (by ktr_rel)) hn1 (R2.mono (by ktr_rel))
    have Q3 := LstAt.upd (o' := o') N5 (R1.mono (by ktr_rel)) hn2 (R3.mono (by ktr_rel))
    have Q4 := LstAt.upd (o' := o') N5 (R1.mono (by ktr_rel)) ha1 (r1.mono (by ktr_rel))
    rw [tn_one] at R'
    clear R1 R2 R3 r1
    by_cases hc1 : 1 + i < qs.length - 1
    · have k2' := k2 hc1
      have hz := int_lt_of hc1
      k_unmd
      k_extra "st"
      rename LstAt _ _ _ (smulF _ _) => R6
      rename News _ _ _ _ => N6
      rename Fr _ _ _ _ => F6
      rename (∀ q ∈ (_ : Led), q.1 ≠ (_ : Addr)) => Fh
      refine ex1 (turn_end (w := w) (news := news) N6 (List.mem_append_right _ (upd_mem (by simp) (Ne.symm hneI))) hc (Ext.app (Ext.upd (by lcg_off) hf) (by assumption)) hIn) fun nw2 hCo => and5 hCo fun n1 n2 n3 n4 n5 => ?_
      clear hCo
      refine hZ0 _ _ ?_
      refine GrowEnd.intro F6 n1 n2 ⟨n3, fl, _, tt, n5 _ _ (R'.mono (by ktr_rel)), ?_, n5 _ _ (Q3.mono (by ktr_rel)), (Fh (fl, o') (.head _)).symm, hn2, hf, rfl, rfl, rfl, rfl⟩
      rw [revP, if_pos hc1]
      exact n5 _ _ R6
    · have hz := int_nlt_of hc1 h2
      k_unmd
      k_extra "st"
      rename News _ _ _ _ => N6
      rename Fr _ _ _ _ => F6
      refine ex1 (turn_end (w := w) (news := news) N6 (upd_mem (by simp) (Ne.symm hneI)) hc (Ext.upd (by lcg_off) hf) hIn) fun nw2 hCo => and5 hCo fun n1 n2 n3 n4 n5 => ?_
      clear hCo
      refine hZ0 _ _ ?_
      refine GrowEnd.intro F6 n1 n2 ⟨n3, fl, rl, tt, n5 _ _ R', ?_, n5 _ _ Q3, hn1, hn2, hf, rfl, rfl, rfl, rfl⟩
      rw [revP, if_neg hc1]
      exact n5 _ _ Q2
  · rintro m₁ nw h tk hJ55 F₂ N₂
    refine and2 hJ55 fun hx hN56 => ?_
    clear hJ55
    refine ex3 hN56 fun fl rl tt hC57 => and10 hC57 fun R1 R2 R3 hn1 hn2 hf e1 e2 e3 e4 => ?_
    clear hC57
    clear hN56
    clear F1 N1 IR
    replace F₂ := fr_known1 e1 F₂
    replace F₂ : Fr g L h _ := F₂
    replace N₂ : News g L h _ := N₂
    (try dsimp only)
    k_extra "st"
    refine ex1 (fin_lst N₂ hx R1 hf) fun tl hCo => and4 hCo fun n1 n2 n3 n4 => ?_
    clear hCo
    exact hret _ tl _ _ _ F₂ n1 n2 ⟨fl, rfl, n3, n4⟩
end
end
section
theorem rulesM17a : True := by
  k_with_none
  k_with "st" => (repeat' (first | (k_unfold; (try dsimp only)) | ((try dsimp only); walk1)))
  k_with "ktr_rel" => first | exact fun _ h => h | exact List.forall_mem_nil _ | exact fun _ h => List.mem_append_right _ h | exact fun _ h => List.mem_cons_of_mem _ h | (refine sub_app ?_; ktr_rel; done) | (refine sub_cons ?_; ktr_rel; done) | (intro p hp; simp only [List.mem_append, List.mem_cons, hp, true_or, or_true])
  k_with "exec While Compare cons nil" => refine stopHere ?_
  k_with "subscriptTail Name Constant ref int" => (k_here; k_dflt (first
      | ((fail_if_success fail_if_success (with_reducible show wpAny _ _ (subscriptTail _ _ (Value.ref _) (Value.int 0 _)) _ _ _)); refine' rat_item0 (by assumption) (by assumption) (by assumption) (by assumption) (by ktr_rel) ?_ ?_; rotate_left; (with_unfolding_all rfl); intro t'q)
      | ((fail_if_success fail_if_success (with_reducible show wpAny _ _ (subscriptTail _ _ (Value.ref _) (Value.int 1 _)) _ _ _)); refine' rat_item1 (by assumption) (by assumption) (by assumption) (by assumption) (by ktr_rel) ?_ ?_; rotate_left; (with_unfolding_all rfl); intro t'q)
      | ((fail_if_success fail_if_success (with_reducible show wpAny _ _ (subscriptTail _ _ (Value.ref _) (Value.int _ _)) _ _ _)); refine' lst_item (by assumption) (by assumption) (by ktr_rel) (by first | exact Int.natCast_nonneg _ | omega) (by first | assumption | omega) ?_ ?_; rotate_left; (with_unfolding_all rfl); intro a'q R'q)))
  k_with "subscriptTail Name Name ref int" => (k_here; k_dflt ((fail_if_success fail_if_success (with_reducible show wpAny _ _ (subscriptTail _ _ (Value.ref _) (Value.int _ _)) _ _ _)); refine' lst_item (by assumption) (by assumption) (by ktr_rel) (by first | exact Int.natCast_nonneg _ | omega) (by first | assumption | omega) ?_ ?_; rotate_left; (with_unfolding_all rfl); intro a'q R'q))
  k_with "subscriptTail Name BinOp ref int" => (k_here; k_dflt ((fail_if_success fail_if_success (with_reducible show wpAny _ _ (subscriptTail _ _ (Value.ref _) (Value.int _ _)) _ _ _)); refine' lst_item (by assumption) (by assumption) (by ktr_rel) (by first | exact Int.natCast_nonneg _ | omega) (by first | assumption | omega) ?_ ?_; rotate_left; (with_unfolding_all rfl); intro a'q R'q))
  k_with "call builtin:len" => (k_here; (fail_if_success fail_if_success (with_reducible show wpAny _ _ (call (Value.builtin "len") [Value.ref _]) _ _ _)); k_dflt (refine' lst_len (by assumption) (by assumption) (by ktr_rel) ?_))
  k_with "compareOp NotEq ref ref" => (k_here; (fail_if_success fail_if_success (with_reducible show wpAny _ _ (compareOp CmpOp.NotEq (Value.ref _) (Value.ref _)) _ _ _)); k_dflt (first
      | (refine' tup_ne (by assumption) (by first | assumption | exact tup49 (T := [])) (by assumption) (by assumption) (by assumption) (by ktr_rel) (by ktr_rel) (by first | exact room (by assumption) (by decide) | ((try dsimp only); first | exact room (by assumption) (by decide) | omega)) ?_)
      | (refine' lst_ne (by assumption) (by assumption) (by assumption) (by assumption) (by assumption) (by ktr_rel) (by ktr_rel) (by first | exact room (by assumption) (by decide) | ((try dsimp only); first | exact room (by assumption) (by decide) | omega)) ?_)))
  k_with "compareOp Eq ref ref" => (k_here; (fail_if_success fail_if_success (with_reducible show wpAny _ _ (compareOp CmpOp.Eq (Value.ref _) (Value.ref _)) _ _ _)); k_dflt (first
      | (refine' tup_eq (by assumption) (by first | assumption | exact tup49 (T := [])) (by assumption) (by assumption) (by assumption) (by ktr_rel) (by ktr_rel) (by first | exact room (by assumption) (by decide) | ((try dsimp only); first | exact room (by assumption) (by decide) | omega)) ?_)
      | (refine' lst_eq (by assumption) (by assumption) (by assumption) (by assumption) (by assumption) (by ktr_rel) (by ktr_rel) (by first | exact room (by assumption) (by decide) | ((try dsimp only); first | exact room (by assumption) (by decide) | omega)) ?_)))
  k_with "call ref" => (k_here; (fail_if_success fail_if_success (with_reducible show wpAny _ _ (call (Value.ref 64) _) _ _ _)); k_dflt (refine' call_radd (by assumption) (by assumption) (by assumption) (by assumption) (by assumption) (by exact rfl) (by first | exact room (by assumption) (by decide) | omega) (by first | exact room (by assumption) (by decide) | omega) (by first | assumption | exact tup49 (T := []) | exact tup50 (T := []) | exact tup_int (by assumption)) (by ktr_rel) (by first | assumption | exact tup49 (T := []) | exact tup50 (T := []) | exact tup_int (by assumption)) (by ktr_rel) (by assumption) (by assumption) ?_); (intro a'q tl'q h'q tk'q F'q N'q A'q R'q); (try k_sweep))
  k_with "call ref" => (k_here; (fail_if_success fail_if_success (with_reducible show wpAny _ _ (call (Value.ref 71) _) _ _ _)); k_dflt (refine' call_rsub (by assumption) (by assumption) (by assumption) (by assumption) (by assumption) (by exact rfl) (by first | exact room (by assumption) (by decide) | omega) (by first | exact room (by assumption) (by decide) | omega) (by first | assumption | exact tup49 (T := []) | exact tup50 (T := []) | exact tup_int (by assumption)) (by ktr_rel) (by first | assumption | exact tup49 (T := []) | exact tup50 (T := []) | exact tup_int (by assumption)) (by ktr_rel) (by assumption) (by assumption) ?_); (intro a'q tl'q h'q tk'q F'q N'q A'q R'q); (try k_sweep))
  k_with "call ref" => (k_here; (fail_if_success fail_if_success (with_reducible show wpAny _ _ (call (Value.ref 78) _) _ _ _)); k_dflt (refine' call_rmul (by assumption) (by assumption) (by assumption) (by assumption) (by assumption) (by exact rfl) (by first | exact room (by assumption) (by decide) | omega) (by first | exact room (by assumption) (by decide) | omega) (by first | assumption | exact tup49 (T := []) | exact tup50 (T := []) | exact tup_int (by assumption)) (by ktr_rel) (by first | assumption | exact tup49 (T := []) | exact tup50 (T := []) | exact tup_int (by assumption)) (by ktr_rel) (by assumption) (by assumption) ?_); (intro a'q tl'q h'q tk'q F'q N'q A'q R'q); (try k_sweep))
  k_with "call ref" => (k_here; (fail_if_success fail_if_success (with_reducible show wpAny _ _ (call (Value.ref 85) _) _ _ _)); k_dflt (refine' call_rdiv (by assumption) (by assumption) (by assumption) (by assumption) (by assumption) (by exact rfl) (by first | exact room (by assumption) (by decide) | omega) (by first | exact room (by assumption) (by decide) | omega) (by first | assumption | exact tup49 (T := []) | exact tup50 (T := []) | exact tup_int (by assumption)) (by ktr_rel) (by first | assumption | exact tup49 (T := []) | exact tup50 (T := []) | exact tup_int (by assumption)) (by ktr_rel) (by assumption) (by assumption) (by assumption) ?_); (intro a'q tl'q h'q tk'q F'q N'q A'q R'q); (try k_sweep))
  k_with "call ref" => (k_here; (fail_if_success fail_if_success (with_reducible show wpAny _ _ (call (Value.ref 113) _) _ _ _)); k_dflt (refine' call_let (by assumption) (by assumption) (by assumption) (by assumption) (by assumption) (by exact rfl) (by first | exact room (by assumption) (by decide) | omega) (by first | exact room (by assumption) (by decide) | omega) (by assumption) (by ktr_rel) (by assumption) ?_); (intro h'q tk'q F'q N'q); (try k_sweep))
  k_with "exec For Name Call cons nil" => (k_here; (rename Fr _ _ _ _ => lF'q); (with_unfolding_all refine' For_invVF lF'q (by exact rfl) (by exact rfl) ?_; k_whole))
  k_with "pyIter ref" => refine stopHere ?_
  k_with "eval ListComp" => refine stopHere ?_
  k_with "CompSrc" => refine stopHere ?_
  k_with "lcg_sub" => first
      | exact List.Mem.head _
      | (refine List.Mem.tail _ ?_; lcg_sub)
      | (refine List.mem_append_right _ ?_; lcg_sub)
  k_with "eval Name" => (k_here; (fail_if_success fail_if_success (with_reducible show wpAny _ _ (eval (Expr.Name _ _) (compEnvC _ _ _ _)) _ _ _)); k_dflt (first
      | (refine' lcf_cell (by assumption) (by exact rfl) (by lcg_sub) (by assumption) ?_ rfl rfl)
      | (refine' LCgL.ld_own (by assumption) ?_ (by assumption) (by assumption) ?_ rfl rfl (by decide); lcg_sub)
      | (refine' LCgL.ld_global (by assumption) (by assumption) (by assumption) (by k_is) ?_ rfl rfl rfl (by decide))))
  k_with "subscriptTail Name Slice ref ref" => (k_here; k_dflt (first
      | (refine' lst_upto (by assumption) ?_ (by assumption) (by assumption) (by first | assumption | omega) ?_ (by with_unfolding_all rfl); ktr_rel)
      | (refine' lst_from (by assumption) ?_ (by assumption) (by assumption) (by first | assumption | omega) ?_ (by with_unfolding_all rfl); ktr_rel)); intro D'q o'q h'q F'q N'q R'q l1'q; (try k_sweep))
  k_with "subscriptTail ListComp Slice ref ref" => (k_here; k_dflt (first
      | (refine' lst_from (by assumption) ?_ (by assumption) (by assumption) (by first | assumption | omega) ?_ (by with_unfolding_all rfl); ktr_rel)); intro D'q o'q h'q F'q N'q R'q l1'q; (try k_sweep))
  k_with "call type:list" => (k_here; (fail_if_success fail_if_success (with_reducible show wpAny _ _ (call (Value.type "list") [Value.ref _]) _ _ _)); k_dflt (refine' lst_copy (by assumption) ?_ (by assumption) (by assumption) ?_; ktr_rel); intro D'q o'q h'q F'q N'q R'q l1'q; (try k_sweep))
  k_with "binaryOp Mult ref int" => (k_here; (fail_if_success fail_if_success (with_reducible show wpAny _ _ (binaryOp _ (Value.ref _) (Value.int _ _)) _ _ _)); k_dflt (refine' lst_mul1 (by assumption) ?_ (by assumption) (by assumption) (by first | omega | (simp only [List.length_nil, List.length_cons]; omega)) (by first | omega | (simp only [List.length_nil, List.length_cons]; omega)) ?_; ktr_rel); intro D'q o'q h'q F'q N'q R'q l1'q; (try k_sweep))
  k_with "binaryOp Add ref ref" => (k_here; (fail_if_success fail_if_success (with_reducible show wpAny _ _ (binaryOp _ (Value.ref _) (Value.ref _)) _ _ _)); k_dflt (refine' lst_add (by assumption) ?_ (by assumption) ?_ (by assumption) (by assumption) (by ((try simp only [List.length_take, List.length_drop, List.length_replicate, List.length_cons, List.length_nil]); omega)) ?_; ktr_rel; ktr_rel); intro D'q o'q h'q F'q N'q R'q l1'q; (try k_sweep))
  k_with "newList" => (k_here; k_dflt (first
      | ((fail_if_success fail_if_success (with_reducible show wpAny _ _ (newList []) _ _ _)); refine' newlst0 (w := _) (by assumption) (by assumption) ?_)
      | ((fail_if_success fail_if_success (with_reducible show wpAny _ _ (newList [Value.ref _]) _ _ _)); refine' newlst1 (by first | assumption | exact tup49 (T := []) | exact tup50 (T := [])) ?_ (by assumption) (by assumption) ?_; ktr_rel)
      | ((fail_if_success fail_if_success (with_reducible show wpAny _ _ (newList [Value.ref _, Value.ref _]) _ _ _)); refine' newlst2 (by first | assumption | exact tup49 (T := []) | exact tup50 (T := [])) ?_ (by first | assumption | exact tup49 (T := []) | exact tup50 (T := [])) ?_ (by assumption) (by assumption) ?_; ktr_rel; ktr_rel)); intro D'q o'q h'q F'q N'q R'q l1'q; (try k_sweep))
  k_with "getMethod ref" => (k_here; (fail_if_success fail_if_success (with_reducible show wpAny _ _ (getMethod (Value.ref _) (Str.ofString "append") _) _ _ _)); k_dflt (refine' lst_getAppend (by assumption) ?_ (by assumption) ?_; ktr_rel))
  k_with "call builtin:list.append" => refine stopHere ?_
  k_with "setItem ref int ref" => refine stopHere ?_
  k_with "lcg_off" => first | exact Ext.refl | (refine Ext.cons ?_ (by assumption); lcg_off) | (refine Ext.cons ?_ (ktn_ltOf (by assumption)); lcg_off) | (refine Ext.app ?_ (by assumption); lcg_off) | assumption
  k_with "exec While BoolOp cons nil" => refine stopHere ?_
  k_with "subscriptTail Subscript Constant ref int" => (k_here; k_dflt ((fail_if_success fail_if_success (with_reducible show wpAny _ _ (subscriptTail _ _ (Value.ref _) (Value.int 0 _)) _ _ _)); refine' rat_item0 (by assumption) (by assumption) (by assumption) (by assumption) (by ktr_rel) ?_ ?_; rotate_left; (with_unfolding_all rfl); intro t'q))
  exact True.intro
/-- how many are kept -/
def trimN (qs : List Rat) : Nat → Nat
  | 0 => 0
  | k + 1 => if qs.getD k 0 = 0 then trimN qs k else k + 1
def trimF (qs : List Rat) : List Rat := qs.take (trimN qs qs.length)
theorem trimN_le (qs : List Rat) : ∀ k, trimN qs k ≤ k
  | 0 => Nat.le_refl _
  | k + 1 => by
    rw [trimN]
    split
    · exact Nat.le_succ_of_le (trimN_le qs k)
    · exact Nat.le_refl _
section
variable {w : World} {p : Program} {loose : List Str} {mean : ExcName → Option Value} {mg mb : Str → Option Value}
theorem qtrim_does {a1 : Addr} {qs : List Rat} {news : Led} (r1 : LstAt w news a1 qs) :
    Does w p loose mean mg mb 2 40 165 [.ref a1] news (fun tl r => ∃ l, r = .ref l ∧ LstAt w (tl ++ news) l (trimF qs) ∧ ∀ q ∈ news, q.1 ≠ l) := by
  refine does_of (dep := 1) (uns := 37) [(Str.ofString "row", .ref a1)] (by k_is) (by k_is) (fun s => BindsTo.of_eq rfl) (locs rfl) rfl rfl rfl (by decide) ?_
  unfold Runs
  intro dp un gd outer A₀ base g L s Q E B F X N T hd hu hE hret
  k_fold
  have hl := r1.le
  k_unmd
  k_extra "st"
  rename News _ _ _ _ => N1
  rename Fr _ _ _ _ => F1
  unfold Stop
  refine While_inv (fun n m₁ nw => nw = news ∧ ∃ (t : Tok), m₁ (Str.ofString "row") = some (.ref a1) ∧ m₁ (Str.ofString "size") = some (.int n t) ∧ n ≤ qs.length ∧ trimN qs qs.length = trimN qs n) F1 N1 ⟨rfl, _, rfl, rfl, Nat.le_refl _, rfl⟩ ?_ hE
  rintro n m₁ nw h₁ tk₁ F₁ N₁ hJ58
  refine and2 hJ58 fun hE59 hN60 => ?_
  clear hJ58
  subst hE59
  refine ex1 hN60 fun t hC61 => and4 hC61 fun e1 e2 hn ht => ?_
  clear hC61
  clear hN60
  clear F1 N1
  replace F₁ := fr_known2 e1 e2 F₁
  replace F₁ : Fr g L h₁ _ := F₁
  replace N₁ : News g L h₁ _ := N₁
  k_unmd
  (try k_fold)
  k_extra "st"
  · have hz : (qs.getD ((n : Int) - 1).toNat 0).num = 0 := by assumption
    have hp : 0 < (n : Int) := by assumption
    obtain ⟨k, rfl⟩ : ∃ k, n = k + 1 := by first | exact succ_of (by assumption) | exact ⟨n - 1, by omega⟩
    have e3 : ((((k + 1 : Nat) : Int)) - 1).toNat = k := Int.toNat_sub (k + 1) 1
    have e4 : (((k + 1 : Nat) : Int)) - 1 = (k : Int) := by omega
    rw [e3, Rat.num_eq_zero] at hz
    simp only [e4] at *
    rename News _ _ _ _ => N3
    rename Fr _ _ _ _ => F3
    exact WhileStep.intro F3 N3 (Nat.lt_succ_self k) ⟨rfl, _, rfl, rfl, by omega, by rw [ht, trimN, if_pos hz]⟩
  · have hz : (qs.getD ((n : Int) - 1).toNat 0).num ≠ 0 := by assumption
    have hp : 0 < (n : Int) := by assumption
    obtain ⟨k, rfl⟩ : ∃ k, n = k + 1 := by first | exact succ_of (by assumption) | exact ⟨n - 1, by omega⟩
    have e3 : ((((k + 1 : Nat) : Int)) - 1).toNat = k := Int.toNat_sub (k + 1) 1
    rw [e3, Ne, Rat.num_eq_zero] at hz
    rename News _ _ _ _ => N3
    rename Fr _ _ _ _ => F3
    rename LstAt _ _ _ _ => R3
    have et : trimF qs = qs.take (((k + 1 : Nat) : Int)).toNat := by rw [trimF, ht, trimN, if_neg hz, Int.toNat_natCast]
    rw [← et] at R3
    refine ex1 (fin_lst (news := nw) N3 (by lcg_off) R3 (fun q hq => Nat.ne_of_lt ((by assumption : ∀ p ∈ _ :: nw, p.1 < _) q (.tail _ hq)))) fun tl hCo => and4 hCo fun n1 n2 n3 n4 => ?_
    clear hCo
    exact hret _ tl _ _ _ F3 n1 n2 ⟨_, rfl, n3, n4⟩
  · have hp : ¬ 0 < (n : Int) := by assumption
    obtain rfl : n = 0 := by omega
    rename News _ _ _ _ => N3
    rename Fr _ _ _ _ => F3
    rename LstAt _ _ _ _ => R3
    have et : trimF qs = qs.take (((0 : Nat) : Int)).toNat := by rw [trimF, ht, trimN]; rfl
    rw [← et] at R3
    refine ex1 (fin_lst (news := nw) N3 (by lcg_off) R3 (fun q hq => Nat.ne_of_lt ((by assumption : ∀ p ∈ _ :: nw, p.1 < _) q (.tail _ hq)))) fun tl hCo => and4 hCo fun n1 n2 n3 n4 => ?_
    clear hCo
    exact hret _ tl _ _ _ F3 n1 n2 ⟨_, rfl, n3, n4⟩
theorem call_qtrim {dp un : Nat} {gd : Option (List Code)} {cn : Str} {cs : Scope} {a : Addr} {ccd : Value} {cl : List (Str × Addr)} {outer : List Env} {A₀ : Around} {base h₀ : Heap} {L : Addr} {m : Str → Option Value} {s : Shared} {Q E : Value → Shared → Prop} {news : Led} {a1 : Addr} {qs : List Rat} {T1 : Led}
    (F : Fr h₀ L s.heap m) (N : News h₀ L s.heap news) (B : Below A₀ base outer h₀) (X : (Mine.hd.heap_39 w.params).In h₀) (T : Top p loose mean mg mb h₀) (hk : cs.kind = .function) (hd : dp + 2 < recursionLimit) (hu : un + 40 < cLine) (r1 : LstAt w T1 a1 qs) (s1 : ∀ p ∈ T1, p ∈ news)
    (ret : ∀ a' tl h' tk', Fr h₀ L h' m → News h₀ L h' (tl ++ news) → Abv tl news → LstAt w (tl ++ news) a' (trimF qs) → (∀ q ∈ news, q.1 ≠ a') → Q (.ref a') { s with heap := h', toks := tk' }) :
    wpAny (model PySem.Challenge.rw_sa0095_01.row.prog w) (ktrTop dp un gd cn cs L a ccd cl outer) (call (.ref 165) [.ref a1]) Q E s :=
  does_use F N (qtrim_does (r1.mono s1)) B X T hk hd hu fun r tl h' tk' F' N' A' ⟨a', e, h, hf⟩ => by
    subst e
    exact ret a' tl h' tk' F' N' A' h hf
end
end
section
theorem rulesM18a : True := by
  k_with_none
  k_with "st" => (repeat' (first | (k_unfold; (try dsimp only)) | ((try dsimp only); walk1)))
  k_with "ktr_rel" => first | exact fun _ h => h | exact List.forall_mem_nil _ | exact fun _ h => List.mem_append_right _ h | exact fun _ h => List.mem_cons_of_mem _ h | (refine sub_app ?_; ktr_rel; done) | (refine sub_cons ?_; ktr_rel; done) | (intro p hp; simp only [List.mem_append, List.mem_cons, hp, true_or, or_true])
  k_with "exec While Compare cons nil" => refine stopHere ?_
  k_with "subscriptTail Name Constant ref int" => (k_here; k_dflt (first
      | ((fail_if_success fail_if_success (with_reducible show wpAny _ _ (subscriptTail _ _ (Value.ref _) (Value.int 0 _)) _ _ _)); refine' rat_item0 (by assumption) (by assumption) (by assumption) (by assumption) (by ktr_rel) ?_ ?_; rotate_left; (with_unfolding_all rfl); intro t'q)
      | ((fail_if_success fail_if_success (with_reducible show wpAny _ _ (subscriptTail _ _ (Value.ref _) (Value.int 1 _)) _ _ _)); refine' rat_item1 (by assumption) (by assumption) (by assumption) (by assumption) (by ktr_rel) ?_ ?_; rotate_left; (with_unfolding_all rfl); intro t'q)
      | ((fail_if_success fail_if_success (with_reducible show wpAny _ _ (subscriptTail _ _ (Value.ref _) (Value.int _ _)) _ _ _)); refine' lst_item (by assumption) (by assumption) (by ktr_rel) (by first | exact Int.natCast_nonneg _ | omega) (by first | assumption | omega) ?_ ?_; rotate_left; (with_unfolding_all rfl); intro a'q R'q)))
  k_with "subscriptTail Name Name ref int" => (k_here; k_dflt ((fail_if_success fail_if_success (with_reducible show wpAny _ _ (subscriptTail _ _ (Value.ref _) (Value.int _ _)) _ _ _)); refine' lst_item (by assumption) (by assumption) (by ktr_rel) (by first | exact Int.natCast_nonneg _ | omega) (by first | assumption | omega) ?_ ?_; rotate_left; (with_unfolding_all rfl); intro a'q R'q))
  k_with "subscriptTail Name BinOp ref int" => (k_here; k_dflt ((fail_if_success fail_if_success (with_reducible show wpAny _ _ (subscriptTail _ _ (Value.ref _) (Value.int _ _)) _ _ _)); refine' lst_item (by assumption) (by assumption) (by ktr_rel) (by first | exact Int.natCast_nonneg _ | omega) (by first | assumption | omega) ?_ ?_; rotate_left; (with_unfolding_all rfl); intro a'q R'q))
  k_with "call builtin:len" => (k_here; (fail_if_success fail_if_success (with_reducible show wpAny _ _ (call (Value.builtin "len") [Value.ref _]) _ _ _)); k_dflt (refine' lst_len (by assumption) (by assumption) (by ktr_rel) ?_))
  k_with "compareOp NotEq ref ref" => (k_here; (fail_if_success fail_if_success (with_reducible show wpAny _ _ (compareOp CmpOp.NotEq (Value.ref _) (Value.ref _)) _ _ _)); k_dflt (first
      | (refine' tup_ne (by assumption) (by first | assumption | exact tup49 (T := [])) (by assumption) (by assumption) (by assumption) (by ktr_rel) (by ktr_rel) (by first | exact room (by assumption) (by decide) | ((try dsimp only); first | exact room (by assumption) (by decide) | omega)) ?_)
      | (refine' lst_ne (by assumption) (by assumption) (by assumption) (by assumption) (by assumption) (by ktr_rel) (by ktr_rel) (by first | exact room (by assumption) (by decide) | ((try dsimp only); first | exact room (by assumption) (by decide) | omega)) ?_)))
  k_with "compareOp Eq ref ref" => (k_here; (fail_if_success fail_if_success (with_reducible show wpAny _ _ (compareOp CmpOp.Eq (Value.ref _) (Value.ref _)) _ _ _)); k_dflt (first
      | (refine' tup_eq (by assumption) (by first | assumption | exact tup49 (T := [])) (by assumption) (by assumption) (by assumption) (by ktr_rel) (by ktr_rel) (by first | exact room (by assumption) (by decide) | ((try dsimp only); first | exact room (by assumption) (by decide) | omega)) ?_)
      | (refine' lst_eq (by assumption) (by assumption) (by assumption) (by assumption) (by assumption) (by ktr_rel) (by ktr_rel) (by first | exact room (by assumption) (by decide) | ((try dsimp only); first | exact room (by assumption) (by decide) | omega)) ?_)))
  k_with "call ref" => (k_here; (fail_if_success fail_if_success (with_reducible show wpAny _ _ (call (Value.ref 64) _) _ _ _)); k_dflt (refine' call_radd (by assumption) (by assumption) (by assumption) (by assumption) (by assumption) (by exact rfl) (by first | exact room (by assumption) (by decide) | omega) (by first | exact room (by assumption) (by decide) | omega) (by first | assumption | exact tup49 (T := []) | exact tup50 (T := []) | exact tup_int (by assumption)) (by ktr_rel) (by first | assumption | exact tup49 (T := []) | exact tup50 (T := []) | exact tup_int (by assumption)) (by ktr_rel) (by assumption) (by assumption) ?_); (intro a'q tl'q h'q tk'q F'q N'q A'q R'q); (try k_sweep))
  k_with "call ref" => (k_here; (fail_if_success fail_if_success (with_reducible show wpAny _ _ (call (Value.ref 71) _) _ _ _)); k_dflt (refine' call_rsub (by assumption) (by assumption) (by assumption) (by assumption) (by assumption) (by exact rfl) (by first | exact room (by assumption) (by decide) | omega) (by first | exact room (by assumption) (by decide) | omega) (by first | assumption | exact tup49 (T := []) | exact tup50 (T := []) | exact tup_int (by assumption)) (by ktr_rel) (by first | assumption | exact tup49 (T := []) | exact tup50 (T := []) | exact tup_int (by assumption)) (by ktr_rel) (by assumption) (by assumption) ?_); (intro a'q tl'q h'q tk'q F'q N'q A'q R'q); (try k_sweep))
  k_with "call ref" => (k_here; (fail_if_success fail_if_success (with_reducible show wpAny _ _ (call (Value.ref 78) _) _ _ _)); k_dflt (refine' call_rmul (by assumption) (by assumption) (by assumption) (by assumption) (by assumption) (by exact rfl) (by first | exact room (by assumption) (by decide) | omega) (by first | exact room (by assumption) (by decide) | omega) (by first | assumption | exact tup49 (T := []) | exact tup50 (T := []) | exact tup_int (by assumption)) (by ktr_rel) (by first | assumption | exact tup49 (T := []) | exact tup50 (T := []) | exact tup_int (by assumption)) (by ktr_rel) (by assumption) (by assumption) ?_); (intro a'q tl'q h'q tk'q F'q N'q A'q R'q); (try k_sweep))
  k_with "call ref" => (k_here; (fail_if_success fail_if_success (with_reducible show wpAny _ _ (call (Value.ref 85) _) _ _ _)); k_dflt (refine' call_rdiv (by assumption) (by assumption) (by assumption) (by assumption) (by assumption) (by exact rfl) (by first | exact room (by assumption) (by decide) | omega) (by first | exact room (by assumption) (by decide) | omega) (by first | assumption | exact tup49 (T := []) | exact tup50 (T := []) | exact tup_int (by assumption)) (by ktr_rel) (by first | assumption | exact tup49 (T := []) | exact tup50 (T := []) | exact tup_int (by assumption)) (by ktr_rel) (by assumption) (by assumption) (by assumption) ?_); (intro a'q tl'q h'q tk'q F'q N'q A'q R'q); (try k_sweep))
  k_with "call ref" => (k_here; (fail_if_success fail_if_success (with_reducible show wpAny _ _ (call (Value.ref 113) _) _ _ _)); k_dflt (refine' call_let (by assumption) (by assumption) (by assumption) (by assumption) (by assumption) (by exact rfl) (by first | exact room (by assumption) (by decide) | omega) (by first | exact room (by assumption) (by decide) | omega) (by assumption) (by ktr_rel) (by assumption) ?_); (intro h'q tk'q F'q N'q); (try k_sweep))
  k_with "exec For Name Call cons nil" => (k_here; (rename Fr _ _ _ _ => lF'q); (with_unfolding_all refine' For_invVF lF'q (by exact rfl) (by exact rfl) ?_; k_whole))
  k_with "pyIter ref" => refine stopHere ?_
  k_with "eval ListComp" => refine stopHere ?_
  k_with "CompSrc" => refine stopHere ?_
  k_with "lcg_sub" => first
      | exact List.Mem.head _
      | (refine List.Mem.tail _ ?_; lcg_sub)
      | (refine List.mem_append_right _ ?_; lcg_sub)
  k_with "eval Name" => (k_here; (fail_if_success fail_if_success (with_reducible show wpAny _ _ (eval (Expr.Name _ _) (compEnvC _ _ _ _)) _ _ _)); k_dflt (first
      | (refine' lcf_cell (by assumption) (by exact rfl) (by lcg_sub) (by assumption) ?_ rfl rfl)
      | (refine' LCgL.ld_own (by assumption) ?_ (by assumption) (by assumption) ?_ rfl rfl (by decide); lcg_sub)
      | (refine' LCgL.ld_global (by assumption) (by assumption) (by assumption) (by k_is) ?_ rfl rfl rfl (by decide))))
  k_with "subscriptTail Name Slice ref ref" => (k_here; k_dflt (first
      | (refine' lst_upto (by assumption) ?_ (by assumption) (by assumption) (by first | assumption | omega) ?_ (by with_unfolding_all rfl); ktr_rel)
      | (refine' lst_from (by assumption) ?_ (by assumption) (by assumption) (by first | assumption | omega) ?_ (by with_unfolding_all rfl); ktr_rel)); intro D'q o'q h'q F'q N'q R'q l1'q; (try k_sweep))
  k_with "subscriptTail ListComp Slice ref ref" => (k_here; k_dflt (first
      | (refine' lst_from (by assumption) ?_ (by assumption) (by assumption) (by first | assumption | omega) ?_ (by with_unfolding_all rfl); ktr_rel)); intro D'q o'q h'q F'q N'q R'q l1'q; (try k_sweep))
  k_with "call type:list" => (k_here; (fail_if_success fail_if_success (with_reducible show wpAny _ _ (call (Value.type "list") [Value.ref _]) _ _ _)); k_dflt (refine' lst_copy (by assumption) ?_ (by assumption) (by assumption) ?_; ktr_rel); intro D'q o'q h'q F'q N'q R'q l1'q; (try k_sweep))
  k_with "binaryOp Mult ref int" => (k_here; (fail_if_success fail_if_success (with_reducible show wpAny _ _ (binaryOp _ (Value.ref _) (Value.int _ _)) _ _ _)); k_dflt (refine' lst_mul1 (by assumption) ?_ (by assumption) (by assumption) (by first | omega | (simp only [List.length_nil, List.length_cons]; omega)) (by first | omega | (simp only [List.length_nil, List.length_cons]; omega)) ?_; ktr_rel); intro D'q o'q h'q F'q N'q R'q l1'q; (try k_sweep))
  k_with "binaryOp Add ref ref" => (k_here; (fail_if_success fail_if_success (with_reducible show wpAny _ _ (binaryOp _ (Value.ref _) (Value.ref _)) _ _ _)); k_dflt (refine' lst_add (by assumption) ?_ (by assumption) ?_ (by assumption) (by assumption) (by ((try simp only [List.length_take, List.length_drop, List.length_replicate, List.length_cons, List.length_nil]); omega)) ?_; ktr_rel; ktr_rel); intro D'q o'q h'q F'q N'q R'q l1'q; (try k_sweep))
  k_with "newList" => (k_here; k_dflt (first
      | ((fail_if_success fail_if_success (with_reducible show wpAny _ _ (newList []) _ _ _)); refine' newlst0 (w := _) (by assumption) (by assumption) ?_)
      | ((fail_if_success fail_if_success (with_reducible show wpAny _ _ (newList [Value.ref _]) _ _ _)); refine' newlst1 (by first | assumption | exact tup49 (T := []) | exact tup50 (T := [])) ?_ (by assumption) (by assumption) ?_; ktr_rel)
      | ((fail_if_success fail_if_success (with_reducible show wpAny _ _ (newList [Value.ref _, Value.ref _]) _ _ _)); refine' newlst2 (by first | assumption | exact tup49 (T := []) | exact tup50 (T := [])) ?_ (by first | assumption | exact tup49 (T := []) | exact tup50 (T := [])) ?_ (by assumption) (by assumption) ?_; ktr_rel; ktr_rel)); intro D'q o'q h'q F'q N'q R'q l1'q; (try k_sweep))
  k_with "getMethod ref" => (k_here; (fail_if_success fail_if_success (with_reducible show wpAny _ _ (getMethod (Value.ref _) (Str.ofString "append") _) _ _ _)); k_dflt (refine' lst_getAppend (by assumption) ?_ (by assumption) ?_; ktr_rel))
  k_with "call builtin:list.append" => refine stopHere ?_
  k_with "setItem ref int ref" => refine stopHere ?_
  k_with "lcg_off" => first | exact Ext.refl | (refine Ext.cons ?_ (by assumption); lcg_off) | (refine Ext.cons ?_ (ktn_ltOf (by assumption)); lcg_off) | (refine Ext.app ?_ (by assumption); lcg_off) | assumption
  k_with "exec While BoolOp cons nil" => refine stopHere ?_
  k_with "subscriptTail Subscript Constant ref int" => (k_here; k_dflt ((fail_if_success fail_if_success (with_reducible show wpAny _ _ (subscriptTail _ _ (Value.ref _) (Value.int 0 _)) _ _ _)); refine' rat_item0 (by assumption) (by assumption) (by assumption) (by assumption) (by ktr_rel) ?_ ?_; rotate_left; (with_unfolding_all rfl); intro t'q))
  k_with "call ref" => (k_here; (fail_if_success fail_if_success (with_reducible show wpAny _ _ (call (Value.ref 165) _) _ _ _)); k_dflt (refine' call_qtrim (by assumption) (by assumption) (by assumption) (by assumption) (by assumption) (by exact rfl) (by first | exact room (by assumption) (by decide) | omega) (by first | exact room (by assumption) (by decide) | omega) (by assumption) (by ktr_rel) ?_); (intro a'q tl'q h'q tk'q F'q N'q A'q R'q Fh'q); (try k_sweep))
  exact True.intro
def addL (qs rs : List Rat) : List Rat := (List.range (max qs.length rs.length)).map fun i => qs.getD i 0 + rs.getD i 0
theorem val_eq {w : World} {T : Led} {a : Addr} {q r : Rat} (h : TupAt w T a q) (e : q = r) : TupAt w T a r := e ▸ h
theorem getD_out {qs : List Rat} {i : Nat} (h : qs.length ≤ i) : qs.getD i 0 = 0 := by simp [List.getD, List.getElem?_eq_none h]
theorem addL_length (qs rs : List Rat) : (addL qs rs).length = max qs.length rs.length := by simp [addL]
def addF (qs rs : List Rat) : List Rat := trimF (addL qs rs)
section
variable {w : World} {p : Program} {loose : List Str} {mean : ExcName → Option Value} {mg mb : Str → Option Value}
theorem qadd_does {a1 b1 : Addr} {qs rs : List Rat} {news : Led} (r1 : LstAt w news a1 qs) (r2 : LstAt w news b1 rs) (ok : ∀ i, i < max qs.length rs.length → Tiny (qs.getD i 0) ∧ Tiny (rs.getD i 0)) :
    Does w p loose mean mg mb 4 120 170 [.ref a1, .ref b1] news (fun tl r => ∃ l, r = .ref l ∧ LstAt w (tl ++ news) l (addF qs rs) ∧ ∀ q ∈ news, q.1 ≠ l) := by
  refine doesC_of (dep := 3) (uns := 117) [(Str.ofString "a", .ref a1), (Str.ofString "b", .ref b1)] (by k_is) (by k_is) (fun s => BindsTo.of_eq rfl) rfl (by decide +kernel) rfl rfl rfl ?_
  unfold RunsC
  intro dp un gd outer A₀ base g L s cells Q E B F X Y N l1 T hd hu hE hret
  k_cells Y
  k_unmd
  k_fold
  have hl := r1.le
  have hl2 := r2.le
  simp only [List.cons_append, List.nil_append] at N
  k_unmd
  k_extra "st"
  unfold Stop
  refine LCg.ListComp_U (F₀ := by assumption) (by with_unfolding_all rfl) (by decide) (by rfl) (by decide) (by rfl) ?_
  (try k_fold)
  k_extra "st"
  rename IsRange _ _ _ _ _ _ _ _ => IR
  rename News _ _ _ _ => N1
  rename Fr _ _ _ _ => F1
  unfold Stop
  obtain ⟨nb, hb, N2⟩ := led_of N1
  refine LCg.CompSrc.range (n := max qs.length rs.length) rfl F1 N2 IR (small_one (by omega) (by omega) (by split <;> omega) (by split <;> omega)) (by rw [rangeSize_nat]; first | exact if_max _ _ | exact if_min' _ _ | (split <;> omega)) (by rw [sizeLine_eq]; omega) ?_
  intro g'
  have t0 := tiny0
  refine comp_rest (n := max qs.length rs.length) (fun i ys nw => ∃ (tl : Led) (as : List Addr), nw = tl ++ nb ∧ Abv tl nb ∧ ys = as.map Value.ref ∧ as.length = i ∧ ∀ (j : Nat) (a : Addr), as[j]? = some a → TupAt w tl a (qs.getD j 0 + rs.getD j 0))
    ?_ ?_ _ 0 [] _ (by omega) ⟨[], [], rfl, Abv.nil, rfl, rfl, fun j a h => by simp at h⟩
  · rintro i ys nw hi hJ62 v I oI C oC D m₂ h tk E' hJ63 hC hx F₂ N₂ off ne R hR
    refine hideQ fun Z0 hZ0 => ?_
    refine ex2 hJ62 fun tl as hC66 => and5 hC66 fun hE64 ha hE65 hlen hit => ?_
    clear hJ62
    clear hC66
    subst hE64
    subst hE65
    refine ex1 hJ63 fun t hE67 => ?_
    clear hJ63
    subst hE67
    subst hb
    clear F1 N1 N2 IR ne
    refine and2 (ok i hi) fun ok1 ok2 => ?_
    have x1 : (i : Int).toNat = i := Int.toNat_natCast i
    rw [← x1] at ok1 ok2
    rw [Int.zero_add] at hx
    clear x1
    k_unmd
    (try k_fold)
    k_extra "st"
    all_goals
      rename TupAt _ _ _ (_ + _ : Rat) => R3
      rename Fr _ _ _ _ => F3
      rename News _ _ _ _ => N3
      rename Abv _ ((_, _) :: _) => A3
      refine and2 (comp_end1 N3 A3 off) fun n1 n2 => ?_
      refine hZ0 _ _ ?_
      refine LCg.CompEnd.intro F3 n1 _ (fun _ h => h) n2 trivial (hR _ _ ⟨_ ++ tl, as ++ [_], (List.append_assoc _ _ _).symm, (abv_drop3 A3).app ha, by rw [List.map_append]; rfl, by rw [List.length_append, hlen]; rfl, fun j a hj => ?_⟩)
      refine items_snoc (P := fun j a => TupAt w _ a (qs.getD j 0 + rs.getD j 0)) (fun j a h => (hit j a h).mono fun _ h => List.mem_append_right _ h) (by rw [hlen]; refine TupAt.mono (val_eq R3 ?_) fun _ h => List.mem_append_left _ h; first | rfl | (rw [getD_out (qs := qs) (i := i) (by omega), getD_out (qs := rs) (i := i) (by omega)]) | (rw [getD_out (qs := qs) (i := i) (by omega), Int.toNat_natCast]) | (rw [getD_out (qs := rs) (i := i) (by omega), Int.toNat_natCast])) j a hj
  · rintro ys nw hJ68 D h tk F₂ N₂ off
    refine ex2 hJ68 fun tl as hC71 => and5 hC71 fun hE69 ha hE70 hlen hit => ?_
    clear hJ68
    clear hC71
    subst hE69
    subst hE70
    subst hb
    clear F1 N1 N2 IR
    refine ex1 (comp_fin (cells := [_, _]) N₂ off ha (cells_abv2 l1) hlen (by omega) hit) fun T' hCo => and4 hCo fun t1 t2 t3 t4 => ?_
    clear hCo
    have e0 : (List.range (max qs.length rs.length)).map (fun i => qs.getD i 0 + rs.getD i 0) = addL qs rs := rfl
    rw [e0] at t3
    replace F₂ : Fr g L h _ := F₂
    k_unmd
    k_extra "st"
    rename LstAt _ _ _ (trimF _) => R5
    rename News _ _ _ _ => N5
    rename Fr _ _ _ _ => F5
    rename (∀ q ∈ (_ : Led), q.1 ≠ (_ : Addr)) => Fh
    refine ex1 (fin_lst N5 (Ext.app (Ext.of_abv t2) (by assumption)) R5 (fun q hq => Fh q (List.mem_append_right _ hq))) fun tl2 hCo => and4 hCo fun n1 n2 n3 n4 => ?_
    clear hCo
    exact hret _ tl2 _ _ _ F5 n1 n2 ⟨_, rfl, n3, n4⟩
end
end
section
theorem rulesM19a : True := by
  k_with_none
  k_with "st" => (repeat' (first | (k_unfold; (try dsimp only)) | ((try dsimp only); walk1)))
  k_with "ktr_rel" => first | exact fun _ h => h | exact List.forall_mem_nil _ | exact fun _ h => List.mem_append_right _ h | exact fun _ h => List.mem_cons_of_mem _ h | (refine sub_app ?_; ktr_rel; done) | (refine sub_cons ?_; ktr_rel; done) | (intro p hp; simp only [List.mem_append, List.mem_cons, hp, true_or, or_true])
  k_with "exec While Compare cons nil" => refine stopHere ?_
  k_with "subscriptTail Name Constant ref int" => (k_here; k_dflt (first
      | ((fail_if_success fail_if_success (with_reducible show wpAny _ _ (subscriptTail _ _ (Value.ref _) (Value.int 0 _)) _ _ _)); refine' rat_item0 (by assumption) (by assumption) (by assumption) (by assumption) (by ktr_rel) ?_ ?_; rotate_left; (with_unfolding_all rfl); intro t'q)
      | ((fail_if_success fail_if_success (with_reducible show wpAny _ _ (subscriptTail _ _ (Value.ref _) (Value.int 1 _)) _ _ _)); refine' rat_item1 (by assumption) (by assumption) (by assumption) (by assumption) (by ktr_rel) ?_ ?_; rotate_left; (with_unfolding_all rfl); intro t'q)
      | ((fail_if_success fail_if_success (with_reducible show wpAny _ _ (subscriptTail _ _ (Value.ref _) (Value.int _ _)) _ _ _)); refine' lst_item (by assumption) (by assumption) (by ktr_rel) (by first | exact Int.natCast_nonneg _ | omega) (by first | assumption | omega) ?_ ?_; rotate_left; (with_unfolding_all rfl); intro a'q R'q)))
  k_with "subscriptTail Name Name ref int" => (k_here; k_dflt ((fail_if_success fail_if_success (with_reducible show wpAny _ _ (subscriptTail _ _ (Value.ref _) (Value.int _ _)) _ _ _)); refine' lst_item (by assumption) (by assumption) (by ktr_rel) (by first | exact Int.natCast_nonneg _ | omega) (by first | assumption | omega) ?_ ?_; rotate_left; (with_unfolding_all rfl); intro a'q R'q))
  k_with "subscriptTail Name BinOp ref int" => (k_here; k_dflt ((fail_if_success fail_if_success (with_reducible show wpAny _ _ (subscriptTail _ _ (Value.ref _) (Value.int _ _)) _ _ _)); refine' lst_item (by assumption) (by assumption) (by ktr_rel) (by first | exact Int.natCast_nonneg _ | omega) (by first | assumption | omega) ?_ ?_; rotate_left; (with_unfolding_all rfl); intro a'q R'q))
  k_with "call builtin:len" => (k_here; (fail_if_success fail_if_success (with_reducible show wpAny _ _ (call (Value.builtin "len") [Value.ref _]) _ _ _)); k_dflt (refine' lst_len (by assumption) (by assumption) (by ktr_rel) ?_))
  k_with "compareOp NotEq ref ref" => (k_here; (fail_if_success fail_if_success (with_reducible show wpAny _ _ (compareOp CmpOp.NotEq (Value.ref _) (Value.ref _)) _ _ _)); k_dflt (first
      | (refine' tup_ne (by assumption) (by first | assumption | exact tup49 (T := [])) (by assumption) (by assumption) (by assumption) (by ktr_rel) (by ktr_rel) (by first | exact room (by assumption) (by decide) | ((try dsimp only); first | exact room (by assumption) (by decide) | omega)) ?_)
      | (refine' lst_ne (by assumption) (by assumption) (by assumption) (by assumption) (by assumption) (by ktr_rel) (by ktr_rel) (by first | exact room (by assumption) (by decide) | ((try dsimp only); first | exact room (by assumption) (by decide) | omega)) ?_)))
  k_with "compareOp Eq ref ref" => (k_here; (fail_if_success fail_if_success (with_reducible show wpAny _ _ (compareOp CmpOp.Eq (Value.ref _) (Value.ref _)) _ _ _)); k_dflt (first
      | (refine' tup_eq (by assumption) (by first | assumption | exact tup49 (T := [])) (by assumption) (by assumption) (by assumption) (by ktr_rel) (by ktr_rel) (by first | exact room (by assumption) (by decide) | ((try dsimp only); first | exact room (by assumption) (by decide) | omega)) ?_)
      | (refine' lst_eq (by assumption) (by assumption) (by assumption) (by assumption) (by assumption) (by ktr_rel) (by ktr_rel) (by first | exact room (by assumption) (by decide) | ((try dsimp only); first | exact room (by assumption) (by decide) | omega)) ?_)))
  k_with "call ref" => (k_here; (fail_if_success fail_if_success (with_reducible show wpAny _ _ (call (Value.ref 64) _) _ _ _)); k_dflt (refine' call_radd (by assumption) (by assumption) (by assumption) (by assumption) (by assumption) (by exact rfl) (by first | exact room (by assumption) (by decide) | omega) (by first | exact room (by assumption) (by decide) | omega) (by first | assumption | exact tup49 (T := []) | exact tup50 (T := []) | exact tup_int (by assumption)) (by ktr_rel) (by first | assumption | exact tup49 (T := []) | exact tup50 (T := []) | exact tup_int (by assumption)) (by ktr_rel) (by assumption) (by assumption) ?_); (intro a'q tl'q h'q tk'q F'q N'q A'q R'q); (try k_sweep))
  k_with "call ref" => (k_here; (fail_if_success fail_if_success (with_reducible show wpAny _ _ (call (Value.ref 71) _) _ _ _)); k_dflt (refine' call_rsub (by assumption) (by assumption) (by assumption) (by assumption) (by assumption) (by exact rfl) (by first | exact room (by assumption) (by decide) | omega) (by first | exact room (by assumption) (by decide) | omega) (by first | assumption | exact tup49 (T := []) | exact tup50 (T := []) | exact tup_int (by assumption)) (by ktr_rel) (by first | assumption | exact tup49 (T := []) | exact tup50 (T := []) | exact tup_int (by assumption)) (by ktr_rel) (by assumption) (by assumption) ?_); (intro a'q tl'q h'q tk'q F'q N'q A'q R'q); (try k_sweep))
  k_with "call ref" => (k_here; (fail_if_success fail_if_success (with_reducible show wpAny _ _ (call (Value.ref 78) _) _ _ _)); k_dflt (refine' call_rmul (by assumption) (by assumption) (by assumption) (by assumption) (by assumption) (by exact rfl) (by first | exact room (by assumption) (by decide) | omega) (by first | exact room (by assumption) (by decide) | omega) (by first | assumption | exact tup49 (T := []) | exact tup50 (T := []) | exact tup_int (by assumption)) (by ktr_rel) (by first | assumption | exact tup49 (T := []) | exact tup50 (T := []) | exact tup_int (by assumption)) (by ktr_rel) (by assumption) (by assumption) ?_); (intro a'q tl'q h'q tk'q F'q N'q A'q R'q); (try k_sweep))
  k_with "call ref" => (k_here; (fail_if_success fail_if_success (with_reducible show wpAny _ _ (call (Value.ref 85) _) _ _ _)); k_dflt (refine' call_rdiv (by assumption) (by assumption) (by assumption) (by assumption) (by assumption) (by exact rfl) (by first | exact room (by assumption) (by decide) | omega) (by first | exact room (by assumption) (by decide) | omega) (by first | assumption | exact tup49 (T := []) | exact tup50 (T := []) | exact tup_int (by assumption)) (by ktr_rel) (by first | assumption | exact tup49 (T := []) | exact tup50 (T := []) | exact tup_int (by assumption)) (by ktr_rel) (by assumption) (by assumption) (by assumption) ?_); (intro a'q tl'q h'q tk'q F'q N'q A'q R'q); (try k_sweep))
  k_with "call ref" => (k_here; (fail_if_success fail_if_success (with_reducible show wpAny _ _ (call (Value.ref 113) _) _ _ _)); k_dflt (refine' call_let (by assumption) (by assumption) (by assumption) (by assumption) (by assumption) (by exact rfl) (by first | exact room (by assumption) (by decide) | omega) (by first | exact room (by assumption) (by decide) | omega) (by assumption) (by ktr_rel) (by assumption) ?_); (intro h'q tk'q F'q N'q); (try k_sweep))
  k_with "exec For Name Call cons nil" => (k_here; (rename Fr _ _ _ _ => lF'q); (with_unfolding_all refine' For_invVF lF'q (by exact rfl) (by exact rfl) ?_; k_whole))
  k_with "pyIter ref" => refine stopHere ?_
  k_with "eval ListComp" => refine stopHere ?_
  k_with "CompSrc" => refine stopHere ?_
  k_with "lcg_sub" => first
      | exact List.Mem.head _
      | (refine List.Mem.tail _ ?_; lcg_sub)
      | (refine List.mem_append_right _ ?_; lcg_sub)
  k_with "eval Name" => (k_here; (fail_if_success fail_if_success (with_reducible show wpAny _ _ (eval (Expr.Name _ _) (compEnvC _ _ _ _)) _ _ _)); k_dflt (first
      | (refine' lcf_cell (by assumption) (by exact rfl) (by lcg_sub) (by assumption) ?_ rfl rfl)
      | (refine' LCgL.ld_own (by assumption) ?_ (by assumption) (by assumption) ?_ rfl rfl (by decide); lcg_sub)
      | (refine' LCgL.ld_global (by assumption) (by assumption) (by assumption) (by k_is) ?_ rfl rfl rfl (by decide))))
  k_with "subscriptTail Name Slice ref ref" => (k_here; k_dflt (first
      | (refine' lst_upto (by assumption) ?_ (by assumption) (by assumption) (by first | assumption | omega) ?_ (by with_unfolding_all rfl); ktr_rel)
      | (refine' lst_from (by assumption) ?_ (by assumption) (by assumption) (by first | assumption | omega) ?_ (by with_unfolding_all rfl); ktr_rel)); intro D'q o'q h'q F'q N'q R'q l1'q; (try k_sweep))
  k_with "subscriptTail ListComp Slice ref ref" => (k_here; k_dflt (first
      | (refine' lst_from (by assumption) ?_ (by assumption) (by assumption) (by first | assumption | omega) ?_ (by with_unfolding_all rfl); ktr_rel)); intro D'q o'q h'q F'q N'q R'q l1'q; (try k_sweep))
  k_with "call type:list" => (k_here; (fail_if_success fail_if_success (with_reducible show wpAny _ _ (call (Value.type "list") [Value.ref _]) _ _ _)); k_dflt (refine' lst_copy (by assumption) ?_ (by assumption) (by assumption) ?_; ktr_rel); intro D'q o'q h'q F'q N'q R'q l1'q; (try k_sweep))
  k_with "binaryOp Mult ref int" => (k_here; (fail_if_success fail_if_success (with_reducible show wpAny _ _ (binaryOp _ (Value.ref _) (Value.int _ _)) _ _ _)); k_dflt (refine' lst_mul1 (by assumption) ?_ (by assumption) (by assumption) (by first | omega | (simp only [List.length_nil, List.length_cons]; omega)) (by first | omega | (simp only [List.length_nil, List.length_cons]; omega)) ?_; ktr_rel); intro D'q o'q h'q F'q N'q R'q l1'q; (try k_sweep))
  k_with "binaryOp Add ref ref" => (k_here; (fail_if_success fail_if_success (with_reducible show wpAny _ _ (binaryOp _ (Value.ref _) (Value.ref _)) _ _ _)); k_dflt (refine' lst_add (by assumption) ?_ (by assumption) ?_ (by assumption) (by assumption) (by ((try simp only [List.length_take, List.length_drop, List.length_replicate, List.length_cons, List.length_nil]); omega)) ?_; ktr_rel; ktr_rel); intro D'q o'q h'q F'q N'q R'q l1'q; (try k_sweep))
  k_with "newList" => (k_here; k_dflt (first
      | ((fail_if_success fail_if_success (with_reducible show wpAny _ _ (newList []) _ _ _)); refine' newlst0 (w := _) (by assumption) (by assumption) ?_)
      | ((fail_if_success fail_if_success (with_reducible show wpAny _ _ (newList [Value.ref _]) _ _ _)); refine' newlst1 (by first | assumption | exact tup49 (T := []) | exact tup50 (T := [])) ?_ (by assumption) (by assumption) ?_; ktr_rel)
      | ((fail_if_success fail_if_success (with_reducible show wpAny _ _ (newList [Value.ref _, Value.ref _]) _ _ _)); refine' newlst2 (by first | assumption | exact tup49 (T := []) | exact tup50 (T := [])) ?_ (by first | assumption | exact tup49 (T := []) | exact tup50 (T := [])) ?_ (by assumption) (by assumption) ?_; ktr_rel; ktr_rel)); intro D'q o'q h'q F'q N'q R'q l1'q; (try k_sweep))
  k_with "getMethod ref" => (k_here; (fail_if_success fail_if_success (with_reducible show wpAny _ _ (getMethod (Value.ref _) (Str.ofString "append") _) _ _ _)); k_dflt (refine' lst_getAppend (by assumption) ?_ (by assumption) ?_; ktr_rel))
  k_with "call builtin:list.append" => refine stopHere ?_
  k_with "setItem ref int ref" => refine stopHere ?_
  k_with "lcg_off" => first | exact Ext.refl | (refine Ext.cons ?_ (by assumption); lcg_off) | (refine Ext.cons ?_ (ktn_ltOf (by assumption)); lcg_off) | (refine Ext.app ?_ (by assumption); lcg_off) | assumption
  k_with "exec While BoolOp cons nil" => refine stopHere ?_
  k_with "subscriptTail Subscript Constant ref int" => (k_here; k_dflt ((fail_if_success fail_if_success (with_reducible show wpAny _ _ (subscriptTail _ _ (Value.ref _) (Value.int 0 _)) _ _ _)); refine' rat_item0 (by assumption) (by assumption) (by assumption) (by assumption) (by ktr_rel) ?_ ?_; rotate_left; (with_unfolding_all rfl); intro t'q))
  k_with "call ref" => (k_here; (fail_if_success fail_if_success (with_reducible show wpAny _ _ (call (Value.ref 165) _) _ _ _)); k_dflt (refine' call_qtrim (by assumption) (by assumption) (by assumption) (by assumption) (by assumption) (by exact rfl) (by first | exact room (by assumption) (by decide) | omega) (by first | exact room (by assumption) (by decide) | omega) (by assumption) (by ktr_rel) ?_); (intro a'q tl'q h'q tk'q F'q N'q A'q R'q Fh'q); (try k_sweep))
  k_with "exec For Tuple Call cons nil" => (k_here; (rename Fr _ _ _ _ => lF'q); (with_unfolding_all refine' For_turns lF'q ?_; k_whole))
  k_with "call type:enumerate" => refine stopHere ?_
  exact True.intro
section
variable {prog : Program} {w : World} {A : Around} {E : Value → Shared → Prop} {s : Shared} {env : Env} {h₀ : Heap} {x : Str} {body : List Stmt} {Q : Flow → Shared → Prop}
def EnumPost (h₀ : Heap) (L : Addr) (J : (Str → Option Value) → Led → Prop) (I : Addr) (oE oI : Obj) (s₁ : Shared) (Q : Flow → Shared → Prop) (f : Flow) (s₂ : Shared) : Prop :=
  match f with
  | .ret v => Q (.ret v) s₂
  | .brk => Q .next s₂
  | _ => ∃ h' tk m' nw, s₂ = { s₁ with heap := h', toks := tk } ∧ Fr h₀ L h' m' ∧ News h₀ L h' ((I + 1, oE) :: (I, oI) :: nw) ∧ (∀ p ∈ nw, p.1 ≠ I + 1 ∧ p.1 ≠ I) ∧ J m' nw
theorem items_grow {elts : List Expr} {k : Nat} {pos : Pos} {l : Addr} {lo : Obj} {I : Addr} (J : Nat → (Str → Option Value) → Led → Prop) (vs : List Value)
    (hkeep : ∀ i m nw, J i m nw → (l, lo) ∈ nw)
    (turn : ∀ (i : Nat) v T t m₁ nw h tk oE oL, vs[i]? = some v → IsTup h T #[.int (i : Int) t, v] → J i m₁ nw → (∀ p ∈ nw, p.1 ≠ I + 1 ∧ p.1 ≠ I) → oE.cls = .type "enumerate" → oL.cls = .type "list_iterator" → Fr h₀ env.locals h m₁ → News h₀ env.locals h ((I + 1, oE) :: (I, oL) :: nw) →
      wpAny (model prog w) A (assign (.Tuple elts k pos) env (.ref T)) (fun _ s₂ => wpAny (model prog w) A (execs body env) (EnumPost h₀ env.locals (J (i + 1)) I oE oL { s with heap := h, toks := tk } Q) E s₂) E { s with heap := h, toks := tk })
    (done : ∀ m₁ nw h tk, J vs.length m₁ nw → Fr h₀ env.locals h m₁ → News h₀ env.locals h nw → Q .next { s with heap := h, toks := tk }) :
    ∀ (r : List Value) (i : Nat) m₁ nw, vs.drop i = r → i ≤ vs.length → J i m₁ nw → (∀ p ∈ nw, p.1 ≠ I + 1 ∧ p.1 ≠ I) →
      ItemsRest prog w A E h₀ env (.Tuple elts k pos) body Q s [(I + 1, "enumerate"), (I, "list_iterator")] [(l, lo)] (enumItems i r) m₁ nw
  | [], i, m₁, nw, e, hi, hj, _ => by
    have hl := congrArg List.length e
    rw [List.length_drop] at hl
    have : i = vs.length := Nat.le_antisymm hi (Nat.le_of_sub_eq_zero hl)
    subst this
    exact ItemsRest.zero fun h tk F N => done m₁ nw h tk hj F N
  | v :: r, i, m₁, nw, e, hi, hj, ho => by
    have hl := congrArg List.length e
    rw [List.length_drop, List.length_cons] at hl
    have hv : vs[i]? = some v := by
      have := congrArg (fun l => l[0]?) e
      simpa using this
    refine ItemsRest.pair fun T t h tk hT F => ?_
    refine AllObj.cons fun oE hE => AllObj.cons fun oL hL => AllObj.nil fun N => ?_
    refine wpAny_mono (turn i v T t m₁ nw h tk oE oL hv hT hj ho hE hL F N) (fun _ s₂ h₂ => wpAny_mono h₂ (fun f s₃ p => ?_) fun _ _ e => e) fun _ _ e => e
    have fin : (∃ h' tk' m' nw', s₃ = { s with heap := h', toks := tk' } ∧ Fr h₀ env.locals h' m' ∧ News h₀ env.locals h' ((I + 1, oE) :: (I, oL) :: nw') ∧ (∀ p ∈ nw', p.1 ≠ I + 1 ∧ p.1 ≠ I) ∧ J (i + 1) m' nw') →
        UnrEndW h₀ env.locals { s with heap := h, toks := tk } [(I + 1, oE), (I, oL)] (fun m' n' => SubL [(l, lo)] n' ∧ ItemsRest prog w A E h₀ env (.Tuple elts k pos) body Q s [(I + 1, "enumerate"), (I, "list_iterator")] [(l, lo)] (enumItems (i + 1) r) m' n') s₃ := by
      rintro ⟨h', tk', m', nw', rfl, F', N', ho', hj'⟩
      refine ⟨h', tk', m', nw', rfl, F', N', fun p hp q hq => ?_, ⟨hkeep _ _ _ hj', trivial⟩, ?_⟩
      · rcases List.mem_cons.mp hq with rfl | hq
        · exact (ho' p hp).1
        · rw [List.mem_singleton.mp hq]
          exact (ho' p hp).2
      · refine items_grow J vs hkeep turn done r (i + 1) m' nw' ?_ (Nat.lt_of_sub_eq_succ hl) hj' ho'
        rw [← List.drop_drop, e]
        rfl
    cases f with
    | ret v => exact p
    | brk => exact p
    | next => exact fin p
    | cont => exact fin p
theorem enum_grow {elts : List Expr} {k : Nat} {pos : Pos} {l : Addr} {lo : Obj} {vs : List Value} {n : Nat} {m₀ : Str → Option Value} {news : Led} (J : Nat → (Str → Option Value) → Led → Prop)
    (hh : A.handled = none) (F : Fr h₀ env.locals s.heap m₀) (N : News h₀ env.locals s.heap news) (hm : (l, lo) ∈ news) (hc : lo.cls = .type "list") (hd : lo.data = .seq vs.toArray n)
    (hkeep : ∀ i m nw, J i m nw → (l, lo) ∈ nw) (hj : J 0 m₀ news)
    (turn : ∀ (i : Nat) v T t m₁ nw h tk I oE oL, vs[i]? = some v → IsTup h T #[.int (i : Int) t, v] → J i m₁ nw → (∀ p ∈ nw, p.1 ≠ I + 1 ∧ p.1 ≠ I) → oE.cls = .type "enumerate" → oL.cls = .type "list_iterator" → Fr h₀ env.locals h m₁ → News h₀ env.locals h ((I + 1, oE) :: (I, oL) :: nw) →
      wpAny (model prog w) A (assign (.Tuple elts k pos) env (.ref T)) (fun _ s₂ => wpAny (model prog w) A (execs body env) (EnumPost h₀ env.locals (J (i + 1)) I oE oL { s with heap := h, toks := tk } Q) E s₂) E { s with heap := h, toks := tk })
    (done : ∀ m₁ nw h tk, J vs.length m₁ nw → Fr h₀ env.locals h m₁ → News h₀ env.locals h nw → Q .next { s with heap := h, toks := tk }) :
    wpAny (model prog w) A (call (.type "enumerate") [.ref l]) (fun xv s₁ => wpAny (model prog w) A (pyIter xv) (fun it s₂ => TurnsAt prog w A h₀ env (.Tuple elts k pos) body Q E it s₂) E s₁) E s :=
  ktu_enum hh F N hm hc hd rfl fun I hI => items_grow J vs hkeep (fun i v T t m₁ nw h tk oE oL => turn i v T t m₁ nw h tk I oE oL) done vs 0 m₀ news rfl (Nat.zero_le _) hj fun p hp => ⟨ktu_ne 1 (hI p hp), Nat.ne_of_lt (hI p hp)⟩
end
section
variable {w : World} {g h : Heap} {L : Addr} {T : Led} {I : Addr}
theorem turn_end2 {oE oI : Obj} {news : Led} (N : News g L h T) (hE : (I + 1, oE) ∈ T) (hI : (I, oI) ∈ T) (hce : oE.cls = .type "enumerate") (hc : oI.cls = .type "list_iterator") (x : Ext T news) (hn : ∀ q ∈ news, q.1 ≠ I + 1 ∧ q.1 ≠ I) :
    ∃ nw, News g L h ((I + 1, oE) :: (I, oI) :: nw) ∧ (∀ p ∈ nw, p.1 ≠ I + 1 ∧ p.1 ≠ I) ∧ Ext nw news ∧ (∀ a q, TupAt w T a q → TupAt w nw a q) ∧ (∀ l qs, LstAt w T l qs → LstAt w nw l qs) := by
  have hI' : (I, oI) ∈ dropL (I + 1) T := mem_dropL.mpr ⟨hI, fun e => absurd e (Nat.ne_of_lt (Nat.lt_succ_self I))⟩
  have N' : News g L h (dropL (I + 1) T) := News.sub N fun p hp => (mem_dropL.mp hp).1
  refine ⟨dropL I (dropL (I + 1) T), News.sub N fun p hp => ?_, fun p hp => ⟨(mem_dropL.mp (mem_dropL.mp hp).1).2, (mem_dropL.mp hp).2⟩, (x.drop fun q hq => (hn q hq).1).drop fun q hq => (hn q hq).2, fun a q y => (y.drop N hE (by rw [hce]; simp)).drop N' hI' (by rw [hc]; simp), fun l qs y => (y.drop' N hE (by rw [hce]; simp) (by rw [hce]; simp)).drop' N' hI' (by rw [hc]; simp) (by rw [hc]; simp)⟩
  rcases List.mem_cons.mp hp with rfl | hp
  · exact hE
  rcases List.mem_cons.mp hp with rfl | hp
  · exact hI
  · exact (mem_dropL.mp (mem_dropL.mp hp).1).1
theorem Ext.both {a : Addr} {o : Obj} {T base : Led} (x : Ext T base) (h : ∀ p ∈ T, p.1 ≠ a) : Ext ((a, o) :: T) ((a, o) :: base) := by
  refine ⟨fun p hp => ?_, fun p hp => ?_⟩
  · rcases List.mem_cons.mp hp with rfl | hp
    · exact .head _
    · exact .tail _ (x.1 p hp)
  · rcases List.mem_cons.mp hp with rfl | hp
    · exact .inl (.head _)
    · rcases x.2 p hp with h1 | h1
      · exact .inl (.tail _ h1)
      · refine .inr fun q hq => ?_
        rcases List.mem_cons.mp hq with rfl | hq
        · exact (h p hp).symm
        · exact h1 q hq
end
/-- qmul's turns -/
def mulI (qs rs f : List Rat) (i : Nat) : Nat → List Rat
  | 0 => f
  | j + 1 => (mulI qs rs f i j).set (i + j) ((mulI qs rs f i j).getD (i + j) 0 + qs.getD i 0 * rs.getD j 0)
def mulS (qs rs : List Rat) : Nat → List Rat
  | 0 => List.replicate (qs.length + rs.length - 1) 0
  | i + 1 => mulI qs rs (mulS qs rs i) i rs.length
def mulF (qs rs : List Rat) : List Rat := if qs.length = 0 ∨ rs.length = 0 then [] else mulS qs rs qs.length
theorem mulI_length (qs rs f : List Rat) (i : Nat) : ∀ j, (mulI qs rs f i j).length = f.length
  | 0 => rfl
  | j + 1 => by rw [mulI, List.length_set, mulI_length qs rs f i j]
theorem mulS_length (qs rs : List Rat) : ∀ i, (mulS qs rs i).length = qs.length + rs.length - 1
  | 0 => by simp [mulS]
  | i + 1 => by rw [mulS, mulI_length, mulS_length qs rs i]
def MulOk (qs rs : List Rat) : Prop := ∀ i, i < qs.length → ∀ j, j < rs.length → Tiny (qs.getD i 0) ∧ Tiny (rs.getD j 0) ∧ Tiny ((mulI qs rs (mulS qs rs i) i j).getD (i + j) 0) ∧ Tiny (qs.getD i 0 * rs.getD j 0)
theorem getD_of {qs : List Rat} {as : List Addr} {w : World} {T : Led} {i : Nat} {v : Value} (hl : as.length = qs.length) (h4 : ∀ (i : Nat) a q, as[i]? = some a → qs[i]? = some q → TupAt w T a q) (h : (as.map Value.ref)[i]? = some v) : ∃ a, v = .ref a ∧ i < qs.length ∧ TupAt w T a (qs.getD i 0) := by
  rw [List.getElem?_map] at h
  cases e : as[i]? with
  | none => rw [e] at h; cases h
  | some a =>
    rw [e] at h
    cases h
    have hi : i < qs.length := by
      have := (List.getElem?_eq_some_iff.mp e).1
      omega
    refine ⟨a, rfl, hi, h4 i a _ e ?_⟩
    simp [List.getD, hi]
section
variable {w : World} {p : Program} {loose : List Str} {mean : ExcName → Option Value} {mg mb : Str → Option Value}
theorem qmul_does {a1 b1 : Addr} {qs rs : List Rat} {news : Led} (r1 : LstAt w news a1 qs) (r2 : LstAt w news b1 rs) (hle : qs.length + rs.length ≤ 1000) (ok : MulOk qs rs) :
    Does w p loose mean mg mb 4 130 177 [.ref a1, .ref b1] news (fun tl r => ∃ l, r = .ref l ∧ LstAt w (tl ++ news) l (mulF qs rs) ∧ ∀ q ∈ news, q.1 ≠ l) := by
  refine does_of (dep := 3) (uns := 127) [(Str.ofString "a", .ref a1), (Str.ofString "b", .ref b1)] (by k_is) (by k_is) (fun s => BindsTo.of_eq rfl) (locs rfl) rfl rfl rfl (by decide) ?_
  unfold Runs
  intro dp un gd outer A₀ base g L s Q E B F X N T hd hu hE hret
  k_fold
  have hl := r1.le
  have hl2 := r2.le
  k_unmd
  k_extra "st"
  · rename News _ _ _ _ => N5
    rename Fr _ _ _ _ => F5
    rename LstAt _ _ _ [] => R5
    have h0 : (qs.length : Int) = 0 := by assumption
    have e0 : mulF qs rs = [] := by rw [mulF, if_pos (.inl (by omega))]
    rw [← e0] at R5
    refine ex1 (fin_lst (news := news) N5 (by lcg_off) R5 (fun q hq => Nat.ne_of_lt ((by assumption : ∀ p ∈ news, p.1 < _) q hq))) fun tl hCo => and4 hCo fun n1 n2 n3 n4 => ?_
    clear hCo
    exact hret _ tl _ _ _ F5 n1 n2 ⟨_, rfl, n3, n4⟩
  · rename News _ _ _ _ => N5
    rename Fr _ _ _ _ => F5
    rename LstAt _ _ _ [] => R5
    have h0 : (rs.length : Int) = 0 := by assumption
    have e0 : mulF qs rs = [] := by rw [mulF, if_pos (.inr (by omega))]
    rw [← e0] at R5
    refine ex1 (fin_lst (news := news) N5 (by lcg_off) R5 (fun q hq => Nat.ne_of_lt ((by assumption : ∀ p ∈ news, p.1 < _) q hq))) fun tl hCo => and4 hCo fun n1 n2 n3 n4 => ?_
    clear hCo
    exact hret _ tl _ _ _ F5 n1 n2 ⟨_, rfl, n3, n4⟩
  rename News _ _ _ _ => N1
  rename Fr _ _ _ _ => F1
  rename LstAt _ _ _ (List.replicate _ _) => R0
  rename (∀ q ∈ _ :: news, q.1 < (_ : Addr)) => lt0
  have hq0 : (qs.length : Int) ≠ 0 := by assumption
  have hr0 : (rs.length : Int) ≠ 0 := by assumption
  have e0 : mulF qs rs = mulS qs rs qs.length := by rw [mulF, if_neg (by omega)]
  rw [e0] at hret
  have en : ((qs.length : Int) + (rs.length : Int) - 1).toNat = qs.length + rs.length - 1 := tn_both _ _
  rw [en] at R0
  refine ex2 (r1) fun as ka hCo => and4 hCo fun ha1 ha2 ha3 ha4 => ?_
  clear hCo
  refine ex2 (r2) fun bs kb hCo => and4 hCo fun hb1 hb2 hb3 hb4 => ?_
  clear hCo
  unfold Stop
  refine enum_grow (vs := as.map Value.ref) (fun i m₁ nw => Ext nw news ∧ ∃ (fl : Addr), LstAt w nw fl (mulS qs rs i) ∧ (∀ q ∈ news, q.1 ≠ fl) ∧ m₁ (Str.ofString "found") = some (.ref fl) ∧ m₁ (Str.ofString "b") = some (.ref b1))
    rfl F1 N1 (.tail _ (.tail _ ha1)) rfl rfl (fun i m₁ nw hj => hj.1.1 _ ha1) ⟨by lcg_off, _, R0, fun q hq => Nat.ne_of_lt (lt0 q (.tail _ hq)), rfl, rfl⟩ ?_ ?_
  · rintro i v Tp t m₁ nw h tk I oE oL hv hT hJ72 ho hcE hcL F₂ N₂
    refine hideQ2 fun Z0 hZ0 => ?_
    refine and2 hJ72 fun hx hN73 => ?_
    clear hJ72
    refine ex1 hN73 fun fl hC74 => and4 hC74 fun R1 hf e1 e2 => ?_
    clear hC74
    clear hN73
    clear F1 N1 R0
    refine ex1 (getD_of ha2 ha4 hv) fun a hCo => and3 hCo fun hO1 hi ta => ?_
    clear hCo
    subst hO1
    have em : fmo [(Str.ofString "found", .ref fl), (Str.ofString "b", .ref b1)] m₁ = m₁ := fmo_known (by simp [e1, e2])
    rw [← em] at F₂
    clear em e1 e2
    have oki := ok i hi
    replace F₂ : Fr g L h _ := F₂
    replace N₂ : News g L h _ := N₂
    have s3 := r1.mono hx.1
    have s4 := r2.mono hx.1
    k_unmd
    (try k_fold)
    k_extra "st"
    rename News _ _ _ _ => N1
    rename Fr _ _ _ _ => F1
    have hxE : Ext ((I + 1, oE) :: (I, oL) :: nw) ((I + 1, oE) :: (I, oL) :: news) := (hx.both fun p hp => (ho p hp).2).both fun p hp => (List.mem_cons.mp hp).elim (fun e => by subst e; exact Nat.ne_of_lt (Nat.lt_succ_self I)) fun hp => (ho p hp).1
    have hxN : Ext ((I + 1, oE) :: (I, oL) :: news) news := (Ext.refl.cons' fun p hp => (ho p (hx.1 p hp)).2).cons' fun p hp => (List.mem_cons.mp hp).elim (fun e => by subst e; exact Nat.ne_of_lt (Nat.lt_succ_self I)) fun hp => (ho p (hx.1 p hp)).1
    have hfI : I ≠ fl := (R1.addr_ne fun p hp => (ho p hp).2).symm
    have hfE : I + 1 ≠ fl := (R1.addr_ne fun p hp => (ho p hp).1).symm
    have hff : ∀ q ∈ (I + 1, oE) :: (I, oL) :: news, q.1 ≠ fl := fun q hq => by
      rcases List.mem_cons.mp hq with rfl | hq
      · exact hfE
      rcases List.mem_cons.mp hq with rfl | hq
      · exact hfI
      · exact hf q hq
    unfold Stop
    refine enum_grow (vs := bs.map Value.ref) (fun j m₂ nw2 => Ext nw2 ((I + 1, oE) :: (I, oL) :: news) ∧ LstAt w nw2 fl (mulI qs rs (mulS qs rs i) i j) ∧ m₂ (Str.ofString "found") = some (.ref fl) ∧ m₂ (Str.ofString "b") = some (.ref b1) ∧ (∃ t, m₂ (Str.ofString "one") = some (.int i t)) ∧ m₂ (Str.ofString "left") = some (.ref a))
      rfl F1 N1 (.tail _ (.tail _ (hx.1 _ hb1))) rfl rfl (fun i m₁ nw hj => hj.1.1 _ (.tail _ (.tail _ hb1))) ⟨hxE, R1.mono (by ktr_rel), rfl, rfl, ⟨_, rfl⟩, rfl⟩ ?_ ?_
    · rintro j v2 Tp2 t2 m₂ nw2 h2 tk2 I2 oE2 oL2 hv2 hT2 hJ75 ho2 hcE2 hcL2 F₃ N₃
      refine hideQ2 fun Z1 hZ1 => ?_
      refine and6 hJ75 fun hx2 R2 e1 e2 hN76 e4 => ?_
      clear hJ75
      refine ex1 hN76 fun t3 e3 => ?_
      clear hN76
      clear F1 N1
      refine ex1 (getD_of hb2 hb4 hv2) fun b hCo => and3 hCo fun hO2 hj tb => ?_
      clear hCo
      subst hO2
      have em : fmo [(Str.ofString "found", .ref fl), (Str.ofString "b", .ref b1), (Str.ofString "one", .int i t3), (Str.ofString "left", .ref a)] m₂ = m₂ := fmo_known (by simp [e1, e2, e3, e4])
      rw [← em] at F₃
      clear em e1 e2 e3 e4
      refine and4 (oki j hj) fun k1 k2 k3 k4 => ?_
      have x1 : ((i : Int) + (j : Int)).toNat = i + j := tn_add i j
      rw [← x1] at k3
      have hlen := (mulI_length qs rs (mulS qs rs i) i j).trans (mulS_length qs rs i)
      have hil : (i : Int) + (j : Int) < ((mulI qs rs (mulS qs rs i) i j).length : Int) := by rw [hlen]; exact idx_lt hi hj
      replace F₃ : Fr g L h2 _ := F₃
      replace N₃ : News g L h2 _ := N₃
      have ta2 := ta.mono fun p hp => hx2.1 p (.tail _ (.tail _ hp))
      have tb2 := tb.mono fun p hp => hx2.1 p (.tail _ (.tail _ hp))
      clear x1
      k_unmd
      (try k_fold)
      k_extra "st"
      rename TupAt _ _ _ (_ + _ : Rat) => R5
      rename News _ _ _ _ => N5
      rename Fr _ _ _ _ => F5
      unfold Stop
      refine lst_set R2 (by ktr_rel) R5 (by ktr_rel) F5 N5 (by omega) (by rw [hlen]; exact idx_lt hi hj) ?_
      intro o' h' F' N' R'
      rw [tn_add] at R'
      have hf2I : I2 ≠ fl := (R2.addr_ne fun p hp => (ho2 p hp).2).symm
      have hf2E : I2 + 1 ≠ fl := (R2.addr_ne fun p hp => (ho2 p hp).1).symm
      have hxx : Ext ((I2 + 1, oE2) :: (I2, oL2) :: nw2) ((I + 1, oE) :: (I, oL) :: news) := (hx2.cons' fun p hp => (ho2 p hp).2).cons' fun p hp => (List.mem_cons.mp hp).elim (fun e => by subst e; exact Nat.ne_of_lt (Nat.lt_succ_self I2)) fun hp => (ho2 p hp).1
      refine ex1 (turn_end2 (w := w) (I := I2) (oE := oE2) (oI := oL2) (news := (I + 1, oE) :: (I, oL) :: news) N' (upd_mem (by simp) hf2E) (upd_mem (by simp) hf2I) hcE2 hcL2 (Ext.upd (by lcg_off) hff) (fun q hq => ⟨(ho2 q (hx2.1 q hq)).1, (ho2 q (hx2.1 q hq)).2⟩)) fun nw3 hCo => and5 hCo fun n1 n2 n3 n4 n5 => ?_
      clear hCo
      k_unmd
      k_extra "st"
      refine hZ1 _ _ ?_
      exact ⟨_, _, _, _, rfl, F', n1, n2, n3, n5 _ _ R', rfl, rfl, ⟨_, rfl⟩, rfl⟩
    · rintro m₂ nw2 h2 tk2 hJ77 F₃ N₃
      refine and6 hJ77 fun hx2 R2 e1 e2 hN78 e4 => ?_
      clear hJ77
      refine ex1 hN78 fun t3 e3 => ?_
      clear hN78
      clear F1 N1
      have em : fmo [(Str.ofString "found", .ref fl), (Str.ofString "b", .ref b1), (Str.ofString "one", .int i t3), (Str.ofString "left", .ref a)] m₂ = m₂ := fmo_known (by simp [e1, e2, e3, e4])
      rw [← em] at F₃
      clear em e1 e2 e3 e4
      replace F₃ : Fr g L h2 _ := F₃
      replace N₃ : News g L h2 _ := N₃
      rw [List.length_map, hb2] at R2
      refine ex1 (turn_end2 (w := w) (I := I) (oE := oE) (oI := oL) (news := news) N₃ (hx2.1 _ (.head _)) (hx2.1 _ (.tail _ (.head _))) hcE hcL (hx2.trans hxN) (fun q hq => ho q (hx.1 q hq))) fun nw3 hCo => and5 hCo fun n1 n2 n3 n4 n5 => ?_
      clear hCo
      (try dsimp only)
      k_unmd
      k_extra "st"
      refine hZ0 _ _ ?_
      exact ⟨_, _, _, _, rfl, F₃, n1, n2, n3, fl, n5 _ _ R2, hf, rfl, rfl⟩
  · rintro m₁ nw h tk hJ79 F₂ N₂
    refine and2 hJ79 fun hx hN80 => ?_
    clear hJ79
    refine ex1 hN80 fun fl hC81 => and4 hC81 fun R1 hf e1 e2 => ?_
    clear hC81
    clear hN80
    clear F1 N1
    replace F₂ := fr_known1 e1 F₂
    replace F₂ : Fr g L h _ := F₂
    replace N₂ : News g L h _ := N₂
    rw [List.length_map, ha2] at R1
    (try dsimp only)
    k_extra "st"
    refine ex1 (fin_lst N₂ hx R1 hf) fun tl hCo => and4 hCo fun n1 n2 n3 n4 => ?_
    clear hCo
    exact hret _ tl _ _ _ F₂ n1 n2 ⟨fl, rfl, n3, n4⟩
end
end
section
theorem rulesM20a : True := by
  k_with_none
  k_with "st" => (repeat' (first | (k_unfold; (try dsimp only)) | ((try dsimp only); walk1)))
  k_with "ktr_rel" => first | exact fun _ h => h | exact List.forall_mem_nil _ | exact fun _ h => List.mem_append_right _ h | exact fun _ h => List.mem_cons_of_mem _ h | (refine sub_app ?_; ktr_rel; done) | (refine sub_cons ?_; ktr_rel; done) | (intro p hp; simp only [List.mem_append, List.mem_cons, hp, true_or, or_true])
  k_with "exec While Compare cons nil" => refine stopHere ?_
  k_with "subscriptTail Name Constant ref int" => (k_here; k_dflt (first
      | ((fail_if_success fail_if_success (with_reducible show wpAny _ _ (subscriptTail _ _ (Value.ref _) (Value.int 0 _)) _ _ _)); refine' rat_item0 (by assumption) (by assumption) (by assumption) (by assumption) (by ktr_rel) ?_ ?_; rotate_left; (with_unfolding_all rfl); intro t'q)
      | ((fail_if_success fail_if_success (with_reducible show wpAny _ _ (subscriptTail _ _ (Value.ref _) (Value.int 1 _)) _ _ _)); refine' rat_item1 (by assumption) (by assumption) (by assumption) (by assumption) (by ktr_rel) ?_ ?_; rotate_left; (with_unfolding_all rfl); intro t'q)
      | ((fail_if_success fail_if_success (with_reducible show wpAny _ _ (subscriptTail _ _ (Value.ref _) (Value.int _ _)) _ _ _)); refine' lst_item (by assumption) (by assumption) (by ktr_rel) (by first | exact Int.natCast_nonneg _ | omega) (by first | assumption | omega) ?_ ?_; rotate_left; (with_unfolding_all rfl); intro a'q R'q)))
  k_with "subscriptTail Name Name ref int" => (k_here; k_dflt ((fail_if_success fail_if_success (with_reducible show wpAny _ _ (subscriptTail _ _ (Value.ref _) (Value.int _ _)) _ _ _)); refine' lst_item (by assumption) (by assumption) (by ktr_rel) (by first | exact Int.natCast_nonneg _ | omega) (by first | assumption | omega) ?_ ?_; rotate_left; (with_unfolding_all rfl); intro a'q R'q))
  k_with "subscriptTail Name BinOp ref int" => (k_here; k_dflt ((fail_if_success fail_if_success (with_reducible show wpAny _ _ (subscriptTail _ _ (Value.ref _) (Value.int _ _)) _ _ _)); refine' lst_item (by assumption) (by assumption) (by ktr_rel) (by first | exact Int.natCast_nonneg _ | omega) (by first | assumption | omega) ?_ ?_; rotate_left; (with_unfolding_all rfl); intro a'q R'q))
  k_with "call builtin:len" => (k_here; (fail_if_success fail_if_success (with_reducible show wpAny _ _ (call (Value.builtin "len") [Value.ref _]) _ _ _)); k_dflt (refine' lst_len (by assumption) (by assumption) (by ktr_rel) ?_))
  k_with "compareOp NotEq ref ref" => (k_here; (fail_if_success fail_if_success (with_reducible show wpAny _ _ (compareOp CmpOp.NotEq (Value.ref _) (Value.ref _)) _ _ _)); k_dflt (first
      | (refine' tup_ne (by assumption) (by first | assumption | exact tup49 (T := [])) (by assumption) (by assumption) (by assumption) (by ktr_rel) (by ktr_rel) (by first | exact room (by assumption) (by decide) | ((try dsimp only); first | exact room (by assumption) (by decide) | omega)) ?_)
      | (refine' lst_ne (by assumption) (by assumption) (by assumption) (by assumption) (by assumption) (by ktr_rel) (by ktr_rel) (by first | exact room (by assumption) (by decide) | ((try dsimp only); first | exact room (by assumption) (by decide) | omega)) ?_)))
  k_with "compareOp Eq ref ref" => (k_here; (fail_if_success fail_if_success (with_reducible show wpAny _ _ (compareOp CmpOp.Eq (Value.ref _) (Value.ref _)) _ _ _)); k_dflt (first
      | (refine' tup_eq (by assumption) (by first | assumption | exact tup49 (T := [])) (by assumption) (by assumption) (by assumption) (by ktr_rel) (by ktr_rel) (by first | exact room (by assumption) (by decide) | ((try dsimp only); first | exact room (by assumption) (by decide) | omega)) ?_)
      | (refine' lst_eq (by assumption) (by assumption) (by assumption) (by assumption) (by assumption) (by ktr_rel) (by ktr_rel) (by first | exact room (by assumption) (by decide) | ((try dsimp only); first | exact room (by assumption) (by decide) | omega)) ?_)))
  k_with "call ref" => (k_here; (fail_if_success fail_if_success (with_reducible show wpAny _ _ (call (Value.ref 64) _) _ _ _)); k_dflt (refine' call_radd (by assumption) (by assumption) (by assumption) (by assumption) (by assumption) (by exact rfl) (by first | exact room (by assumption) (by decide) | omega) (by first | exact room (by assumption) (by decide) | omega) (by first | assumption | exact tup49 (T := []) | exact tup50 (T := []) | exact tup_int (by assumption)) (by ktr_rel) (by first | assumption | exact tup49 (T := []) | exact tup50 (T := []) | exact tup_int (by assumption)) (by ktr_rel) (by assumption) (by assumption) ?_); (intro a'q tl'q h'q tk'q F'q N'q A'q R'q); (try k_sweep))
  k_with "call ref" => (k_here; (fail_if_success fail_if_success (with_reducible show wpAny _ _ (call (Value.ref 71) _) _ _ _)); k_dflt (refine' call_rsub (by assumption) (by assumption) (by assumption) (by assumption) (by assumption) (by exact rfl) (by first | exact room (by assumption) (by decide) | omega) (by first | exact room (by assumption) (by decide) | omega) (by first | assumption | exact tup49 (T := []) | exact tup50 (T := []) | exact tup_int (by assumption)) (by ktr_rel) (by first | assumption | exact tup49 (T := []) | exact tup50 (T := []) | exact tup_int (by assumption)) (by ktr_rel) (by assumption) (by assumption) ?_); (intro a'q tl'q h'q tk'q F'q N'q A'q R'q); (try k_sweep))
  k_with "call ref" => (k_here; (fail_if_success fail_if_success (with_reducible show wpAny _ _ (call (Value.ref 78) _) _ _ _)); k_dflt (refine' call_rmul (by assumption) (by assumption) (by assumption) (by assumption) (by assumption) (by exact rfl) (by first | exact room (by assumption) (by decide) | omega) (by first | exact room (by assumption) (by decide) | omega) (by first | assumption | exact tup49 (T := []) | exact tup50 (T := []) | exact tup_int (by assumption)) (by ktr_rel) (by first | assumption | exact tup49 (T := []) | exact tup50 (T := []) | exact tup_int (by assumption)) (by ktr_rel) (by assumption) (by assumption) ?_); (intro a'q tl'q h'q tk'q F'q N'q A'q R'q); (try k_sweep))
  k_with "call ref" => (k_here; (fail_if_success fail_if_success (with_reducible show wpAny _ _ (call (Value.ref 85) _) _ _ _)); k_dflt (refine' call_rdiv (by assumption) (by assumption) (by assumption) (by assumption) (by assumption) (by exact rfl) (by first | exact room (by assumption) (by decide) | omega) (by first | exact room (by assumption) (by decide) | omega) (by first | assumption | exact tup49 (T := []) | exact tup50 (T := []) | exact tup_int (by assumption)) (by ktr_rel) (by first | assumption | exact tup49 (T := []) | exact tup50 (T := []) | exact tup_int (by assumption)) (by ktr_rel) (by assumption) (by assumption) (by assumption) ?_); (intro a'q tl'q h'q tk'q F'q N'q A'q R'q); (try k_sweep))
  k_with "call ref" => (k_here; (fail_if_success fail_if_success (with_reducible show wpAny _ _ (call (Value.ref 113) _) _ _ _)); k_dflt (refine' call_let (by assumption) (by assumption) (by assumption) (by assumption) (by assumption) (by exact rfl) (by first | exact room (by assumption) (by decide) | omega) (by first | exact room (by assumption) (by decide) | omega) (by assumption) (by ktr_rel) (by assumption) ?_); (intro h'q tk'q F'q N'q); (try k_sweep))
  k_with "exec For Name Call cons nil" => (k_here; (rename Fr _ _ _ _ => lF'q); (with_unfolding_all refine' For_invVF lF'q (by exact rfl) (by exact rfl) ?_; k_whole))
  k_with "pyIter ref" => refine stopHere ?_
  k_with "eval ListComp" => refine stopHere ?_
  k_with "CompSrc" => refine stopHere ?_
  k_with "lcg_sub" => first
      | exact List.Mem.head _
      | (refine List.Mem.tail _ ?_; lcg_sub)
      | (refine List.mem_append_right _ ?_; lcg_sub)
  k_with "eval Name" => (k_here; (fail_if_success fail_if_success (with_reducible show wpAny _ _ (eval (Expr.Name _ _) (compEnvC _ _ _ _)) _ _ _)); k_dflt (first
      | (refine' lcf_cell (by assumption) (by exact rfl) (by lcg_sub) (by assumption) ?_ rfl rfl)
      | (refine' LCgL.ld_own (by assumption) ?_ (by assumption) (by assumption) ?_ rfl rfl (by decide); lcg_sub)
      | (refine' LCgL.ld_global (by assumption) (by assumption) (by assumption) (by k_is) ?_ rfl rfl rfl (by decide))))
  k_with "subscriptTail Name Slice ref ref" => (k_here; k_dflt (first
      | (refine' lst_upto (by assumption) ?_ (by assumption) (by assumption) (by first | assumption | omega) ?_ (by with_unfolding_all rfl); ktr_rel)
      | (refine' lst_from (by assumption) ?_ (by assumption) (by assumption) (by first | assumption | omega) ?_ (by with_unfolding_all rfl); ktr_rel)); intro D'q o'q h'q F'q N'q R'q l1'q; (try k_sweep))
  k_with "subscriptTail ListComp Slice ref ref" => (k_here; k_dflt (first
      | (refine' lst_from (by assumption) ?_ (by assumption) (by assumption) (by first | assumption | omega) ?_ (by with_unfolding_all rfl); ktr_rel)); intro D'q o'q h'q F'q N'q R'q l1'q; (try k_sweep))
  k_with "call type:list" => (k_here; (fail_if_success fail_if_success (with_reducible show wpAny _ _ (call (Value.type "list") [Value.ref _]) _ _ _)); k_dflt (refine' lst_copy (by assumption) ?_ (by assumption) (by assumption) ?_; ktr_rel); intro D'q o'q h'q F'q N'q R'q l1'q; (try k_sweep))
  k_with "binaryOp Mult ref int" => (k_here; (fail_if_success fail_if_success (with_reducible show wpAny _ _ (binaryOp _ (Value.ref _) (Value.int _ _)) _ _ _)); k_dflt (refine' lst_mul1 (by assumption) ?_ (by assumption) (by assumption) (by first | omega | (simp only [List.length_nil, List.length_cons]; omega)) (by first | omega | (simp only [List.length_nil, List.length_cons]; omega)) ?_; ktr_rel); intro D'q o'q h'q F'q N'q R'q l1'q; (try k_sweep))
  k_with "binaryOp Add ref ref" => (k_here; (fail_if_success fail_if_success (with_reducible show wpAny _ _ (binaryOp _ (Value.ref _) (Value.ref _)) _ _ _)); k_dflt (refine' lst_add (by assumption) ?_ (by assumption) ?_ (by assumption) (by assumption) (by ((try simp only [List.length_take, List.length_drop, List.length_replicate, List.length_cons, List.length_nil]); omega)) ?_; ktr_rel; ktr_rel); intro D'q o'q h'q F'q N'q R'q l1'q; (try k_sweep))
  k_with "newList" => (k_here; k_dflt (first
      | ((fail_if_success fail_if_success (with_reducible show wpAny _ _ (newList []) _ _ _)); refine' newlst0 (w := _) (by assumption) (by assumption) ?_)
      | ((fail_if_success fail_if_success (with_reducible show wpAny _ _ (newList [Value.ref _]) _ _ _)); refine' newlst1 (by first | assumption | exact tup49 (T := []) | exact tup50 (T := [])) ?_ (by assumption) (by assumption) ?_; ktr_rel)
      | ((fail_if_success fail_if_success (with_reducible show wpAny _ _ (newList [Value.ref _, Value.ref _]) _ _ _)); refine' newlst2 (by first | assumption | exact tup49 (T := []) | exact tup50 (T := [])) ?_ (by first | assumption | exact tup49 (T := []) | exact tup50 (T := [])) ?_ (by assumption) (by assumption) ?_; ktr_rel; ktr_rel)); intro D'q o'q h'q F'q N'q R'q l1'q; (try k_sweep))
  k_with "getMethod ref" => (k_here; (fail_if_success fail_if_success (with_reducible show wpAny _ _ (getMethod (Value.ref _) (Str.ofString "append") _) _ _ _)); k_dflt (refine' lst_getAppend (by assumption) ?_ (by assumption) ?_; ktr_rel))
  k_with "call builtin:list.append" => refine stopHere ?_
  k_with "setItem ref int ref" => refine stopHere ?_
  k_with "lcg_off" => first | exact Ext.refl | (refine Ext.cons ?_ (by assumption); lcg_off) | (refine Ext.cons ?_ (ktn_ltOf (by assumption)); lcg_off) | (refine Ext.app ?_ (by assumption); lcg_off) | assumption
  k_with "exec While BoolOp cons nil" => refine stopHere ?_
  k_with "subscriptTail Subscript Constant ref int" => (k_here; k_dflt ((fail_if_success fail_if_success (with_reducible show wpAny _ _ (subscriptTail _ _ (Value.ref _) (Value.int 0 _)) _ _ _)); refine' rat_item0 (by assumption) (by assumption) (by assumption) (by assumption) (by ktr_rel) ?_ ?_; rotate_left; (with_unfolding_all rfl); intro t'q))
  k_with "call ref" => (k_here; (fail_if_success fail_if_success (with_reducible show wpAny _ _ (call (Value.ref 165) _) _ _ _)); k_dflt (refine' call_qtrim (by assumption) (by assumption) (by assumption) (by assumption) (by assumption) (by exact rfl) (by first | exact room (by assumption) (by decide) | omega) (by first | exact room (by assumption) (by decide) | omega) (by assumption) (by ktr_rel) ?_); (intro a'q tl'q h'q tk'q F'q N'q A'q R'q Fh'q); (try k_sweep))
  k_with "exec For Tuple Call cons nil" => (k_here; (rename Fr _ _ _ _ => lF'q); (with_unfolding_all refine' For_turns lF'q ?_; k_whole))
  k_with "call type:enumerate" => refine stopHere ?_
  exact True.intro
section
open LCg
variable {prog : Program} {w : World} {A : Around} {E : Value → Shared → Prop} {s : Shared} {h₀ : Heap} {L : Addr} {m : Str → Option Value} {env : Env}
/-- the end of a turn of a comprehension over enumerate -/
def EnEnd (h₀ : Heap) (L : Addr) (m : Str → Option Value) (s₁ : Shared) (e : Addr) (oE : Obj) (I : Addr) (oI : Obj) (C : Addr) (oC : Obj) (D : Addr) (oD : Obj) (J : Value → Led → Prop) (y : Value) (s₂ : Shared) : Prop :=
  ∃ h tk nw, s₂ = { s₁ with heap := h, toks := tk } ∧ Fr h₀ L h m ∧ News h₀ L h ((e, oE) :: (I, oI) :: (C, oC) :: (D, oD) :: nw) ∧ (∀ p ∈ nw, p.1 ≠ e ∧ p.1 ≠ I ∧ p.1 ≠ C ∧ p.1 ≠ D) ∧ J y nw
theorem block_E {elt iter : Expr} {x x₂ : Str} {px px₂ tp : Pos} {tk} {scope : Scope} {cl : List (Str × Addr)} {pos : Pos} {s₂ : Shared} {e I l : Addr} {lo : Obj} {vs : List Value} {nl : Nat} {news : Led} {RR : Value → Addr → Result → Shared → Prop} (J : Nat → List Value → Led → Prop)
    (hlc : lo.cls = .type "list") (hld : lo.data = .seq vs.toArray nl) (hkeep : ∀ i ys nw, J i ys nw → (l, lo) ∈ nw) (hsz : vs.length ≤ sizeLine) (hei : e ≠ I) (hle : l ≠ e) (hlI : l ≠ I)
    (hcell : ∀ y ∈ scope.names, y.2 ≠ .cell) (hkind : scope.kind = .function) (hx : scope.names.lookup x = some .local) (hx₂ : scope.names.lookup x₂ = some .local) (hxx : x ≠ x₂) (hh : A.handled = none)
    (hst : (∃ old, IsEnum s₂.heap e I (0 : Nat) old) ∧ s₂.heap.IsListIter I l (0 : Nat) ∧ s₂.heap.IsList l vs.toArray)
    (F : Fr h₀ L s₂.heap m) (N : News h₀ L s₂.heap news) (heL : L ≠ e) (hIL : L ≠ I) (he₀ : h₀.get? e = none) (hI₀ : h₀.get? I = none) (off : ∀ p ∈ news, p.1 ≠ e ∧ p.1 ≠ I) (hj : J 0 [] news)
    (turn : ∀ (i : Nat) v t ys nw oE oI C oC D m₂ h tk (E' : Value → Shared → Prop), vs[i]? = some v → ys.length = i → J i ys nw → NsObj oC m₂ → m₂ x = some (.int (i : Int) t) → m₂ x₂ = some v → Fr h₀ L h m → News h₀ L h ((e, oE) :: (I, oI) :: (C, oC) :: (D, lst ys) :: nw) →
      (∀ p ∈ nw, p.1 ≠ e ∧ p.1 ≠ I ∧ p.1 ≠ C ∧ p.1 ≠ D) → wpAny (model prog w) A (eval elt (compEnvC scope cl C env)) (EnEnd h₀ L m { s₂ with heap := h, toks := tk } e oE I oI C oC D (lst ys) (fun y nw' => J (i + 1) (ys ++ [y]) nw')) E' { s₂ with heap := h, toks := tk })
    (hRR : ∀ D C h tk m' ys nw, Fr h₀ L h m → News h₀ L h ((D, lst ys) :: nw) → (∀ p ∈ nw, p.1 ≠ D) → h.Ns C m' → h₀.get? C = none → h₀.get? D = none → C ≠ L → D ≠ L → C ≠ D → (∀ p ∈ nw, p.1 ≠ C) → ys.length = vs.length → J vs.length ys nw → RR (.ref D) C (.ok .next) { s₂ with heap := h, toks := tk }) :
    wpAny (model prog w) A (newList []) (fun acc s₃ => wpAny (model prog w) A (newFunctionEnv scope env.globals cl [] env.qual none .none (some env)) (fun cenv s₄ =>
      codeAny (model prog w) A (.compStart (.ListComp elt [⟨.Tuple [.Name x px, .Name x₂ px₂] tk tp, iter, [], 0⟩] scope pos) 0 (.ref e) acc { cenv with scope := relabel scope env }) (RR acc cenv.locals) s₄) E s₃) E s₂ := by
  have W := (WalksT.enumerate (prog := prog) (w := w) hh e I l hei hle hlI vs.toArray)
  have hn : vs.toArray.size = vs.length := by simp
  rw [hn] at W
  refine wpAny_newObj_type (wpAny_newFunctionEnv hcell (by intro y hy; simp at hy) (fun h₁ hns₁ hsb₁ => ?_) hkind)
  dsimp only at hns₁ hsb₁ ⊢
  generalize hH2 : s₂.heap.push { cls := .type "list", dict := none, data := .seq ([] : List Value).toArray } = H2 at hns₁ hsb₁ ⊢
  have hC : H2.objs.size = s₂.heap.objs.size + 1 := by rw [← hH2, Heap.size_push]
  have hDC : s₂.heap.objs.size ≠ H2.objs.size := by rw [hC]; exact Nat.ne_of_lt (Nat.lt_succ_self _)
  have below : ∀ b, b < s₂.heap.objs.size → b ≠ H2.objs.size ∧ b ≠ s₂.heap.objs.size := fun b hb => ⟨by rw [hC]; exact Nat.ne_of_lt (Nat.lt_succ_of_lt hb), Nat.ne_of_lt hb⟩
  have helt : e < s₂.heap.objs.size := by obtain ⟨old, he⟩ := hst.1; exact Heap.lt_size he
  have hIlt : I < s₂.heap.objs.size := by obtain ⟨_, y, _⟩ := hst.2.1; exact Heap.lt_size y
  have hllt : l < s₂.heap.objs.size := by obtain ⟨_, y, _⟩ := hst.2.2; exact Heap.lt_size y
  have hfp : ∀ b ∈ [e, I, l], b < s₂.heap.objs.size := by
    intro b hb
    simp only [List.mem_cons, List.not_mem_nil, or_false] at hb
    rcases hb with rfl | rfl | rfl <;> assumption
  have hDf : s₂.heap.objs.size ∉ [e, I, l] := fun hm => Nat.lt_irrefl _ (hfp _ hm)
  have hCf : H2.objs.size ∉ [e, I, l] := fun hm => by have := hfp _ hm; rw [hC] at this; exact Nat.lt_irrefl _ (Nat.lt_of_succ_lt this)
  have old : ∀ b o, s₂.heap.get? b = some o → h₁.get? b = some o := fun b o e => hsb₁.extBut b o (below b (Heap.lt_size e)).1 (Heap.get?_push_of_some _ (hH2 ▸ Heap.get?_push_of_some _ e))
  have hacc : h₁.get? s₂.heap.objs.size = some (lst []) := hsb₁.extBut _ _ hDC (Heap.get?_push_of_some _ (hH2 ▸ Heap.get?_push_size _ rfl))
  have hst₁ := W.frame _ _ _ hst fun b _ o e => old b o e
  have fresh : ∀ a, s₂.heap.objs.size ≤ a → s₂.heap.get? a = none := fun a ha => by
    cases e : s₂.heap.get? a with
    | none => rfl
    | some o' => exact absurd (Heap.lt_size e) (Nat.not_lt.mpr ha)
  have fresh₀ : ∀ a, s₂.heap.objs.size ≤ a → h₀.get? a = none := fun a ha => by
    cases e : h₀.get? a with
    | none => rfl
    | some o' => have := F.keep a o' e; rw [fresh a ha] at this; cases this
  have hD₀ : h₀.get? s₂.heap.objs.size = none := fresh₀ _ (Nat.le_refl _)
  have hC₀ : h₀.get? H2.objs.size = none := fresh₀ _ (by rw [hC]; exact Nat.le_succ _)
  have hLlt : L < s₂.heap.objs.size := F.ns.lt
  have hDL : s₂.heap.objs.size ≠ L := Ne.symm (below L hLlt).2
  have hCL : H2.objs.size ≠ L := Ne.symm (below L hLlt).1
  have hCe := (below e helt).1
  have hDe := (below e helt).2
  have hCI := (below I hIlt).1
  have hDI := (below I hIlt).2
  have hCw : H2.objs.size ∉ [e, I] := fun hm => hCf (W.sub _ hm)
  have hDw : s₂.heap.objs.size ∉ [e, I] := fun hm => hDf (W.sub _ hm)
  have hLw : L ∉ [e, I] := by simp [heL, hIL]
  have oldw : ∀ b o, h₀.get? b = some o → b ∉ [e, I] := fun b o eb hm => by
    simp only [List.mem_cons, List.not_mem_nil, or_false] at hm
    rcases hm with rfl | rfl
    · rw [he₀] at eb; cases eb
    · rw [hI₀] at eb; cases eb
  have frk : ∀ {h h' : Heap} {m : Str → Option Value}, Fr h₀ L h m → (∀ b o, b ∉ [e, I] → h.get? b = some o → h'.get? b = some o) → Fr h₀ L h' m := fun F' hk => ⟨F'.ns.at' fun o eo => hk _ o hLw eo, fun b o eb => hk b o (oldw b o eb) (F'.keep b o eb), F'.above⟩
  have nwk : ∀ {h h' : Heap} {nw : Led}, News h₀ L h nw → (∀ p ∈ nw, p.1 ∉ [e, I]) → (∀ b o, b ∉ [e, I] → h.get? b = some o → h'.get? b = some o) → News h₀ L h' nw := fun N' ho hk p hp => ⟨hk _ _ (ho p hp) (N' p hp).1, (N' p hp).2⟩
  have loop : ∀ s₃ : Shared, s₃ = { s₂ with heap := h₁, toks := s₂.toks + ([] : List (Str × Value)).length } →
      codeAny (model prog w) A (.compLoop (.ListComp elt [⟨.Tuple [.Name x px, .Name x₂ px₂] tk tp, iter, [], 0⟩] scope pos) 0 (.ref e) (.ref s₂.heap.objs.size) (compEnvC scope cl H2.objs.size env))
        (RR (.ref s₂.heap.objs.size) H2.objs.size) s₃ := by
    rintro s₃ rfl
    refine LCp.codeAny_compLoop_pair
      (fun k s' => ∃ h' tk i ys m' nw, s' = { s₂ with heap := h', toks := tk } ∧ i ≤ vs.length ∧ k = vs.length + 1 - i ∧ ys.length = i ∧ ((∃ old, IsEnum h' e I (i : Nat) old) ∧ h'.IsListIter I l i ∧ h'.IsList l vs.toArray) ∧ Fr h₀ L h' m ∧ h'.Ns H2.objs.size m' ∧ News h₀ L h' ((s₂.heap.objs.size, lst ys) :: nw) ∧
        (∀ p ∈ nw, p.1 ≠ e ∧ p.1 ≠ I ∧ p.1 ≠ H2.objs.size ∧ p.1 ≠ s₂.heap.objs.size) ∧ J i ys nw) ?_ (vs.length + 1)
      ⟨h₁, _, 0, [], _, news, rfl, Nat.zero_le _, rfl, rfl, hst₁, F.keeps old, hns₁, fun p hp => ?_, fun p hp => ⟨(off p hp).1, (off p hp).2, (below _ (Heap.lt_size (N p hp).1)).1, (below _ (Heap.lt_size (N p hp).1)).2⟩, hj⟩
    · rintro k s' hJ82
      refine ex6 hJ82 fun h' tk i ys m' nw hC85 => and10 hC85 fun hE83 hi hE84 hyl hst' F' hn' N' off' hj' => ?_
      clear hJ82
      clear hC85
      subst hE83
      subst hE84
      have offw : ∀ p ∈ (s₂.heap.objs.size, lst ys) :: nw, p.1 ∉ [e, I] := fun p hp => by
        rcases List.mem_cons.mp hp with rfl | hp
        · exact hDw
        · simp [(off' p hp).1, (off' p hp).2.1]
      by_cases hlt : i < vs.length
      · refine W.item i _ _ _ hlt hst' fun t vals h₂ tk₂ hPv _ hT hMid hk₂ => ?_
        obtain ⟨tt, v, hv, rfl⟩ := hPv
        have hv' : vs[i]? = some v := by simpa using hv
        refine W.go _ _ _ _ _ _ _ _ hMid fun h₇ hst₇ hk₇ => ?_
        have hk : ∀ b o, b ∉ [e, I] → h'.get? b = some o → h₇.get? b = some o := fun b o hb eo => hk₇ b o hb (hk₂ b o hb eo)
        have F₂ := frk F' hk
        have N₂ := nwk N' offw hk
        have ht : IsTup h₇ t #[.int (i : Int) tt, v] := hT.at fun o eo => hk₇ t o (W.apart _ _ _ hMid) eo
        refine assign_Tuple_tuple hh ht rfl rfl fun h₅ he => ?_
        have he' : ∀ b o, h₇.get? b = some o → h₅.get? b = some o := fun b o e => he b o (Nat.ne_of_lt (Heap.lt_size e)) e
        refine assignInOrder_cons (wpAny_assign_Name (wpAny_storeName_local (lookup_relabel_local hx) ((hn'.at' fun o eo => hk _ o hCw eo).at' fun o e => he' _ o e) (fun h₆ hn₆ hs₆ => ?_) (by simp [compEnvC, relabel, hkind])))
        refine assignInOrder_cons (wpAny_assign_Name (wpAny_storeName_local (lookup_relabel_local hx₂) hn₆ (fun h₃ hn₃ hs₃ => ?_) (by simp [compEnvC, relabel, hkind])))
        refine assignInOrder_nil ?_
        have old3 : ∀ b o, b ≠ H2.objs.size → h₇.get? b = some o → h₃.get? b = some o := fun b o hb e => hs₃.extBut b o hb (hs₆.extBut b o hb (he' b o e))
        have hst₃ := W.frame _ _ _ hst₇ fun b hb o eo => old3 b o (fun q => hCf (by rw [← q]; exact hb)) eo
        obtain ⟨oE, heE⟩ : ∃ o, h₃.get? e = some o := by obtain ⟨old, he⟩ := hst₃.1; exact ⟨_, he⟩
        obtain ⟨oI, heI⟩ : ∃ o, h₃.get? I = some o := by obtain ⟨o, eo, _⟩ := hst₃.2.1; exact ⟨o, eo⟩
        obtain ⟨oC, heC, hoC⟩ := ns_obj hn₃
        have F₃ : Fr h₀ L h₃ m := ((F₂.keeps he').change hs₆ hCL hC₀).change hs₃ hCL hC₀
        have N₃ : News h₀ L h₃ ((e, oE) :: (I, oI) :: (H2.objs.size, oC) :: (s₂.heap.objs.size, lst ys) :: nw) := fun p hp => by
          rcases List.mem_cons.mp hp with rfl | hp
          · exact ⟨heE, Ne.symm heL, he₀⟩
          rcases List.mem_cons.mp hp with rfl | hp
          · exact ⟨heI, Ne.symm hIL, hI₀⟩
          · rcases List.mem_cons.mp hp with rfl | hp
            · exact ⟨heC, hCL, hC₀⟩
            · have z := N₂ p hp
              refine ⟨old3 _ _ ?_ z.1, z.2⟩
              rcases List.mem_cons.mp hp with rfl | hp
              · exact hDC
              · exact (off' p hp).2.2.1
        refine wpAny_mono (turn i v tt ys nw oE oI H2.objs.size oC s₂.heap.objs.size _ h₃ _ _ hv' hyl hj' hoC (by simp [hxx]) (by simp) F₃ N₃ off') (fun y s₄ h₄ => ?_) fun _ _ e => e
        refine ex3 h₄ fun h₅ tk₄ news₄ hC => and5 hC fun h0 F₄ N₄ off₄ hj₄ => ?_
        clear hC h₄
        subst h0
        rename Heap => h₄
        have zE := (N₄ (e, oE) (.head _)).1
        have zI := (N₄ (I, oI) (.tail _ (.head _))).1
        have zC := (N₄ (H2.objs.size, oC) (.tail _ (.tail _ (.head _)))).1
        have zD := (N₄ (s₂.heap.objs.size, lst ys) (.tail _ (.tail _ (.tail _ (.head _))))).1
        have zl := (N₄ (l, lo) (.tail _ (.tail _ (.tail _ (.tail _ (hkeep _ _ _ hj₄)))))).1
        have hst₄ : (∃ old, IsEnum h₄ e I (i + 1 : Nat) old) ∧ h₄.IsListIter I l (i + 1) ∧ h₄.IsList l vs.toArray := by
          obtain ⟨⟨old, a1⟩, ⟨o2, a2, a3⟩, _⟩ := hst₃
          refine ⟨⟨old, ?_⟩, ⟨oI, zI, ?_⟩, ⟨lo, zl, hlc, nl, hld⟩⟩
          · have : oE = _ := Option.some.inj (heE.symm.trans a1)
            rw [this] at zE
            exact zE
          · have : oI = o2 := Option.some.inj (heI.symm.trans a2)
            rw [this]
            exact a3
        refine append_at (hsz := by show ys.toArray.size ≤ sizeLine; rw [List.size_toArray, hyl]; exact Nat.le_trans hi hsz) zD fun h₈ hs₈ hD₈ => ?_
        refine ⟨vs.length + 1 - (i + 1), Nat.sub_lt_sub_left (Nat.lt_succ_of_lt hlt) (Nat.lt_succ_self i), h₈, tk₄, i + 1, ys ++ [y], _, news₄, rfl, hlt, rfl, by rw [List.length_append, List.length_singleton, hyl], W.frame _ _ _ hst₄ fun b hb o eo => hs₈.extBut b o (fun q => hDf (q ▸ hb)) eo, F₄.change hs₈ hDL hD₀,
          (hoC.ns zC).sameBut hs₈ (Ne.symm hDC), fun p hp => ?_, off₄, hj₄⟩
        · rcases List.mem_cons.mp hp with rfl | hp
          · exact ⟨hD₈.trans (congrArg some (lst_snoc ys y)), hDL, hD₀⟩
          · exact ⟨hs₈.extBut _ _ (off₄ p hp).2.2.2 (N₄ p (.tail _ (.tail _ (.tail _ (.tail _ hp))))).1, (N₄ p (.tail _ (.tail _ (.tail _ (.tail _ hp))))).2⟩
      · obtain rfl : i = vs.length := Nat.le_antisymm hi (Nat.not_lt.mp hlt)
        refine W.done _ _ _ hst' fun h₂ tk₂ hk₂ => ?_
        exact hRR _ _ h₂ tk₂ _ ys nw (frk F' hk₂) (nwk N' offw hk₂) (fun p hp => (off' p hp).2.2.2) (hn'.at' fun o eo => hk₂ _ o hCw eo) hC₀ hD₀ hCL hDL (Ne.symm hDC) (fun p hp => (off' p hp).2.2.1) hyl hj'
    · rcases List.mem_cons.mp hp with rfl | hp
      · exact ⟨hacc, hDL, hD₀⟩
      · exact ⟨old _ _ (N p hp).1, (N p hp).2⟩
  exact codeAny_compStart_list (loop _ rfl) (W.self 0 _ _ _ hst₁ (loop _ rfl))
def SrcE (prog : Program) (w : World) (A : Around) (h₀ : Heap) (L : Addr) (m : Str → Option Value) (env : Env) (elt : Expr) (x x₂ : Str) (scope : Scope) (cl : List (Str × Addr)) (Q : Value → Shared → Prop) (xv : Value) (s₂ : Shared) : Prop :=
  ∃ (e I l : Addr) (lo : Obj) (vs : List Value) (nl : Nat) (news : Led) (J : Nat → List Value → Led → Prop),
    xv = .ref e ∧ A.handled = none ∧ lo.cls = .type "list" ∧ lo.data = .seq vs.toArray nl ∧ (∀ i ys nw, J i ys nw → (l, lo) ∈ nw) ∧ vs.length ≤ sizeLine ∧ e ≠ I ∧ l ≠ e ∧ l ≠ I ∧
    ((∃ old, IsEnum s₂.heap e I (0 : Nat) old) ∧ s₂.heap.IsListIter I l (0 : Nat) ∧ s₂.heap.IsList l vs.toArray) ∧
    Fr h₀ L s₂.heap m ∧ News h₀ L s₂.heap news ∧ L ≠ e ∧ L ≠ I ∧ h₀.get? e = none ∧ h₀.get? I = none ∧ (∀ p ∈ news, p.1 ≠ e ∧ p.1 ≠ I) ∧ J 0 [] news ∧
    (∀ (i : Nat) v t ys nw oE oI C oC D m₂ h tk (E' : Value → Shared → Prop), vs[i]? = some v → ys.length = i → J i ys nw → NsObj oC m₂ → m₂ x = some (.int (i : Int) t) → m₂ x₂ = some v → Fr h₀ L h m → News h₀ L h ((e, oE) :: (I, oI) :: (C, oC) :: (D, lst ys) :: nw) →
      (∀ p ∈ nw, p.1 ≠ e ∧ p.1 ≠ I ∧ p.1 ≠ C ∧ p.1 ≠ D) → wpAny (model prog w) A (eval elt (compEnvC scope cl C env)) (EnEnd h₀ L m { s₂ with heap := h, toks := tk } e oE I oI C oC D (lst ys) (fun y nw' => J (i + 1) (ys ++ [y]) nw')) E' { s₂ with heap := h, toks := tk }) ∧
    (∀ D h tk ys nw, Fr h₀ L h m → News h₀ L h ((D, lst ys) :: nw) → (∀ p ∈ nw, p.1 ≠ D) → ys.length = vs.length → J vs.length ys nw → Q (.ref D) { s₂ with heap := h, toks := tk })
theorem ListComp_E {elt iter : Expr} {x x₂ : Str} {px px₂ tp : Pos} {tk} {scope : Scope} {cl : List (Str × Addr)} {pos : Pos} {Q : Value → Shared → Prop} (F₀ : Fr h₀ L s.heap m)
    (hclos : closureFor scope env = pure cl) (hcell : ∀ y ∈ scope.names, y.2 ≠ .cell) (hkind : scope.kind = .function)
    (hnames : ∀ y ∈ scope.names, y.2 = .local → scope.names.lookup y.1 = some .local) (hx : scope.names.lookup x = some .local) (hx₂ : scope.names.lookup x₂ = some .local) (hxx : x ≠ x₂)
    (h : wpAny (model prog w) A (eval iter env) (SrcE prog w A h₀ L m env elt x x₂ scope cl Q) E s)
    (hs : ∀ x, foldedSetIterable iter env x = pure x := by intro _; rfl) :
    wpAny (model prog w) A (eval (.ListComp elt [⟨.Tuple [.Name x px, .Name x₂ px₂] tk tp, iter, [], 0⟩] scope pos) env) Q E s := by
  rw [eval_ListComp]
  refine wpAny_comprehension_free (use := none) rfl hs hclos hkind hnames (wpAny_mono h (fun xv s₁ h₁ => ?_) fun _ _ e => e)
  refine ex8 h₁ fun e I l lo vs nl news J hC => and11 hC fun h0 hh a1 a2 a3 a4 a5 a6 a7 a8 hD => and10 hD fun F N a9 b1 b2 b3 b4 b5 turn fin => ?_
  clear hC hD h₁
  subst h0
  refine wpAny_pyIter_enum a8.1.choose_spec ?_
  refine block_E J a1 a2 a3 a4 a5 a6 a7 hcell hkind hx hx₂ hxx hh a8 F N a9 b1 b2 b3 b4 b5 turn ?_
  intro D C h tk m' ys nw F' N' o1 hn hC₀ hD₀ hCL hDL hCD offC hl hj
  refine ⟨m', hn, fun h'' hs'' => fin D h'' tk ys nw (F'.change hs'' hCL hC₀) (fun p hp => ?_) o1 hl hj⟩
  refine ⟨hs''.extBut _ _ ?_ (N' p hp).1, (N' p hp).2⟩
  rcases List.mem_cons.mp hp with rfl | hp
  · exact Ne.symm hCD
  · exact offC p hp
theorem enum_src {elt : Expr} {x x₂ : Str} {scope : Scope} {cl : List (Str × Addr)} {Q : Value → Shared → Prop} {l : Addr} {lo : Obj} {vs : List Value} {nl : Nat} {news : Led} (J : Nat → List Value → Led → Prop)
    (hh : A.handled = none) (F : Fr h₀ L s.heap m) (N : News h₀ L s.heap news) (hm : (l, lo) ∈ news) (hc : lo.cls = .type "list") (hd : lo.data = .seq vs.toArray nl) (hsz : vs.length ≤ sizeLine)
    (hkeep : ∀ i ys nw, J i ys nw → (l, lo) ∈ nw) (hj : J 0 [] news)
    (turn : ∀ (i : Nat) v t ys nw e oE I oI C oC D m₂ h tk (E' : Value → Shared → Prop), vs[i]? = some v → ys.length = i → J i ys nw → NsObj oC m₂ → m₂ x = some (.int (i : Int) t) → m₂ x₂ = some v → Fr h₀ L h m → News h₀ L h ((e, oE) :: (I, oI) :: (C, oC) :: (D, lst ys) :: nw) →
      (∀ p ∈ nw, p.1 ≠ e ∧ p.1 ≠ I ∧ p.1 ≠ C ∧ p.1 ≠ D) → wpAny (model prog w) A (eval elt (compEnvC scope cl C env)) (EnEnd h₀ L m { s with heap := h, toks := tk } e oE I oI C oC D (lst ys) (fun y nw' => J (i + 1) (ys ++ [y]) nw')) E' { s with heap := h, toks := tk })
    (fin : ∀ D h tk ys nw, Fr h₀ L h m → News h₀ L h ((D, lst ys) :: nw) → (∀ p ∈ nw, p.1 ≠ D) → ys.length = vs.length → J vs.length ys nw → Q (.ref D) { s with heap := h, toks := tk }) :
    wpAny (model prog w) A (call (.type "enumerate") [.ref l]) (SrcE prog w A h₀ L m env elt x x₂ scope cl Q) E s := by
  have hax := N _ hm
  have hl : s.heap.IsList l vs.toArray := ⟨lo, hax.1, hc, nl, hd⟩
  have hlt : l < s.heap.objs.size := Heap.lt_size hax.1
  have hLs : L < s.heap.objs.size := F.ns.lt
  refine call_enumerate_list hl fun h' hE hI hsz' hk => ?_
  refine ⟨s.heap.objs.size + 1, s.heap.objs.size, l, lo, vs, nl, news, J, rfl, hh, hc, hd, hkeep, hsz, Nat.succ_ne_self _, ktu_ne 1 hlt, Nat.ne_of_lt hlt, ⟨⟨.none, hE⟩, hI, hl.at fun o e => hk l o e⟩, F.keeps hk, N.grown hk, ktu_ne 1 hLs, Nat.ne_of_lt hLs, ktu_new F (Nat.le_add_right _ _), ktu_new F (Nat.le_refl _), fun p hp => ?_, hj, ?_, ?_⟩
  · have hlp := Heap.lt_size (N p hp).1
    exact ⟨ktu_ne 1 hlp, Nat.ne_of_lt hlp⟩
  · intro i v t ys nw oE oI C oC D m₂ h tk E' a b c d e f F' N' o
    exact turn i v t ys nw _ oE _ oI C oC D m₂ h tk E' a b c d e f F' N' o
  · exact fin
end
theorem en_end {g h : Heap} {L e I C D d : Addr} {oE oI oC oD od : Obj} {t1 nw : Led} (N : News g L h (t1 ++ (d, od) :: (e, oE) :: (I, oI) :: (C, oC) :: (D, oD) :: nw)) (A1 : Abv t1 ((d, od) :: (e, oE) :: (I, oI) :: (C, oC) :: (D, oD) :: nw)) (hd : ∀ p ∈ (e, oE) :: (I, oI) :: (C, oC) :: (D, oD) :: nw, p.1 < d) (off : ∀ p ∈ nw, p.1 ≠ e ∧ p.1 ≠ I ∧ p.1 ≠ C ∧ p.1 ≠ D) :
    News g L h ((e, oE) :: (I, oI) :: (C, oC) :: (D, oD) :: ((t1 ++ [(d, od)]) ++ nw)) ∧ (∀ p ∈ (t1 ++ [(d, od)]) ++ nw, p.1 ≠ e ∧ p.1 ≠ I ∧ p.1 ≠ C ∧ p.1 ≠ D) ∧ Abv (t1 ++ [(d, od)]) nw := by
  have a2 : Abv (t1 ++ [(d, od)]) ((e, oE) :: (I, oI) :: (C, oC) :: (D, oD) :: nw) := by
    intro q hq p hp
    rcases List.mem_append.mp hp with h | h
    · exact A1 q (.tail _ hq) p h
    · rw [List.mem_singleton.mp h]
      exact Nat.ne_of_lt (hd q hq)
  refine ⟨?_, ?_, fun q hq p hp => a2 q (.tail _ (.tail _ (.tail _ (.tail _ hq)))) p hp⟩
  · refine News.sub N fun p hp => ?_
    simp only [List.mem_append, List.mem_cons, List.not_mem_nil, or_false] at hp ⊢
    rcases hp with h | h | h | h | (h | h) | h <;> simp [h]
  · intro p hp
    rcases List.mem_append.mp hp with h | h
    · exact ⟨(a2 (e, oE) (.head _) p h).symm, (a2 (I, oI) (.tail _ (.head _)) p h).symm, (a2 (C, oC) (.tail _ (.tail _ (.head _))) p h).symm, (a2 (D, oD) (.tail _ (.tail _ (.tail _ (.head _)))) p h).symm⟩
    · exact off p h
/-- qderive -/
def qdL (qs : List Rat) : List Rat := (List.range qs.length).map fun i => qs.getD i 0 * ((i : Int) : Rat)
def qdF (qs : List Rat) : List Rat := (qdL qs).drop 1
section
variable {w : World} {p : Program} {loose : List Str} {mean : ExcName → Option Value} {mg mb : Str → Option Value}
theorem qderive_does {a1 : Addr} {qs : List Rat} {news : Led} (r1 : LstAt w news a1 qs) (ok : ∀ i, i < qs.length → Tiny (qs.getD i 0)) :
    Does w p loose mean mg mb 4 100 182 [.ref a1] news (fun tl r => ∃ l, r = .ref l ∧ LstAt w (tl ++ news) l (qdF qs) ∧ ∀ q ∈ news, q.1 ≠ l) := by
  refine does_of (dep := 3) (uns := 97) [(Str.ofString "p", .ref a1)] (by k_is) (by k_is) (fun s => BindsTo.of_eq rfl) (locs rfl) rfl rfl rfl (by decide) ?_
  unfold Runs
  intro dp un gd outer A₀ base g L s Q E B F X N T hd hu hE hret
  k_fold
  have hl := r1.le
  k_unmd
  k_extra "st"
  unfold Stop
  refine ListComp_E (F₀ := by assumption) (by with_unfolding_all rfl) (by decide) (by rfl) (by decide) (by rfl) (by rfl) (by decide) ?_
  (try k_fold)
  k_extra "st"
  unfold Stop
  rename News _ _ _ _ => N1
  rename Fr _ _ _ _ => F1
  refine ex2 (r1) fun as₀ ka hCo => and4 hCo fun ha1 ha2 ha3 ha4 => ?_
  clear hCo
  refine enum_src (vs := as₀.map Value.ref) (fun i ys nw => ∃ (tl : Led) (as : List Addr), nw = tl ++ news ∧ Abv tl news ∧ ys = as.map Value.ref ∧ ∀ (j : Nat) (a : Addr), as[j]? = some a → TupAt w tl a (qs.getD j 0 * ((j : Int) : Rat)))
    rfl F1 N1 ha1 rfl rfl (by rw [sizeLine_eq, List.length_map]; omega) (fun i ys nw ⟨tl, as, e, _⟩ => e ▸ List.mem_append_right _ ha1) ⟨[], [], rfl, Abv.nil, rfl, fun j a h => by simp at h⟩ ?_ ?_
  · rintro i v t ys nw e oE I oI C oC D m₂ h tk E' hv hlen hJ86 hC hx hx2 F₂ N₂ off
    refine hideQ fun Z1 hZ1 => ?_
    refine ex2 hJ86 fun tl as hC89 => and4 hC89 fun hE87 ha hE88 hit => ?_
    clear hJ86
    clear hC89
    subst hE87
    subst hE88
    clear F1 N1
    refine ex1 (getD_of ha2 ha4 hv) fun a hCo => and3 hCo fun hO3 hi ta => ?_
    clear hCo
    subst hO3
    have oki := ok i hi
    have ti : Tiny ((i : Int) : Rat) := tiny_int (by first | exact nat64s (by assumption) (by assumption) | exact nat64 (Nat.le_trans (Nat.le_of_lt (by assumption)) (by assumption)) | omega)
    rw [List.length_map] at hlen
    k_unmd
    (try k_fold)
    k_extra "st"
    rename TupAt _ _ _ (_ * _ : Rat) => R3
    rename Fr _ _ _ _ => F3
    rename News _ _ _ _ => N3
    rename Abv _ ((_, _) :: _) => A3
    refine and3 (en_end N3 A3 (by first | assumption | exact ktn_ltOf (by assumption)) off) fun n1 n2 n3 => ?_
    refine hZ1 _ _ ?_
    refine ⟨_, _, _, rfl, F3, n1, n2, _, as ++ [_], (List.append_assoc _ _ _).symm, n3.app ha, by rw [List.map_append]; rfl, fun j a hj => ?_⟩
    exact items_snoc (P := fun j a => TupAt w _ a (qs.getD j 0 * ((j : Int) : Rat))) (fun j a h => (hit j a h).mono fun _ h => List.mem_append_right _ h) (by rw [hlen]; exact R3.mono fun _ h => List.mem_append_left _ (List.mem_append_left _ h)) j a hj
  · rintro D h tk ys nw F₂ N₂ off hlen hJ90
    refine ex2 hJ90 fun tl as hC93 => and4 hC93 fun hE91 ha hE92 hit => ?_
    clear hJ90
    clear hC93
    subst hE91
    subst hE92
    clear F1 N1
    rw [List.length_map, List.length_map, ha2] at hlen
    have R4 : LstAt w ((D, LCg.lst (as.map Value.ref)) :: (tl ++ news)) D (qdL qs) := lst_range (k := (as.map Value.ref).length) (.head _) hlen (by omega) fun j a hj => (hit j a hj).mono fun p hp => .tail _ (List.mem_append_left _ hp)
    have x4 : Ext ((D, LCg.lst (as.map Value.ref)) :: (tl ++ news)) news := (Ext.of_abv ha).cons' off
    replace F₂ : Fr g L h _ := F₂
    k_unmd
    k_extra "st"
    rename LstAt _ _ _ (List.drop _ _) => R5
    rename News _ _ _ _ => N5
    rename Fr _ _ _ _ => F5
    rename (∀ q ∈ (_ : Led), q.1 < (_ : Addr)) => lt5
    refine ex1 (fin_lst (news := news) N5 (x4.cons lt5) R5 (fun q hq => Nat.ne_of_lt (lt5 q (.tail _ (List.mem_append_right _ hq))))) fun tl2 hCo => and4 hCo fun n1 n2 n3 n4 => ?_
    clear hCo
    exact hret _ tl2 _ _ _ F5 n1 n2 ⟨_, rfl, n3, n4⟩
end
end
section
theorem rulesM21a : True := by
  k_with_none
  k_with "st" => (repeat' (first | (k_unfold; (try dsimp only)) | ((try dsimp only); walk1)))
  k_with "ktr_rel" => first | exact fun _ h => h | exact List.forall_mem_nil _ | exact fun _ h => List.mem_append_right _ h | exact fun _ h => List.mem_cons_of_mem _ h | (refine sub_app ?_; ktr_rel; done) | (refine sub_cons ?_; ktr_rel; done) | (intro p hp; simp only [List.mem_append, List.mem_cons, hp, true_or, or_true])
  k_with "exec While Compare cons nil" => refine stopHere ?_
  k_with "subscriptTail Name Constant ref int" => (k_here; k_dflt (first
      | ((fail_if_success fail_if_success (with_reducible show wpAny _ _ (subscriptTail _ _ (Value.ref _) (Value.int 0 _)) _ _ _)); refine' rat_item0 (by assumption) (by assumption) (by assumption) (by assumption) (by ktr_rel) ?_ ?_; rotate_left; (with_unfolding_all rfl); intro t'q)
      | ((fail_if_success fail_if_success (with_reducible show wpAny _ _ (subscriptTail _ _ (Value.ref _) (Value.int 1 _)) _ _ _)); refine' rat_item1 (by assumption) (by assumption) (by assumption) (by assumption) (by ktr_rel) ?_ ?_; rotate_left; (with_unfolding_all rfl); intro t'q)
      | ((fail_if_success fail_if_success (with_reducible show wpAny _ _ (subscriptTail _ _ (Value.ref _) (Value.int _ _)) _ _ _)); refine' lst_item (by assumption) (by assumption) (by ktr_rel) (by first | exact Int.natCast_nonneg _ | omega) (by first | assumption | omega) ?_ ?_; rotate_left; (with_unfolding_all rfl); intro a'q R'q)))
  k_with "subscriptTail Name Name ref int" => (k_here; k_dflt ((fail_if_success fail_if_success (with_reducible show wpAny _ _ (subscriptTail _ _ (Value.ref _) (Value.int _ _)) _ _ _)); refine' lst_item (by assumption) (by assumption) (by ktr_rel) (by first | exact Int.natCast_nonneg _ | omega) (by first | assumption | omega) ?_ ?_; rotate_left; (with_unfolding_all rfl); intro a'q R'q))
  k_with "subscriptTail Name BinOp ref int" => (k_here; k_dflt ((fail_if_success fail_if_success (with_reducible show wpAny _ _ (subscriptTail _ _ (Value.ref _) (Value.int _ _)) _ _ _)); refine' lst_item (by assumption) (by assumption) (by ktr_rel) (by first | exact Int.natCast_nonneg _ | omega) (by first | assumption | omega) ?_ ?_; rotate_left; (with_unfolding_all rfl); intro a'q R'q))
  k_with "call builtin:len" => (k_here; (fail_if_success fail_if_success (with_reducible show wpAny _ _ (call (Value.builtin "len") [Value.ref _]) _ _ _)); k_dflt (refine' lst_len (by assumption) (by assumption) (by ktr_rel) ?_))
  k_with "compareOp NotEq ref ref" => (k_here; (fail_if_success fail_if_success (with_reducible show wpAny _ _ (compareOp CmpOp.NotEq (Value.ref _) (Value.ref _)) _ _ _)); k_dflt (first
      | (refine' tup_ne (by assumption) (by first | assumption | exact tup49 (T := [])) (by assumption) (by assumption) (by assumption) (by ktr_rel) (by ktr_rel) (by first | exact room (by assumption) (by decide) | ((try dsimp only); first | exact room (by assumption) (by decide) | omega)) ?_)
      | (refine' lst_ne (by assumption) (by assumption) (by assumption) (by assumption) (by assumption) (by ktr_rel) (by ktr_rel) (by first | exact room (by assumption) (by decide) | ((try dsimp only); first | exact room (by assumption) (by decide) | omega)) ?_)))
  k_with "compareOp Eq ref ref" => (k_here; (fail_if_success fail_if_success (with_reducible show wpAny _ _ (compareOp CmpOp.Eq (Value.ref _) (Value.ref _)) _ _ _)); k_dflt (first
      | (refine' tup_eq (by assumption) (by first | assumption | exact tup49 (T := [])) (by assumption) (by assumption) (by assumption) (by ktr_rel) (by ktr_rel) (by first | exact room (by assumption) (by decide) | ((try dsimp only); first | exact room (by assumption) (by decide) | omega)) ?_)
      | (refine' lst_eq (by assumption) (by assumption) (by assumption) (by assumption) (by assumption) (by ktr_rel) (by ktr_rel) (by first | exact room (by assumption) (by decide) | ((try dsimp only); first | exact room (by assumption) (by decide) | omega)) ?_)))
  k_with "call ref" => (k_here; (fail_if_success fail_if_success (with_reducible show wpAny _ _ (call (Value.ref 64) _) _ _ _)); k_dflt (refine' call_radd (by assumption) (by assumption) (by assumption) (by assumption) (by assumption) (by exact rfl) (by first | exact room (by assumption) (by decide) | omega) (by first | exact room (by assumption) (by decide) | omega) (by first | assumption | exact tup49 (T := []) | exact tup50 (T := []) | exact tup_int (by assumption)) (by ktr_rel) (by first | assumption | exact tup49 (T := []) | exact tup50 (T := []) | exact tup_int (by assumption)) (by ktr_rel) (by assumption) (by assumption) ?_); (intro a'q tl'q h'q tk'q F'q N'q A'q R'q); (try k_sweep))
  k_with "call ref" => (k_here; (fail_if_success fail_if_success (with_reducible show wpAny _ _ (call (Value.ref 71) _) _ _ _)); k_dflt (refine' call_rsub (by assumption) (by assumption) (by assumption) (by assumption) (by assumption) (by exact rfl) (by first | exact room (by assumption) (by decide) | omega) (by first | exact room (by assumption) (by decide) | omega) (by first | assumption | exact tup49 (T := []) | exact tup50 (T := []) | exact tup_int (by assumption)) (by ktr_rel) (by first | assumption | exact tup49 (T := []) | exact tup50 (T := []) | exact tup_int (by assumption)) (by ktr_rel) (by assumption) (by assumption) ?_); (intro a'q tl'q h'q tk'q F'q N'q A'q R'q); (try k_sweep))
  k_with "call ref" => (k_here; (fail_if_success fail_if_success (with_reducible show wpAny _ _ (call (Value.ref 78) _) _ _ _)); k_dflt (refine' call_rmul (by assumption) (by assumption) (by assumption) (by assumption) (by assumption) (by exact rfl) (by first | exact room (by assumption) (by decide) | omega) (by first | exact room (by assumption) (by decide) | omega) (by first | assumption | exact tup49 (T := []) | exact tup50 (T := []) | exact tup_int (by assumption)) (by ktr_rel) (by first | assumption | exact tup49 (T := []) | exact tup50 (T := []) | exact tup_int (by assumption)) (by ktr_rel) (by assumption) (by assumption) ?_); (intro a'q tl'q h'q tk'q F'q N'q A'q R'q); (try k_sweep))
  k_with "call ref" => (k_here; (fail_if_success fail_if_success (with_reducible show wpAny _ _ (call (Value.ref 85) _) _ _ _)); k_dflt (refine' call_rdiv (by assumption) (by assumption) (by assumption) (by assumption) (by assumption) (by exact rfl) (by first | exact room (by assumption) (by decide) | omega) (by first | exact room (by assumption) (by decide) | omega) (by first | assumption | exact tup49 (T := []) | exact tup50 (T := []) | exact tup_int (by assumption)) (by ktr_rel) (by first | assumption | exact tup49 (T := []) | exact tup50 (T := []) | exact tup_int (by assumption)) (by ktr_rel) (by assumption) (by assumption) (by assumption) ?_); (intro a'q tl'q h'q tk'q F'q N'q A'q R'q); (try k_sweep))
  k_with "call ref" => (k_here; (fail_if_success fail_if_success (with_reducible show wpAny _ _ (call (Value.ref 113) _) _ _ _)); k_dflt (refine' call_let (by assumption) (by assumption) (by assumption) (by assumption) (by assumption) (by exact rfl) (by first | exact room (by assumption) (by decide) | omega) (by first | exact room (by assumption) (by decide) | omega) (by assumption) (by ktr_rel) (by assumption) ?_); (intro h'q tk'q F'q N'q); (try k_sweep))
  k_with "exec For Name Call cons nil" => (k_here; (rename Fr _ _ _ _ => lF'q); (with_unfolding_all refine' For_invVF lF'q (by exact rfl) (by exact rfl) ?_; k_whole))
  k_with "pyIter ref" => refine stopHere ?_
  k_with "eval ListComp" => refine stopHere ?_
  k_with "CompSrc" => refine stopHere ?_
  k_with "lcg_sub" => first
      | exact List.Mem.head _
      | (refine List.Mem.tail _ ?_; lcg_sub)
      | (refine List.mem_append_right _ ?_; lcg_sub)
  k_with "eval Name" => (k_here; (fail_if_success fail_if_success (with_reducible show wpAny _ _ (eval (Expr.Name _ _) (compEnvC _ _ _ _)) _ _ _)); k_dflt (first
      | (refine' lcf_cell (by assumption) (by exact rfl) (by lcg_sub) (by assumption) ?_ rfl rfl)
      | (refine' LCgL.ld_own (by assumption) ?_ (by assumption) (by assumption) ?_ rfl rfl (by decide); lcg_sub)
      | (refine' LCgL.ld_global (by assumption) (by assumption) (by assumption) (by k_is) ?_ rfl rfl rfl (by decide))))
  k_with "subscriptTail Name Slice ref ref" => (k_here; k_dflt (first
      | (refine' lst_upto (by assumption) ?_ (by assumption) (by assumption) (by first | assumption | omega) ?_ (by with_unfolding_all rfl); ktr_rel)
      | (refine' lst_from (by assumption) ?_ (by assumption) (by assumption) (by first | assumption | omega) ?_ (by with_unfolding_all rfl); ktr_rel)); intro D'q o'q h'q F'q N'q R'q l1'q; (try k_sweep))
  k_with "subscriptTail ListComp Slice ref ref" => (k_here; k_dflt (first
      | (refine' lst_from (by assumption) ?_ (by assumption) (by assumption) (by first | assumption | omega) ?_ (by with_unfolding_all rfl); ktr_rel)); intro D'q o'q h'q F'q N'q R'q l1'q; (try k_sweep))
  k_with "call type:list" => (k_here; (fail_if_success fail_if_success (with_reducible show wpAny _ _ (call (Value.type "list") [Value.ref _]) _ _ _)); k_dflt (refine' lst_copy (by assumption) ?_ (by assumption) (by assumption) ?_; ktr_rel); intro D'q o'q h'q F'q N'q R'q l1'q; (try k_sweep))
  k_with "binaryOp Mult ref int" => (k_here; (fail_if_success fail_if_success (with_reducible show wpAny _ _ (binaryOp _ (Value.ref _) (Value.int _ _)) _ _ _)); k_dflt (refine' lst_mul1 (by assumption) ?_ (by assumption) (by assumption) (by first | omega | (simp only [List.length_nil, List.length_cons]; omega)) (by first | omega | (simp only [List.length_nil, List.length_cons]; omega)) ?_; ktr_rel); intro D'q o'q h'q F'q N'q R'q l1'q; (try k_sweep))
  k_with "binaryOp Add ref ref" => (k_here; (fail_if_success fail_if_success (with_reducible show wpAny _ _ (binaryOp _ (Value.ref _) (Value.ref _)) _ _ _)); k_dflt (refine' lst_add (by assumption) ?_ (by assumption) ?_ (by assumption) (by assumption) (by ((try simp only [List.length_take, List.length_drop, List.length_replicate, List.length_cons, List.length_nil]); omega)) ?_; ktr_rel; ktr_rel); intro D'q o'q h'q F'q N'q R'q l1'q; (try k_sweep))
  k_with "newList" => (k_here; k_dflt (first
      | ((fail_if_success fail_if_success (with_reducible show wpAny _ _ (newList []) _ _ _)); refine' newlst0 (w := _) (by assumption) (by assumption) ?_)
      | ((fail_if_success fail_if_success (with_reducible show wpAny _ _ (newList [Value.ref _]) _ _ _)); refine' newlst1 (by first | assumption | exact tup49 (T := []) | exact tup50 (T := [])) ?_ (by assumption) (by assumption) ?_; ktr_rel)
      | ((fail_if_success fail_if_success (with_reducible show wpAny _ _ (newList [Value.ref _, Value.ref _]) _ _ _)); refine' newlst2 (by first | assumption | exact tup49 (T := []) | exact tup50 (T := [])) ?_ (by first | assumption | exact tup49 (T := []) | exact tup50 (T := [])) ?_ (by assumption) (by assumption) ?_; ktr_rel; ktr_rel)); intro D'q o'q h'q F'q N'q R'q l1'q; (try k_sweep))
  k_with "getMethod ref" => (k_here; (fail_if_success fail_if_success (with_reducible show wpAny _ _ (getMethod (Value.ref _) (Str.ofString "append") _) _ _ _)); k_dflt (refine' lst_getAppend (by assumption) ?_ (by assumption) ?_; ktr_rel))
  k_with "call builtin:list.append" => refine stopHere ?_
  k_with "setItem ref int ref" => refine stopHere ?_
  k_with "lcg_off" => first | exact Ext.refl | (refine Ext.cons ?_ (by assumption); lcg_off) | (refine Ext.cons ?_ (ktn_ltOf (by assumption)); lcg_off) | (refine Ext.app ?_ (by assumption); lcg_off) | assumption
  k_with "exec While BoolOp cons nil" => refine stopHere ?_
  k_with "subscriptTail Subscript Constant ref int" => (k_here; k_dflt ((fail_if_success fail_if_success (with_reducible show wpAny _ _ (subscriptTail _ _ (Value.ref _) (Value.int 0 _)) _ _ _)); refine' rat_item0 (by assumption) (by assumption) (by assumption) (by assumption) (by ktr_rel) ?_ ?_; rotate_left; (with_unfolding_all rfl); intro t'q))
  k_with "call ref" => (k_here; (fail_if_success fail_if_success (with_reducible show wpAny _ _ (call (Value.ref 165) _) _ _ _)); k_dflt (refine' call_qtrim (by assumption) (by assumption) (by assumption) (by assumption) (by assumption) (by exact rfl) (by first | exact room (by assumption) (by decide) | omega) (by first | exact room (by assumption) (by decide) | omega) (by assumption) (by ktr_rel) ?_); (intro a'q tl'q h'q tk'q F'q N'q A'q R'q Fh'q); (try k_sweep))
  k_with "exec For Tuple Call cons nil" => (k_here; (rename Fr _ _ _ _ => lF'q); (with_unfolding_all refine' For_turns lF'q ?_; k_whole))
  k_with "call type:enumerate" => refine stopHere ?_
  k_with "call type:reversed" => refine stopHere ?_
  exact True.intro
section
variable {prog : Program} {w : World} {A : Around} {E : Value → Shared → Prop} {s : Shared} {env : Env} {h₀ : Heap} {x : Str} {body : List Stmt} {Q : Flow → Shared → Prop}
theorem rev_items {l : Addr} {lo : Obj} {I : Addr} (J : Nat → (Str → Option Value) → Led → Prop) (vs : List Value)
    (hkeep : ∀ i m nw, J i m nw → (l, lo) ∈ nw)
    (turn : ∀ (i : Nat) v m₁ nw h tk oI, vs[i]? = some v → J i m₁ nw → (∀ p ∈ nw, p.1 ≠ I) → oI.cls = .type "list_reverseiterator" → Fr h₀ env.locals h (fun y => if y = x then some v else m₁ y) → News h₀ env.locals h ((I, oI) :: nw) →
      wpAny (model prog w) A (execs body env) (GrowPost h₀ env.locals (J (i + 1)) I oI { s with heap := h, toks := tk } Q) E { s with heap := h, toks := tk })
    (done : ∀ m₁ nw h tk, J vs.length m₁ nw → Fr h₀ env.locals h m₁ → News h₀ env.locals h nw → Q .next { s with heap := h, toks := tk }) :
    ∀ (r : List Value) (i : Nat) m₁ nw, vs.drop i = r → i ≤ vs.length → J i m₁ nw → (∀ p ∈ nw, p.1 ≠ I) →
      RevRest prog w A E h₀ env x body Q s I (l, lo) r m₁ nw
  | [], i, m₁, nw, e, hi, hj, _ => by
    have hl := congrArg List.length e
    rw [List.length_drop] at hl
    have : i = vs.length := Nat.le_antisymm hi (Nat.le_of_sub_eq_zero hl)
    subst this
    exact RevRest.zero fun h tk F N => done m₁ nw h tk hj F N
  | v :: r, i, m₁, nw, e, hi, hj, ho => by
    have hl := congrArg List.length e
    rw [List.length_drop, List.length_cons] at hl
    have hv : vs[i]? = some v := by
      have := congrArg (fun l => l[0]?) e
      simpa using this
    refine RevRest.succ fun it h tk hc F N => ?_
    refine wpAny_mono (turn i v m₁ nw h tk it hv hj ho hc F N) (fun f s₃ p => ?_) fun _ _ e => e
    have fin : GrowEnd h₀ env.locals (J (i + 1)) I it { s with heap := h, toks := tk } s₃ →
        UnrEnd h₀ env.locals { s with heap := h, toks := tk } I it (fun m' n' => (l, lo) ∈ n' ∧ RevRest prog w A E h₀ env x body Q s I (l, lo) r m' n') s₃ := by
      rintro ⟨h', tk', m', nw', rfl, F', N', ho', hj'⟩
      refine ⟨h', tk', m', nw', rfl, F', N', ho', hkeep _ _ _ hj', ?_⟩
      refine rev_items J vs hkeep turn done r (i + 1) m' nw' ?_ (Nat.lt_of_sub_eq_succ hl) hj' ho'
      rw [← List.drop_drop, e]
      rfl
    cases f with
    | ret v => exact p
    | brk => exact p
    | next => exact fin p
    | cont => exact fin p
theorem off_lt {I : Addr} {it : Obj} : ∀ {nw : Led}, (∀ p ∈ nw, p.1 < I) → OffI I it nw
  | [], _ => trivial
  | p :: r, h => ⟨.inl (Nat.ne_of_lt (h p (.head _))), off_lt fun q hq => h q (.tail _ hq)⟩
theorem rev_grow {l : Addr} {lo : Obj} {vs : List Value} {n : Nat} {I : Addr} {m₀ : Str → Option Value} {news : Led} (J : Nat → (Str → Option Value) → Led → Prop)
    (hh : A.handled = none) (F : Fr h₀ env.locals s.heap m₀) (N : News h₀ env.locals s.heap ((I, revObj l ((vs.length : Int) - 1)) :: news)) (hlt : ∀ p ∈ news, p.1 < I) (hm : (l, lo) ∈ news) (hc : lo.cls = .type "list") (hd : lo.data = .seq vs.toArray n)
    (hkeep : ∀ i m nw, J i m nw → (l, lo) ∈ nw) (hj : J 0 m₀ news)
    (turn : ∀ (i : Nat) v m₁ nw h tk oI, vs.reverse[i]? = some v → J i m₁ nw → (∀ p ∈ nw, p.1 ≠ I) → oI.cls = .type "list_reverseiterator" → Fr h₀ env.locals h (fun y => if y = x then some v else m₁ y) → News h₀ env.locals h ((I, oI) :: nw) →
      wpAny (model prog w) A (execs body env) (GrowPost h₀ env.locals (J (i + 1)) I oI { s with heap := h, toks := tk } Q) E { s with heap := h, toks := tk })
    (done : ∀ m₁ nw h tk, J vs.length m₁ nw → Fr h₀ env.locals h m₁ → News h₀ env.locals h nw → Q .next { s with heap := h, toks := tk }) :
    wpAny (model prog w) A (pyIter (.ref I)) (fun it s₂ => LoopAtV prog w A h₀ env x body Q E it s₂) E s :=
  iter_revUnr hh F N (off_lt hlt) hm hc hd (rev_items J vs.reverse hkeep turn (fun m₁ nw h tk hj => done m₁ nw h tk (by rw [List.length_reverse] at hj; exact hj)) vs.reverse 0 m₀ news rfl (Nat.zero_le _) hj fun p hp => Nat.ne_of_lt (hlt p hp))
theorem turn_endR {g h : Heap} {L I : Addr} {T : Led} {oI : Obj} {news : Led} (N : News g L h T) (hI : (I, oI) ∈ T) (hc : oI.cls = .type "list_reverseiterator") (x : Ext T news) (hn : ∀ q ∈ news, q.1 ≠ I) :
    ∃ nw, News g L h ((I, oI) :: nw) ∧ (∀ p ∈ nw, p.1 ≠ I) ∧ Ext nw news ∧ (∀ a q, TupAt w T a q → TupAt w nw a q) ∧ (∀ l qs, LstAt w T l qs → LstAt w nw l qs) := by
  refine ⟨dropL I T, News.sub N fun p hp => ?_, fun p hp => (mem_dropL.mp hp).2, x.drop hn, fun a q y => y.drop N hI (by rw [hc]; simp), fun l qs y => y.drop' N hI (by rw [hc]; simp) (by rw [hc]; simp)⟩
  rcases List.mem_cons.mp hp with rfl | hp
  · exact hI
  · exact (mem_dropL.mp hp).1
end
/-- qcompose's turns -/
def qcS (qs rs : List Rat) : Nat → List Rat
  | 0 => []
  | i + 1 => addF (mulF (qcS qs rs i) rs) (trimF [qs.getD (qs.length - 1 - i) 0])
def qcF (qs rs : List Rat) : List Rat := qcS qs rs qs.length
def AddOk (qs rs : List Rat) : Prop := ∀ i, i < max qs.length rs.length → Tiny (qs.getD i 0) ∧ Tiny (rs.getD i 0)
def QcOk (qs rs : List Rat) : Prop := ∀ i, i < qs.length → (qcS qs rs i).length + rs.length ≤ 1000 ∧ MulOk (qcS qs rs i) rs ∧ AddOk (mulF (qcS qs rs i) rs) (trimF [qs.getD (qs.length - 1 - i) 0])
theorem rev_of {qs : List Rat} {as : List Addr} {w : World} {T : Led} {i : Nat} {v : Value} (hl : as.length = qs.length) (h4 : ∀ (i : Nat) a q, as[i]? = some a → qs[i]? = some q → TupAt w T a q) (h : (as.map Value.ref).reverse[i]? = some v) : ∃ a, v = .ref a ∧ i < qs.length ∧ TupAt w T a (qs.getD (qs.length - 1 - i) 0) := by
  have hi : i < qs.length := by
    have := (List.getElem?_eq_some_iff.mp h).1
    simpa [hl] using this
  rw [List.getElem?_reverse (by simp; omega), List.length_map, hl] at h
  refine ex1 (getD_of hl h4 h) fun a hCo => and3 hCo fun e _ ta => ?_
  clear hCo
  exact ⟨a, e, hi, ta⟩
section
variable {w : World} {p : Program} {loose : List Str} {mean : ExcName → Option Value} {mg mb : Str → Option Value}
theorem call_qmul {dp un : Nat} {gd : Option (List Code)} {cn : Str} {cs : Scope} {a : Addr} {ccd : Value} {cl : List (Str × Addr)} {outer : List Env} {A₀ : Around} {base h₀ : Heap} {L : Addr} {m : Str → Option Value} {s : Shared} {Q E : Value → Shared → Prop} {news : Led} {a1 b1 : Addr} {qs rs : List Rat} {T1 T2 : Led}
    (F : Fr h₀ L s.heap m) (N : News h₀ L s.heap news) (B : Below A₀ base outer h₀) (X : (Mine.hd.heap_39 w.params).In h₀) (T : Top p loose mean mg mb h₀) (hk : cs.kind = .function) (hd : dp + 4 < recursionLimit) (hu : un + 130 < cLine) (r1 : LstAt w T1 a1 qs) (s1 : ∀ p ∈ T1, p ∈ news) (r2 : LstAt w T2 b1 rs) (s2 : ∀ p ∈ T2, p ∈ news) (hle : qs.length + rs.length ≤ 1000) (ok : MulOk qs rs)
    (ret : ∀ a' tl h' tk', Fr h₀ L h' m → News h₀ L h' (tl ++ news) → Abv tl news → LstAt w (tl ++ news) a' (mulF qs rs) → (∀ q ∈ news, q.1 ≠ a') → Q (.ref a') { s with heap := h', toks := tk' }) :
    wpAny (model PySem.Challenge.rw_sa0095_01.row.prog w) (ktrTop dp un gd cn cs L a ccd cl outer) (call (.ref 177) [.ref a1, .ref b1]) Q E s :=
  does_use F N (qmul_does (r1.mono s1) (r2.mono s2) hle ok) B X T hk hd hu fun r tl h' tk' F' N' A' ⟨a', e, h, hf⟩ => by
    subst e
    exact ret a' tl h' tk' F' N' A' h hf
theorem call_qadd {dp un : Nat} {gd : Option (List Code)} {cn : Str} {cs : Scope} {a : Addr} {ccd : Value} {cl : List (Str × Addr)} {outer : List Env} {A₀ : Around} {base h₀ : Heap} {L : Addr} {m : Str → Option Value} {s : Shared} {Q E : Value → Shared → Prop} {news : Led} {a1 b1 : Addr} {qs rs : List Rat} {T1 T2 : Led}
    (F : Fr h₀ L s.heap m) (N : News h₀ L s.heap news) (B : Below A₀ base outer h₀) (X : (Mine.hd.heap_39 w.params).In h₀) (T : Top p loose mean mg mb h₀) (hk : cs.kind = .function) (hd : dp + 4 < recursionLimit) (hu : un + 120 < cLine) (r1 : LstAt w T1 a1 qs) (s1 : ∀ p ∈ T1, p ∈ news) (r2 : LstAt w T2 b1 rs) (s2 : ∀ p ∈ T2, p ∈ news) (ok : AddOk qs rs)
    (ret : ∀ a' tl h' tk', Fr h₀ L h' m → News h₀ L h' (tl ++ news) → Abv tl news → LstAt w (tl ++ news) a' (addF qs rs) → (∀ q ∈ news, q.1 ≠ a') → Q (.ref a') { s with heap := h', toks := tk' }) :
    wpAny (model PySem.Challenge.rw_sa0095_01.row.prog w) (ktrTop dp un gd cn cs L a ccd cl outer) (call (.ref 170) [.ref a1, .ref b1]) Q E s :=
  does_use F N (qadd_does (r1.mono s1) (r2.mono s2) ok) B X T hk hd hu fun r tl h' tk' F' N' A' ⟨a', e, h, hf⟩ => by
    subst e
    exact ret a' tl h' tk' F' N' A' h hf
theorem rulesM21b : True := by
  k_with "call ref" => (k_here; (fail_if_success fail_if_success (with_reducible show wpAny _ _ (call (Value.ref 177) _) _ _ _)); k_dflt (refine' call_qmul (by assumption) (by assumption) (by assumption) (by assumption) (by assumption) (by exact rfl) (by first | exact room (by assumption) (by decide) | omega) (by first | exact room (by assumption) (by decide) | omega) (by assumption) (by ktr_rel) (by assumption) (by ktr_rel) (by assumption) (by assumption) ?_); (intro a'q tl'q h'q tk'q F'q N'q A'q R'q Fh'q); (try k_sweep))
  k_with "call ref" => (k_here; (fail_if_success fail_if_success (with_reducible show wpAny _ _ (call (Value.ref 170) _) _ _ _)); k_dflt (refine' call_qadd (by assumption) (by assumption) (by assumption) (by assumption) (by assumption) (by exact rfl) (by first | exact room (by assumption) (by decide) | omega) (by first | exact room (by assumption) (by decide) | omega) (by assumption) (by ktr_rel) (by assumption) (by ktr_rel) (by assumption) ?_); (intro a'q tl'q h'q tk'q F'q N'q A'q R'q Fh'q); (try k_sweep))
  exact True.intro
theorem qcompose_does {a1 b1 : Addr} {qs rs : List Rat} {news : Led} (r1 : LstAt w news a1 qs) (r2 : LstAt w news b1 rs) (ok : QcOk qs rs) :
    Does w p loose mean mg mb 5 150 189 [.ref a1, .ref b1] news (fun tl r => ∃ l, r = .ref l ∧ LstAt w (tl ++ news) l (qcF qs rs) ∧ ∀ q ∈ news, q.1 ≠ l) := by
  refine does_of (dep := 4) (uns := 147) [(Str.ofString "a", .ref a1), (Str.ofString "b", .ref b1)] (by k_is) (by k_is) (fun s => BindsTo.of_eq rfl) (locs rfl) rfl rfl rfl (by decide) ?_
  unfold Runs
  intro dp un gd outer A₀ base g L s Q E B F X N T hd hu hE hret
  k_fold
  have hl := r1.le
  k_unmd
  k_extra "st"
  rename News _ _ _ _ => N1
  rename Fr _ _ _ _ => F1
  refine ex2 (r1) fun as ka hCo => and4 hCo fun ha1 ha2 ha3 ha4 => ?_
  clear hCo
  unfold Stop
  refine krv_reversed (vs := as.map Value.ref) F1 N1 ⟨_, (N1 _ (.tail _ ha1)).1, rfl, _, rfl⟩ ?_
  intro D h' F' N' lD
  clear F1 N1
  rename LstAt _ _ _ [] => R0
  rename (∀ q ∈ news, q.1 < (_ : Addr)) => lt0
  k_extra "st"
  unfold Stop
  refine rev_grow (vs := as.map Value.ref) (fun i m₁ nw => Ext nw news ∧ ∃ (fl : Addr), LstAt w nw fl (qcS qs rs i) ∧ (∀ q ∈ news, q.1 ≠ fl) ∧ m₁ (Str.ofString "found") = some (.ref fl) ∧ m₁ (Str.ofString "b") = some (.ref b1))
    rfl F' N' lD (.tail _ ha1) rfl rfl (fun i m₁ nw hj => hj.1.1 _ ha1) ⟨by lcg_off, _, R0, fun q hq => Nat.ne_of_lt (lt0 q hq), rfl, rfl⟩ ?_ ?_
  · rintro i v m₁ nw h tk oI hv hJ94 ho hc F₂ N₂
    refine hideQ fun Z0 hZ0 => ?_
    refine and2 hJ94 fun hx hN95 => ?_
    clear hJ94
    refine ex1 hN95 fun fl hC96 => and4 hC96 fun R1 hf e1 e2 => ?_
    clear hC96
    clear hN95
    clear F' N' R0
    refine ex1 (rev_of ha2 ha4 hv) fun a hCo => and3 hCo fun hO4 hi ta => ?_
    clear hCo
    subst hO4
    have em : fmo [(Str.ofString "found", .ref fl), (Str.ofString "b", .ref b1)] m₁ = m₁ := fmo_known (by simp [e1, e2])
    rw [← em] at F₂
    clear em e1 e2
    refine and3 (ok i hi) fun k1 k2 k3 => ?_
    replace F₂ : Fr g L h _ := F₂
    replace N₂ : News g L h _ := N₂
    have s4 := r2.mono hx.1
    have ta2 := ta.mono hx.1
    k_unmd
    (try k_fold)
    k_extra "st"
    rename LstAt _ _ _ (addF _ _) => R6
    rename News _ _ _ _ => N6
    rename Fr _ _ _ _ => F6
    rename (∀ q ∈ (_ : Led), q.1 ≠ (_ : Addr)) => Fh
    have hxI : Ext ((D, oI) :: nw) news := hx.cons' ho
    refine ex1 (turn_endR (w := w) (I := D) (oI := oI) (news := news) N6 (by simp) hc (by lcg_off) (fun q hq => ho q (hx.1 q hq))) fun nw2 hCo => and5 hCo fun n1 n2 n3 n4 n5 => ?_
    clear hCo
    refine hZ0 _ _ ?_
    exact GrowEnd.intro F6 n1 n2 ⟨n3, _, n5 _ _ (R6.mono (by ktr_rel)), fun q hq => Fh q (by simp [hx.1 q hq]), rfl, rfl⟩
  · rintro m₁ nw h tk hJ97 F₂ N₂
    refine and2 hJ97 fun hx hN98 => ?_
    clear hJ97
    refine ex1 hN98 fun fl hC99 => and4 hC99 fun R1 hf e1 e2 => ?_
    clear hC99
    clear hN98
    clear F' N'
    replace F₂ := fr_known1 e1 F₂
    replace F₂ : Fr g L h _ := F₂
    replace N₂ : News g L h _ := N₂
    rw [List.length_map, ha2] at R1
    (try dsimp only)
    k_extra "st"
    refine ex1 (fin_lst N₂ hx R1 hf) fun tl hCo => and4 hCo fun n1 n2 n3 n4 => ?_
    clear hCo
    exact hret _ tl _ _ _ F₂ n1 n2 ⟨fl, rfl, n3, n4⟩
end
end
section
theorem rulesM22a : True := by
  k_with_none
  k_with "st" => (repeat' (first | (k_unfold; (try dsimp only)) | ((try dsimp only); walk1)))
  k_with "ktr_rel" => first | exact fun _ h => h | exact List.forall_mem_nil _ | exact fun _ h => List.mem_append_right _ h | exact fun _ h => List.mem_cons_of_mem _ h | (refine sub_app ?_; ktr_rel; done) | (refine sub_cons ?_; ktr_rel; done) | (intro p hp; simp only [List.mem_append, List.mem_cons, hp, true_or, or_true])
  k_with "exec While Compare cons nil" => refine stopHere ?_
  k_with "subscriptTail Name Constant ref int" => (k_here; k_dflt (first
      | ((fail_if_success fail_if_success (with_reducible show wpAny _ _ (subscriptTail _ _ (Value.ref _) (Value.int 0 _)) _ _ _)); refine' rat_item0 (by assumption) (by assumption) (by assumption) (by assumption) (by ktr_rel) ?_ ?_; rotate_left; (with_unfolding_all rfl); intro t'q)
      | ((fail_if_success fail_if_success (with_reducible show wpAny _ _ (subscriptTail _ _ (Value.ref _) (Value.int 1 _)) _ _ _)); refine' rat_item1 (by assumption) (by assumption) (by assumption) (by assumption) (by ktr_rel) ?_ ?_; rotate_left; (with_unfolding_all rfl); intro t'q)
      | ((fail_if_success fail_if_success (with_reducible show wpAny _ _ (subscriptTail _ _ (Value.ref _) (Value.int _ _)) _ _ _)); refine' lst_item (by assumption) (by assumption) (by ktr_rel) (by first | exact Int.natCast_nonneg _ | omega) (by first | assumption | omega) ?_ ?_; rotate_left; (with_unfolding_all rfl); intro a'q R'q)))
  k_with "subscriptTail Name Name ref int" => (k_here; k_dflt ((fail_if_success fail_if_success (with_reducible show wpAny _ _ (subscriptTail _ _ (Value.ref _) (Value.int _ _)) _ _ _)); refine' lst_item (by assumption) (by assumption) (by ktr_rel) (by first | exact Int.natCast_nonneg _ | omega) (by first | assumption | omega) ?_ ?_; rotate_left; (with_unfolding_all rfl); intro a'q R'q))
  k_with "subscriptTail Name BinOp ref int" => (k_here; k_dflt ((fail_if_success fail_if_success (with_reducible show wpAny _ _ (subscriptTail _ _ (Value.ref _) (Value.int _ _)) _ _ _)); refine' lst_item (by assumption) (by assumption) (by ktr_rel) (by first | exact Int.natCast_nonneg _ | omega) (by first | assumption | omega) ?_ ?_; rotate_left; (with_unfolding_all rfl); intro a'q R'q))
  k_with "call builtin:len" => (k_here; (fail_if_success fail_if_success (with_reducible show wpAny _ _ (call (Value.builtin "len") [Value.ref _]) _ _ _)); k_dflt (refine' lst_len (by assumption) (by assumption) (by ktr_rel) ?_))
  k_with "compareOp NotEq ref ref" => (k_here; (fail_if_success fail_if_success (with_reducible show wpAny _ _ (compareOp CmpOp.NotEq (Value.ref _) (Value.ref _)) _ _ _)); k_dflt (first
      | (refine' tup_ne (by assumption) (by first | assumption | exact tup49 (T := [])) (by assumption) (by assumption) (by assumption) (by ktr_rel) (by ktr_rel) (by first | exact room (by assumption) (by decide) | ((try dsimp only); first | exact room (by assumption) (by decide) | omega)) ?_)
      | (refine' lst_ne (by assumption) (by assumption) (by assumption) (by assumption) (by assumption) (by ktr_rel) (by ktr_rel) (by first | exact room (by assumption) (by decide) | ((try dsimp only); first | exact room (by assumption) (by decide) | omega)) ?_)))
  k_with "compareOp Eq ref ref" => (k_here; (fail_if_success fail_if_success (with_reducible show wpAny _ _ (compareOp CmpOp.Eq (Value.ref _) (Value.ref _)) _ _ _)); k_dflt (first
      | (refine' tup_eq (by assumption) (by first | assumption | exact tup49 (T := [])) (by assumption) (by assumption) (by assumption) (by ktr_rel) (by ktr_rel) (by first | exact room (by assumption) (by decide) | ((try dsimp only); first | exact room (by assumption) (by decide) | omega)) ?_)
      | (refine' lst_eq (by assumption) (by assumption) (by assumption) (by assumption) (by assumption) (by ktr_rel) (by ktr_rel) (by first | exact room (by assumption) (by decide) | ((try dsimp only); first | exact room (by assumption) (by decide) | omega)) ?_)))
  k_with "call ref" => (k_here; (fail_if_success fail_if_success (with_reducible show wpAny _ _ (call (Value.ref 64) _) _ _ _)); k_dflt (refine' call_radd (by assumption) (by assumption) (by assumption) (by assumption) (by assumption) (by exact rfl) (by first | exact room (by assumption) (by decide) | omega) (by first | exact room (by assumption) (by decide) | omega) (by first | assumption | exact tup49 (T := []) | exact tup50 (T := []) | exact tup_int (by assumption)) (by ktr_rel) (by first | assumption | exact tup49 (T := []) | exact tup50 (T := []) | exact tup_int (by assumption)) (by ktr_rel) (by assumption) (by assumption) ?_); (intro a'q tl'q h'q tk'q F'q N'q A'q R'q); (try k_sweep))
  k_with "call ref" => (k_here; (fail_if_success fail_if_success (with_reducible show wpAny _ _ (call (Value.ref 71) _) _ _ _)); k_dflt (refine' call_rsub (by assumption) (by assumption) (by assumption) (by assumption) (by assumption) (by exact rfl) (by first | exact room (by assumption) (by decide) | omega) (by first | exact room (by assumption) (by decide) | omega) (by first | assumption | exact tup49 (T := []) | exact tup50 (T := []) | exact tup_int (by assumption)) (by ktr_rel) (by first | assumption | exact tup49 (T := []) | exact tup50 (T := []) | exact tup_int (by assumption)) (by ktr_rel) (by assumption) (by assumption) ?_); (intro a'q tl'q h'q tk'q F'q N'q A'q R'q); (try k_sweep))
  k_with "call ref" => (k_here; (fail_if_success fail_if_success (with_reducible show wpAny _ _ (call (Value.ref 78) _) _ _ _)); k_dflt (refine' call_rmul (by assumption) (by assumption) (by assumption) (by assumption) (by assumption) (by exact rfl) (by first | exact room (by assumption) (by decide) | omega) (by first | exact room (by assumption) (by decide) | omega) (by first | assumption | exact tup49 (T := []) | exact tup50 (T := []) | exact tup_int (by assumption)) (by ktr_rel) (by first | assumption | exact tup49 (T := []) | exact tup50 (T := []) | exact tup_int (by assumption)) (by ktr_rel) (by assumption) (by assumption) ?_); (intro a'q tl'q h'q tk'q F'q N'q A'q R'q); (try k_sweep))
  k_with "call ref" => (k_here; (fail_if_success fail_if_success (with_reducible show wpAny _ _ (call (Value.ref 85) _) _ _ _)); k_dflt (refine' call_rdiv (by assumption) (by assumption) (by assumption) (by assumption) (by assumption) (by exact rfl) (by first | exact room (by assumption) (by decide) | omega) (by first | exact room (by assumption) (by decide) | omega) (by first | assumption | exact tup49 (T := []) | exact tup50 (T := []) | exact tup_int (by assumption)) (by ktr_rel) (by first | assumption | exact tup49 (T := []) | exact tup50 (T := []) | exact tup_int (by assumption)) (by ktr_rel) (by assumption) (by assumption) (by assumption) ?_); (intro a'q tl'q h'q tk'q F'q N'q A'q R'q); (try k_sweep))
  k_with "call ref" => (k_here; (fail_if_success fail_if_success (with_reducible show wpAny _ _ (call (Value.ref 113) _) _ _ _)); k_dflt (refine' call_let (by assumption) (by assumption) (by assumption) (by assumption) (by assumption) (by exact rfl) (by first | exact room (by assumption) (by decide) | omega) (by first | exact room (by assumption) (by decide) | omega) (by assumption) (by ktr_rel) (by assumption) ?_); (intro h'q tk'q F'q N'q); (try k_sweep))
  k_with "exec For Name Call cons nil" => (k_here; (rename Fr _ _ _ _ => lF'q); (with_unfolding_all refine' For_invVF lF'q (by exact rfl) (by exact rfl) ?_; k_whole))
  k_with "pyIter ref" => refine stopHere ?_
  k_with "eval ListComp" => refine stopHere ?_
  k_with "CompSrc" => refine stopHere ?_
  k_with "lcg_sub" => first
      | exact List.Mem.head _
      | (refine List.Mem.tail _ ?_; lcg_sub)
      | (refine List.mem_append_right _ ?_; lcg_sub)
  k_with "eval Name" => (k_here; (fail_if_success fail_if_success (with_reducible show wpAny _ _ (eval (Expr.Name _ _) (compEnvC _ _ _ _)) _ _ _)); k_dflt (first
      | (refine' lcf_cell (by assumption) (by exact rfl) (by lcg_sub) (by assumption) ?_ rfl rfl)
      | (refine' LCgL.ld_own (by assumption) ?_ (by assumption) (by assumption) ?_ rfl rfl (by decide); lcg_sub)
      | (refine' LCgL.ld_global (by assumption) (by assumption) (by assumption) (by k_is) ?_ rfl rfl rfl (by decide))))
  k_with "subscriptTail Name Slice ref ref" => (k_here; k_dflt (first
      | (refine' lst_upto (by assumption) ?_ (by assumption) (by assumption) (by first | assumption | omega) ?_ (by with_unfolding_all rfl); ktr_rel)
      | (refine' lst_from (by assumption) ?_ (by assumption) (by assumption) (by first | assumption | omega) ?_ (by with_unfolding_all rfl); ktr_rel)); intro D'q o'q h'q F'q N'q R'q l1'q; (try k_sweep))
  k_with "subscriptTail ListComp Slice ref ref" => (k_here; k_dflt (first
      | (refine' lst_from (by assumption) ?_ (by assumption) (by assumption) (by first | assumption | omega) ?_ (by with_unfolding_all rfl); ktr_rel)); intro D'q o'q h'q F'q N'q R'q l1'q; (try k_sweep))
  k_with "call type:list" => (k_here; (fail_if_success fail_if_success (with_reducible show wpAny _ _ (call (Value.type "list") [Value.ref _]) _ _ _)); k_dflt (refine' lst_copy (by assumption) ?_ (by assumption) (by assumption) ?_; ktr_rel); intro D'q o'q h'q F'q N'q R'q l1'q; (try k_sweep))
  k_with "binaryOp Mult ref int" => (k_here; (fail_if_success fail_if_success (with_reducible show wpAny _ _ (binaryOp _ (Value.ref _) (Value.int _ _)) _ _ _)); k_dflt (refine' lst_mul1 (by assumption) ?_ (by assumption) (by assumption) (by first | omega | (simp only [List.length_nil, List.length_cons]; omega)) (by first | omega | (simp only [List.length_nil, List.length_cons]; omega)) ?_; ktr_rel); intro D'q o'q h'q F'q N'q R'q l1'q; (try k_sweep))
  k_with "binaryOp Add ref ref" => (k_here; (fail_if_success fail_if_success (with_reducible show wpAny _ _ (binaryOp _ (Value.ref _) (Value.ref _)) _ _ _)); k_dflt (refine' lst_add (by assumption) ?_ (by assumption) ?_ (by assumption) (by assumption) (by ((try simp only [List.length_take, List.length_drop, List.length_replicate, List.length_cons, List.length_nil]); omega)) ?_; ktr_rel; ktr_rel); intro D'q o'q h'q F'q N'q R'q l1'q; (try k_sweep))
  k_with "newList" => (k_here; k_dflt (first
      | ((fail_if_success fail_if_success (with_reducible show wpAny _ _ (newList []) _ _ _)); refine' newlst0 (w := _) (by assumption) (by assumption) ?_)
      | ((fail_if_success fail_if_success (with_reducible show wpAny _ _ (newList [Value.ref _]) _ _ _)); refine' newlst1 (by first | assumption | exact tup49 (T := []) | exact tup50 (T := [])) ?_ (by assumption) (by assumption) ?_; ktr_rel)
      | ((fail_if_success fail_if_success (with_reducible show wpAny _ _ (newList [Value.ref _, Value.ref _]) _ _ _)); refine' newlst2 (by first | assumption | exact tup49 (T := []) | exact tup50 (T := [])) ?_ (by first | assumption | exact tup49 (T := []) | exact tup50 (T := [])) ?_ (by assumption) (by assumption) ?_; ktr_rel; ktr_rel)); intro D'q o'q h'q F'q N'q R'q l1'q; (try k_sweep))
  k_with "getMethod ref" => (k_here; (fail_if_success fail_if_success (with_reducible show wpAny _ _ (getMethod (Value.ref _) (Str.ofString "append") _) _ _ _)); k_dflt (refine' lst_getAppend (by assumption) ?_ (by assumption) ?_; ktr_rel))
  k_with "call builtin:list.append" => refine stopHere ?_
  k_with "setItem ref int ref" => refine stopHere ?_
  k_with "lcg_off" => first | exact Ext.refl | (refine Ext.cons ?_ (by assumption); lcg_off) | (refine Ext.cons ?_ (ktn_ltOf (by assumption)); lcg_off) | (refine Ext.app ?_ (by assumption); lcg_off) | assumption
  k_with "exec While BoolOp cons nil" => refine stopHere ?_
  k_with "subscriptTail Subscript Constant ref int" => (k_here; k_dflt ((fail_if_success fail_if_success (with_reducible show wpAny _ _ (subscriptTail _ _ (Value.ref _) (Value.int 0 _)) _ _ _)); refine' rat_item0 (by assumption) (by assumption) (by assumption) (by assumption) (by ktr_rel) ?_ ?_; rotate_left; (with_unfolding_all rfl); intro t'q))
  k_with "call ref" => (k_here; (fail_if_success fail_if_success (with_reducible show wpAny _ _ (call (Value.ref 165) _) _ _ _)); k_dflt (refine' call_qtrim (by assumption) (by assumption) (by assumption) (by assumption) (by assumption) (by exact rfl) (by first | exact room (by assumption) (by decide) | omega) (by first | exact room (by assumption) (by decide) | omega) (by assumption) (by ktr_rel) ?_); (intro a'q tl'q h'q tk'q F'q N'q A'q R'q Fh'q); (try k_sweep))
  k_with "exec For Tuple Call cons nil" => (k_here; (rename Fr _ _ _ _ => lF'q); (with_unfolding_all refine' For_turns lF'q ?_; k_whole))
  k_with "call type:enumerate" => refine stopHere ?_
  k_with "call type:reversed" => refine stopHere ?_
  exact True.intro
def rM1 : Rat := ⟨-1, 1, by decide, by decide⟩
def r2 : Rat := ⟨2, 1, by decide, by decide⟩
def r12 : Rat := ⟨1, 2, by decide, by decide⟩
def rM3 : Rat := ⟨-3, 1, by decide, by decide⟩
def r23 : Rat := ⟨2, 3, by decide, by decide⟩
def RS : List Rat := [0, 1, rM1, r2, r12, rM3, r23]
theorem rl190 {w : World} {T : Led} : TupAt w T 190 0 := ⟨_, _, _, .inl (by k_is)⟩
theorem rl191 {w : World} {T : Led} : TupAt w T 191 1 := ⟨_, _, _, .inl (by k_is)⟩
theorem rl192 {w : World} {T : Led} : TupAt w T 192 rM1 := ⟨_, _, _, .inl (by k_is)⟩
theorem rl193 {w : World} {T : Led} : TupAt w T 193 r2 := ⟨_, _, _, .inl (by k_is)⟩
theorem rl194 {w : World} {T : Led} : TupAt w T 194 r12 := ⟨_, _, _, .inl (by k_is)⟩
theorem rl195 {w : World} {T : Led} : TupAt w T 195 rM3 := ⟨_, _, _, .inl (by k_is)⟩
theorem rl196 {w : World} {T : Led} : TupAt w T 196 r23 := ⟨_, _, _, .inl (by k_is)⟩
theorem rl197 {w : World} : ∃ o, (Mine.hd.heap_39 w.params).lookup 197 = some o ∧ o.cls = .type "list" ∧ ∃ n, o.data = .seq #[.ref 190, .ref 191, .ref 192, .ref 193, .ref 194, .ref 195, .ref 196] n := ⟨_, by k_is, rfl, _, rfl⟩
/-- every item is an int -/
def AllInt (vs : List Value) : Prop := ∀ (i : Nat) v, vs[i]? = some v → ∃ x t, v = .int x t
abbrev boxO (sl : Addr) (k : Int) (t : Tok) (n : Nat) : Obj := { cls := .type "list", data := .seq #[.ref sl, .int k t] n }
def BoxV (T : Led) (b sl : Addr) (vs : List Value) (k : Nat) (t : Tok) : Prop := ∃ (n : Nat) (so : Obj), (b, boxO sl k t n) ∈ T ∧ (sl, so) ∈ T ∧ so.cls = .type "list" ∧ (∃ ns, so.data = .seq vs.toArray ns) ∧ b ≠ sl ∧ AllInt vs ∧ vs.length ≤ 1000
def BoxAt (T : Led) (b sl : Addr) (vs : List Value) : Prop := ∃ k t, BoxV T b sl vs k t
theorem BoxV.mono {T T' : Led} {b sl : Addr} {vs : List Value} {k : Nat} {t : Tok} (x : BoxV T b sl vs k t) (s : ∀ p ∈ T, p ∈ T') : BoxV T' b sl vs k t := by
  obtain ⟨n, so, h1, h2, r⟩ := x
  exact ⟨n, so, s _ h1, s _ h2, r⟩
theorem BoxAt.mono {T T' : Led} {b sl : Addr} {vs : List Value} (x : BoxAt T b sl vs) (s : ∀ p ∈ T, p ∈ T') : BoxAt T' b sl vs := let ⟨k, t, y⟩ := x; ⟨k, t, y.mono s⟩
/-- all but the box stands -/
def Keep (b : Addr) (T T' : Led) : Prop := ∀ p ∈ T, p.1 ≠ b → p ∈ T'
theorem Keep.trans {b : Addr} {T T' T'' : Led} (x : Keep b T T') (y : Keep b T' T'') : Keep b T T'' := fun p hp hn => y p (x p hp hn) hn
theorem Keep.sub {b : Addr} {T T' T'' : Led} (x : Keep b T T') (y : ∀ p ∈ T', p ∈ T'') : Keep b T T'' := fun p hp hn => y p (x p hp hn)
theorem Keep.upd {b : Addr} {o : Obj} {T : Led} : Keep b T (updL b o T) := fun _ hp hn => upd_mem hp hn
section
variable {w : World} {A : Around} {E : Value → Shared → Prop} {s : Shared} {T T1 T2 T' : Led} {a b l sl : Addr} {q r : Rat} {qs rs : List Rat} {g : Heap} {L : Addr} {m : Str → Option Value} {value slice : Expr} {Q : Value → Shared → Prop} {vs : List Value} {k : Nat} {t u : Tok}
theorem BoxV.tup {h : Heap} (x : BoxV T b sl vs k t) (N : News g L h T) (kp : Keep b T T') (y : TupAt w T a q) : TupAt w T' a q := by
  obtain ⟨t, u, n, y | y⟩ := y
  · exact ⟨t, u, n, .inl y⟩
  · obtain ⟨n', so, h1, _⟩ := x
    refine ⟨t, u, n, .inr (kp _ y fun e => ?_)⟩
    have e' : a = b := e
    subst e'
    exact absurd (congrArg Obj.cls (news_one N h1 y)) (by simp)
theorem BoxV.lst {h : Heap} (x : BoxV T b sl vs k t) (N : News g L h T) (kp : Keep b T T') (hne : l ≠ b) (y : LstAt w T l qs) : LstAt w T' l qs := by
  obtain ⟨as, n, h1, h2, h3, h4⟩ := y
  exact ⟨as, n, kp _ h1 hne, h2, h3, fun i a q ha hq => x.tup N kp (h4 i a q ha hq)⟩
theorem box_item0 (x : BoxV T b sl vs k t) (N : News g L s.heap T') (s1 : ∀ p ∈ T, p ∈ T') (h : Q (.ref sl) s)
    (hs : subscripted slice false (.ref b) (.int 0 u) = operate [.ref b, .int 0 u] (getItem (.ref b) (.int 0 u)) := by with_unfolding_all rfl) :
    wpAny (model PySem.Challenge.rw_sa0095_01.row.prog w) A (subscriptTail value slice (.ref b) (.int 0 u)) Q E s := by
  obtain ⟨n, so, h1, _⟩ := x.mono s1
  have hl : s.heap.IsList b #[.ref sl, .int k t] := ⟨_, N.get h1, rfl, _, rfl⟩
  exact tail_any hl.typeIs slot_list_getitem.lookup (wpAny_getItem_list hl (by decide) (by simp) (x := .ref sl) rfl h) hs
theorem box_item1 (x : BoxV T b sl vs k t) (N : News g L s.heap T') (s1 : ∀ p ∈ T, p ∈ T') (h : Q (.int k t) s)
    (hs : subscripted slice false (.ref b) (.int 1 u) = operate [.ref b, .int 1 u] (getItem (.ref b) (.int 1 u)) := by with_unfolding_all rfl) :
    wpAny (model PySem.Challenge.rw_sa0095_01.row.prog w) A (subscriptTail value slice (.ref b) (.int 1 u)) Q E s := by
  obtain ⟨n, so, h1, _⟩ := x.mono s1
  have hl : s.heap.IsList b #[.ref sl, .int k t] := ⟨_, N.get h1, rfl, _, rfl⟩
  exact tail_any hl.typeIs slot_list_getitem.lookup (wpAny_getItem_list hl (by decide) (by simp) (x := .int k t) rfl h) hs
theorem scr_item {j : Int} (x : BoxV T b sl vs k t) (N : News g L s.heap T') (s1 : ∀ p ∈ T, p ∈ T') (h0 : 0 ≤ j) (h1 : j < vs.length) (h : ∀ x t', Q (.int x t') s)
    (hs : subscripted slice false (.ref sl) (.int j u) = operate [.ref sl, .int j u] (getItem (.ref sl) (.int j u)) := by with_unfolding_all rfl) :
    wpAny (model PySem.Challenge.rw_sa0095_01.row.prog w) A (subscriptTail value slice (.ref sl) (.int j u)) Q E s := by
  obtain ⟨n, so, _, h2, h3, ⟨ns, h4⟩, _, h5, h6⟩ := x.mono s1
  have hl : s.heap.IsList sl vs.toArray := ⟨_, N.get h2, h3, _, h4⟩
  have hj : j.toNat < vs.length := by omega
  obtain ⟨y, t', e⟩ := h5 j.toNat vs[j.toNat] (by simp [hj])
  exact tail_any hl.typeIs slot_list_getitem.lookup (wpAny_getItem_list hl h0 (by simp; omega) (x := .int y t') (by rw [← e]; simp [hj]) (h y t')) hs
theorem scr_len (x : BoxV T b sl vs k t) (N : News g L s.heap T') (s1 : ∀ p ∈ T, p ∈ T') (h : Q (.int (vs.length : Nat) (s.toks + 1)) { s with toks := s.toks + 1 + 1 }) :
    wpAny (model PySem.Challenge.rw_sa0095_01.row.prog w) A (call (.builtin "len") [.ref sl]) Q E s := by
  obtain ⟨n, so, _, h2, h3, ⟨ns, h4⟩, _, h5, h6⟩ := x.mono s1
  have hl : s.heap.IsList sl vs.toArray := ⟨_, N.get h2, h3, _, h4⟩
  refine call_len_list hl (by simp; omega) ?_
  simp only [List.size_toArray]
  exact h
theorem box_set {k' : Nat} {t' : Tok} {Q : Unit → Shared → Prop} {j : Int} (x : BoxV T1 b sl vs k t) (s1 : ∀ p ∈ T1, p ∈ T) (F : Fr g L s.heap m) (N : News g L s.heap T) (hj : j = (k' : Int))
    (h : ∀ o' h', o'.cls = .type "list" → Fr g L h' m → News g L h' (updL b o' T) → BoxV (updL b o' T) b sl vs k' t' → Q () { s with heap := h' }) :
    wpAny (model PySem.Challenge.rw_sa0095_01.row.prog w) A (setItem (.ref b) (.int 1 u) (.int j t')) Q E s := by
  subst hj
  obtain ⟨n, so, h1, h2, h3, h4, h5, h6, h7⟩ := x.mono s1
  refine ki_setAt (items := #[.ref sl, .int k t]) (n := n) (N.get h1) (by decide) (by simp) (by simp) ?_
  have ho : (s.heap.update b (Obj.mapSeq (·.setIfInBounds 1 (.int k' t')))).get? b = some (boxO sl k' t' n) := by
    rw [Heap.get?_update_self _ (N.get h1) (by rfl)]
    rfl
  obtain ⟨F', N'⟩ := upd_news F N h1 (Heap.SameBut.update ..) ho
  exact h _ _ rfl F' N' ⟨n, so, .head _, upd_mem h2 (Ne.symm h5), h3, h4, h5, h6, h7⟩
theorem rat_pick {j : Int} (F : Fr g L s.heap m) (X : (Mine.hd.heap_39 w.params).In g) (h0 : 0 ≤ j) (h1 : j < 7) (h : ∀ a, (∀ T, TupAt w T a (RS.getD j.toNat 0)) → Q (.ref a) s)
    (hs : subscripted slice false (.ref 197) (.int j u) = operate [.ref 197, .int j u] (getItem (.ref 197) (.int j u)) := by with_unfolding_all rfl) :
    wpAny (model PySem.Challenge.rw_sa0095_01.row.prog w) A (subscriptTail value slice (.ref 197) (.int j u)) Q E s := by
  obtain ⟨o, e1, e2, n, e3⟩ := rl197 (w := w)
  have hl : s.heap.IsList 197 #[.ref 190, .ref 191, .ref 192, .ref 193, .ref 194, .ref 195, .ref 196] := ⟨_, F.keep _ _ (X _ _ e1), e2, n, e3⟩
  obtain ⟨i, rfl⟩ : ∃ i : Nat, j = (i : Int) := nat_of h0
  rw [Int.toNat_natCast] at h
  have hi : i < 7 := by omega
  match i, hi with
  | 0, _ => exact tail_any hl.typeIs slot_list_getitem.lookup (wpAny_getItem_list hl h0 (by simp) (x := .ref 190) rfl (h 190 fun _ => rl190)) hs
  | 1, _ => exact tail_any hl.typeIs slot_list_getitem.lookup (wpAny_getItem_list hl h0 (by simp) (x := .ref 191) rfl (h 191 fun _ => rl191)) hs
  | 2, _ => exact tail_any hl.typeIs slot_list_getitem.lookup (wpAny_getItem_list hl h0 (by simp) (x := .ref 192) rfl (h 192 fun _ => rl192)) hs
  | 3, _ => exact tail_any hl.typeIs slot_list_getitem.lookup (wpAny_getItem_list hl h0 (by simp) (x := .ref 193) rfl (h 193 fun _ => rl193)) hs
  | 4, _ => exact tail_any hl.typeIs slot_list_getitem.lookup (wpAny_getItem_list hl h0 (by simp) (x := .ref 194) rfl (h 194 fun _ => rl194)) hs
  | 5, _ => exact tail_any hl.typeIs slot_list_getitem.lookup (wpAny_getItem_list hl h0 (by simp) (x := .ref 195) rfl (h 195 fun _ => rl195)) hs
  | 6, _ => exact tail_any hl.typeIs slot_list_getitem.lookup (wpAny_getItem_list hl h0 (by simp) (x := .ref 196) rfl (h 196 fun _ => rl196)) hs
end
/-- the contract of a def that changes what it is handed: Post says what the new ledger is -/
def DoesM (w : World) (p : Program) (loose : List Str) (mean : ExcName → Option Value) (mg mb : Str → Option Value) (dep uns : Nat) (f : Addr) (vs : List Value) (news : Led) (Post : Led → Value → Prop) : Prop :=
  ∀ (dp un : Nat) (gd : Option (List Code)) (cn : Str) (cs : Scope) (a : Addr) (ccd : Value) (cl : List (Str × Addr)) (outer : List Env) (A₀ : Around) (base h₀ : Heap) (L : Addr) (m : Str → Option Value) (s : Shared) (Q E : Value → Shared → Prop),
    Below A₀ base outer h₀ → Fr h₀ L s.heap m → (Mine.hd.heap_39 w.params).In h₀ → News h₀ L s.heap news → Top p loose mean mg mb h₀ → cs.kind = .function → dp + dep < recursionLimit → un + uns < cLine →
    (∀ r T h' tk', Fr h₀ L h' m → News h₀ L h' T → Post T r → Q r { s with heap := h', toks := tk' }) →
    wpAny (model PySem.Challenge.rw_sa0095_01.row.prog w) (ktrTop dp un gd cn cs L a ccd cl outer) (call (.ref f) vs) Q E s
def RunsM (w : World) (p : Program) (loose : List Str) (mean : ExcName → Option Value) (mg mb : Str → Option Value) (dep uns : Nat) (qual : Str) (scope : Scope) (f : Addr) (cdv : Value) (body : List Stmt) (bs : List (Str × Value)) (news : Led) (Post : Led → Value → Prop) : Prop :=
  ∀ (dp un : Nat) (gd : Option (List Code)) (outer : List Env) (A₀ : Around) (base g : Heap) (L : Addr) (s : Shared) (Q E : Value → Shared → Prop),
    Below A₀ base outer g → Fr g L s.heap (fm bs) → (Mine.hd.heap_39 w.params).In g → News g L s.heap news → Top p loose mean mg mb g → dp + dep < recursionLimit → un + uns < cLine →
    PassesOwn (model PySem.Challenge.rw_sa0095_01.row.prog w) (ktrTop dp un gd qual scope L f cdv [] outer) (envX qual scope L f cdv []) E →
    (∀ r T h' tk' m', Fr g L h' m' → News g L h' T → Post T r → Q r { s with heap := h', toks := tk' }) →
    wpAny (model PySem.Challenge.rw_sa0095_01.row.prog w) (ktrTop dp un gd qual scope L f cdv [] outer) (execs body (envX qual scope L f cdv []))
      (fun fl s' => Q (match fl with | .ret v => v | _ => .none) s') E s
theorem doesM_of {w : World} {p : Program} {loose : List Str} {mean : ExcName → Option Value} {mg mb : Str → Option Value} {dep uns : Nat} {f : Addr} {vs : List Value} {news : Led} {Post : Led → Value → Prop}
    {name qual : Str} {params : Arguments} {body : List Stmt} {scope : Scope} {dV kV doc pm cdv ct oc : Value} {an od : Option Addr} {osl : Array (Option Value)} (binds : List (Str × Value))
    (ho : (Mine.hd.heap_39 w.params).lookup f = some ⟨oc, od, .func (fnOf name qual params body scope dV kV doc pm an cdv ct), osl⟩)
    (hcd : codeIn (Mine.hd.heap_39 w.params) cdv qual = true)
    (hbind : ∀ s, BindsTo s (fnOf name qual params body scope dV kV doc pm an cdv ct) ⟨vs, []⟩ binds)
    (hloc : ∀ y ∈ binds, scope.names.lookup y.1 = some .local)
    (hco : scope.isCoroutine = false) (hgen : scope.isGenerator = false) (hk : scope.kind = .function) (hcell : ∀ x ∈ scope.names, x.2 ≠ .cell)
    (h : RunsM w p loose mean mg mb dep uns qual scope f cdv body binds.reverse news Post) : DoesM w p loose mean mg mb (dep + 1) (uns + 3) f vs news Post := by
  intro dp un gd cn cs a ccd cl outer A₀ base h₀ L m s Q E B F X N T hcs hd hu hret
  refine wpAny_call (code_def B F X N T rfl rfl hcs ho hcd (dep_lt hd) (hbind s) hloc ?_ hco hgen hk hcell)
  intro g L' h₁ FG F₁ N₁ B₁ X₁ T₁
  have e : (fun y => binds.reverse.lookup y) = fm binds.reverse := fm_lookup _
  rw [e] at F₁
  refine h (dp + 1) (un + 3) gd (envX cn cs L a ccd cl :: outer) _ base g L' _ (fun v s' => LeaveK h₀ L m g _ v s') _ B₁ F₁ X₁ N₁ T₁ (dep_in hd) (uns_in hu) PassesOwn.leaving ?_
  intro r T' h' tk' m' F' N' hp
  exact ⟨L', m', T', F', N', fun F₂ N₂ => hret r T' h' tk' F₂ N₂ hp⟩
def RunsMC (w : World) (p : Program) (loose : List Str) (mean : ExcName → Option Value) (mg mb : Str → Option Value) (dep uns : Nat) (qual : Str) (scope : Scope) (f : Addr) (cdv : Value) (body : List Stmt) (binds : List (Str × Value)) (news : Led) (Post : Led → Value → Prop) : Prop :=
  ∀ (dp un : Nat) (gd : Option (List Code)) (outer : List Env) (A₀ : Around) (base g : Heap) (L : Addr) (s : Shared) (cells : Led) (Q E : Value → Shared → Prop),
    Below A₀ base outer g → Fr g L s.heap (bindL (envOfC qual scope L f cdv).kindOf binds fun _ => none) → (Mine.hd.heap_39 w.params).In g →
    CellsAre (bindC (envOfC qual scope L f cdv).kindOf binds fun _ => none) (cellsFrom (L + 1) scope.names []) cells → News g L s.heap (cells ++ news) → (∀ p ∈ news, p.1 < L) → Top p loose mean mg mb g → dp + dep < recursionLimit → un + uns < cLine →
    PassesOwn (model PySem.Challenge.rw_sa0095_01.row.prog w) (ktrTop dp un gd qual scope L f cdv (cellsFrom (L + 1) scope.names []) outer) (envX qual scope L f cdv (cellsFrom (L + 1) scope.names [])) E →
    (∀ r T h' tk' m', Fr g L h' m' → News g L h' T → Post T r → Q r { s with heap := h', toks := tk' }) →
    wpAny (model PySem.Challenge.rw_sa0095_01.row.prog w) (ktrTop dp un gd qual scope L f cdv (cellsFrom (L + 1) scope.names []) outer) (execs body (envX qual scope L f cdv (cellsFrom (L + 1) scope.names [])))
      (fun fl s' => Q (match fl with | .ret v => v | _ => .none) s') E s
theorem doesMC_of {w : World} {p : Program} {loose : List Str} {mean : ExcName → Option Value} {mg mb : Str → Option Value} {dep uns : Nat} {f : Addr} {vs : List Value} {news : Led} {Post : Led → Value → Prop}
    {name qual : Str} {params : Arguments} {body : List Stmt} {scope : Scope} {dV kV doc pm cdv ct oc : Value} {an od : Option Addr} {osl : Array (Option Value)} (binds : List (Str × Value))
    (ho : (Mine.hd.heap_39 w.params).lookup f = some ⟨oc, od, .func (fnOf name qual params body scope dV kV doc pm an cdv ct), osl⟩)
    (hcd : codeIn (Mine.hd.heap_39 w.params) cdv qual = true)
    (hbind : ∀ s, BindsTo s (fnOf name qual params body scope dV kV doc pm an cdv ct) ⟨vs, []⟩ binds)
    (hkind : (binds.all fun y => scope.names.lookup y.1 == some .local || scope.names.lookup y.1 == some .cell) = true)
    (hnd : ((cellsFrom 0 scope.names []).map (·.1)).Nodup)
    (hco : scope.isCoroutine = false) (hgen : scope.isGenerator = false) (hk : scope.kind = .function)
    (h : RunsMC w p loose mean mg mb dep uns qual scope f cdv body binds news Post) : DoesM w p loose mean mg mb (dep + 1) (uns + 3) f vs news Post := by
  intro dp un gd cn cs a ccd cl outer A₀ base h₀ L m s Q E B F X N T hcs hd hu hret
  refine wpAny_call (code_defC B F X N T rfl rfl hcs ho hcd (dep_lt hd) (hbind s) hkind hnd ?_ hco hgen hk)
  intro g L' h₁ tk cells FG F₁ N₁ Y B₁ X₁ T₁ l1
  refine h (dp + 1) (un + 3) gd (envX cn cs L a ccd cl :: outer) _ base g L' { s with heap := h₁, toks := tk } cells (fun v s' => LeaveK h₀ L m g _ v s') _ B₁ F₁ X₁ Y N₁ l1 T₁ (dep_in hd) (uns_in hu) PassesOwn.leaving ?_
  intro r T' h' tk' m' F' N' hp
  exact ⟨L', m', T', F', N', fun F₂ N₂ => hret r T' h' tk' F₂ N₂ hp⟩
theorem mod_ok {x many : Int} (h : 0 < many) : 0 ≤ x.fmod many ∧ x.fmod many < many := by
  rw [Int.fmod_eq_emod_of_nonneg x (by omega)]
  exact ⟨Int.emod_nonneg x (by omega), Int.emod_lt_of_pos x h⟩
theorem rulesM22b : True := by
  k_with "subscriptTail Name Constant ref int" => (k_here; k_dflt (first
      | ((fail_if_success fail_if_success (with_reducible show wpAny _ _ (subscriptTail _ _ (Value.ref _) (Value.int 0 _)) _ _ _)); refine' box_item0 (by assumption) (by assumption) (by ktr_rel) ?_ (by with_unfolding_all rfl))
      | ((fail_if_success fail_if_success (with_reducible show wpAny _ _ (subscriptTail _ _ (Value.ref _) (Value.int 1 _)) _ _ _)); refine' box_item1 (by assumption) (by assumption) (by ktr_rel) ?_ (by with_unfolding_all rfl))))
  k_with "subscriptTail Name BinOp ref int" => (k_here; k_dflt ((fail_if_success fail_if_success (with_reducible show wpAny _ _ (subscriptTail _ _ (Value.ref _) (Value.int _ _)) _ _ _)); refine' scr_item (by assumption) (by assumption) (by ktr_rel) (by first | exact Int.natCast_nonneg _ | omega) (by first | assumption | omega) ?_ (by with_unfolding_all rfl)); (intro x'q t'q))
  k_with "call builtin:len" => (k_here; (fail_if_success fail_if_success (with_reducible show wpAny _ _ (call (Value.builtin "len") [Value.ref _]) _ _ _)); k_dflt (first
      | (refine' lst_len (by assumption) (by assumption) (by ktr_rel) ?_)
      | (refine' scr_len (by assumption) (by assumption) (by ktr_rel) ?_)))
  k_with "setItem ref int int" => refine stopHere ?_
  exact True.intro
section
variable {w : World} {p : Program} {loose : List Str} {mean : ExcName → Option Value} {mg mb : Str → Option Value}
theorem take_does {b sl : Addr} {vs : List Value} {k : Nat} {t tm : Tok} {many : Int} {news : Led} (x : BoxV news b sl vs k t) (hm : 0 < many) :
    DoesM w p loose mean mg mb 2 40 204 [.ref b, .int many tm] news (fun T r => ∃ o j u k' t', T = updL b o news ∧ o.cls = .type "list" ∧ BoxV T b sl vs k' t' ∧ r = .int j u ∧ 0 ≤ j ∧ j < many) := by
  refine doesM_of (dep := 1) (uns := 37) [(Str.ofString "box", .ref b), (Str.ofString "many", .int many tm)] (by k_is) (by k_is) (fun s => BindsTo.of_eq rfl) (locs rfl) rfl rfl rfl (by decide) ?_
  unfold RunsM
  intro dp un gd outer A₀ base g L s Q E B F X N T hd hu hE hret
  k_fold
  have hm0 : many ≠ 0 := by omega
  k_unmd
  k_extra "st"
  rename News _ _ _ _ => N1
  rename Fr _ _ _ _ => F1
  unfold Stop
  refine box_set x (by ktr_rel) F1 N1 (k' := k + 1) (by omega) ?_
  intro o' h' hc F' N' x'
  clear x F1 N1
  k_unmd
  k_extra "st"
  · rename News _ _ _ _ => N2
    rename Fr _ _ _ _ => F2
    refine hret _ _ _ _ _ F2 N2 ⟨o', _, _, _, _, rfl, hc, x', rfl, (mod_ok hm).1, (mod_ok hm).2⟩
  · rename News _ _ _ _ => N2
    rename Fr _ _ _ _ => F2
    refine hret _ _ _ _ _ F2 N2 ⟨o', _, _, _, _, rfl, hc, x', rfl, (mod_ok hm).1, (mod_ok hm).2⟩
end
end
section
theorem rulesM23a : True := by
  k_with_none
  k_with "st" => (repeat' (first | (k_unfold; (try dsimp only)) | ((try dsimp only); walk1)))
  k_with "ktr_rel" => first | exact fun _ h => h | exact List.forall_mem_nil _ | exact fun _ h => List.mem_append_right _ h | exact fun _ h => List.mem_cons_of_mem _ h | (refine sub_app ?_; ktr_rel; done) | (refine sub_cons ?_; ktr_rel; done) | (intro p hp; simp only [List.mem_append, List.mem_cons, hp, true_or, or_true])
  k_with "exec While Compare cons nil" => refine stopHere ?_
  k_with "subscriptTail Name Constant ref int" => (k_here; k_dflt (first
      | ((fail_if_success fail_if_success (with_reducible show wpAny _ _ (subscriptTail _ _ (Value.ref _) (Value.int 0 _)) _ _ _)); refine' rat_item0 (by assumption) (by assumption) (by assumption) (by assumption) (by ktr_rel) ?_ ?_; rotate_left; (with_unfolding_all rfl); intro t'q)
      | ((fail_if_success fail_if_success (with_reducible show wpAny _ _ (subscriptTail _ _ (Value.ref _) (Value.int 1 _)) _ _ _)); refine' rat_item1 (by assumption) (by assumption) (by assumption) (by assumption) (by ktr_rel) ?_ ?_; rotate_left; (with_unfolding_all rfl); intro t'q)
      | ((fail_if_success fail_if_success (with_reducible show wpAny _ _ (subscriptTail _ _ (Value.ref _) (Value.int _ _)) _ _ _)); refine' lst_item (by assumption) (by assumption) (by ktr_rel) (by first | exact Int.natCast_nonneg _ | omega) (by first | assumption | omega) ?_ ?_; rotate_left; (with_unfolding_all rfl); intro a'q R'q)))
  k_with "subscriptTail Name Name ref int" => (k_here; k_dflt ((fail_if_success fail_if_success (with_reducible show wpAny _ _ (subscriptTail _ _ (Value.ref _) (Value.int _ _)) _ _ _)); refine' lst_item (by assumption) (by assumption) (by ktr_rel) (by first | exact Int.natCast_nonneg _ | omega) (by first | assumption | omega) ?_ ?_; rotate_left; (with_unfolding_all rfl); intro a'q R'q))
  k_with "subscriptTail Name BinOp ref int" => (k_here; k_dflt ((fail_if_success fail_if_success (with_reducible show wpAny _ _ (subscriptTail _ _ (Value.ref _) (Value.int _ _)) _ _ _)); refine' lst_item (by assumption) (by assumption) (by ktr_rel) (by first | exact Int.natCast_nonneg _ | omega) (by first | assumption | omega) ?_ ?_; rotate_left; (with_unfolding_all rfl); intro a'q R'q))
  k_with "call builtin:len" => (k_here; (fail_if_success fail_if_success (with_reducible show wpAny _ _ (call (Value.builtin "len") [Value.ref _]) _ _ _)); k_dflt (refine' lst_len (by assumption) (by assumption) (by ktr_rel) ?_))
  k_with "compareOp NotEq ref ref" => (k_here; (fail_if_success fail_if_success (with_reducible show wpAny _ _ (compareOp CmpOp.NotEq (Value.ref _) (Value.ref _)) _ _ _)); k_dflt (first
      | (refine' tup_ne (by assumption) (by first | assumption | exact tup49 (T := [])) (by assumption) (by assumption) (by assumption) (by ktr_rel) (by ktr_rel) (by first | exact room (by assumption) (by decide) | ((try dsimp only); first | exact room (by assumption) (by decide) | omega)) ?_)
      | (refine' lst_ne (by assumption) (by assumption) (by assumption) (by assumption) (by assumption) (by ktr_rel) (by ktr_rel) (by first | exact room (by assumption) (by decide) | ((try dsimp only); first | exact room (by assumption) (by decide) | omega)) ?_)))
  k_with "compareOp Eq ref ref" => (k_here; (fail_if_success fail_if_success (with_reducible show wpAny _ _ (compareOp CmpOp.Eq (Value.ref _) (Value.ref _)) _ _ _)); k_dflt (first
      | (refine' tup_eq (by assumption) (by first | assumption | exact tup49 (T := [])) (by assumption) (by assumption) (by assumption) (by ktr_rel) (by ktr_rel) (by first | exact room (by assumption) (by decide) | ((try dsimp only); first | exact room (by assumption) (by decide) | omega)) ?_)
      | (refine' lst_eq (by assumption) (by assumption) (by assumption) (by assumption) (by assumption) (by ktr_rel) (by ktr_rel) (by first | exact room (by assumption) (by decide) | ((try dsimp only); first | exact room (by assumption) (by decide) | omega)) ?_)))
  k_with "call ref" => (k_here; (fail_if_success fail_if_success (with_reducible show wpAny _ _ (call (Value.ref 64) _) _ _ _)); k_dflt (refine' call_radd (by assumption) (by assumption) (by assumption) (by assumption) (by assumption) (by exact rfl) (by first | exact room (by assumption) (by decide) | omega) (by first | exact room (by assumption) (by decide) | omega) (by first | assumption | exact tup49 (T := []) | exact tup50 (T := []) | exact tup_int (by assumption)) (by ktr_rel) (by first | assumption | exact tup49 (T := []) | exact tup50 (T := []) | exact tup_int (by assumption)) (by ktr_rel) (by assumption) (by assumption) ?_); (intro a'q tl'q h'q tk'q F'q N'q A'q R'q); (try k_sweep))
  k_with "call ref" => (k_here; (fail_if_success fail_if_success (with_reducible show wpAny _ _ (call (Value.ref 71) _) _ _ _)); k_dflt (refine' call_rsub (by assumption) (by assumption) (by assumption) (by assumption) (by assumption) (by exact rfl) (by first | exact room (by assumption) (by decide) | omega) (by first | exact room (by assumption) (by decide) | omega) (by first | assumption | exact tup49 (T := []) | exact tup50 (T := []) | exact tup_int (by assumption)) (by ktr_rel) (by first | assumption | exact tup49 (T := []) | exact tup50 (T := []) | exact tup_int (by assumption)) (by ktr_rel) (by assumption) (by assumption) ?_); (intro a'q tl'q h'q tk'q F'q N'q A'q R'q); (try k_sweep))
  k_with "call ref" => (k_here; (fail_if_success fail_if_success (with_reducible show wpAny _ _ (call (Value.ref 78) _) _ _ _)); k_dflt (refine' call_rmul (by assumption) (by assumption) (by assumption) (by assumption) (by assumption) (by exact rfl) (by first | exact room (by assumption) (by decide) | omega) (by first | exact room (by assumption) (by decide) | omega) (by first | assumption | exact tup49 (T := []) | exact tup50 (T := []) | exact tup_int (by assumption)) (by ktr_rel) (by first | assumption | exact tup49 (T := []) | exact tup50 (T := []) | exact tup_int (by assumption)) (by ktr_rel) (by assumption) (by assumption) ?_); (intro a'q tl'q h'q tk'q F'q N'q A'q R'q); (try k_sweep))
  k_with "call ref" => (k_here; (fail_if_success fail_if_success (with_reducible show wpAny _ _ (call (Value.ref 85) _) _ _ _)); k_dflt (refine' call_rdiv (by assumption) (by assumption) (by assumption) (by assumption) (by assumption) (by exact rfl) (by first | exact room (by assumption) (by decide) | omega) (by first | exact room (by assumption) (by decide) | omega) (by first | assumption | exact tup49 (T := []) | exact tup50 (T := []) | exact tup_int (by assumption)) (by ktr_rel) (by first | assumption | exact tup49 (T := []) | exact tup50 (T := []) | exact tup_int (by assumption)) (by ktr_rel) (by assumption) (by assumption) (by assumption) ?_); (intro a'q tl'q h'q tk'q F'q N'q A'q R'q); (try k_sweep))
  k_with "call ref" => (k_here; (fail_if_success fail_if_success (with_reducible show wpAny _ _ (call (Value.ref 113) _) _ _ _)); k_dflt (refine' call_let (by assumption) (by assumption) (by assumption) (by assumption) (by assumption) (by exact rfl) (by first | exact room (by assumption) (by decide) | omega) (by first | exact room (by assumption) (by decide) | omega) (by assumption) (by ktr_rel) (by assumption) ?_); (intro h'q tk'q F'q N'q); (try k_sweep))
  k_with "exec For Name Call cons nil" => (k_here; (rename Fr _ _ _ _ => lF'q); (with_unfolding_all refine' For_invVF lF'q (by exact rfl) (by exact rfl) ?_; k_whole))
  k_with "pyIter ref" => refine stopHere ?_
  k_with "eval ListComp" => refine stopHere ?_
  k_with "CompSrc" => refine stopHere ?_
  k_with "lcg_sub" => first
      | exact List.Mem.head _
      | (refine List.Mem.tail _ ?_; lcg_sub)
      | (refine List.mem_append_right _ ?_; lcg_sub)
  k_with "eval Name" => (k_here; (fail_if_success fail_if_success (with_reducible show wpAny _ _ (eval (Expr.Name _ _) (compEnvC _ _ _ _)) _ _ _)); k_dflt (first
      | (refine' lcf_cell (by assumption) (by exact rfl) (by lcg_sub) (by assumption) ?_ rfl rfl)
      | (refine' LCgL.ld_own (by assumption) ?_ (by assumption) (by assumption) ?_ rfl rfl (by decide); lcg_sub)
      | (refine' LCgL.ld_global (by assumption) (by assumption) (by assumption) (by k_is) ?_ rfl rfl rfl (by decide))))
  k_with "subscriptTail Name Slice ref ref" => (k_here; k_dflt (first
      | (refine' lst_upto (by assumption) ?_ (by assumption) (by assumption) (by first | assumption | omega) ?_ (by with_unfolding_all rfl); ktr_rel)
      | (refine' lst_from (by assumption) ?_ (by assumption) (by assumption) (by first | assumption | omega) ?_ (by with_unfolding_all rfl); ktr_rel)); intro D'q o'q h'q F'q N'q R'q l1'q; (try k_sweep))
  k_with "subscriptTail ListComp Slice ref ref" => (k_here; k_dflt (first
      | (refine' lst_from (by assumption) ?_ (by assumption) (by assumption) (by first | assumption | omega) ?_ (by with_unfolding_all rfl); ktr_rel)); intro D'q o'q h'q F'q N'q R'q l1'q; (try k_sweep))
  k_with "call type:list" => (k_here; (fail_if_success fail_if_success (with_reducible show wpAny _ _ (call (Value.type "list") [Value.ref _]) _ _ _)); k_dflt (refine' lst_copy (by assumption) ?_ (by assumption) (by assumption) ?_; ktr_rel); intro D'q o'q h'q F'q N'q R'q l1'q; (try k_sweep))
  k_with "binaryOp Mult ref int" => (k_here; (fail_if_success fail_if_success (with_reducible show wpAny _ _ (binaryOp _ (Value.ref _) (Value.int _ _)) _ _ _)); k_dflt (refine' lst_mul1 (by assumption) ?_ (by assumption) (by assumption) (by first | omega | (simp only [List.length_nil, List.length_cons]; omega)) (by first | omega | (simp only [List.length_nil, List.length_cons]; omega)) ?_; ktr_rel); intro D'q o'q h'q F'q N'q R'q l1'q; (try k_sweep))
  k_with "binaryOp Add ref ref" => (k_here; (fail_if_success fail_if_success (with_reducible show wpAny _ _ (binaryOp _ (Value.ref _) (Value.ref _)) _ _ _)); k_dflt (refine' lst_add (by assumption) ?_ (by assumption) ?_ (by assumption) (by assumption) (by ((try simp only [List.length_take, List.length_drop, List.length_replicate, List.length_cons, List.length_nil]); omega)) ?_; ktr_rel; ktr_rel); intro D'q o'q h'q F'q N'q R'q l1'q; (try k_sweep))
  k_with "newList" => (k_here; k_dflt (first
      | ((fail_if_success fail_if_success (with_reducible show wpAny _ _ (newList []) _ _ _)); refine' newlst0 (w := _) (by assumption) (by assumption) ?_)
      | ((fail_if_success fail_if_success (with_reducible show wpAny _ _ (newList [Value.ref _]) _ _ _)); refine' newlst1 (by first | assumption | exact tup49 (T := []) | exact tup50 (T := [])) ?_ (by assumption) (by assumption) ?_; ktr_rel)
      | ((fail_if_success fail_if_success (with_reducible show wpAny _ _ (newList [Value.ref _, Value.ref _]) _ _ _)); refine' newlst2 (by first | assumption | exact tup49 (T := []) | exact tup50 (T := [])) ?_ (by first | assumption | exact tup49 (T := []) | exact tup50 (T := [])) ?_ (by assumption) (by assumption) ?_; ktr_rel; ktr_rel)); intro D'q o'q h'q F'q N'q R'q l1'q; (try k_sweep))
  k_with "getMethod ref" => (k_here; (fail_if_success fail_if_success (with_reducible show wpAny _ _ (getMethod (Value.ref _) (Str.ofString "append") _) _ _ _)); k_dflt (refine' lst_getAppend (by assumption) ?_ (by assumption) ?_; ktr_rel))
  k_with "call builtin:list.append" => refine stopHere ?_
  k_with "setItem ref int ref" => refine stopHere ?_
  k_with "lcg_off" => first | exact Ext.refl | (refine Ext.cons ?_ (by assumption); lcg_off) | (refine Ext.cons ?_ (ktn_ltOf (by assumption)); lcg_off) | (refine Ext.app ?_ (by assumption); lcg_off) | assumption
  k_with "exec While BoolOp cons nil" => refine stopHere ?_
  k_with "subscriptTail Subscript Constant ref int" => (k_here; k_dflt ((fail_if_success fail_if_success (with_reducible show wpAny _ _ (subscriptTail _ _ (Value.ref _) (Value.int 0 _)) _ _ _)); refine' rat_item0 (by assumption) (by assumption) (by assumption) (by assumption) (by ktr_rel) ?_ ?_; rotate_left; (with_unfolding_all rfl); intro t'q))
  k_with "call ref" => (k_here; (fail_if_success fail_if_success (with_reducible show wpAny _ _ (call (Value.ref 165) _) _ _ _)); k_dflt (refine' call_qtrim (by assumption) (by assumption) (by assumption) (by assumption) (by assumption) (by exact rfl) (by first | exact room (by assumption) (by decide) | omega) (by first | exact room (by assumption) (by decide) | omega) (by assumption) (by ktr_rel) ?_); (intro a'q tl'q h'q tk'q F'q N'q A'q R'q Fh'q); (try k_sweep))
  k_with "exec For Tuple Call cons nil" => (k_here; (rename Fr _ _ _ _ => lF'q); (with_unfolding_all refine' For_turns lF'q ?_; k_whole))
  k_with "call type:enumerate" => refine stopHere ?_
  k_with "call type:reversed" => refine stopHere ?_
  k_with "subscriptTail Name BinOp ref int" => (k_here; k_dflt ((fail_if_success fail_if_success (with_reducible show wpAny _ _ (subscriptTail _ _ (Value.ref 197) (Value.int _ _)) _ _ _)); refine' rat_pick (by assumption) (by assumption) (by first | exact Int.natCast_nonneg _ | omega) (by first | assumption | omega) ?_ (by with_unfolding_all rfl)); (intro a'q R''q; have R'q := R''q []))
  k_with "subscriptTail Name Call ref int" => (k_here; k_dflt ((fail_if_success fail_if_success (with_reducible show wpAny _ _ (subscriptTail _ _ (Value.ref 197) (Value.int _ _)) _ _ _)); refine' rat_pick (by assumption) (by assumption) (by first | exact Int.natCast_nonneg _ | omega) (by first | assumption | omega) ?_ (by with_unfolding_all rfl)); (intro a'q R''q; have R'q := R''q []))
  k_with "call ref" => (k_here; (fail_if_success fail_if_success (with_reducible show wpAny _ _ (call (Value.ref 204) _) _ _ _)); refine stopHere ?_)
  exact True.intro
theorem doesM_use {w : World} {p : Program} {loose : List Str} {mean : ExcName → Option Value} {mg mb : Str → Option Value} {dep uns : Nat} {f : Addr} {vs : List Value} {news : Led} {Post : Led → Value → Prop}
    {dp un : Nat} {gd : Option (List Code)} {cn : Str} {cs : Scope} {a : Addr} {ccd : Value} {cl : List (Str × Addr)} {outer : List Env} {A₀ : Around} {base h₀ : Heap} {L : Addr} {m : Str → Option Value} {s : Shared} {Q E : Value → Shared → Prop}
    (F : Fr h₀ L s.heap m) (N : News h₀ L s.heap news) (C : DoesM w p loose mean mg mb dep uns f vs news Post) (B : Below A₀ base outer h₀) (X : (Mine.hd.heap_39 w.params).In h₀) (T : Top p loose mean mg mb h₀) (hk : cs.kind = .function) (hd : dp + dep < recursionLimit) (hu : un + uns < cLine)
    (ret : ∀ r T' h' tk', Fr h₀ L h' m → News h₀ L h' T' → Post T' r → Q r { s with heap := h', toks := tk' }) :
    wpAny (model PySem.Challenge.rw_sa0095_01.row.prog w) (ktrTop dp un gd cn cs L a ccd cl outer) (call (.ref f) vs) Q E s := C _ _ _ _ _ _ _ _ _ _ _ _ _ _ _ _ _ B F X N T hk hd hu ret
theorem RS_mem {j : Int} (h0 : 0 ≤ j) (h1 : j < 7) : RS.getD j.toNat 0 ∈ RS := by
  obtain ⟨i, rfl⟩ : ∃ i : Nat, j = (i : Int) := nat_of h0
  rw [Int.toNat_natCast]
  have hi : i < RS.length := by show i < 7; omega
  have : RS.getD i 0 = RS[i] := by simp [List.getD, hi]
  rw [this]
  exact List.getElem_mem hi
theorem RS_mem1 {j : Int} (h0 : 0 ≤ j) (h1 : j < 6) : RS.getD (1 + j).toNat 0 ∈ RS.drop 1 := by
  obtain ⟨i, rfl⟩ : ∃ i : Nat, j = (i : Int) := nat_of h0
  have e : (1 + (i : Int)).toNat = 1 + i := Int.toNat_natCast (1 + i)
  rw [e]
  have hi : i < (RS.drop 1).length := Int.ofNat_lt.mp h1
  have : RS.getD (1 + i) 0 = (RS.drop 1)[i] := by
    have h7 : i + 1 < RS.length := Nat.succ_lt_succ hi
    simp [List.getD, h7, Nat.add_comm 1 i]
  rw [this]
  exact List.getElem_mem hi
theorem BoxV.upd {T : Led} {b sl l : Addr} {vs : List Value} {k : Nat} {t : Tok} {o : Obj} (x : BoxV T b sl vs k t) (hb : l ≠ b) (hs : l ≠ sl) : BoxV (updL l o T) b sl vs k t := by
  obtain ⟨n, so, h1, h2, r⟩ := x
  exact ⟨n, so, upd_mem h1 (Ne.symm hb), upd_mem h2 (Ne.symm hs), r⟩
def RowOk (q0 : Rat) (n : Nat) (qs : List Rat) : Prop := ∃ q1 rest, qs = q0 :: q1 :: rest ∧ q1 ∈ RS.drop 1 ∧ (∀ q ∈ rest, q ∈ RS) ∧ rest.length + 2 = n
section
variable {w : World} {p : Program} {loose : List Str} {mean : ExcName → Option Value} {mg mb : Str → Option Value}
theorem row_does {b sl af : Addr} {vs : List Value} {k : Nat} {t tm : Tok} {n : Nat} {q0 : Rat} {news : Led} (x : BoxV news b sl vs k t) (r1 : TupAt w news af q0) (h2 : 2 ≤ n) (hn : n ≤ 1000) :
    DoesM w p loose mean mg mb 4 60 211 [.ref b, .int n tm, .ref af] news (fun T r => ∃ l qs, r = .ref l ∧ LstAt w T l qs ∧ l ≠ b ∧ (∀ p ∈ news, p.1 ≠ l) ∧ Keep b news T ∧ BoxAt T b sl vs ∧ RowOk q0 n qs) := by
  refine doesM_of (dep := 3) (uns := 57) [(Str.ofString "box", .ref b), (Str.ofString "many", .int n tm), (Str.ofString "first", .ref af)] (by k_is) (by k_is) (fun s => BindsTo.of_eq rfl) (locs rfl) rfl rfl rfl (by decide) ?_
  unfold RunsM
  intro dp un gd outer A₀ base g L s Q E B F X N T hd hu hE hret
  k_fold
  k_unmd
  k_extra "st"
  unfold Stop
  refine doesM_use (by assumption) (by assumption) (take_does (BoxV.mono x (by ktr_rel)) (by omega)) B X T rfl (room hd (by decide)) (room hu (by decide)) ?_
  rintro r T1 h1 tk1 F1 N1 hJ100
  refine ex5 hJ100 fun o1 j1 u1 k1 t1 hC103 => and6 hC103 fun hE101 hc1 x1 hE102 ja jb => ?_
  clear hJ100
  clear hC103
  subst hE101
  subst hE102
  have s1 := x.tup (by assumption) Keep.upd r1 (T' := updL b o1 news)
  k_unmd
  k_extra "st"
  rename News _ _ _ _ => N2
  rename Fr _ _ _ _ => F2
  rename LstAt _ _ _ _ => R2
  rename (∀ q ∈ (_ : Led), q.1 < (_ : Addr)) => lt2
  have hsl : ∃ so, (sl, so) ∈ news := let ⟨_, so, _, h, _⟩ := x; ⟨so, h⟩
  have hbl : b ∈ (updL b o1 news).map (·.1) := List.mem_map.mpr ⟨_, .head _, rfl⟩
  have hb2 : ∀ {D : Addr}, (∀ p ∈ updL b o1 news, p.1 < D) → b < D := fun h => h (b, o1) (.head _)
  have hn2 : ∀ {D : Addr}, (∀ p ∈ updL b o1 news, p.1 < D) → ∀ p ∈ news, p.1 ≠ D := fun {D} h p hp => by
    by_cases e : p.1 = b
    · rw [e]; exact Nat.ne_of_lt (hb2 h)
    · exact Nat.ne_of_lt (h p (upd_mem hp e))
  unfold Stop
  refine While_inv (fun N m₁ nw => Keep b news nw ∧ BoxAt nw b sl vs ∧ ∃ fl rest, LstAt w nw fl (q0 :: RS.getD (1 + j1).toNat 0 :: rest) ∧ fl ≠ b ∧ (∀ p ∈ news, p.1 ≠ fl) ∧ (∀ q ∈ rest, q ∈ RS) ∧ rest.length + 2 ≤ n ∧ N = n - (rest.length + 2) ∧ m₁ (Str.ofString "found") = some (.ref fl) ∧ m₁ (Str.ofString "box") = some (.ref b) ∧ m₁ (Str.ofString "many") = some (.int n tm)) F2 N2
    ⟨Keep.upd.sub (by ktr_rel), ⟨_, _, x1.mono (by ktr_rel)⟩, _, [], R2, (Nat.ne_of_lt (hb2 lt2)).symm, hn2 lt2, List.forall_mem_nil _, h2, rfl, rfl, rfl, rfl⟩ ?_ hE
  rintro N m₁ nw h₁ tk₁ F₁ N₁ hJ104
  refine and3 hJ104 fun kp hN105 hN106 => ?_
  clear hJ104
  refine ex2 hN105 fun k3 t3 x3 => ?_
  clear hN105
  refine ex2 hN106 fun fl rest hC108 => and9 hC108 fun R3 hf hfn hrest hlen hE107 e1 e2 e3 => ?_
  clear hC108
  subst hE107
  clear hN106
  clear F2 N2 R2 lt2 x1 hb2 hn2 hbl s1 x
  have em : fmo [(Str.ofString "found", .ref fl), (Str.ofString "box", .ref b), (Str.ofString "many", .int n tm)] m₁ = m₁ := fmo_known (by simp [e1, e2, e3])
  rw [← em] at F₁
  clear em e1 e2 e3
  replace F₁ : Fr g L h₁ _ := F₁
  replace N₁ : News g L h₁ _ := N₁
  k_unmd
  (try k_fold)
  k_extra "st"
  · have hlt : ((q0 :: RS.getD (1 + j1).toNat 0 :: rest).length : Int) < n := by assumption
    simp only [List.length_cons] at hlt
    unfold Stop
    refine doesM_use (by assumption) (by assumption) (take_does (BoxV.mono x3 (by ktr_rel)) (by omega)) B X T rfl (room hd (by decide)) (room hu (by decide)) ?_
    rintro r T2 h2' tk2 F2 N2 hJ109
    refine ex5 hJ109 fun o2 j2 u2 k2 t2 hC112 => and6 hC112 fun hE110 hc2 x2 hE111 ja2 jb2 => ?_
    clear hJ109
    clear hC112
    subst hE110
    subst hE111
    have R4 := x3.lst (by assumption) (Keep.upd (o := o2)) hf R3
    k_unmd
    k_extra "st"
    unfold Stop
    rename TupAt _ _ _ _ => R5
    rename News _ _ _ _ => N5
    rename Fr _ _ _ _ => F5
    refine lst_append R4 (by ktr_rel) R5 (by ktr_rel) F5 N5 (by simp only [List.length_cons]; omega) ?_
    intro o' h' F' N' R'
    k_unmd
    k_extra "st"
    have R'' : LstAt w (updL fl o' (updL b o2 nw)) fl (q0 :: RS.getD (1 + j1).toNat 0 :: (rest ++ [RS.getD j2.toNat 0])) := R'
    refine WhileStep.intro F' N' (n' := n - ((rest ++ [RS.getD j2.toNat 0]).length + 2)) ?_ ⟨?_, ⟨_, _, BoxV.upd x2 hf (let ⟨_, h⟩ := hsl; (hfn _ h).symm)⟩, fl, _, R'', hf, hfn, ?_, ?_, rfl, rfl, rfl, rfl⟩
    · rw [List.length_append, List.length_singleton]
      exact Nat.sub_lt_sub_left (Int.ofNat_lt.mp hlt) (Nat.lt_succ_self (rest.length + 2))
    · intro p hp hne
      exact upd_mem (kp.trans Keep.upd p hp hne) (hfn p hp)
    · intro q hq
      rcases List.mem_append.mp hq with h | h
      · exact hrest q h
      · rw [List.mem_singleton.mp h]; exact RS_mem ja2 jb2
    · rw [List.length_append, List.length_singleton]; omega
  · have hlt : ¬ ((q0 :: RS.getD (1 + j1).toNat 0 :: rest).length : Int) < n := by assumption
    simp only [List.length_cons] at hlt
    have hln : rest.length + 2 = n := by omega
    rename LstAt _ _ _ (List.take _ _) => R6
    rename News _ _ _ _ => N6
    rename Fr _ _ _ _ => F6
    rename (∀ q ∈ (_ : Led), q.1 < (_ : Addr)) => lt6
    have et : (q0 :: RS.getD (1 + j1).toNat 0 :: rest).take ((n : Int)).toNat = q0 :: RS.getD (1 + j1).toNat 0 :: rest := List.take_of_length_le (by simp only [List.length_cons]; exact Nat.le_of_eq hln)
    rw [et] at R6
    have hbl : ∃ o, (b, o) ∈ nw := let ⟨_, _, h, _⟩ := x3; ⟨_, h⟩
    obtain ⟨ob, hob⟩ := hbl
    refine hret _ _ _ _ _ F6 N6 ⟨_, _, rfl, R6, (Nat.ne_of_lt (lt6 _ hob)).symm, fun p hp => ?_, kp.sub (by ktr_rel), ⟨_, _, x3.mono (by ktr_rel)⟩, _, _, rfl, RS_mem1 ja jb, hrest, hln⟩
    by_cases e : p.1 = b
    · rw [e]; exact Nat.ne_of_lt (lt6 _ hob)
    · exact Nat.ne_of_lt (lt6 p (kp p hp e))
end
end
section
theorem rulesM24a : True := by
  k_with_none
  k_with "st" => (repeat' (first | (k_unfold; (try dsimp only)) | ((try dsimp only); walk1)))
  k_with "ktr_rel" => first | exact fun _ h => h | exact List.forall_mem_nil _ | exact fun _ h => List.mem_append_right _ h | exact fun _ h => List.mem_cons_of_mem _ h | (refine sub_app ?_; ktr_rel; done) | (refine sub_cons ?_; ktr_rel; done) | (intro p hp; simp only [List.mem_append, List.mem_cons, hp, true_or, or_true])
  k_with "exec While Compare cons nil" => refine stopHere ?_
  k_with "subscriptTail Name Constant ref int" => (k_here; k_dflt (first
      | ((fail_if_success fail_if_success (with_reducible show wpAny _ _ (subscriptTail _ _ (Value.ref _) (Value.int 0 _)) _ _ _)); refine' rat_item0 (by assumption) (by assumption) (by assumption) (by assumption) (by ktr_rel) ?_ ?_; rotate_left; (with_unfolding_all rfl); intro t'q)
      | ((fail_if_success fail_if_success (with_reducible show wpAny _ _ (subscriptTail _ _ (Value.ref _) (Value.int 1 _)) _ _ _)); refine' rat_item1 (by assumption) (by assumption) (by assumption) (by assumption) (by ktr_rel) ?_ ?_; rotate_left; (with_unfolding_all rfl); intro t'q)
      | ((fail_if_success fail_if_success (with_reducible show wpAny _ _ (subscriptTail _ _ (Value.ref _) (Value.int _ _)) _ _ _)); refine' lst_item (by assumption) (by assumption) (by ktr_rel) (by first | exact Int.natCast_nonneg _ | omega) (by first | assumption | omega) ?_ ?_; rotate_left; (with_unfolding_all rfl); intro a'q R'q)))
  k_with "subscriptTail Name Name ref int" => (k_here; k_dflt ((fail_if_success fail_if_success (with_reducible show wpAny _ _ (subscriptTail _ _ (Value.ref _) (Value.int _ _)) _ _ _)); refine' lst_item (by assumption) (by assumption) (by ktr_rel) (by first | exact Int.natCast_nonneg _ | omega) (by first | assumption | omega) ?_ ?_; rotate_left; (with_unfolding_all rfl); intro a'q R'q))
  k_with "subscriptTail Name BinOp ref int" => (k_here; k_dflt ((fail_if_success fail_if_success (with_reducible show wpAny _ _ (subscriptTail _ _ (Value.ref _) (Value.int _ _)) _ _ _)); refine' lst_item (by assumption) (by assumption) (by ktr_rel) (by first | exact Int.natCast_nonneg _ | omega) (by first | assumption | omega) ?_ ?_; rotate_left; (with_unfolding_all rfl); intro a'q R'q))
  k_with "call builtin:len" => (k_here; (fail_if_success fail_if_success (with_reducible show wpAny _ _ (call (Value.builtin "len") [Value.ref _]) _ _ _)); k_dflt (refine' lst_len (by assumption) (by assumption) (by ktr_rel) ?_))
  k_with "compareOp NotEq ref ref" => (k_here; (fail_if_success fail_if_success (with_reducible show wpAny _ _ (compareOp CmpOp.NotEq (Value.ref _) (Value.ref _)) _ _ _)); k_dflt (first
      | (refine' tup_ne (by assumption) (by first | assumption | exact tup49 (T := [])) (by assumption) (by assumption) (by assumption) (by ktr_rel) (by ktr_rel) (by first | exact room (by assumption) (by decide) | ((try dsimp only); first | exact room (by assumption) (by decide) | omega)) ?_)
      | (refine' lst_ne (by assumption) (by assumption) (by assumption) (by assumption) (by assumption) (by ktr_rel) (by ktr_rel) (by first | exact room (by assumption) (by decide) | ((try dsimp only); first | exact room (by assumption) (by decide) | omega)) ?_)))
  k_with "compareOp Eq ref ref" => (k_here; (fail_if_success fail_if_success (with_reducible show wpAny _ _ (compareOp CmpOp.Eq (Value.ref _) (Value.ref _)) _ _ _)); k_dflt (first
      | (refine' tup_eq (by assumption) (by first | assumption | exact tup49 (T := [])) (by assumption) (by assumption) (by assumption) (by ktr_rel) (by ktr_rel) (by first | exact room (by assumption) (by decide) | ((try dsimp only); first | exact room (by assumption) (by decide) | omega)) ?_)
      | (refine' lst_eq (by assumption) (by assumption) (by assumption) (by assumption) (by assumption) (by ktr_rel) (by ktr_rel) (by first | exact room (by assumption) (by decide) | ((try dsimp only); first | exact room (by assumption) (by decide) | omega)) ?_)))
  k_with "call ref" => (k_here; (fail_if_success fail_if_success (with_reducible show wpAny _ _ (call (Value.ref 64) _) _ _ _)); k_dflt (refine' call_radd (by assumption) (by assumption) (by assumption) (by assumption) (by assumption) (by exact rfl) (by first | exact room (by assumption) (by decide) | omega) (by first | exact room (by assumption) (by decide) | omega) (by first | assumption | exact tup49 (T := []) | exact tup50 (T := []) | exact tup_int (by assumption)) (by ktr_rel) (by first | assumption | exact tup49 (T := []) | exact tup50 (T := []) | exact tup_int (by assumption)) (by ktr_rel) (by assumption) (by assumption) ?_); (intro a'q tl'q h'q tk'q F'q N'q A'q R'q); (try k_sweep))
  k_with "call ref" => (k_here; (fail_if_success fail_if_success (with_reducible show wpAny _ _ (call (Value.ref 71) _) _ _ _)); k_dflt (refine' call_rsub (by assumption) (by assumption) (by assumption) (by assumption) (by assumption) (by exact rfl) (by first | exact room (by assumption) (by decide) | omega) (by first | exact room (by assumption) (by decide) | omega) (by first | assumption | exact tup49 (T := []) | exact tup50 (T := []) | exact tup_int (by assumption)) (by ktr_rel) (by first | assumption | exact tup49 (T := []) | exact tup50 (T := []) | exact tup_int (by assumption)) (by ktr_rel) (by assumption) (by assumption) ?_); (intro a'q tl'q h'q tk'q F'q N'q A'q R'q); (try k_sweep))
  k_with "call ref" => (k_here; (fail_if_success fail_if_success (with_reducible show wpAny _ _ (call (Value.ref 78) _) _ _ _)); k_dflt (refine' call_rmul (by assumption) (by assumption) (by assumption) (by assumption) (by assumption) (by exact rfl) (by first | exact room (by assumption) (by decide) | omega) (by first | exact room (by assumption) (by decide) | omega) (by first | assumption | exact tup49 (T := []) | exact tup50 (T := []) | exact tup_int (by assumption)) (by ktr_rel) (by first | assumption | exact tup49 (T := []) | exact tup50 (T := []) | exact tup_int (by assumption)) (by ktr_rel) (by assumption) (by assumption) ?_); (intro a'q tl'q h'q tk'q F'q N'q A'q R'q); (try k_sweep))
  k_with "call ref" => (k_here; (fail_if_success fail_if_success (with_reducible show wpAny _ _ (call (Value.ref 85) _) _ _ _)); k_dflt (refine' call_rdiv (by assumption) (by assumption) (by assumption) (by assumption) (by assumption) (by exact rfl) (by first | exact room (by assumption) (by decide) | omega) (by first | exact room (by assumption) (by decide) | omega) (by first | assumption | exact tup49 (T := []) | exact tup50 (T := []) | exact tup_int (by assumption)) (by ktr_rel) (by first | assumption | exact tup49 (T := []) | exact tup50 (T := []) | exact tup_int (by assumption)) (by ktr_rel) (by assumption) (by assumption) (by assumption) ?_); (intro a'q tl'q h'q tk'q F'q N'q A'q R'q); (try k_sweep))
  k_with "call ref" => (k_here; (fail_if_success fail_if_success (with_reducible show wpAny _ _ (call (Value.ref 113) _) _ _ _)); k_dflt (refine' call_let (by assumption) (by assumption) (by assumption) (by assumption) (by assumption) (by exact rfl) (by first | exact room (by assumption) (by decide) | omega) (by first | exact room (by assumption) (by decide) | omega) (by assumption) (by ktr_rel) (by assumption) ?_); (intro h'q tk'q F'q N'q); (try k_sweep))
  k_with "exec For Name Call cons nil" => (k_here; (rename Fr _ _ _ _ => lF'q); (with_unfolding_all refine' For_invVF lF'q (by exact rfl) (by exact rfl) ?_; k_whole))
  k_with "pyIter ref" => refine stopHere ?_
  k_with "eval ListComp" => refine stopHere ?_
  k_with "CompSrc" => refine stopHere ?_
  k_with "lcg_sub" => first
      | exact List.Mem.head _
      | (refine List.Mem.tail _ ?_; lcg_sub)
      | (refine List.mem_append_right _ ?_; lcg_sub)
  k_with "eval Name" => (k_here; (fail_if_success fail_if_success (with_reducible show wpAny _ _ (eval (Expr.Name _ _) (compEnvC _ _ _ _)) _ _ _)); k_dflt (first
      | (refine' lcf_cell (by assumption) (by exact rfl) (by lcg_sub) (by assumption) ?_ rfl rfl)
      | (refine' LCgL.ld_own (by assumption) ?_ (by assumption) (by assumption) ?_ rfl rfl (by decide); lcg_sub)
      | (refine' LCgL.ld_global (by assumption) (by assumption) (by assumption) (by k_is) ?_ rfl rfl rfl (by decide))))
  k_with "subscriptTail Name Slice ref ref" => (k_here; k_dflt (first
      | (refine' lst_upto (by assumption) ?_ (by assumption) (by assumption) (by first | assumption | omega) ?_ (by with_unfolding_all rfl); ktr_rel)
      | (refine' lst_from (by assumption) ?_ (by assumption) (by assumption) (by first | assumption | omega) ?_ (by with_unfolding_all rfl); ktr_rel)); intro D'q o'q h'q F'q N'q R'q l1'q; (try k_sweep))
  k_with "subscriptTail ListComp Slice ref ref" => (k_here; k_dflt (first
      | (refine' lst_from (by assumption) ?_ (by assumption) (by assumption) (by first | assumption | omega) ?_ (by with_unfolding_all rfl); ktr_rel)); intro D'q o'q h'q F'q N'q R'q l1'q; (try k_sweep))
  k_with "call type:list" => (k_here; (fail_if_success fail_if_success (with_reducible show wpAny _ _ (call (Value.type "list") [Value.ref _]) _ _ _)); k_dflt (refine' lst_copy (by assumption) ?_ (by assumption) (by assumption) ?_; ktr_rel); intro D'q o'q h'q F'q N'q R'q l1'q; (try k_sweep))
  k_with "binaryOp Mult ref int" => (k_here; (fail_if_success fail_if_success (with_reducible show wpAny _ _ (binaryOp _ (Value.ref _) (Value.int _ _)) _ _ _)); k_dflt (refine' lst_mul1 (by assumption) ?_ (by assumption) (by assumption) (by first | omega | (simp only [List.length_nil, List.length_cons]; omega)) (by first | omega | (simp only [List.length_nil, List.length_cons]; omega)) ?_; ktr_rel); intro D'q o'q h'q F'q N'q R'q l1'q; (try k_sweep))
  k_with "binaryOp Add ref ref" => (k_here; (fail_if_success fail_if_success (with_reducible show wpAny _ _ (binaryOp _ (Value.ref _) (Value.ref _)) _ _ _)); k_dflt (refine' lst_add (by assumption) ?_ (by assumption) ?_ (by assumption) (by assumption) (by ((try simp only [List.length_take, List.length_drop, List.length_replicate, List.length_cons, List.length_nil]); omega)) ?_; ktr_rel; ktr_rel); intro D'q o'q h'q F'q N'q R'q l1'q; (try k_sweep))
  k_with "newList" => (k_here; k_dflt (first
      | ((fail_if_success fail_if_success (with_reducible show wpAny _ _ (newList []) _ _ _)); refine' newlst0 (w := _) (by assumption) (by assumption) ?_)
      | ((fail_if_success fail_if_success (with_reducible show wpAny _ _ (newList [Value.ref _]) _ _ _)); refine' newlst1 (by first | assumption | exact tup49 (T := []) | exact tup50 (T := [])) ?_ (by assumption) (by assumption) ?_; ktr_rel)
      | ((fail_if_success fail_if_success (with_reducible show wpAny _ _ (newList [Value.ref _, Value.ref _]) _ _ _)); refine' newlst2 (by first | assumption | exact tup49 (T := []) | exact tup50 (T := [])) ?_ (by first | assumption | exact tup49 (T := []) | exact tup50 (T := [])) ?_ (by assumption) (by assumption) ?_; ktr_rel; ktr_rel)); intro D'q o'q h'q F'q N'q R'q l1'q; (try k_sweep))
  k_with "getMethod ref" => (k_here; (fail_if_success fail_if_success (with_reducible show wpAny _ _ (getMethod (Value.ref _) (Str.ofString "append") _) _ _ _)); k_dflt (refine' lst_getAppend (by assumption) ?_ (by assumption) ?_; ktr_rel))
  k_with "call builtin:list.append" => refine stopHere ?_
  k_with "setItem ref int ref" => refine stopHere ?_
  k_with "lcg_off" => first | exact Ext.refl | (refine Ext.cons ?_ (by assumption); lcg_off) | (refine Ext.cons ?_ (ktn_ltOf (by assumption)); lcg_off) | (refine Ext.app ?_ (by assumption); lcg_off) | assumption
  k_with "exec While BoolOp cons nil" => refine stopHere ?_
  k_with "subscriptTail Subscript Constant ref int" => (k_here; k_dflt ((fail_if_success fail_if_success (with_reducible show wpAny _ _ (subscriptTail _ _ (Value.ref _) (Value.int 0 _)) _ _ _)); refine' rat_item0 (by assumption) (by assumption) (by assumption) (by assumption) (by ktr_rel) ?_ ?_; rotate_left; (with_unfolding_all rfl); intro t'q))
  k_with "call ref" => (k_here; (fail_if_success fail_if_success (with_reducible show wpAny _ _ (call (Value.ref 165) _) _ _ _)); k_dflt (refine' call_qtrim (by assumption) (by assumption) (by assumption) (by assumption) (by assumption) (by exact rfl) (by first | exact room (by assumption) (by decide) | omega) (by first | exact room (by assumption) (by decide) | omega) (by assumption) (by ktr_rel) ?_); (intro a'q tl'q h'q tk'q F'q N'q A'q R'q Fh'q); (try k_sweep))
  k_with "exec For Tuple Call cons nil" => (k_here; (rename Fr _ _ _ _ => lF'q); (with_unfolding_all refine' For_turns lF'q ?_; k_whole))
  k_with "call type:enumerate" => refine stopHere ?_
  k_with "call type:reversed" => refine stopHere ?_
  k_with "subscriptTail Name BinOp ref int" => (k_here; k_dflt ((fail_if_success fail_if_success (with_reducible show wpAny _ _ (subscriptTail _ _ (Value.ref 197) (Value.int _ _)) _ _ _)); refine' rat_pick (by assumption) (by assumption) (by first | exact Int.natCast_nonneg _ | omega) (by first | assumption | omega) ?_ (by with_unfolding_all rfl)); (intro a'q R''q; have R'q := R''q []))
  k_with "subscriptTail Name Call ref int" => (k_here; k_dflt ((fail_if_success fail_if_success (with_reducible show wpAny _ _ (subscriptTail _ _ (Value.ref 197) (Value.int _ _)) _ _ _)); refine' rat_pick (by assumption) (by assumption) (by first | exact Int.natCast_nonneg _ | omega) (by first | assumption | omega) ?_ (by with_unfolding_all rfl)); (intro a'q R''q; have R'q := R''q []))
  k_with "call ref" => (k_here; (fail_if_success fail_if_success (with_reducible show wpAny _ _ (call (Value.ref 204) _) _ _ _)); refine stopHere ?_)
  exact True.intro
theorem BoxV.shrink {T T0 : Led} {b sl L : Addr} {vs : List Value} {k k' : Nat} {t t' : Tok} {o : Obj} {g h : Heap} (x : BoxV (updL b o T) b sl vs k' t') (y : BoxV T0 b sl vs k t) (s : ∀ p ∈ T0, p ∈ T) (N : News g L h (updL b o T)) : BoxV (updL b o T0) b sl vs k' t' := by
  obtain ⟨n', so, h1, h2, h3, h4, h5, h6, h7⟩ := x
  refine ⟨n', so, ?_, ?_, h3, h4, h5, h6, h7⟩
  · rcases List.mem_cons.mp h1 with e | e
    · rw [e]; exact .head _
    · exact absurd rfl (mem_dropL.mp e).2
  · obtain ⟨_, so', _, e2, _⟩ := y
    have e3 := news_one N h2 (upd_mem (s _ e2) (Ne.symm h5))
    rw [e3]
    exact upd_mem e2 (Ne.symm h5)
def PolyOk (qs : List Rat) : Prop := ∃ xs q, qs = xs ++ [q] ∧ xs.length ≤ 2 ∧ (∀ x ∈ xs, x ∈ RS) ∧ q ∈ RS.drop 1
theorem items_snoc2 {w : World} {as : List Addr} {qs : List Rat} {a : Addr} {q : Rat} (hl : as.length = qs.length) (h : ∀ (i : Nat) a q, as[i]? = some a → qs[i]? = some q → TupAt w [] a q) (ha : TupAt w [] a q) :
    ∀ (i : Nat) b r, (as ++ [a])[i]? = some b → (qs ++ [q])[i]? = some r → TupAt w [] b r := by
  intro i b r hb hr
  by_cases hi : i < as.length
  · rw [List.getElem?_append_left hi] at hb
    rw [List.getElem?_append_left (by omega)] at hr
    exact h i b r hb hr
  · rw [List.getElem?_append_right (by omega)] at hb
    rw [List.getElem?_append_right (by omega)] at hr
    have hz : i - as.length = 0 := by
      cases hz : i - as.length with
      | zero => rfl
      | succ k => rw [hz] at hb; simp at hb
    rw [hz] at hb
    rw [← hl, hz] at hr
    cases hb
    cases hr
    exact ha
section
variable {w : World} {p : Program} {loose : List Str} {mean : ExcName → Option Value} {mg mb : Str → Option Value}
theorem poly_does {b sl : Addr} {vs : List Value} {k : Nat} {t : Tok} {news : Led} (x : BoxV news b sl vs k t) :
    DoesM w p loose mean mg mb 4 80 216 [.ref b] news (fun T r => ∃ l qs, r = .ref l ∧ LstAt w T l qs ∧ l ≠ b ∧ (∀ p ∈ news, p.1 ≠ l) ∧ Keep b news T ∧ BoxAt T b sl vs ∧ PolyOk qs) := by
  refine doesMC_of (dep := 3) (uns := 77) [(Str.ofString "box", .ref b)] (by k_is) (by k_is) (fun s => BindsTo.of_eq rfl) rfl (by decide +kernel) rfl rfl rfl ?_
  unfold RunsMC
  intro dp un gd outer A₀ base g L s cells Q E B F X Y N l1 T hd hu hE hret
  k_cells Y
  k_unmd
  k_fold
  simp only [List.cons_append, List.nil_append] at N
  rename Obj => ocell
  have hob : ∃ ob, (b, ob) ∈ news := let ⟨_, _, h, _⟩ := x; ⟨_, h⟩
  have hbL : b ≠ L + 1 := let ⟨_, h⟩ := hob; Nat.ne_of_lt (Nat.lt_succ_of_lt (l1 _ h))
  k_unmd
  k_extra "st"
  unfold Stop
  refine doesM_use (by assumption) (by assumption) (take_does (BoxV.mono x (by ktr_rel)) (by omega)) B X T rfl (room hd (by decide)) (room hu (by decide)) ?_
  rintro r T1 h1 tk1 F1 N1 hJ113
  refine ex5 hJ113 fun o1 j1 u1 k1 t1 hC116 => and6 hC116 fun hE114 hc1 x1 hE115 ja jb => ?_
  clear hJ113
  clear hC116
  subst hE114
  subst hE115
  have N1' : News g L h1 ((L + 1, ocell) :: updL b o1 news) := News.sub N1 fun p hp => by
    rcases List.mem_cons.mp hp with rfl | hp
    · exact upd_mem (.head _) (Ne.symm hbL)
    rcases List.mem_cons.mp hp with rfl | hp
    · exact .head _
    · exact upd_mem (.tail _ (mem_dropL.mp hp).1) (mem_dropL.mp hp).2
  have x1' : BoxAt (updL b o1 news) b sl vs := ⟨_, _, x1.shrink x (by ktr_rel) N1⟩
  clear x1 N1
  obtain ⟨d, rfl⟩ : ∃ d : Nat, j1 = (d : Int) := nat_of ja
  replace F1 : Fr g L h1 _ := F1
  k_unmd
  k_extra "st"
  unfold Stop
  refine LCg.ListComp_U (F₀ := by assumption) (by with_unfolding_all rfl) (by decide) (by rfl) (by decide) (by rfl) ?_
  (try k_fold)
  k_extra "st"
  rename IsRange _ _ _ _ _ _ _ _ => IR
  rename News _ _ _ _ => N1
  rename Fr _ _ _ _ => F1
  unfold Stop
  refine LCg.CompSrc.range (n := d) rfl F1 N1 IR (small_one (by omega) (by omega) (by omega) (by omega)) (by rw [rangeSize_nat]; first | exact tn_pred _ | omega) (by rw [sizeLine_eq]; omega) ?_
  intro g'
  refine comp_rest (n := d) (fun i ys nw => ∃ (T : Led) (as : List Addr) (qs : List Rat), nw = (L + 1, ocell) :: T ∧ Keep b news T ∧ BoxAt T b sl vs ∧ ys = as.map Value.ref ∧ as.length = qs.length ∧ as.length = i ∧ (∀ q ∈ qs, q ∈ RS) ∧ ∀ (i : Nat) a q, as[i]? = some a → qs[i]? = some q → TupAt w [] a q)
    ?_ ?_ _ 0 [] _ (by omega) ⟨_, [], [], rfl, Keep.upd, x1', rfl, rfl, rfl, List.forall_mem_nil _, fun i a q h => by simp at h⟩
  · rintro i ys nw hi hJ117 v I oI C oC D m₂ h tk E' hJ118 hC hx F₂ N₂ off ne R hR
    refine hideQ fun Z1 hZ1 => ?_
    refine ex3 hJ117 fun T3 as qs hC122 => and8 hC122 fun hE119 kp hN120 hE121 hl1 hl2 hrs hit => ?_
    clear hJ117
    clear hC122
    subst hE119
    refine ex2 hN120 fun k3 t3 x3 => ?_
    clear hN120
    subst hE121
    refine ex1 hJ118 fun t hE123 => ?_
    clear hJ118
    subst hE123
    clear F1 N1 IR x1' ne
    have offm := off.mem
    obtain ⟨ob, hb3⟩ : ∃ ob, (b, ob) ∈ T3 := let ⟨_, _, h, _⟩ := x3; ⟨_, h⟩
    have ob3 := offm _ (.tail _ hb3)
    rw [Int.zero_add] at hx
    k_unmd
    (try k_fold)
    k_extra "st"
    unfold Stop
    refine doesM_use (by assumption) (by assumption) (take_does (BoxV.mono x3 (by ktr_rel)) (by omega)) B X T rfl (room hd (by decide)) (room hu (by decide)) ?_
    rintro r T2 h2' tk2 F2 N2 hJ124
    refine ex5 hJ124 fun o2 j2 u2 k2 t2 hC127 => and6 hC127 fun hE125 hc2 x2 hE126 ja2 jb2 => ?_
    clear hJ124
    clear hC127
    subst hE125
    subst hE126
    k_unmd
    k_extra "st"
    rename TupAt _ _ _ _ => R5
    rename News _ _ _ _ => N5
    rename Fr _ _ _ _ => F5
    have x4 : BoxAt (updL b o2 T3) b sl vs := ⟨_, _, x2.shrink x3 (by ktr_rel) N5⟩
    refine hZ1 _ _ ?_
    refine LCg.CompEnd.intro F5 N5 ((L + 1, ocell) :: updL b o2 T3) ?_ (LCg.Off3.of ?_) trivial (hR _ _ ⟨updL b o2 T3, as ++ [_], qs ++ [_], rfl, kp.trans Keep.upd, x4, by rw [List.map_append]; rfl, by simp [hl1], by simp [hl2], ?_, items_snoc2 hl1 hit R5⟩)
    · intro p hp
      rcases List.mem_cons.mp hp with rfl | hp
      · exact upd_mem (.head _) (Ne.symm ob3.1)
      rcases List.mem_cons.mp hp with rfl | hp
      · exact upd_mem (.tail _ (.head _)) (Ne.symm ob3.2.1)
      rcases List.mem_cons.mp hp with rfl | hp
      · exact upd_mem (.tail _ (.tail _ (.head _))) (Ne.symm ob3.2.2)
      rcases List.mem_cons.mp hp with rfl | hp
      · exact upd_mem (.tail _ (.tail _ (.tail _ (.head _)))) (Ne.symm hbL)
      rcases List.mem_cons.mp hp with rfl | hp
      · exact .head _
      · exact upd_mem (.tail _ (.tail _ (.tail _ (.tail _ (mem_dropL.mp hp).1)))) (mem_dropL.mp hp).2
    · intro p hp
      rcases List.mem_cons.mp hp with rfl | hp
      · exact offm _ (.head _)
      rcases List.mem_cons.mp hp with rfl | hp
      · exact ob3
      · exact offm _ (.tail _ (mem_dropL.mp hp).1)
    · intro q hq
      rcases List.mem_append.mp hq with h | h
      · exact hrs q h
      · rw [List.mem_singleton.mp h]; exact RS_mem ja2 jb2
  · rintro ys nw hJ128 D h tk F₂ N₂ off
    refine ex3 hJ128 fun T3 as qs hC132 => and8 hC132 fun hE129 kp hN130 hE131 hl1 hl2 hrs hit => ?_
    clear hJ128
    clear hC132
    subst hE129
    refine ex2 hN130 fun k3 t3 x3 => ?_
    clear hN130
    subst hE131
    clear F1 N1 IR x1'
    have offm := off1_ne off
    obtain ⟨ob, hb3⟩ : ∃ ob, (b, ob) ∈ T3 := let ⟨_, _, h, _⟩ := x3; ⟨_, h⟩
    have ob3 := offm _ (.tail _ hb3)
    have R4 : LstAt w ((D, LCg.lst (as.map Value.ref)) :: (L + 1, ocell) :: T3) D qs := lst_new (k := (as.map Value.ref).length) (.head _) hl1 (by omega) fun i a q ha hq => (hit i a q ha hq).mono (List.forall_mem_nil _)
    replace F₂ : Fr g L h _ := F₂
    k_unmd
    k_extra "st"
    unfold Stop
    refine doesM_use (by assumption) (by assumption) (take_does (BoxV.mono x3 (by ktr_rel)) (by omega)) B X T rfl (room hd (by decide)) (room hu (by decide)) ?_
    rintro r T2 h2' tk2 F2 N2 hJ133
    refine ex5 hJ133 fun o2 j2 u2 k2 t2 hC136 => and6 hC136 fun hE134 hc2 x2 hE135 ja2 jb2 => ?_
    clear hJ133
    clear hC136
    subst hE134
    subst hE135
    have R5 := (x3.mono (by ktr_rel)).lst (by assumption) (Keep.upd (o := o2)) (Ne.symm ob3) R4
    clear R4
    k_unmd
    k_extra "st"
    rename LstAt _ _ _ (_ ++ _) => R6
    rename News _ _ _ _ => N6
    rename Fr _ _ _ _ => F6
    rename (∀ q ∈ (_ : Led), q.1 < (_ : Addr)) => lt6
    have ltb := lt6 (b, o2) (.tail _ (.head _))
    refine hret _ _ _ _ _ F6 N6 ⟨_, _, rfl, R6, (Nat.ne_of_lt ltb).symm, fun p hp => ?_, fun p hp hne => ?_, ⟨_, _, x2.mono (by ktr_rel)⟩, _, _, rfl, by omega, hrs, RS_mem1 ja2 jb2⟩
    · by_cases e : p.1 = b
      · rw [e]; exact Nat.ne_of_lt ltb
      · exact Nat.ne_of_lt (lt6 p (.tail _ (upd_mem (.tail _ (.tail _ (kp p hp e))) e)))
    · exact .tail _ (.tail _ (upd_mem (.tail _ (.tail _ (kp p hp hne))) hne))
end
end
section
/-- a list of ints, not a given one -/
def ScrAt (T : Led) (l : Addr) (vs : List Value) : Prop := ∃ so, (l, so) ∈ T ∧ so.cls = .type "list" ∧ (∃ ns, so.data = .seq vs.toArray ns) ∧ AllInt vs ∧ vs.length ≤ 1000
theorem allInt_of : ∀ {vs : List Value} {xs : List Int}, IntsAre vs xs → AllInt vs
  | _, _, .nil => fun i v h => by simp at h
  | _, _, .cons n t r => fun i v h => by
    cases i with
    | zero => exact ⟨_, _, (Option.some.inj h).symm⟩
    | succ i => exact allInt_of r i v (by simpa using h)
theorem scr_le {vs : List Value} {xs : List Int} (h : IntsAre vs xs) (hn : ¬ ((63 : Nat) : Int) < (xs.length : Int)) : vs.length ≤ 1000 := by
  have e : vs.length = xs.length := by
    clear hn
    induction h with
    | nil => rfl
    | cons n t _ ih => simp [ih]
  omega
theorem AllInt.take {vs : List Value} (h : AllInt vs) (k : Nat) : AllInt (vs.take k) := fun i v e => by
  rw [List.getElem?_take] at e
  split at e
  · exact h i v e
  · cases e
section
variable {w : World} {A : Around} {E : Value → Shared → Prop} {s : Shared} {T T1 T2 T' : Led} {a b l sl : Addr} {g : Heap} {L : Addr} {m : Str → Option Value} {value slice : Expr} {Q : Value → Shared → Prop} {vs : List Value}
theorem scr_upto {hp : Heap} {gs : Array GenState} {dr : Drawn} {tk : Nat} {os : OsState} {k : Int} {t : Tok} (x : g.IsList l vs.toArray) (ha : AllInt vs) (hle : vs.length ≤ 1000) (F : Fr g L hp m) (N : News g L hp T) (hk : 0 ≤ k)
    (h : ∀ D o h', Fr g L h' m → News g L h' ((D, o) :: T) → ScrAt ((D, o) :: T) D (vs.take k.toNat) → (∀ p ∈ T, p.1 < D) → Q (.ref D) ⟨h', gs, dr, tk, os⟩)
    (hs : subscripted slice false (.ref l) (.ref hp.objs.size) = operate [.ref hp.objs.size, .ref l] (getItem (.ref l) (.ref hp.objs.size)) := by with_unfolding_all rfl) :
    wpAny (model PySem.Challenge.rw_sa0095_01.row.prog w) A (subscriptTail value slice (.ref l) (.ref hp.objs.size)) Q E ⟨hp.push { cls := .type "slice", data := .fields #[.none, .int k t, .none] }, gs, dr, tk, os⟩ := by
  have hl : hp.IsList l vs.toArray := x.at fun o e => F.keep _ _ e
  refine tail_any (Heap.IsList.typeIs (s := ⟨hp.push { cls := .type "slice", data := .fields #[.none, .int k t, .none] }, gs, dr, tk, os⟩) (hl.push _)) list_getitem_lookup
    (wpAny_getItem_list_slice (hl.push _) (Heap.IsSliceOf.new ..) .none (.int k t) .none (by simp) ?_ (by rw [sizeLine_eq]; simp; omega)) hs
  have N1 := News.push (F.push { cls := .type "slice", data := .fields #[.none, .int k t, .none] }) (N.grown fun _ _ e => Heap.get?_push_of_some _ e) { cls := .type "list", data := .seq (slicePick vs.toArray none (some k) none) }
  rw [Heap.size_push] at N1
  have e : slicePick vs.toArray none (some k) none = (vs.take k.toNat).toArray := by
    rw [kms_pick_eq]
    have h' : ¬ k < 0 := by omega
    congr 1
    simp only [kms_pick, kms_lo, kms_hi, if_neg h', List.drop_zero, Nat.sub_zero]
    exact kmk_take_min _ _
  show Q (.ref (hp.push _).objs.size) _
  rw [e] at N1 ⊢
  rw [Heap.size_push]
  refine h _ _ _ ((F.push _).push _) N1 ?_ fun p hp => Nat.lt_succ_of_lt (Heap.lt_size (N p hp).1)
  exact ⟨_, .head _, rfl, ⟨_, rfl⟩, ha.take _, by rw [List.length_take]; omega⟩
theorem scr_copy (x : ScrAt T1 l vs) (s1 : ∀ p ∈ T1, p ∈ T) (F : Fr g L s.heap m) (N : News g L s.heap T)
    (h : ∀ D o h', Fr g L h' m → News g L h' ((D, o) :: T) → ScrAt ((D, o) :: T) D vs → (∀ p ∈ T, p.1 < D) → Q (.ref D) { s with heap := h' }) :
    wpAny (model PySem.Challenge.rw_sa0095_01.row.prog w) A (call (.type "list") [.ref l]) Q E s := by
  obtain ⟨so, h1, h2, ⟨ns, h3⟩, h4, h5⟩ := x
  have hl : s.heap.IsList l vs.toArray := ⟨_, N.get (s1 _ h1), h2, _, h3⟩
  exact list_copyK F N hl (fun D c h' F' N' l1 => h D _ h' F' N' ⟨_, .head _, rfl, ⟨_, rfl⟩, h4, h5⟩ l1) (by rw [sizeLine_eq]; simp; omega)
theorem box_new {t : Tok} (x : ScrAt T1 l vs) (s1 : ∀ p ∈ T1, p ∈ T) (F : Fr g L s.heap m) (N : News g L s.heap T)
    (h : ∀ D o h', Fr g L h' m → News g L h' ((D, o) :: T) → BoxV ((D, o) :: T) D l vs 0 t → (∀ p ∈ T, p.1 < D) → Q (.ref D) { s with heap := h' }) :
    wpAny (model PySem.Challenge.rw_sa0095_01.row.prog w) A (newList [.ref l, .int 0 t]) Q E s := by
  obtain ⟨so, h1, h2, ⟨ns, h3⟩, h4, h5⟩ := x
  exact newList_K F N (fun D h' F' N' l1 => h D _ h' F' N' ⟨_, so, .head _, .tail _ (s1 _ h1), h2, ⟨_, h3⟩, (Nat.ne_of_lt (l1 _ (s1 _ h1))).symm, h4, h5⟩ l1)
end
theorem bridge {prog : Program} {w : World} {cn : Str} {cs : Scope} {L a : Addr} {ccd : Value} {body : List Stmt} {Q : Flow → Shared → Prop} {E : Value → Shared → Prop} {s : Shared}
    (h : wpAny (model prog w) (ktrTop 302 7 (some []) cn cs L a ccd [] []) (execs body (envX cn cs L a ccd [])) Q E s) :
    wpAny (model prog w) (callerA.deeper (envOf cn cs L a ccd)) (execs body (envOf cn cs L a ccd)) Q E s := h
theorem rulesM25a : True := by
  k_with_none
  k_with "st" => (repeat' (first | (k_unfold; (try dsimp only)) | ((try dsimp only); walk1)))
  k_with "ktr_rel" => first | exact fun _ h => h | exact List.forall_mem_nil _ | exact fun _ h => List.mem_append_right _ h | exact fun _ h => List.mem_cons_of_mem _ h | (refine sub_app ?_; ktr_rel; done) | (refine sub_cons ?_; ktr_rel; done) | (intro p hp; simp only [List.mem_append, List.mem_cons, hp, true_or, or_true])
  k_with "exec While Compare cons nil" => refine stopHere ?_
  k_with "subscriptTail Name Constant ref int" => (k_here; k_dflt (first
      | ((fail_if_success fail_if_success (with_reducible show wpAny _ _ (subscriptTail _ _ (Value.ref _) (Value.int 0 _)) _ _ _)); refine' rat_item0 (by assumption) (by assumption) (by assumption) (by assumption) (by ktr_rel) ?_ ?_; rotate_left; (with_unfolding_all rfl); intro t'q)
      | ((fail_if_success fail_if_success (with_reducible show wpAny _ _ (subscriptTail _ _ (Value.ref _) (Value.int 1 _)) _ _ _)); refine' rat_item1 (by assumption) (by assumption) (by assumption) (by assumption) (by ktr_rel) ?_ ?_; rotate_left; (with_unfolding_all rfl); intro t'q)
      | ((fail_if_success fail_if_success (with_reducible show wpAny _ _ (subscriptTail _ _ (Value.ref _) (Value.int _ _)) _ _ _)); refine' lst_item (by assumption) (by assumption) (by ktr_rel) (by first | exact Int.natCast_nonneg _ | omega) (by first | assumption | omega) ?_ ?_; rotate_left; (with_unfolding_all rfl); intro a'q R'q)))
  k_with "subscriptTail Name Name ref int" => (k_here; k_dflt ((fail_if_success fail_if_success (with_reducible show wpAny _ _ (subscriptTail _ _ (Value.ref _) (Value.int _ _)) _ _ _)); refine' lst_item (by assumption) (by assumption) (by ktr_rel) (by first | exact Int.natCast_nonneg _ | omega) (by first | assumption | omega) ?_ ?_; rotate_left; (with_unfolding_all rfl); intro a'q R'q))
  k_with "subscriptTail Name BinOp ref int" => (k_here; k_dflt ((fail_if_success fail_if_success (with_reducible show wpAny _ _ (subscriptTail _ _ (Value.ref _) (Value.int _ _)) _ _ _)); refine' lst_item (by assumption) (by assumption) (by ktr_rel) (by first | exact Int.natCast_nonneg _ | omega) (by first | assumption | omega) ?_ ?_; rotate_left; (with_unfolding_all rfl); intro a'q R'q))
  k_with "call builtin:len" => (k_here; (fail_if_success fail_if_success (with_reducible show wpAny _ _ (call (Value.builtin "len") [Value.ref _]) _ _ _)); k_dflt (refine' lst_len (by assumption) (by assumption) (by ktr_rel) ?_))
  k_with "compareOp NotEq ref ref" => (k_here; (fail_if_success fail_if_success (with_reducible show wpAny _ _ (compareOp CmpOp.NotEq (Value.ref _) (Value.ref _)) _ _ _)); k_dflt (first
      | (refine' tup_ne (by assumption) (by first | assumption | exact tup49 (T := [])) (by assumption) (by assumption) (by assumption) (by ktr_rel) (by ktr_rel) (by first | exact room (by assumption) (by decide) | ((try dsimp only); first | exact room (by assumption) (by decide) | omega)) ?_)
      | (refine' lst_ne (by assumption) (by assumption) (by assumption) (by assumption) (by assumption) (by ktr_rel) (by ktr_rel) (by first | exact room (by assumption) (by decide) | ((try dsimp only); first | exact room (by assumption) (by decide) | omega)) ?_)))
  k_with "compareOp Eq ref ref" => (k_here; (fail_if_success fail_if_success (with_reducible show wpAny _ _ (compareOp CmpOp.Eq (Value.ref _) (Value.ref _)) _ _ _)); k_dflt (first
      | (refine' tup_eq (by assumption) (by first | assumption | exact tup49 (T := [])) (by assumption) (by assumption) (by assumption) (by ktr_rel) (by ktr_rel) (by first | exact room (by assumption) (by decide) | ((try dsimp only); first | exact room (by assumption) (by decide) | omega)) ?_)
      | (refine' lst_eq (by assumption) (by assumption) (by assumption) (by assumption) (by assumption) (by ktr_rel) (by ktr_rel) (by first | exact room (by assumption) (by decide) | ((try dsimp only); first | exact room (by assumption) (by decide) | omega)) ?_)))
  k_with "subscriptTail Name Slice ref ref" => (k_here; k_dflt (first
      | (refine' lst_upto (by assumption) ?_ (by assumption) (by assumption) (by first | assumption | omega) ?_ (by with_unfolding_all rfl); ktr_rel)
      | (refine' lst_from (by assumption) ?_ (by assumption) (by assumption) (by first | assumption | omega) ?_ (by with_unfolding_all rfl); ktr_rel)); intro D'q o'q h'q F'q N'q R'q l1'q; (try k_sweep))
  k_with "subscriptTail ListComp Slice ref ref" => (k_here; k_dflt (first
      | (refine' lst_from (by assumption) ?_ (by assumption) (by assumption) (by first | assumption | omega) ?_ (by with_unfolding_all rfl); ktr_rel)); intro D'q o'q h'q F'q N'q R'q l1'q; (try k_sweep))
  k_with "call type:list" => (k_here; (fail_if_success fail_if_success (with_reducible show wpAny _ _ (call (Value.type "list") [Value.ref _]) _ _ _)); k_dflt (refine' lst_copy (by assumption) ?_ (by assumption) (by assumption) ?_; ktr_rel); intro D'q o'q h'q F'q N'q R'q l1'q; (try k_sweep))
  k_with "binaryOp Mult ref int" => (k_here; (fail_if_success fail_if_success (with_reducible show wpAny _ _ (binaryOp _ (Value.ref _) (Value.int _ _)) _ _ _)); k_dflt (refine' lst_mul1 (by assumption) ?_ (by assumption) (by assumption) (by first | omega | (simp only [List.length_nil, List.length_cons]; omega)) (by first | omega | (simp only [List.length_nil, List.length_cons]; omega)) ?_; ktr_rel); intro D'q o'q h'q F'q N'q R'q l1'q; (try k_sweep))
  k_with "binaryOp Add ref ref" => (k_here; (fail_if_success fail_if_success (with_reducible show wpAny _ _ (binaryOp _ (Value.ref _) (Value.ref _)) _ _ _)); k_dflt (refine' lst_add (by assumption) ?_ (by assumption) ?_ (by assumption) (by assumption) (by ((try simp only [List.length_take, List.length_drop, List.length_replicate, List.length_cons, List.length_nil]); omega)) ?_; ktr_rel; ktr_rel); intro D'q o'q h'q F'q N'q R'q l1'q; (try k_sweep))
  k_with "newList" => (k_here; k_dflt (first
      | ((fail_if_success fail_if_success (with_reducible show wpAny _ _ (newList []) _ _ _)); refine' newlst0 (w := _) (by assumption) (by assumption) ?_)
      | ((fail_if_success fail_if_success (with_reducible show wpAny _ _ (newList [Value.ref _]) _ _ _)); refine' newlst1 (by first | assumption | exact tup49 (T := []) | exact tup50 (T := [])) ?_ (by assumption) (by assumption) ?_; ktr_rel)
      | ((fail_if_success fail_if_success (with_reducible show wpAny _ _ (newList [Value.ref _, Value.ref _]) _ _ _)); refine' newlst2 (by first | assumption | exact tup49 (T := []) | exact tup50 (T := [])) ?_ (by first | assumption | exact tup49 (T := []) | exact tup50 (T := [])) ?_ (by assumption) (by assumption) ?_; ktr_rel; ktr_rel)); intro D'q o'q h'q F'q N'q R'q l1'q; (try k_sweep))
  k_with "getMethod ref" => (k_here; (fail_if_success fail_if_success (with_reducible show wpAny _ _ (getMethod (Value.ref _) (Str.ofString "append") _) _ _ _)); k_dflt (refine' lst_getAppend (by assumption) ?_ (by assumption) ?_; ktr_rel))
  k_with "call builtin:list.append" => refine stopHere ?_
  k_with "setItem ref int ref" => refine stopHere ?_
  k_with "subscriptTail Name BinOp ref int" => (k_here; k_dflt ((fail_if_success fail_if_success (with_reducible show wpAny _ _ (subscriptTail _ _ (Value.ref 197) (Value.int _ _)) _ _ _)); refine' rat_pick (by assumption) (by assumption) (by first | exact Int.natCast_nonneg _ | omega) (by first | assumption | omega) ?_ (by with_unfolding_all rfl)); (intro a'q R''q; have R'q := R''q []))
  k_with "subscriptTail Name Call ref int" => (k_here; k_dflt ((fail_if_success fail_if_success (with_reducible show wpAny _ _ (subscriptTail _ _ (Value.ref 197) (Value.int _ _)) _ _ _)); refine' rat_pick (by assumption) (by assumption) (by first | exact Int.natCast_nonneg _ | omega) (by first | assumption | omega) ?_ (by with_unfolding_all rfl)); (intro a'q R''q; have R'q := R''q []))
  k_with "call ref" => (k_here; (fail_if_success fail_if_success (with_reducible show wpAny _ _ (call (Value.ref 204) _) _ _ _)); refine stopHere ?_)
  k_with "call ref" => (k_here; (first | (fail_if_success fail_if_success (with_reducible show wpAny _ _ (call (Value.ref 204) _) _ _ _)) | (fail_if_success fail_if_success (with_reducible show wpAny _ _ (call (Value.ref 211) _) _ _ _)) | (fail_if_success fail_if_success (with_reducible show wpAny _ _ (call (Value.ref 216) _) _ _ _))); refine stopHere ?_)
  k_with "subscriptTail Name Slice ref ref" => (k_here; k_dflt (refine' scr_upto (by assumption) (by assumption) (by first | assumption | omega) (by assumption) (by assumption) (by first | assumption | omega) ?_ (by with_unfolding_all rfl)); (intro D'q o'q h'q F'q N'q R'q l1'q); (try k_sweep))
  k_with "call type:list" => (k_here; (fail_if_success fail_if_success (with_reducible show wpAny _ _ (call (Value.type "list") [Value.ref _]) _ _ _)); k_dflt (refine' scr_copy (by assumption) ?_ (by assumption) (by assumption) ?_; ktr_rel); (intro D'q o'q h'q F'q N'q R'q l1'q); (try k_sweep))
  k_with "newList" => (k_here; k_dflt ((fail_if_success fail_if_success (with_reducible show wpAny _ _ (newList [Value.ref _, Value.int _ _]) _ _ _)); refine' box_new (by assumption) ?_ (by assumption) (by assumption) ?_; ktr_rel); (intro D'q o'q h'q F'q N'q R'q l1'q); (try k_sweep))
  exact True.intro
end
section
def DerOk (qs : List Rat) : Prop := ∀ n, n < qs.length → Tiny (qs.getD n 0)
def Plain1 (n : Nat) (qs : List Rat) : Prop := RevOk qs ∧ DerOk (revF qs) ∧ CompOk (derF (revF qs)) qs (min (derF (revF qs)).length qs.length) ∧ DerOk qs ∧ SmulOk (compF (derF (revF qs)) qs) (derF qs) ∧ smulF (compF (derF (revF qs)) qs) (derF qs) = [1] ++ List.replicate (n - 2) 0
def Plain0 (os qs : List Rat) : Prop := CompOk os qs (min os.length qs.length) ∧ DerOk (compF os qs) ∧ DerOk os ∧ CompOk (derF os) qs (min (derF os).length qs.length) ∧ DerOk qs ∧ SmulOk (compF (derF os) qs) (derF qs) ∧ derF (compF os qs) = smulF (compF (derF os) qs) (derF qs)
def PlainQ (fs gs : List Rat) : Prop := QcOk fs gs ∧ DerOk (qcF fs gs) ∧ DerOk fs ∧ QcOk (qdF fs) gs ∧ DerOk gs ∧ (qcF (qdF fs) gs).length + (qdF gs).length ≤ 1000 ∧ MulOk (qcF (qdF fs) gs) (qdF gs) ∧ qdF (qcF fs gs) = mulF (qcF (qdF fs) gs) (qdF gs)
section
variable {w : World} {p : Program} {loose : List Str} {mean : ExcName → Option Value} {mg mb : Str → Option Value}
theorem call_scompose {dp un : Nat} {gd : Option (List Code)} {cn : Str} {cs : Scope} {a : Addr} {ccd : Value} {cl : List (Str × Addr)} {outer : List Env} {A₀ : Around} {base h₀ : Heap} {L : Addr} {m : Str → Option Value} {s : Shared} {Q E : Value → Shared → Prop} {news : Led} {a1 b1 : Addr} {qs rs : List Rat} {T1 T2 : Led}
    (F : Fr h₀ L s.heap m) (N : News h₀ L s.heap news) (B : Below A₀ base outer h₀) (X : (Mine.hd.heap_39 w.params).In h₀) (T : Top p loose mean mg mb h₀) (hk : cs.kind = .function) (hd : dp + 8 < recursionLimit) (hu : un + 170 < cLine) (r1 : LstAt w T1 a1 qs) (s1 : ∀ p ∈ T1, p ∈ news) (r2 : LstAt w T2 b1 rs) (s2 : ∀ p ∈ T2, p ∈ news) (hb0 : rs.getD 0 0 = 0) (hbl : 0 < rs.length) (ok : CompOk qs rs (min qs.length rs.length))
    (ret : ∀ a' tl h' tk', Fr h₀ L h' m → News h₀ L h' (tl ++ news) → Abv tl news → LstAt w (tl ++ news) a' (compF qs rs) → (∀ q ∈ news, q.1 ≠ a') → Q (.ref a') { s with heap := h', toks := tk' }) :
    wpAny (model PySem.Challenge.rw_sa0095_01.row.prog w) (ktrTop dp un gd cn cs L a ccd cl outer) (call (.ref 151) [.ref a1, .ref b1]) Q E s :=
  does_use F N (scompose_does (r1.mono s1) (r2.mono s2) hb0 hbl ok) B X T hk hd hu fun r tl h' tk' F' N' A' ⟨a', e, h, hf⟩ => by
    subst e
    exact ret a' tl h' tk' F' N' A' h hf
theorem call_sreverse {dp un : Nat} {gd : Option (List Code)} {cn : Str} {cs : Scope} {a : Addr} {ccd : Value} {cl : List (Str × Addr)} {outer : List Env} {A₀ : Around} {base h₀ : Heap} {L : Addr} {m : Str → Option Value} {s : Shared} {Q E : Value → Shared → Prop} {news : Led} {a1 : Addr} {qs : List Rat} {T1 : Led}
    (F : Fr h₀ L s.heap m) (N : News h₀ L s.heap news) (B : Below A₀ base outer h₀) (X : (Mine.hd.heap_39 w.params).In h₀) (T : Top p loose mean mg mb h₀) (hk : cs.kind = .function) (hd : dp + 8 < recursionLimit) (hu : un + 170 < cLine) (r1 : LstAt w T1 a1 qs) (s1 : ∀ p ∈ T1, p ∈ news) (hb0 : qs.getD 0 0 = 0) (h2 : 2 ≤ qs.length) (h1 : qs.getD 1 0 ≠ 0) (ok : RevOk qs)
    (ret : ∀ a' tl h' tk', Fr h₀ L h' m → News h₀ L h' (tl ++ news) → Abv tl news → LstAt w (tl ++ news) a' (revF qs) → (∀ q ∈ news, q.1 ≠ a') → Q (.ref a') { s with heap := h', toks := tk' }) :
    wpAny (model PySem.Challenge.rw_sa0095_01.row.prog w) (ktrTop dp un gd cn cs L a ccd cl outer) (call (.ref 158) [.ref a1]) Q E s :=
  does_use F N (sreverse_does (r1.mono s1) hb0 h2 h1 ok) B X T hk hd hu fun r tl h' tk' F' N' A' ⟨a', e, h, hf⟩ => by
    subst e
    exact ret a' tl h' tk' F' N' A' h hf
theorem call_sderive {dp un : Nat} {gd : Option (List Code)} {cn : Str} {cs : Scope} {a : Addr} {ccd : Value} {cl : List (Str × Addr)} {outer : List Env} {A₀ : Around} {base h₀ : Heap} {L : Addr} {m : Str → Option Value} {s : Shared} {Q E : Value → Shared → Prop} {news : Led} {a1 : Addr} {qs : List Rat} {T1 : Led}
    (F : Fr h₀ L s.heap m) (N : News h₀ L s.heap news) (B : Below A₀ base outer h₀) (X : (Mine.hd.heap_39 w.params).In h₀) (T : Top p loose mean mg mb h₀) (hk : cs.kind = .function) (hd : dp + 5 < recursionLimit) (hu : un + 140 < cLine) (r1 : LstAt w T1 a1 qs) (s1 : ∀ p ∈ T1, p ∈ news) (ok : DerOk qs)
    (ret : ∀ a' tl h' tk', Fr h₀ L h' m → News h₀ L h' (tl ++ news) → Abv tl news → LstAt w (tl ++ news) a' (derF qs) → (∀ q ∈ news, q.1 ≠ a') → Q (.ref a') { s with heap := h', toks := tk' }) :
    wpAny (model PySem.Challenge.rw_sa0095_01.row.prog w) (ktrTop dp un gd cn cs L a ccd cl outer) (call (.ref 137) [.ref a1]) Q E s :=
  does_use F N (sderive_does (r1.mono s1) ok) B X T hk hd hu fun r tl h' tk' F' N' A' ⟨a', e, h, hf⟩ => by
    subst e
    exact ret a' tl h' tk' F' N' A' h hf
theorem call_qderive {dp un : Nat} {gd : Option (List Code)} {cn : Str} {cs : Scope} {a : Addr} {ccd : Value} {cl : List (Str × Addr)} {outer : List Env} {A₀ : Around} {base h₀ : Heap} {L : Addr} {m : Str → Option Value} {s : Shared} {Q E : Value → Shared → Prop} {news : Led} {a1 : Addr} {qs : List Rat} {T1 : Led}
    (F : Fr h₀ L s.heap m) (N : News h₀ L s.heap news) (B : Below A₀ base outer h₀) (X : (Mine.hd.heap_39 w.params).In h₀) (T : Top p loose mean mg mb h₀) (hk : cs.kind = .function) (hd : dp + 4 < recursionLimit) (hu : un + 100 < cLine) (r1 : LstAt w T1 a1 qs) (s1 : ∀ p ∈ T1, p ∈ news) (ok : DerOk qs)
    (ret : ∀ a' tl h' tk', Fr h₀ L h' m → News h₀ L h' (tl ++ news) → Abv tl news → LstAt w (tl ++ news) a' (qdF qs) → (∀ q ∈ news, q.1 ≠ a') → Q (.ref a') { s with heap := h', toks := tk' }) :
    wpAny (model PySem.Challenge.rw_sa0095_01.row.prog w) (ktrTop dp un gd cn cs L a ccd cl outer) (call (.ref 182) [.ref a1]) Q E s :=
  does_use F N (qderive_does (r1.mono s1) ok) B X T hk hd hu fun r tl h' tk' F' N' A' ⟨a', e, h, hf⟩ => by
    subst e
    exact ret a' tl h' tk' F' N' A' h hf
theorem call_qcompose {dp un : Nat} {gd : Option (List Code)} {cn : Str} {cs : Scope} {a : Addr} {ccd : Value} {cl : List (Str × Addr)} {outer : List Env} {A₀ : Around} {base h₀ : Heap} {L : Addr} {m : Str → Option Value} {s : Shared} {Q E : Value → Shared → Prop} {news : Led} {a1 b1 : Addr} {qs rs : List Rat} {T1 T2 : Led}
    (F : Fr h₀ L s.heap m) (N : News h₀ L s.heap news) (B : Below A₀ base outer h₀) (X : (Mine.hd.heap_39 w.params).In h₀) (T : Top p loose mean mg mb h₀) (hk : cs.kind = .function) (hd : dp + 5 < recursionLimit) (hu : un + 150 < cLine) (r1 : LstAt w T1 a1 qs) (s1 : ∀ p ∈ T1, p ∈ news) (r2 : LstAt w T2 b1 rs) (s2 : ∀ p ∈ T2, p ∈ news) (ok : QcOk qs rs)
    (ret : ∀ a' tl h' tk', Fr h₀ L h' m → News h₀ L h' (tl ++ news) → Abv tl news → LstAt w (tl ++ news) a' (qcF qs rs) → (∀ q ∈ news, q.1 ≠ a') → Q (.ref a') { s with heap := h', toks := tk' }) :
    wpAny (model PySem.Challenge.rw_sa0095_01.row.prog w) (ktrTop dp un gd cn cs L a ccd cl outer) (call (.ref 189) [.ref a1, .ref b1]) Q E s :=
  does_use F N (qcompose_does (r1.mono s1) (r2.mono s2) ok) B X T hk hd hu fun r tl h' tk' F' N' A' ⟨a', e, h, hf⟩ => by
    subst e
    exact ret a' tl h' tk' F' N' A' h hf
end
theorem rulesM26a : True := by
  k_with_none
  k_with "st" => (repeat' (first | (k_unfold; (try dsimp only)) | ((try dsimp only); walk1)))
  k_with "ktr_rel" => first | exact fun _ h => h | exact List.forall_mem_nil _ | exact fun _ h => List.mem_append_right _ h | exact fun _ h => List.mem_cons_of_mem _ h | (refine sub_app ?_; ktr_rel; done) | (refine sub_cons ?_; ktr_rel; done) | (intro p hp; simp only [List.mem_append, List.mem_cons, hp, true_or, or_true])
  k_with "exec While Compare cons nil" => refine stopHere ?_
  k_with "subscriptTail Name Constant ref int" => (k_here; k_dflt (first
      | ((fail_if_success fail_if_success (with_reducible show wpAny _ _ (subscriptTail _ _ (Value.ref _) (Value.int 0 _)) _ _ _)); refine' rat_item0 (by assumption) (by assumption) (by assumption) (by assumption) (by ktr_rel) ?_ ?_; rotate_left; (with_unfolding_all rfl); intro t'q)
      | ((fail_if_success fail_if_success (with_reducible show wpAny _ _ (subscriptTail _ _ (Value.ref _) (Value.int 1 _)) _ _ _)); refine' rat_item1 (by assumption) (by assumption) (by assumption) (by assumption) (by ktr_rel) ?_ ?_; rotate_left; (with_unfolding_all rfl); intro t'q)
      | ((fail_if_success fail_if_success (with_reducible show wpAny _ _ (subscriptTail _ _ (Value.ref _) (Value.int _ _)) _ _ _)); refine' lst_item (by assumption) (by assumption) (by ktr_rel) (by first | exact Int.natCast_nonneg _ | omega) (by first | assumption | omega) ?_ ?_; rotate_left; (with_unfolding_all rfl); intro a'q R'q)))
  k_with "subscriptTail Name Name ref int" => (k_here; k_dflt ((fail_if_success fail_if_success (with_reducible show wpAny _ _ (subscriptTail _ _ (Value.ref _) (Value.int _ _)) _ _ _)); refine' lst_item (by assumption) (by assumption) (by ktr_rel) (by first | exact Int.natCast_nonneg _ | omega) (by first | assumption | omega) ?_ ?_; rotate_left; (with_unfolding_all rfl); intro a'q R'q))
  k_with "subscriptTail Name BinOp ref int" => (k_here; k_dflt ((fail_if_success fail_if_success (with_reducible show wpAny _ _ (subscriptTail _ _ (Value.ref _) (Value.int _ _)) _ _ _)); refine' lst_item (by assumption) (by assumption) (by ktr_rel) (by first | exact Int.natCast_nonneg _ | omega) (by first | assumption | omega) ?_ ?_; rotate_left; (with_unfolding_all rfl); intro a'q R'q))
  k_with "call builtin:len" => (k_here; (fail_if_success fail_if_success (with_reducible show wpAny _ _ (call (Value.builtin "len") [Value.ref _]) _ _ _)); k_dflt (refine' lst_len (by assumption) (by assumption) (by ktr_rel) ?_))
  k_with "compareOp NotEq ref ref" => (k_here; (fail_if_success fail_if_success (with_reducible show wpAny _ _ (compareOp CmpOp.NotEq (Value.ref _) (Value.ref _)) _ _ _)); k_dflt (first
      | (refine' tup_ne (by assumption) (by first | assumption | exact tup49 (T := [])) (by assumption) (by assumption) (by assumption) (by ktr_rel) (by ktr_rel) (by exact (by decide : 7 + 64 < cLine)) ?_)
      | (refine' lst_ne (by assumption) (by assumption) (by assumption) (by assumption) (by assumption) (by ktr_rel) (by ktr_rel) (by exact (by decide : 7 + 64 < cLine)) ?_)))
  k_with "compareOp Eq ref ref" => (k_here; (fail_if_success fail_if_success (with_reducible show wpAny _ _ (compareOp CmpOp.Eq (Value.ref _) (Value.ref _)) _ _ _)); k_dflt (first
      | (refine' tup_eq (by assumption) (by first | assumption | exact tup49 (T := [])) (by assumption) (by assumption) (by assumption) (by ktr_rel) (by ktr_rel) (by exact (by decide : 7 + 64 < cLine)) ?_)
      | (refine' lst_eq (by assumption) (by assumption) (by assumption) (by assumption) (by assumption) (by ktr_rel) (by ktr_rel) (by exact (by decide : 7 + 64 < cLine)) ?_)))
  k_with "subscriptTail Name Slice ref ref" => (k_here; k_dflt (first
      | (refine' lst_upto (by assumption) ?_ (by assumption) (by assumption) (by first | assumption | omega) ?_ (by with_unfolding_all rfl); ktr_rel)
      | (refine' lst_from (by assumption) ?_ (by assumption) (by assumption) (by first | assumption | omega) ?_ (by with_unfolding_all rfl); ktr_rel)); intro D'q o'q h'q F'q N'q R'q l1'q; (try k_sweep))
  k_with "subscriptTail ListComp Slice ref ref" => (k_here; k_dflt (first
      | (refine' lst_from (by assumption) ?_ (by assumption) (by assumption) (by first | assumption | omega) ?_ (by with_unfolding_all rfl); ktr_rel)); intro D'q o'q h'q F'q N'q R'q l1'q; (try k_sweep))
  k_with "call type:list" => (k_here; (fail_if_success fail_if_success (with_reducible show wpAny _ _ (call (Value.type "list") [Value.ref _]) _ _ _)); k_dflt (refine' lst_copy (by assumption) ?_ (by assumption) (by assumption) ?_; ktr_rel); intro D'q o'q h'q F'q N'q R'q l1'q; (try k_sweep))
  k_with "binaryOp Mult ref int" => (k_here; (fail_if_success fail_if_success (with_reducible show wpAny _ _ (binaryOp _ (Value.ref _) (Value.int _ _)) _ _ _)); k_dflt (refine' lst_mul1 (by assumption) ?_ (by assumption) (by assumption) (by first | omega | (simp only [List.length_nil, List.length_cons]; omega)) (by first | omega | (simp only [List.length_nil, List.length_cons]; omega)) ?_; ktr_rel); intro D'q o'q h'q F'q N'q R'q l1'q; (try k_sweep))
  k_with "binaryOp Add ref ref" => (k_here; (fail_if_success fail_if_success (with_reducible show wpAny _ _ (binaryOp _ (Value.ref _) (Value.ref _)) _ _ _)); k_dflt (refine' lst_add (by assumption) ?_ (by assumption) ?_ (by assumption) (by assumption) (by ((try simp only [List.length_take, List.length_drop, List.length_replicate, List.length_cons, List.length_nil]); omega)) ?_; ktr_rel; ktr_rel); intro D'q o'q h'q F'q N'q R'q l1'q; (try k_sweep))
  k_with "newList" => (k_here; k_dflt (first
      | ((fail_if_success fail_if_success (with_reducible show wpAny _ _ (newList []) _ _ _)); refine' newlst0 (w := _) (by assumption) (by assumption) ?_)
      | ((fail_if_success fail_if_success (with_reducible show wpAny _ _ (newList [Value.ref _]) _ _ _)); refine' newlst1 (by first | assumption | exact tup49 (T := []) | exact tup50 (T := []) | exact tup_int (by assumption)) ?_ (by assumption) (by assumption) ?_; ktr_rel)
      | ((fail_if_success fail_if_success (with_reducible show wpAny _ _ (newList [Value.ref _, Value.ref _]) _ _ _)); refine' newlst2 (by first | assumption | exact tup49 (T := []) | exact tup50 (T := []) | exact tup_int (by assumption)) ?_ (by first | assumption | exact tup49 (T := []) | exact tup50 (T := []) | exact tup_int (by assumption)) ?_ (by assumption) (by assumption) ?_; ktr_rel; ktr_rel)); intro D'q o'q h'q F'q N'q R'q l1'q; (try k_sweep))
  k_with "getMethod ref" => (k_here; (fail_if_success fail_if_success (with_reducible show wpAny _ _ (getMethod (Value.ref _) (Str.ofString "append") _) _ _ _)); k_dflt (refine' lst_getAppend (by assumption) ?_ (by assumption) ?_; ktr_rel))
  k_with "call builtin:list.append" => refine stopHere ?_
  k_with "setItem ref int ref" => refine stopHere ?_
  k_with "subscriptTail Name BinOp ref int" => (k_here; k_dflt ((fail_if_success fail_if_success (with_reducible show wpAny _ _ (subscriptTail _ _ (Value.ref 197) (Value.int _ _)) _ _ _)); refine' rat_pick (by assumption) (by assumption) (by first | exact Int.natCast_nonneg _ | omega) (by first | assumption | omega) ?_ (by with_unfolding_all rfl)); (intro a'q R''q; have R'q := R''q []))
  k_with "subscriptTail Name Call ref int" => (k_here; k_dflt ((fail_if_success fail_if_success (with_reducible show wpAny _ _ (subscriptTail _ _ (Value.ref 197) (Value.int _ _)) _ _ _)); refine' rat_pick (by assumption) (by assumption) (by first | exact Int.natCast_nonneg _ | omega) (by first | assumption | omega) ?_ (by with_unfolding_all rfl)); (intro a'q R''q; have R'q := R''q []))
  k_with "call ref" => (k_here; (fail_if_success fail_if_success (with_reducible show wpAny _ _ (call (Value.ref 204) _) _ _ _)); refine stopHere ?_)
  k_with "call ref" => (k_here; (first | (fail_if_success fail_if_success (with_reducible show wpAny _ _ (call (Value.ref 204) _) _ _ _)) | (fail_if_success fail_if_success (with_reducible show wpAny _ _ (call (Value.ref 211) _) _ _ _)) | (fail_if_success fail_if_success (with_reducible show wpAny _ _ (call (Value.ref 216) _) _ _ _))); refine stopHere ?_)
  k_with "lcg_off" => first | exact Ext.refl | (refine Ext.cons ?_ (by assumption); lcg_off) | (refine Ext.cons ?_ (ktn_ltOf (by assumption)); lcg_off) | (refine Ext.app ?_ (by assumption); lcg_off) | assumption
  k_with "call ref" => (k_here; (fail_if_success fail_if_success (with_reducible show wpAny _ _ (call (Value.ref 125) _) _ _ _)); k_dflt (refine' call_smul (by assumption) (by assumption) (by assumption) (by assumption) (by assumption) (by exact rfl) (by decide) (by decide) (by assumption) (by ktr_rel) (by assumption) (by ktr_rel) (by assumption) ?_); (intro a'q tl'q h'q tk'q F'q N'q A'q R'q Fh'q); (try k_sweep))
  k_with "call ref" => (k_here; (fail_if_success fail_if_success (with_reducible show wpAny _ _ (call (Value.ref 132) _) _ _ _)); k_dflt (refine' call_sinverse (by assumption) (by assumption) (by assumption) (by assumption) (by assumption) (by exact rfl) (by decide) (by decide) (by assumption) (by ktr_rel) (by assumption) (by assumption) (by assumption) ?_); (intro a'q tl'q h'q tk'q F'q N'q A'q R'q Fh'q); (try k_sweep))
  k_with "call ref" => (k_here; (fail_if_success fail_if_success (with_reducible show wpAny _ _ (call (Value.ref 151) _) _ _ _)); k_dflt (refine' call_scompose (by assumption) (by assumption) (by assumption) (by assumption) (by assumption) (by exact rfl) (by decide) (by decide) (by assumption) (by ktr_rel) (by assumption) (by ktr_rel) (by assumption) (by assumption) (by assumption) ?_); (intro a'q tl'q h'q tk'q F'q N'q A'q R'q Fh'q); (try k_sweep))
  k_with "call ref" => (k_here; (fail_if_success fail_if_success (with_reducible show wpAny _ _ (call (Value.ref 158) _) _ _ _)); k_dflt (refine' call_sreverse (by assumption) (by assumption) (by assumption) (by assumption) (by assumption) (by exact rfl) (by decide) (by decide) (by assumption) (by ktr_rel) (by assumption) (by assumption) (by assumption) (by assumption) ?_); (intro a'q tl'q h'q tk'q F'q N'q A'q R'q Fh'q); (try k_sweep))
  k_with "call ref" => (k_here; (fail_if_success fail_if_success (with_reducible show wpAny _ _ (call (Value.ref 137) _) _ _ _)); k_dflt (refine' call_sderive (by assumption) (by assumption) (by assumption) (by assumption) (by assumption) (by exact rfl) (by decide) (by decide) (by assumption) (by ktr_rel) (by assumption) ?_); (intro a'q tl'q h'q tk'q F'q N'q A'q R'q Fh'q); (try k_sweep))
  k_with "call ref" => (k_here; (fail_if_success fail_if_success (with_reducible show wpAny _ _ (call (Value.ref 177) _) _ _ _)); k_dflt (refine' call_qmul (by assumption) (by assumption) (by assumption) (by assumption) (by assumption) (by exact rfl) (by decide) (by decide) (by assumption) (by ktr_rel) (by assumption) (by ktr_rel) (by assumption) (by assumption) ?_); (intro a'q tl'q h'q tk'q F'q N'q A'q R'q Fh'q); (try k_sweep))
  k_with "call ref" => (k_here; (fail_if_success fail_if_success (with_reducible show wpAny _ _ (call (Value.ref 170) _) _ _ _)); k_dflt (refine' call_qadd (by assumption) (by assumption) (by assumption) (by assumption) (by assumption) (by exact rfl) (by decide) (by decide) (by assumption) (by ktr_rel) (by assumption) (by ktr_rel) (by assumption) ?_); (intro a'q tl'q h'q tk'q F'q N'q A'q R'q Fh'q); (try k_sweep))
  k_with "call ref" => (k_here; (fail_if_success fail_if_success (with_reducible show wpAny _ _ (call (Value.ref 182) _) _ _ _)); k_dflt (refine' call_qderive (by assumption) (by assumption) (by assumption) (by assumption) (by assumption) (by exact rfl) (by decide) (by decide) (by assumption) (by ktr_rel) (by assumption) ?_); (intro a'q tl'q h'q tk'q F'q N'q A'q R'q Fh'q); (try k_sweep))
  k_with "call ref" => (k_here; (fail_if_success fail_if_success (with_reducible show wpAny _ _ (call (Value.ref 189) _) _ _ _)); k_dflt (refine' call_qcompose (by assumption) (by assumption) (by assumption) (by assumption) (by assumption) (by exact rfl) (by decide) (by decide) (by assumption) (by ktr_rel) (by assumption) (by ktr_rel) (by assumption) ?_); (intro a'q tl'q h'q tk'q F'q N'q A'q R'q Fh'q); (try k_sweep))
  k_with "subscriptTail Name Slice ref ref" => (k_here; k_dflt (refine' scr_upto (by assumption) (by assumption) (by first | assumption | omega) (by assumption) (by assumption) (by first | assumption | omega) ?_ (by with_unfolding_all rfl)); (intro D'q o'q h'q F'q N'q R'q l1'q); (try k_sweep))
  k_with "call type:list" => (k_here; (fail_if_success fail_if_success (with_reducible show wpAny _ _ (call (Value.type "list") [Value.ref _]) _ _ _)); k_dflt (refine' scr_copy (by assumption) ?_ (by assumption) (by assumption) ?_; ktr_rel); (intro D'q o'q h'q F'q N'q R'q l1'q); (try k_sweep))
  k_with "newList" => (k_here; k_dflt ((fail_if_success fail_if_success (with_reducible show wpAny _ _ (newList [Value.ref _, Value.int _ _]) _ _ _)); refine' box_new (by assumption) ?_ (by assumption) (by assumption) ?_; ktr_rel); (intro D'q o'q h'q F'q N'q R'q l1'q); (try k_sweep))
  exact True.intro
theorem law_walk (P1 : ∀ n qs, (n = 3 ∨ n = 4) → RowOk 0 n qs → Plain1 n qs) (P0 : ∀ n q os qs, (n = 3 ∨ n = 4) → q ∈ RS → RowOk q n os → RowOk 0 n qs → Plain0 os qs) (PQ : ∀ fs gs, PolyOk fs → PolyOk gs → PlainQ fs gs) : PySem.Challenge.rw_sa0095_01.Holds := by
  refine Mine.hd ?_
  w_on
  k_go0
  rename Fr _ _ _ _ => F
  replace F := (show Fr _ _ _ (fm [_]) from by rw [← fm_lookup]; exact F)
  refine bridge ?_
  refine hideQE fun R0 E0 hR0 hE0 => ?_
  rename IntsAre _ _ => hI
  have hA := allInt_of hI
  have hle := scr_le hI (by assumption)
  all_goals (try k_fold)
  k_extra "st"
  rename BoxV _ _ _ _ _ _ => x
  unfold Stop
  refine doesM_use (by assumption) (by assumption) (take_does x (by decide)) (by assumption) (by assumption) (by assumption) rfl (by decide) (by decide) ?_
  clear x
  rintro r T1 h1 tk1 F1 N1 hJ137
  refine ex5 hJ137 fun o1 j1 u1 k1 t1 hC140 => and6 hC140 fun hE138 hc1 x1 hE139 ja1 jb1 => ?_
  clear hJ137
  clear hC140
  subst hE138
  subst hE139
  k_extra "st"
  unfold Stop
  refine doesM_use (by assumption) (by assumption) (take_does x1 (by decide)) (by assumption) (by assumption) (by assumption) rfl (by decide) (by decide) ?_
  rintro r T1 h1 tk1 F1 N1 hJ141
  refine ex5 hJ141 fun o2 j2 u2 k2 t2 hC144 => and6 hC144 fun hE142 hc2 x2 hE143 ja2 jb2 => ?_
  clear hJ141
  clear hC144
  subst hE142
  subst hE143
  clear x1
  obtain ⟨n, hn, e3⟩ : ∃ n : Nat, (n = 3 ∨ n = 4) ∧ 3 + j2 = (n : Int) := three_four ja2 jb2
  generalize updL _ o2 _ = T2 at N1 x2
  k_extra "st"
  simp only [e3] at *
  clear e3
  unfold Stop
  refine doesM_use (by assumption) (by assumption) (row_does (x2.mono (by ktr_rel)) (tup_int (by assumption)) (ge2 hn) (le1000 hn)) (by assumption) (by assumption) (by assumption) rfl (by decide) (by decide) ?_
  rintro r T1 h1 tk1 F1 N1 hJ145
  refine ex2 hJ145 fun il qs hC148 => and7 hC148 fun hE146 R1 hib _ _ hN147 hrow => ?_
  clear hJ145
  clear hC148
  subst hE146
  refine ex2 hN147 fun k3 t3 x3 => ?_
  clear hN147
  clear x2
  have ez : ((0 : Int) : Rat) = 0 := rfl
  have eo : ((1 : Int) : Rat) = 1 := rfl
  rw [ez] at hrow
  have hlen : qs.length = n := by obtain ⟨q1, rest, rfl, _, _, h⟩ := hrow; simpa using h
  have hq0 : qs.getD 0 0 = 0 := by obtain ⟨q1, rest, rfl, _⟩ := hrow; rfl
  have hq1 : qs.getD 1 0 ≠ 0 := by
    obtain ⟨q1, rest, rfl, h, _⟩ := hrow
    show q1 ≠ 0
    rintro rfl
    exact absurd h (by decide)
  have h2le : 2 ≤ qs.length := Nat.le_trans (ge2 hn) (Nat.le_of_eq hlen.symm)
  have hpos : 0 < qs.length := Nat.lt_of_lt_of_le (by decide) h2le
  have p1 := P1 n qs hn hrow
  refine and6 (p1) fun a1 a2 a3 a4 a5 a6 => ?_
  k_extra "st"
  · have ef : smulF (compF (derF (revF qs)) qs) (derF qs) = [((1 : Int) : Rat)] ++ List.replicate ((n : Int) - 2).toNat ((0 : Int) : Rat) := by
      have e5 : ((n : Int) - 2).toNat = n - 2 := tn_sub2 n
      rw [e5, ez, eo]
      exact a6
    rw [decide_eq_true ef]
    k_steps
    refine hR0 _ _ ?_
    (try dsimp only)
    k_steps
  · unfold Stop
    refine doesM_use (by assumption) (by assumption) (take_does x3 (by decide)) (by assumption) (by assumption) (by assumption) rfl (by decide) (by decide) ?_
    rintro r T2 h2 tk2 F2 N2 hJ149
    refine ex5 hJ149 fun o4 j4 u4 k4 t4 hC152 => and6 hC152 fun hE150 hc4 x4 hE151 ja4 jb4 => ?_
    clear hJ149
    clear hC152
    subst hE150
    subst hE151
    have R2 := x3.lst (by assumption) (Keep.upd (o := o4)) hib R1
    clear x3 R1
    generalize updL _ o4 _ = T3 at N2 x4 R2
    k_extra "st"
    rename TupAt _ _ _ _ => Rq
    unfold Stop
    refine doesM_use (by assumption) (by assumption) (row_does x4 (Rq.mono (List.forall_mem_nil _)) (ge2 hn) (le1000 hn)) (by assumption) (by assumption) (by assumption) rfl (by decide) (by decide) ?_
    rintro r T4 h4 tk4 F4 N4 hJ153
    refine ex2 hJ153 fun ol os hC156 => and7 hC156 fun hE154 R3 hob _ kp4 hN155 hrow2 => ?_
    clear hJ153
    clear hC156
    subst hE154
    refine ex2 hN155 fun k5 t5 x5 => ?_
    clear hN155
    have R1 := x4.lst (by assumption) kp4 hib R2
    clear x4 R2
    have hRS := RS_mem ja4 jb4
    refine and7 (P0 n _ os qs hn hRS hrow2 hrow) fun c1 c2 c3 c4 c5 c6 c7 => ?_
    k_extra "st"
    unfold Stop
    refine doesM_use (by assumption) (by assumption) (poly_does (x5.mono (by ktr_rel))) (by assumption) (by assumption) (by assumption) rfl (by decide) (by decide) ?_
    rintro r T6 h6 tk6 F6 N6 hJ157
    refine ex2 hJ157 fun fl fs hC160 => and7 hC160 fun hE158 R6 hfb _ kp6 hN159 hfs => ?_
    clear hJ157
    clear hC160
    subst hE158
    refine ex2 hN159 fun k7 t7 x7 => ?_
    clear hN159
    clear x5
    k_extra "st"
    unfold Stop
    refine doesM_use (by assumption) (by assumption) (poly_does (x7.mono (by ktr_rel))) (by assumption) (by assumption) (by assumption) rfl (by decide) (by decide) ?_
    rintro r T7 h7 tk7 F7 N7 hJ161
    refine ex2 hJ161 fun gl gs hC164 => and7 hC164 fun hE162 R7 hgb _ kp7 hN163 hgs => ?_
    clear hJ161
    clear hC164
    subst hE162
    refine ex2 hN163 fun k8 t8 x8 => ?_
    clear hN163
    have R8 := x7.lst (by assumption) kp7 hfb R6
    clear x7 R6
    refine and8 (PQ fs gs hfs hgs) fun d1 d2 d3 d4 d5 d6 d7 d8 => ?_
    k_extra "st"
    rw [decide_eq_true d8]
    k_steps
    refine hR0 _ _ ?_
    (try dsimp only)
    k_steps
end
section
/-- q is an int of size at most C over 6^k -/
def Sm (k C : Nat) (q : Rat) : Prop := ∃ n : Int, q * ((6 ^ k : Nat) : Rat) = (n : Rat) ∧ n.natAbs ≤ C
theorem six_ne (k : Nat) : ((6 ^ k : Nat) : Rat) ≠ 0 := fun h => by
  have := Rat.natCast_eq_zero_iff.mp h
  exact absurd this (Nat.ne_of_gt (Nat.pow_pos (by decide)))
theorem Sm.zero {k C : Nat} : Sm k C 0 := ⟨0, by rw [Rat.zero_mul]; rfl, Nat.zero_le _⟩
theorem Sm.le {k C D : Nat} {q : Rat} (h : Sm k C q) (hc : C ≤ D) : Sm k D q := let ⟨n, a, b⟩ := h; ⟨n, a, Nat.le_trans b hc⟩
theorem Sm.add {k C D : Nat} {q r : Rat} (x : Sm k C q) (y : Sm k D r) : Sm k (C + D) (q + r) := by
  obtain ⟨n, a, b⟩ := x
  obtain ⟨m, c, d⟩ := y
  refine ⟨n + m, ?_, Nat.le_trans (Int.natAbs_add_le n m) (Nat.add_le_add b d)⟩
  rw [Rat.add_mul, a, c, Rat.intCast_add]
theorem Sm.mul {k j C D : Nat} {q r : Rat} (x : Sm k C q) (y : Sm j D r) : Sm (k + j) (C * D) (q * r) := by
  obtain ⟨n, a, b⟩ := x
  obtain ⟨m, c, d⟩ := y
  refine ⟨n * m, ?_, by rw [Int.natAbs_mul]; exact Nat.mul_le_mul b d⟩
  rw [Rat.intCast_mul, ← a, ← c, Nat.pow_add, Rat.natCast_mul]
  grind
theorem Sm.up {k C : Nat} {q : Rat} (j : Nat) (x : Sm k C q) : Sm (k + j) (C * 6 ^ j) q := by
  obtain ⟨n, a, b⟩ := x
  refine ⟨n * ((6 ^ j : Nat) : Int), ?_, by rw [Int.natAbs_mul]; exact Nat.mul_le_mul b (by simp)⟩
  rw [Rat.intCast_mul, ← a, Nat.pow_add, Rat.natCast_mul, Rat.intCast_natCast]
  grind
theorem Sm.int {C : Nat} {k : Int} (h : k.natAbs ≤ C) : Sm 0 C (k : Rat) := ⟨k, by simp, h⟩
theorem Sm.tiny {k C : Nat} {q : Rat} (x : Sm k C q) (hC : C < 2 ^ 64) (hk : 6 ^ k < 2 ^ 64) : Tiny q := by
  obtain ⟨n, a, b⟩ := x
  have e : q.num * ((6 ^ k : Nat) : Int) = n * (q.den : Int) := by
    have h1 : (q.num : Rat) = q * (q.den : Rat) := by
      have h0 : ((q.den : Nat) : Rat) ≠ 0 := fun h => q.den_nz (Rat.natCast_eq_zero_iff.mp h)
      have h3 : q = (q.num : Rat) / (q.den : Rat) := by
        have := Rat.num_divInt_den q
        rw [Rat.divInt_eq_div] at this
        exact this.symm
      have h4 : (q.num : Rat) / (q.den : Rat) * (q.den : Rat) = q.num := Rat.div_mul_cancel h0
      rw [← h3] at h4
      exact h4.symm
    have h2 : ((q.num * ((6 ^ k : Nat) : Int) : Int) : Rat) = ((n * (q.den : Int) : Int) : Rat) := by
      rw [Rat.intCast_mul, Rat.intCast_mul, h1, ← a, Rat.intCast_natCast, Rat.intCast_natCast]
      grind
    exact Rat.intCast_inj.mp h2
  have e2 : q.num.natAbs * 6 ^ k = n.natAbs * q.den := by
    have := congrArg Int.natAbs e
    simpa [Int.natAbs_mul] using this
  have hd : q.den ∣ 6 ^ k := by
    have h3 : q.den ∣ q.num.natAbs * 6 ^ k := by rw [e2]; exact Nat.dvd_mul_left _ _
    exact (Nat.Coprime.dvd_of_dvd_mul_left (Nat.Coprime.symm q.reduced) h3)
  have hpos : 0 < 6 ^ k := Nat.pow_pos (by decide)
  have hle := Nat.le_of_dvd hpos hd
  refine ⟨?_, Nat.lt_of_le_of_lt hle hk⟩
  have h4 : q.num.natAbs * 6 ^ k ≤ n.natAbs * 6 ^ k := by rw [e2]; exact Nat.mul_le_mul_left _ hle
  exact Nat.lt_of_le_of_lt (Nat.le_trans (Nat.le_of_mul_le_mul_right h4 hpos) b) hC
def BL (k C : Nat) (xs : List Rat) : Prop := ∀ i, Sm k C (xs.getD i 0)
theorem BL.le {k C D : Nat} {xs : List Rat} (h : BL k C xs) (hc : C ≤ D) : BL k D xs := fun i => (h i).le hc
theorem BL.of {k C : Nat} {xs : List Rat} (h : ∀ x ∈ xs, Sm k C x) : BL k C xs := fun i => by
  by_cases hi : i < xs.length
  · have : xs.getD i 0 = xs[i] := by simp [List.getD, hi]
    rw [this]
    exact h _ (List.getElem_mem hi)
  · rw [getD_out (by omega)]
    exact Sm.zero
theorem BL.take {k C : Nat} {xs : List Rat} (h : BL k C xs) (n : Nat) : BL k C (xs.take n) := fun i => by
  by_cases hi : i < n
  · have : (xs.take n).getD i 0 = xs.getD i 0 := by simp [List.getD, List.getElem?_take, hi]
    rw [this]
    exact h i
  · have : (xs.take n).getD i 0 = 0 := by simp [List.getD, List.getElem?_take, hi]
    rw [this]
    exact Sm.zero
theorem BL.range {k C n : Nat} {f : Nat → Rat} (h : ∀ i, i < n → Sm k C (f i)) : BL k C ((List.range n).map f) := BL.of fun x hx => by
  obtain ⟨i, hi, rfl⟩ := List.mem_map.mp hx
  exact h i (List.mem_range.mp hi)
theorem BL.set {k C : Nat} {xs : List Rat} {q : Rat} (h : BL k C xs) (hq : Sm k C q) (j : Nat) : BL k C (xs.set j q) := fun i => by
  by_cases e : j = i
  · subst e
    by_cases hj : j < xs.length
    · have : (xs.set j q).getD j 0 = q := by simp [List.getD, hj]
      rw [this]; exact hq
    · rw [getD_out (by rw [List.length_set]; omega)]
      exact Sm.zero
  · have : (xs.set j q).getD i 0 = xs.getD i 0 := by simp [List.getD, List.getElem?_set_ne e]
    rw [this]; exact h i
theorem BL.derOk {k C : Nat} {xs : List Rat} (h : BL k C xs) (hC : C < 2 ^ 64) (hk : 6 ^ k < 2 ^ 64) : DerOk xs := fun n _ => (h n).tiny hC hk
theorem RS_sm : ∀ q ∈ RS, Sm 1 18 q := by
  intro q hq
  simp only [RS, List.mem_cons, List.not_mem_nil, or_false] at hq
  rcases hq with rfl | rfl | rfl | rfl | rfl | rfl | rfl
  · exact ⟨0, by decide +kernel, by decide⟩
  · exact ⟨6, by decide +kernel, by decide⟩
  · exact ⟨-6, by decide +kernel, by decide⟩
  · exact ⟨12, by decide +kernel, by decide⟩
  · exact ⟨3, by decide +kernel, by decide⟩
  · exact ⟨-18, by decide +kernel, by decide⟩
  · exact ⟨4, by decide +kernel, by decide⟩
theorem RS_sm1 : ∀ q ∈ RS.drop 1, Sm 1 18 q := fun q hq => RS_sm q (List.mem_of_mem_drop hq)
theorem mix_sm {k j C D n : Nat} {a b : List Rat} (ha : BL k C a) (hb : BL j D b) : ∀ i, Sm (k + j) (i * (C * D)) (mixS a b n i)
  | 0 => Sm.zero
  | i + 1 => by
    rw [mixS, Nat.succ_mul]
    exact (mix_sm ha hb i).add ((ha i).mul (hb _))
theorem smul_ok {k j C D N : Nat} {a b : List Rat} (ha : BL k C a) (hb : BL j D b) (hl : min a.length b.length ≤ N) (hCD : (N + 1) * (C * D) < 2 ^ 64) (hC : C < 2 ^ 64) (hD : D < 2 ^ 64) (hk : 6 ^ (k + j) < 2 ^ 64) : SmulOk a b ∧ BL (k + j) (N * (C * D)) (smulF a b) := by
  have hk1 : 6 ^ k < 2 ^ 64 := Nat.lt_of_le_of_lt (Nat.pow_le_pow_right (by decide) (Nat.le_add_right _ _)) hk
  have hk2 : 6 ^ j < 2 ^ 64 := Nat.lt_of_le_of_lt (Nat.pow_le_pow_right (by decide) (Nat.le_add_left _ _)) hk
  have hi : ∀ i, i ≤ N + 1 → i * (C * D) < 2 ^ 64 := fun i h => Nat.lt_of_le_of_lt (Nat.mul_le_mul_right _ h) hCD
  have h1 : C * D < 2 ^ 64 := by have := hi 1 (by omega); rwa [Nat.one_mul] at this
  constructor
  · intro n hn
    refine ⟨fun i hi' => ⟨(ha i).tiny hC hk1, (hb _).tiny hD hk2, ((ha i).mul (hb _)).tiny h1 hk, (mix_sm ha hb i).tiny (hi i (by omega)) hk⟩, (mix_sm ha hb (n + 1)).tiny (hi _ (by omega)) hk⟩
  · exact BL.range fun i h => (mix_sm ha hb (i + 1)).le (Nat.mul_le_mul_right _ (by omega))
end
section
theorem sm2 (x0 x1 y0 y1 : Rat) : smulF [x0,x1] [y0,y1] = [x0*y0, x0*y1+x1*y0] := by
  show [0 + x0*y0, 0 + x0*y1+x1*y0] = _
  rw [Rat.zero_add, Rat.zero_add]
theorem sm3 (x0 x1 x2 y0 y1 y2 : Rat) : smulF [x0,x1,x2] [y0,y1,y2] = [x0*y0, x0*y1+x1*y0, x0*y2+x1*y1+x2*y0] := by
  show [0 + x0*y0, 0 + x0*y1+x1*y0, 0 + x0*y2+x1*y1+x2*y0] = _
  rw [Rat.zero_add, Rat.zero_add, Rat.zero_add]
theorem sm4 (x0 x1 x2 x3 y0 y1 y2 y3 : Rat) : smulF [x0,x1,x2,x3] [y0,y1,y2,y3] = [x0*y0, x0*y1+x1*y0, x0*y2+x1*y1+x2*y0, x0*y3+x1*y2+x2*y1+x3*y0] := by
  show [0 + x0*y0, 0 + x0*y1+x1*y0, 0 + x0*y2+x1*y1+x2*y0, 0 + x0*y3+x1*y2+x2*y1+x3*y0] = _
  rw [Rat.zero_add, Rat.zero_add, Rat.zero_add, Rat.zero_add]
def st (S R : List Rat) (q : Rat) : List Rat := (smulF S R).set 0 ((smulF S R).getD 0 0 + q)
theorem st2 (x0 x1 b1 q : Rat) : st [x0,x1] [0,b1] q = [q, x0*b1] := by
  rw [st, sm2]
  show [x0 * 0 + q, x0*b1+x1*0] = _
  rw [Rat.mul_zero, Rat.mul_zero, Rat.zero_add, Rat.add_zero]
theorem st3 (x0 x1 x2 b1 b2 q : Rat) : st [x0,x1,x2] [0,b1,b2] q = [q, x0*b1, x0*b2+x1*b1] := by
  rw [st, sm3]
  show [x0 * 0 + q, x0*b1+x1*0, x0*b2+x1*b1+x2*0] = _
  rw [Rat.mul_zero, Rat.mul_zero, Rat.mul_zero, Rat.zero_add, Rat.add_zero, Rat.add_zero]
theorem st4 (x0 x1 x2 x3 b1 b2 b3 q : Rat) : st [x0,x1,x2,x3] [0,b1,b2,b3] q = [q, x0*b1, x0*b2+x1*b1, x0*b3+x1*b2+x2*b1] := by
  rw [st, sm4]
  show [x0 * 0 + q, x0*b1+x1*0, x0*b2+x1*b1+x2*0, x0*b3+x1*b2+x2*b1+x3*0] = _
  rw [Rat.mul_zero, Rat.mul_zero, Rat.mul_zero, Rat.mul_zero, Rat.zero_add, Rat.add_zero, Rat.add_zero, Rat.add_zero]
theorem comp2 (c0 c1 b1 b2 : Rat) : compF [c0,c1] [0,b1,b2] = [c0, c1*b1] := by
  show st (st [0,0] [0,b1] c1) [0,b1] c0 = _
  rw [st2, st2]
theorem comp3 (c0 c1 c2 b1 b2 : Rat) : compF [c0,c1,c2] [0,b1,b2] = [c0, c1*b1, c1*b2+c2*b1*b1] := by
  show st (st (st [0,0,0] [0,b1,b2] c2) [0,b1,b2] c1) [0,b1,b2] c0 = _
  rw [st3, st3, st3]
theorem comp34 (c0 c1 c2 b1 b2 b3 : Rat) : compF [c0,c1,c2] [0,b1,b2,b3] = [c0, c1*b1, c1*b2+c2*b1*b1] := by
  show st (st (st [0,0,0] [0,b1,b2] c2) [0,b1,b2] c1) [0,b1,b2] c0 = _
  rw [st3, st3, st3]
theorem comp4 (c0 c1 c2 c3 b1 b2 b3 : Rat) : compF [c0,c1,c2,c3] [0,b1,b2,b3] = [c0, c1*b1, c1*b2+c2*b1*b1, c1*b3+c2*b1*b2+(c2*b2+c3*b1*b1)*b1] := by
  show st (st (st (st [0,0,0,0] [0,b1,b2,b3] c3) [0,b1,b2,b3] c2) [0,b1,b2,b3] c1) [0,b1,b2,b3] c0 = _
  rw [st4, st4, st4, st4]
theorem num1 : (((1 + ((0 : Nat) : Int) : Int) : Rat)) = 1 := by decide +kernel
theorem num2 : (((1 + ((1 : Nat) : Int) : Int) : Rat)) = 2 := by decide +kernel
theorem num3 : (((1 + ((2 : Nat) : Int) : Int) : Rat)) = 3 := by decide +kernel
theorem der3 (x0 x1 x2 : Rat) : derF [x0,x1,x2] = [x1, 2*x2] := by
  show [((1 + ((0 : Nat) : Int) : Int) : Rat) * x1, ((1 + ((1 : Nat) : Int) : Int) : Rat) * x2] = _
  rw [num1, num2, Rat.one_mul]
theorem der4 (x0 x1 x2 x3 : Rat) : derF [x0,x1,x2,x3] = [x1, 2*x2, 3*x3] := by
  show [((1 + ((0 : Nat) : Int) : Int) : Rat) * x1, ((1 + ((1 : Nat) : Int) : Int) : Rat) * x2, ((1 + ((2 : Nat) : Int) : Int) : Rat) * x3] = _
  rw [num1, num2, num3, Rat.one_mul]
theorem list2 {a b c d : Rat} (h : a = c) (k : b = d) : [a, b] = [c, d] := by rw [h, k]
theorem list3 {a b e c d f : Rat} (h : a = c) (k : b = d) (l : e = f) : [a, b, e] = [c, d, f] := by rw [h, k, l]
theorem eq3 (c0 c1 c2 b1 b2 : Rat) : derF (compF [c0,c1,c2] [0,b1,b2]) = smulF (compF (derF [c0,c1,c2]) [0,b1,b2]) (derF [0,b1,b2]) := by
  rw [comp3, der3, der3, der3, comp2, sm2]
  exact list2 rfl (by grind)
theorem eq4 (c0 c1 c2 c3 b1 b2 b3 : Rat) : derF (compF [c0,c1,c2,c3] [0,b1,b2,b3]) = smulF (compF (derF [c0,c1,c2,c3]) [0,b1,b2,b3]) (derF [0,b1,b2,b3]) := by
  rw [comp4, der4, der4, der4, comp34, sm3]
  exact list3 rfl (by grind) (by grind)
theorem min_l {a b c : Nat} (h : a ≤ c) : min a b ≤ c := Nat.le_trans (Nat.min_le_left _ _) h
theorem min_r {a b c : Nat} (h : b ≤ c) : min a b ≤ c := Nat.le_trans (Nat.min_le_right _ _) h
theorem le4 {n : Nat} (h : n = 3 ∨ n = 4) : n ≤ 4 := h.elim (fun e => Nat.le_trans (Nat.le_of_eq e) (by decide)) fun e => Nat.le_of_eq e
theorem add3 {k m j a : Nat} (h : m ≤ a) (b : k + a + j ≤ 20) : k + m + j ≤ 20 := Nat.le_trans (Nat.add_le_add_right (Nat.add_le_add_left h k) j) b
theorem lt64 {a b : Nat} (h : a ≤ b) (k : b < 2 ^ 64) : a < 2 ^ 64 := Nat.lt_of_le_of_lt h k
theorem mul64 {N x y C : Nat} (h : x ≤ y) (k : (N + 1) * (y * C) < 2 ^ 64) : (N + 1) * (x * C) < 2 ^ 64 := Nat.lt_of_le_of_lt (Nat.mul_le_mul_left _ (Nat.mul_le_mul_right _ h)) k
/-- the bounds of scompose's turns -/
def cB (C : Nat) : Nat → Nat
  | 0 => 0
  | i + 1 => 4 * (cB C i * 18) + C * 6 ^ i
theorem cB_mono {C i j : Nat} (h : i ≤ j) : cB C i ≤ cB C j := by
  induction h with
  | refl => exact Nat.le_refl _
  | step _ ih => rw [cB]; omega
theorem cB_le {C D : Nat} (h : C ≤ D) : ∀ i, cB C i ≤ cB D i
  | 0 => Nat.le_refl _
  | i + 1 => Nat.add_le_add (Nat.mul_le_mul_left _ (Nat.mul_le_mul_right _ (cB_le h i))) (Nat.mul_le_mul_right _ h)
theorem cB_lt {C i : Nat} (hC : C ≤ 54) (hi : i ≤ 4) : cB C i ≤ 2 ^ 26 := Nat.le_trans (cB_le hC i) (Nat.le_trans (cB_mono hi) (by decide))
theorem six_lt {k : Nat} (h : k ≤ 20) : 6 ^ k < 2 ^ 64 := Nat.lt_of_le_of_lt (Nat.pow_le_pow_right (by decide) h) (by decide)
theorem comp_step {C n i : Nat} {qs rs : List Rat} (hr : BL 1 18 rs) (hn : n ≤ 4) (hC : C ≤ 54) (hi : i < n) (hb : BL i (cB C i) (compS qs rs n i)) : SmulOk (compS qs rs n i) (rs.take n) ∧ BL (i + 1) (4 * (cB C i * 18)) (smulF (compS qs rs n i) (rs.take n)) := by
  have i4 : i ≤ 4 := Nat.le_trans (Nat.le_of_lt hi) hn
  have h1 := cB_lt (i := i) hC i4
  refine smul_ok hb (hr.take n) (min_r ?_) (mul64 h1 (by decide)) (lt64 h1 (by decide)) (by decide) (six_lt (Nat.le_trans (Nat.add_le_add_right i4 1) (by decide)))
  rw [List.length_take]
  exact min_l hn
theorem comp_bl {C n : Nat} {qs rs : List Rat} (hq : BL 1 C qs) (hr : BL 1 18 rs) (hn : n ≤ 4) (hC : C ≤ 54) : ∀ i, i ≤ n → BL i (cB C i) (compS qs rs n i)
  | 0, _ => BL.of fun x hx => by rw [(List.mem_replicate.mp hx).2]; exact Sm.zero
  | i + 1, hi => by
    have hs := (comp_step (qs := qs) hr hn hC (by omega) (comp_bl hq hr hn hC i (by omega))).2
    have hu := (hq (n - 1 - i)).up i
    rw [Nat.add_comm 1 i] at hu
    exact (hs.le (Nat.le_add_right _ _)).set ((hs 0).add hu) 0
theorem comp_ok {C n : Nat} {qs rs : List Rat} (hq : BL 1 C qs) (hr : BL 1 18 rs) (hn : n ≤ 4) (hC : C ≤ 54) : CompOk qs rs n := fun i hi => by
  have i4 : i ≤ 4 := Nat.le_trans (Nat.le_of_lt hi) hn
  have hb := comp_bl hq hr hn hC i (Nat.le_of_lt hi)
  obtain ⟨h1, h2⟩ := comp_step (qs := qs) hr hn hC hi hb
  have h3 : 4 * (cB C i * 18) ≤ 4 * (2 ^ 26 * 18) := Nat.mul_le_mul_left _ (Nat.mul_le_mul_right _ (cB_lt (i := i) hC i4))
  exact ⟨h1, (h2 0).tiny (lt64 h3 (by decide)) (six_lt (Nat.le_trans (Nat.add_le_add_right i4 1) (by decide))), (hq _).tiny (lt64 hC (by decide)) (by decide)⟩
theorem der_bl {k C : Nat} {qs : List Rat} (hq : BL k C qs) (hl : qs.length ≤ 4) : BL k (3 * C) (derF qs) := BL.range fun i hi => by
  have h := (Sm.int (C := 3) (k := 1 + (i : Int)) (by omega)).mul (hq (i + 1))
  rw [Nat.zero_add] at h
  exact h
theorem row_bl {q0 : Rat} {n : Nat} {qs : List Rat} (h : RowOk q0 n qs) (hq : Sm 1 18 q0) : BL 1 18 qs := BL.of fun x hx => by
  obtain ⟨q1, rest, rfl, h1, h2, _⟩ := h
  rcases List.mem_cons.mp hx with rfl | hx
  · exact hq
  rcases List.mem_cons.mp hx with rfl | hx
  · exact RS_sm1 _ h1
  · exact RS_sm _ (h2 x hx)
theorem row_len {q0 : Rat} {n : Nat} {qs : List Rat} (h : RowOk q0 n qs) : qs.length = n := by
  obtain ⟨q1, rest, rfl, _, _, h⟩ := h
  simpa using h
theorem derF_length (qs : List Rat) : (derF qs).length = qs.length - 1 := by simp [derF]
theorem compF_length (qs rs : List Rat) : (compF qs rs).length = min qs.length rs.length := compS_length (by omega) _
theorem len_one {rest : List Rat} (h : rest.length + 2 = 3) : ∃ a, rest = [a] := List.length_eq_one_iff.mp (by omega)
theorem len_two {rest : List Rat} (h : rest.length + 2 = 4) : ∃ a b, rest = [a, b] := by
  cases rest with
  | nil => simp at h
  | cons a r =>
    obtain ⟨b, e⟩ := len_one (rest := r) (by simp at h; omega)
    exact ⟨a, b, by rw [e]⟩
theorem row_eq {n : Nat} {q : Rat} {os qs : List Rat} (hn : n = 3 ∨ n = 4) (ho : RowOk q n os) (hi : RowOk 0 n qs) : derF (compF os qs) = smulF (compF (derF os) qs) (derF qs) := by
  obtain ⟨q1, rest, e1, _, _, h⟩ := ho
  obtain ⟨r1, rest2, e2, _, _, h'⟩ := hi
  rcases hn with hn | hn
  · rw [hn] at h h'
    obtain ⟨a, ea⟩ := len_one h
    obtain ⟨b, eb⟩ := len_one h'
    rw [e1, e2, ea, eb]
    exact eq3 q q1 a r1 b
  · rw [hn] at h h'
    obtain ⟨a, c, ea⟩ := len_two h
    obtain ⟨b, d, eb⟩ := len_two h'
    rw [e1, e2, ea, eb]
    exact eq4 q q1 a c r1 b d
theorem derF_le3 {qs : List Rat} (h : qs.length ≤ 4) : (derF qs).length ≤ 3 := by
  rw [derF_length]
  exact Nat.sub_le_sub_right h 1
theorem plain0 (n : Nat) (q : Rat) (os qs : List Rat) (hn : n = 3 ∨ n = 4) (hq : q ∈ RS) (ho : RowOk q n os) (hi : RowOk 0 n qs) : Plain0 os qs := by
  have b1 := row_bl ho (RS_sm q hq)
  have b2 := row_bl hi Sm.zero
  have l1 : os.length ≤ 4 := Nat.le_trans (Nat.le_of_eq (row_len ho)) (le4 hn)
  have l2 : qs.length ≤ 4 := Nat.le_trans (Nat.le_of_eq (row_len hi)) (le4 hn)
  have d1 := der_bl b1 l1
  have d2 := der_bl b2 l2
  have m1 : min os.length qs.length ≤ 4 := min_l l1
  have m2 : min (derF os).length qs.length ≤ 3 := min_l (derF_le3 l1)
  have m4 : min (derF os).length qs.length ≤ 4 := Nat.le_trans m2 (by decide)
  have k1 : BL _ _ (compF os qs) := comp_bl b1 b2 m1 (by decide) _ (Nat.le_refl _)
  have k2 : BL _ _ (compF (derF os) qs) := comp_bl d1 b2 m4 (by decide) _ (Nat.le_refl _)
  have c1 := cB_lt (C := 18) (i := min os.length qs.length) (by decide) m1
  have c2 := cB_lt (C := 3 * 18) (i := min (derF os).length qs.length) (by decide) m4
  exact ⟨comp_ok b1 b2 m1 (by decide), k1.derOk (lt64 c1 (by decide)) (six_lt (Nat.le_trans m1 (by decide))), b1.derOk (by decide) (by decide), comp_ok d1 b2 m4 (by decide), b2.derOk (by decide) (by decide), (smul_ok (N := 3) k2 d2 (min_r (derF_le3 l2)) (mul64 c2 (by decide)) (lt64 c2 (by decide)) (by decide) (six_lt (Nat.le_trans (Nat.add_le_add_right m4 1) (by decide)))).1, row_eq hn ho hi⟩
end
section
/-- graded bounds: entry i is an int of size at most M * 360^i over 6^(c + 2 i) -/
def GL (c M : Nat) (xs : List Rat) : Prop := ∀ i, Sm (c + 2 * i) (M * 360 ^ i) (xs.getD i 0)
theorem p360 {i : Nat} (h : i ≤ 2) : 360 ^ i ≤ 360 ^ 2 := Nat.pow_le_pow_right (by decide) h
theorem deg20 {c i : Nat} (hc : c ≤ 16) (hi : i ≤ 2) : 6 ^ (c + 2 * i) < 2 ^ 64 := six_lt (Nat.le_trans (Nat.add_le_add hc (Nat.mul_le_mul_left 2 hi)) (by decide))
theorem big360 {M i X : Nat} (hM : M * 360 ^ 2 < X) (hi : i ≤ 2) : M * 360 ^ i < X := Nat.lt_of_le_of_lt (Nat.mul_le_mul_left _ (p360 hi)) hM
theorem GL.tiny {c M i : Nat} {xs : List Rat} (g : GL c M xs) (hi : i ≤ 2) (hc : c ≤ 16) (hM : M * 360 ^ 2 < 2 ^ 64) : Tiny (xs.getD i 0) := (g i).tiny (big360 hM hi) (deg20 hc hi)
theorem split_deg (c c' : Nat) {i n : Nat} (h : i ≤ n) : c + 2 * i + (c' + 2 * (n - i)) = c + c' + 2 * n := by omega
theorem split_pow (M M' : Nat) {i n : Nat} (h : i ≤ n) : M * 360 ^ i * (M' * 360 ^ (n - i)) = M * M' * 360 ^ n := by
  have e3 : 360 ^ n = 360 ^ i * 360 ^ (n - i) := by rw [← Nat.pow_add, Nat.add_sub_cancel' h]
  rw [e3]
  ac_rfl
theorem prod_sm {c c' M M' i n : Nat} {a b : List Rat} (ha : GL c M a) (hb : GL c' M' b) (h : i ≤ n) : Sm (c + c' + 2 * n) (M * M' * 360 ^ n) (a.getD i 0 * b.getD (n - i) 0) := by
  have x := (ha i).mul (hb (n - i))
  rwa [split_deg c c' h, split_pow M M' h] at x
theorem mix_gl {c c' M M' n : Nat} {a b : List Rat} (ha : GL c M a) (hb : GL c' M' b) : ∀ i, i ≤ n + 1 → Sm (c + c' + 2 * n) (i * (M * M' * 360 ^ n)) (mixS a b n i)
  | 0, _ => Sm.zero
  | i + 1, h => by
    rw [mixS, Nat.succ_mul i]
    exact (mix_gl (n := n) ha hb i (Nat.le_of_succ_le h)).add (prod_sm ha hb (Nat.le_of_succ_le_succ h))
theorem smul_gl {c c' M M' : Nat} {a b : List Rat} (ha : GL c M a) (hb : GL c' M' b) (hl : b.length ≤ 3) (h1 : M * 360 ^ 2 < 2 ^ 64) (h2 : M' * 360 ^ 2 < 2 ^ 64) (h3 : 3 * (M * M' * 360 ^ 2) < 2 ^ 64) (hc : c ≤ 16) (hc' : c' ≤ 16) (hk : c + c' ≤ 16) : SmulOk a b ∧ GL (c + c') (3 * (M * M')) (smulF a b) := by
  have key : ∀ n, n ≤ 2 → ∀ i, i ≤ n + 1 → i * (M * M' * 360 ^ n) < 2 ^ 64 := fun n hn i hi =>
    Nat.lt_of_le_of_lt (Nat.mul_le_mul (Nat.le_trans hi (Nat.add_le_add_right hn 1)) (Nat.mul_le_mul_left _ (p360 hn))) h3
  have tm : ∀ n, n ≤ 2 → ∀ i, i ≤ n + 1 → Tiny (mixS a b n i) := fun n hn i hi => (mix_gl ha hb i hi).tiny (key n hn i hi) (deg20 hk hn)
  constructor
  · intro n hn
    have n2 : n ≤ 2 := Nat.le_of_lt_succ (Nat.lt_of_lt_of_le hn (min_r hl))
    exact ⟨fun i hi => ⟨ha.tiny (Nat.le_trans hi n2) hc h1, hb.tiny (Nat.le_trans (Nat.sub_le _ _) n2) hc' h2, (prod_sm ha hb hi).tiny (by have := key n n2 1 (Nat.le_add_left 1 n); rwa [Nat.one_mul] at this) (deg20 hk n2), tm n n2 i (Nat.le_succ_of_le hi)⟩, tm n n2 _ (Nat.le_refl _)⟩
  · intro i
    by_cases hi : i < min a.length b.length
    · have i2 : i ≤ 2 := Nat.le_of_lt_succ (Nat.lt_of_lt_of_le hi (min_r hl))
      have e : (smulF a b).getD i 0 = mixS a b i (i + 1) := by simp [smulF, List.getD, hi]
      rw [e]
      refine (mix_gl ha hb (i + 1) (Nat.le_refl _)).le ?_
      rw [Nat.mul_assoc 3]
      exact Nat.mul_le_mul_right _ (Nat.add_le_add_right i2 1)
    · rw [getD_out (by rw [smulF_length]; exact Nat.not_lt.mp hi)]
      exact Sm.zero
/-- the inverse's turns -/
theorem Sm.sub {k C D : Nat} {q r : Rat} (x : Sm k C q) (y : Sm k D r) : Sm k (C + D) (q - r) := by
  obtain ⟨n, a, b⟩ := y
  have z : Sm k D (-r) := ⟨-n, by rw [Rat.neg_mul, a, Rat.intCast_neg], by rw [Int.natAbs_neg]; exact b⟩
  have := x.add z
  rwa [← Rat.sub_eq_add_neg] at this
theorem invT_le {qs f : List Rat} (hq : BL 1 18 qs) (hf : GL 1 18 f) : ∀ i j, i ≤ 2 → j ≤ i → Sm (2 * i) (360 ^ i) (invT qs f i j)
  | 0, 0, _, _ => ⟨1, by simp [invT], by decide⟩
  | 1, 0, _, _ => Sm.zero
  | 2, 0, _, _ => Sm.zero
  | 1, 1, _, _ => ((Sm.zero (C := 0)).sub ((hq 1).mul (hf 0))).le (by decide)
  | 2, 1, _, _ => ((Sm.zero (C := 0)).sub ((hq 1).mul (hf 1))).le (by decide)
  | 2, 2, _, _ => (((Sm.zero (C := 0)).sub ((hq 1).mul (hf 1))).sub (((hq 2).mul (hf 0)).up 2)).le (by decide)
  | i + 3, _, h, _ => absurd h (by simp)
  | 0, j + 1, _, h => absurd h (by simp)
  | 1, j + 2, _, h => absurd h (by simp)
  | 2, j + 3, _, h => absurd h (by simp)
theorem inv_gl {qs : List Rat} (hq : BL 1 18 qs) (hi : Sm 1 18 (qs.getD 0 0)⁻¹) : ∀ i, i ≤ 3 → GL 1 18 (invS qs i)
  | 0, _ => fun j => by rw [getD_out (Nat.zero_le _)]; exact Sm.zero
  | i + 1, h => fun j => by
    have ih := inv_gl hq hi i (Nat.le_of_succ_le h)
    have hl := invS_length qs i
    rw [invS]
    rcases Nat.lt_trichotomy j i with h' | h' | h'
    · have e : (invS qs i ++ [invT qs (invS qs i) i i / qs.getD 0 0]).getD j 0 = (invS qs i).getD j 0 := by simp [List.getD, List.getElem?_append_left (Nat.lt_of_lt_of_eq h' hl.symm)]
      rw [e]
      exact ih j
    · subst h'
      have e : (invS qs j ++ [invT qs (invS qs j) j j / qs.getD 0 0]).getD j 0 = invT qs (invS qs j) j j / qs.getD 0 0 := by simp [List.getD, hl]
      rw [e, Rat.div_def]
      have x := (invT_le hq ih j j (Nat.le_of_succ_le_succ h) (Nat.le_refl _)).mul hi
      rw [Nat.add_comm 1, Nat.mul_comm 18]
      exact x
    · rw [getD_out (by rw [List.length_append, hl]; exact h')]
      exact Sm.zero
theorem inv_ok {qs : List Rat} (hq : BL 1 18 qs) (hi : Sm 1 18 (qs.getD 0 0)⁻¹) (hl : qs.length ≤ 3) : InvOk qs := fun i hi' => by
  have i2 : i ≤ 2 := Nat.le_of_lt_succ (Nat.lt_of_lt_of_le hi' hl)
  have g := inv_gl hq hi i (Nat.le_succ_of_le i2)
  have tt : ∀ j, j ≤ i → Tiny (invT qs (invS qs i) i j) := fun j hj => (invT_le hq g i j i2 hj).tiny (lt64 (p360 i2) (by decide)) (six_lt (Nat.le_trans (Nat.mul_le_mul_left 2 i2) (by decide)))
  have tq : ∀ j, Tiny (qs.getD j 0) := fun j => (hq _).tiny (by decide) (by decide)
  refine ⟨fun j hj => ⟨tq _, g.tiny (Nat.le_trans (Nat.sub_le _ _) i2) (by decide) (by decide), ?_, tt j (Nat.le_of_lt hj)⟩, tt i (Nat.le_refl _), tq _, ?_⟩
  · have x := (hq (j + 1)).mul (g (i - (j + 1)))
    rw [← Nat.add_assoc, ← Nat.mul_assoc] at x
    exact x.tiny (big360 (by decide) (Nat.le_trans (Nat.sub_le _ _) i2)) (deg20 (by decide) (Nat.le_trans (Nat.sub_le _ _) i2))
  · rw [Rat.div_def]
    have x := (invT_le hq g i i i2 (Nat.le_refl _)).mul hi
    rw [Nat.add_comm (2 * i), Nat.mul_comm (360 ^ i)] at x
    exact x.tiny (big360 (by decide) i2) (deg20 (by decide) i2)
/-- the bounds of sreverse's powers -/
def pB : Nat → Nat
  | 0 => 18
  | i + 1 => 3 * (pB i * 18)
theorem pB_lt : ∀ {i : Nat}, i ≤ 2 → pB i ≤ 52488
  | 0, _ => by decide
  | 1, _ => by decide
  | 2, _ => by decide
  | i + 3, h => absurd h (by simp)
theorem pow_step {t : List Rat} {m i : Nat} (ht : GL 1 18 t) (hl : t.length ≤ 3) (hi : i ≤ 1) (hb : GL (i + 1) (pB i) (revP t m i)) : SmulOk (revP t m i) t ∧ GL (i + 2) (pB (i + 1)) (smulF (revP t m i) t) := by
  have z := pB_lt (i := i) (Nat.le_succ_of_le hi)
  exact smul_gl (c := i + 1) (c' := 1) hb ht hl (Nat.lt_of_le_of_lt (Nat.mul_le_mul_right _ z) (by decide)) (by decide) (Nat.lt_of_le_of_lt (Nat.mul_le_mul_left 3 (Nat.mul_le_mul_right _ (Nat.mul_le_mul_right _ z))) (by decide)) (Nat.le_trans (Nat.add_le_add_right hi 1) (by decide)) (by decide) (Nat.le_trans (Nat.add_le_add_right hi 2) (by decide))
theorem m4_lt {i m : Nat} (h : i + 2 < m) (hm : m ≤ 4) : i ≤ 1 := Nat.le_of_lt_succ (Nat.lt_of_add_lt_add_right (Nat.lt_of_lt_of_le h hm))
theorem pow_gl {t : List Rat} {m : Nat} (ht : GL 1 18 t) (hl : t.length ≤ 3) (hm : m ≤ 4) : ∀ i, i + 1 < m → GL (i + 1) (pB i) (revP t m i)
  | 0, _ => ht
  | i + 1, h => by
    rw [revP, if_pos (Nat.lt_sub_of_add_lt (by rwa [Nat.add_comm 1 i]))]
    exact (pow_step ht hl (m4_lt h hm) (pow_gl ht hl hm i (Nat.lt_of_succ_lt h))).2
theorem rev_ok {qs : List Rat} (hq : BL 1 18 (qs.drop 1)) (hi : Sm 1 18 ((qs.drop 1).getD 0 0)⁻¹) (hl : qs.length ≤ 4) : RevOk qs := by
  have hl1 : (qs.drop 1).length ≤ 3 := by rw [List.length_drop]; exact Nat.sub_le_sub_right hl 1
  have hl2 : (invF (qs.drop 1)).length ≤ 3 := by rw [invF_length]; exact hl1
  have ht : GL 1 18 (invF (qs.drop 1)) := inv_gl hq hi _ hl1
  refine ⟨inv_ok hq hi hl1, fun i hi' => ?_⟩
  have i1 : i + 1 < qs.length := Nat.add_lt_of_lt_sub hi'
  have i2 : i ≤ 2 := Nat.le_of_lt_succ (Nat.lt_of_lt_of_le hi' (Nat.sub_le_sub_right hl 1))
  have g := pow_gl (m := qs.length) ht hl2 hl i i1
  refine ⟨g.tiny i2 (Nat.le_trans (Nat.add_le_add_right i2 1) (by decide)) (Nat.lt_of_le_of_lt (Nat.mul_le_mul_right _ (pB_lt i2)) (by decide)), fun h => (pow_step ht hl2 ?_ g).1⟩
  exact m4_lt (m := qs.length) (by have := Nat.add_lt_of_lt_sub h; rwa [Nat.add_comm 1 i] at this) hl
theorem Sm.to {k C K D : Nat} {q : Rat} (x : Sm k C q) (j : Nat) (h : k + j = K) (hc : C * 6 ^ j ≤ D) : Sm K D q := h ▸ (x.up j).le hc
theorem rev_entry {X : Rat} : ∀ {i : Nat}, i ≤ 2 → Sm (i + 1 + 2 * i) (pB i * 360 ^ i) X → Sm 8 (52488 * 360 ^ 2 * 6) (X / ((1 + (i : Int) : Int) : Rat))
  | 0, _, x => by rw [Rat.div_def]; exact (x.mul (D := 6) (j := 1) ⟨6, by decide +kernel, by decide⟩).to 6 rfl (by decide)
  | 1, _, x => by rw [Rat.div_def]; exact (x.mul (D := 6) (j := 1) ⟨3, by decide +kernel, by decide⟩).to 3 rfl (by decide)
  | 2, _, x => by rw [Rat.div_def]; exact (x.mul (D := 6) (j := 1) ⟨2, by decide +kernel, by decide⟩).to 0 rfl (by decide)
  | i + 3, h, _ => absurd h (by simp)
theorem revS_bl {t : List Rat} {m : Nat} (ht : GL 1 18 t) (hl : t.length ≤ 3) (hm : m ≤ 4) : ∀ i, i < m → BL 8 (52488 * 360 ^ 2 * 6) (revS t m i)
  | 0, _ => BL.of fun x hx => by rw [List.mem_singleton.mp hx]; exact Sm.zero
  | i + 1, h => fun j => by
    have ih := revS_bl ht hl hm i (Nat.lt_of_succ_lt h)
    have hlen := revS_length t m i
    rw [revS]
    rcases Nat.lt_trichotomy j (i + 1) with h' | h' | h'
    · have e : (revS t m i ++ [(revP t m i).getD i 0 / ((1 + (i : Int) : Int) : Rat)]).getD j 0 = (revS t m i).getD j 0 := by simp [List.getD, List.getElem?_append_left (Nat.lt_of_lt_of_eq h' hlen.symm)]
      rw [e]
      exact ih j
    · subst h'
      have e : (revS t m i ++ [(revP t m i).getD i 0 / ((1 + (i : Int) : Int) : Rat)]).getD (i + 1) 0 = (revP t m i).getD i 0 / ((1 + (i : Int) : Int) : Rat) := by
        simp only [List.getD, ← hlen, List.getElem?_concat_length, Option.getD_some]
      rw [e]
      exact rev_entry (Nat.le_of_lt_succ (Nat.lt_of_succ_lt_succ (Nat.lt_of_lt_of_le h hm))) (pow_gl ht hl hm i h i)
    · rw [getD_out (by rw [List.length_append, hlen]; exact h')]
      exact Sm.zero
theorem mul_bl {k j C D N : Nat} {a b : List Rat} (ha : BL k C a) (hb : BL j D b) (hl : min a.length b.length ≤ N) : BL (k + j) (N * (C * D)) (smulF a b) := BL.range fun i h => (mix_sm ha hb (i + 1)).le (Nat.mul_le_mul_right _ (by omega))
theorem comp_blk {k C n : Nat} {qs rs : List Rat} (hq : BL (k + 1) C qs) (hr : BL 1 18 rs) (hn : n ≤ 4) : ∀ i, i ≤ n → BL (k + i) (cB C i) (compS qs rs n i)
  | 0, _ => BL.of fun x hx => by rw [(List.mem_replicate.mp hx).2]; exact Sm.zero
  | i + 1, hi => by
    have hs := mul_bl (N := 4) (comp_blk hq hr hn i (Nat.le_of_succ_le hi)) (hr.take n) (min_r (by rw [List.length_take]; exact min_l hn))
    have hu := (hq (n - 1 - i)).up i
    rw [Nat.add_right_comm k 1 i] at hu
    exact (hs.le (Nat.le_add_right _ _)).set ((hs 0).add hu) 0
theorem comp_okk {k C n : Nat} {qs rs : List Rat} (hq : BL (k + 1) C qs) (hr : BL 1 18 rs) (hn : n ≤ 3) (hk : k ≤ 10) (hC : C < 2 ^ 64) (hb : (4 + 1) * (cB C 2 * 18) < 2 ^ 64) : CompOk qs rs n := fun i hi => by
  have g := comp_blk hq hr (n := n) (Nat.le_trans hn (by decide)) i (Nat.le_of_lt hi)
  have z := cB_mono (C := C) (i := i) (j := 2) (Nat.le_of_lt_succ (Nat.lt_of_lt_of_le hi hn))
  have ki : k + i ≤ 13 := Nat.add_le_add hk (Nat.le_trans (Nat.le_of_lt hi) hn)
  have l : min (compS qs rs n i).length (rs.take n).length ≤ 4 := min_r (by rw [List.length_take]; exact min_l (Nat.le_trans hn (by decide)))
  have m : 4 * (cB C i * 18) ≤ (4 + 1) * (cB C 2 * 18) := Nat.mul_le_mul (by decide) (Nat.mul_le_mul_right _ z)
  have c : cB C i < 2 ^ 64 := Nat.lt_of_le_of_lt (by omega) hb
  obtain ⟨h1, h2⟩ := smul_ok (N := 4) g (hr.take n) l (mul64 z hb) c (by decide) (six_lt (Nat.le_trans (Nat.add_le_add_right ki 1) (by decide)))
  exact ⟨h1, (h2 0).tiny (Nat.lt_of_le_of_lt m hb) (six_lt (Nat.le_trans (Nat.add_le_add_right ki 1) (by decide))), (hq _).tiny hC (six_lt (Nat.le_trans (Nat.add_le_add_right hk 1) (by decide)))⟩
theorem eqInv2 (q a t0 t1 : Rat) (h0 : t0 = 1 / q) (h1 : t1 = (0 - a * t0) / q) : invF [q, a] = [t0, t1] := by
  subst h1 h0
  simp [invF, invS, invT, List.getD]
theorem eqInv3 (q a b t0 t1 t2 : Rat) (h0 : t0 = 1 / q) (h1 : t1 = (0 - a * t0) / q) (h2 : t2 = (0 - a * t1 - b * t0) / q) : invF [q, a, b] = [t0, t1, t2] := by
  subst h2 h1 h0
  simp [invF, invS, invT, List.getD]
theorem div_one' (a : Rat) : a / 1 = a := by grind
theorem eqRev2 (t0 t1 : Rat) : revS [t0, t1] 3 2 = [0, t0, (t0 * t1 + t1 * t0) / 2] := by
  show [0, t0 / ((1 + ((0 : Nat) : Int) : Int) : Rat), (smulF [t0, t1] [t0, t1]).getD 1 0 / ((1 + ((1 : Nat) : Int) : Int) : Rat)] = _
  rw [sm2, num1, num2, div_one']
  rfl
theorem eqRev3 (t0 t1 t2 : Rat) : revS [t0, t1, t2] 4 3 = [0, t0, (t0 * t1 + t1 * t0) / 2, ((t0 * t0) * t2 + (t0 * t1 + t1 * t0) * t1 + (t0 * t2 + t1 * t1 + t2 * t0) * t0) / 3] := by
  show [0, t0 / ((1 + ((0 : Nat) : Int) : Int) : Rat), (smulF [t0, t1, t2] [t0, t1, t2]).getD 1 0 / ((1 + ((1 : Nat) : Int) : Int) : Rat), (smulF (smulF [t0, t1, t2] [t0, t1, t2]) [t0, t1, t2]).getD 2 0 / ((1 + ((2 : Nat) : Int) : Int) : Rat)] = _
  rw [sm3, sm3, num1, num2, num3, div_one']
  rfl
theorem law3 (q a t0 s : Rat) (x0 : q * t0 = 1) (x1 : s * q * q = - (a * t0)) : smulF (compF (derF [0, t0, s]) [0, q, a]) (derF [0, q, a]) = [1, 0] := by
  rw [der3, der3, comp2, sm2]
  exact list2 (by grind) (by grind)
theorem law4 (q a b t0 t1 t2 s u : Rat) (x0 : q * t0 = 1) (x1 : q * t1 + a * t0 = 0) (x2 : q * t2 + a * t1 + b * t0 = 0) (y1 : s = t0 * t1) (y2 : u = t0 * t0 * t2 + t0 * t1 * t1) : smulF (compF (derF [0, t0, s, u]) [0, q, a, b]) (derF [0, q, a, b]) = [1, 0, 0] := by
  rw [der4, der4, comp34, sm3]
  exact list3 (by grind) (by grind) (by grind)
theorem RS_inv : ∀ q ∈ RS.drop 1, Sm 1 18 q⁻¹ := by
  intro q hq
  simp only [RS, List.drop_succ_cons, List.drop_zero, List.mem_cons, List.not_mem_nil, or_false] at hq
  rcases hq with rfl | rfl | rfl | rfl | rfl | rfl
  · exact ⟨6, by decide +kernel, by decide⟩
  · exact ⟨-6, by decide +kernel, by decide⟩
  · exact ⟨3, by decide +kernel, by decide⟩
  · exact ⟨12, by decide +kernel, by decide⟩
  · exact ⟨-2, by decide +kernel, by decide⟩
  · exact ⟨9, by decide +kernel, by decide⟩
theorem RS_ne : ∀ q ∈ RS.drop 1, q ≠ 0 := by
  rintro q hq rfl
  exact absurd hq (by decide)
theorem one_eq {n : Nat} {qs : List Rat} (hn : n = 3 ∨ n = 4) (h : RowOk 0 n qs) : smulF (compF (derF (revF qs)) qs) (derF qs) = [1] ++ List.replicate (n - 2) 0 := by
  obtain ⟨q, rest, rfl, h1, _, hl⟩ := h
  have hq := RS_ne q h1
  have e0 : q * (1 / q) = 1 := by grind
  rcases hn with rfl | rfl
  · obtain ⟨a, rfl⟩ := len_one hl
    show smulF (compF (derF (revS (invF [q, a]) 3 2)) [0, q, a]) (derF [0, q, a]) = [1, 0]
    rw [eqInv2 q a _ _ rfl rfl, eqRev2]
    exact law3 q a _ _ e0 (by grind)
  · obtain ⟨a, b, rfl⟩ := len_two hl
    show smulF (compF (derF (revS (invF [q, a, b]) 4 3)) [0, q, a, b]) (derF [0, q, a, b]) = [1, 0, 0]
    rw [eqInv3 q a b _ _ _ rfl rfl rfl, eqRev3]
    have z0 : q * (1 / q) = 1 := e0
    generalize 1 / q = t0 at *
    have z1 : q * ((0 - a * t0) / q) + a * t0 = 0 := by grind
    generalize (0 - a * t0) / q = t1 at *
    have z2 : q * ((0 - a * t1 - b * t0) / q) + a * t1 + b * t0 = 0 := by grind
    generalize (0 - a * t1 - b * t0) / q = t2 at *
    exact law4 q a b t0 t1 t2 _ _ z0 z1 z2 (by grind) (by grind)
theorem revF_le {qs : List Rat} (h : qs.length ≤ 4) : (revF qs).length ≤ 4 := by
  rw [revF, revS_length]
  exact Nat.le_trans (Nat.add_le_add_right (Nat.sub_le_sub_right h 1) 1) (by decide)
theorem bnd_le {x y : Nat} (h : x ≤ y) (k : (3 + 1) * (y * (3 * 18)) < 2 ^ 64) : x < 2 ^ 64 := by omega
theorem plain1 (n : Nat) (qs : List Rat) (hn : n = 3 ∨ n = 4) (h : RowOk 0 n qs) : Plain1 n qs := by
  have b := row_bl h Sm.zero
  have l : qs.length ≤ 4 := Nat.le_trans (Nat.le_of_eq (row_len h)) (le4 hn)
  have l0 : qs.length - 1 < qs.length := Nat.sub_lt (by rw [row_len h]; exact hn.elim (fun e => Nat.lt_of_lt_of_eq (by decide) e.symm) fun e => Nat.lt_of_lt_of_eq (by decide) e.symm) (by decide)
  have bd : BL 1 18 (qs.drop 1) := fun i => by
    have e : (qs.drop 1).getD i 0 = qs.getD (i + 1) 0 := by simp [List.getD]
    rw [e]
    exact b _
  have hi : Sm 1 18 ((qs.drop 1).getD 0 0)⁻¹ := by
    obtain ⟨q, rest, rfl, h1, _⟩ := h
    exact RS_inv q h1
  have hl2 : (invF (qs.drop 1)).length ≤ 3 := by
    rw [invF_length, List.length_drop]
    exact Nat.sub_le_sub_right l 1
  have hl1 : (qs.drop 1).length ≤ 3 := by rw [List.length_drop]; exact Nat.sub_le_sub_right l 1
  have g : BL 8 (52488 * 360 ^ 2 * 6) (revF qs) := revS_bl (inv_gl bd hi _ hl1) hl2 l _ l0
  have d1 := der_bl g (revF_le l)
  have d2 := der_bl b l
  have m1 : min (derF (revF qs)).length qs.length ≤ 3 := min_l (derF_le3 (revF_le l))
  have k1 : BL _ _ (compF (derF (revF qs)) qs) := comp_blk (k := 7) d1 b (Nat.le_trans m1 (by decide)) _ (Nat.le_refl _)
  have c1 := cB_mono (C := 3 * (52488 * 360 ^ 2 * 6)) m1
  have c2 : (3 + 1) * (cB (3 * (52488 * 360 ^ 2 * 6)) 3 * (3 * 18)) < 2 ^ 64 := by decide +kernel
  exact ⟨rev_ok bd hi l, g.derOk (by decide) (by decide), comp_okk (k := 7) d1 b m1 (by decide) (by decide) (by decide +kernel), b.derOk (by decide) (by decide), (smul_ok (N := 3) k1 d2 (min_r (derF_le3 l)) (mul64 c1 c2) (bnd_le c1 c2) (by decide) (six_lt (add3 m1 (by decide)))).1, one_eq hn h⟩
end
section
theorem trim_id {xs : List Rat} {k : Nat} (hl : xs.length = k + 1) (h : xs.getD k 0 ≠ 0) : trimF xs = xs := by
  unfold trimF
  rw [hl, trimN, if_neg h]
  exact List.take_of_length_le (by omega)
theorem getD_one0 (i : Nat) : ([0] : List Rat).getD i 0 = 0 := by
  cases i <;> simp [List.getD]
theorem getD_nil0 (i : Nat) : ([] : List Rat).getD i 0 = 0 := by simp [List.getD]
theorem addL_trim {X : List Rat} {a : Rat} {k : Nat} (h : X.length = k + 1) : addL X (trimF [a]) = addL X [a] := by
  by_cases ha : a = 0
  · subst ha
    have e : trimF ([0] : List Rat) = [] := by simp [trimF, trimN, List.getD]
    rw [e]
    unfold addL
    have e1 : max X.length ([] : List Rat).length = k + 1 := by simp [h]
    have e2 : max X.length ([0] : List Rat).length = k + 1 := by simp [h]
    rw [e1, e2]
    apply List.map_congr_left
    intro i _
    rw [getD_one0, getD_nil0]
  · rw [trim_id (xs := [a]) (k := 0) rfl ha]
theorem add_lead {X : List Rat} {a : Rat} {k : Nat} (h : X.length = k + 2) (hl : X.getD (k + 1) 0 ≠ 0) : addF X (trimF [a]) = addL X [a] := by
  unfold addF
  rw [addL_trim h]
  have hL : (addL X [a]).length = (k + 1) + 1 := by rw [addL_length, h]; simp
  refine trim_id hL ?_
  have e : (addL X [a]).getD (k + 1) 0 = X.getD (k + 1) 0 + [a].getD (k + 1) 0 := by
    unfold addL
    have h5 : k + 1 < max X.length [a].length := by rw [h]; simp
    show (((List.range (max X.length [a].length)).map fun i => X.getD i 0 + [a].getD i 0)[k + 1]?).getD 0 = _
    rw [List.getElem?_map, List.getElem?_range h5]
    rfl
  rw [e, getD_out (qs := [a]) (by simp), Rat.add_zero]
  exact hl
theorem qc1 (q : Rat) (gs : List Rat) (hq : q ≠ 0) : qcF [q] gs = [q] := by
  show addF (mulF [] gs) (trimF [q]) = [q]
  rw [trim_id (xs := [q]) (k := 0) rfl hq]
  simp [addF, addL, mulF, trimF, trimN, List.getD, List.range, List.range.loop, hq, Rat.zero_add]
theorem m1_2 (q g0 g1 : Rat) : mulF [q] [g0, g1] = [q * g0, q * g1] := by
  show [0 + q * g0, 0 + q * g1] = _
  simp only [Rat.zero_add]
theorem m1_3 (q g0 g1 g2 : Rat) : mulF [q] [g0, g1, g2] = [q * g0, q * g1, q * g2] := by
  show [0 + q * g0, 0 + q * g1, 0 + q * g2] = _
  simp only [Rat.zero_add]
theorem m2_2 (x0 x1 g0 g1 : Rat) : mulF [x0, x1] [g0, g1] = [x0 * g0, x0 * g1 + x1 * g0, x1 * g1] := by
  show [0 + x0 * g0, 0 + x0 * g1 + x1 * g0, 0 + x1 * g1] = _
  simp only [Rat.zero_add]
theorem m3_3 (x0 x1 x2 g0 g1 g2 : Rat) : mulF [x0, x1, x2] [g0, g1, g2] = [x0 * g0, x0 * g1 + x1 * g0, x0 * g2 + x1 * g1 + x2 * g0, x1 * g2 + x2 * g1, x2 * g2] := by
  show [0 + x0 * g0, 0 + x0 * g1 + x1 * g0, 0 + x0 * g2 + x1 * g1 + x2 * g0, 0 + x1 * g2 + x2 * g1, 0 + x2 * g2] = _
  simp only [Rat.zero_add]
theorem m1_1 (q g0 : Rat) : mulF [q] [g0] = [q * g0] := by
  show [0 + q * g0] = _
  simp only [Rat.zero_add]
theorem m2_1 (x0 x1 g0 : Rat) : mulF [x0, x1] [g0] = [x0 * g0, x1 * g0] := by
  show [0 + x0 * g0, 0 + x1 * g0] = _
  simp only [Rat.zero_add]
theorem m3_2 (x0 x1 x2 g0 g1 : Rat) : mulF [x0, x1, x2] [g0, g1] = [x0 * g0, x0 * g1 + x1 * g0, x1 * g1 + x2 * g0, x2 * g1] := by
  show [0 + x0 * g0, 0 + x0 * g1 + x1 * g0, 0 + x1 * g1 + x2 * g0, 0 + x2 * g1] = _
  simp only [Rat.zero_add]
theorem ad2 (x0 x1 a : Rat) : addL [x0, x1] [a] = [x0 + a, x1] := by
  simp [addL, List.getD, List.range, List.range.loop, Rat.add_zero]
theorem ad3 (x0 x1 x2 a : Rat) : addL [x0, x1, x2] [a] = [x0 + a, x1, x2] := by
  simp [addL, List.getD, List.range, List.range.loop, Rat.add_zero]
theorem ad5 (x0 x1 x2 x3 x4 a : Rat) : addL [x0, x1, x2, x3, x4] [a] = [x0 + a, x1, x2, x3, x4] := by
  simp [addL, List.getD, List.range, List.range.loop, Rat.add_zero]
theorem al2 (x0 x1 a : Rat) (h : x1 ≠ 0) : addF [x0, x1] (trimF [a]) = [x0 + a, x1] := by
  rw [add_lead (X := [x0, x1]) (k := 0) rfl (by simpa [List.getD] using h), ad2]
theorem al3 (x0 x1 x2 a : Rat) (h : x2 ≠ 0) : addF [x0, x1, x2] (trimF [a]) = [x0 + a, x1, x2] := by
  rw [add_lead (X := [x0, x1, x2]) (k := 1) rfl (by simpa [List.getD] using h), ad3]
theorem al5 (x0 x1 x2 x3 x4 a : Rat) (h : x4 ≠ 0) : addF [x0, x1, x2, x3, x4] (trimF [a]) = [x0 + a, x1, x2, x3, x4] := by
  rw [add_lead (X := [x0, x1, x2, x3, x4]) (k := 3) rfl (by simpa [List.getD] using h), ad5]
theorem mul_ne {a b : Rat} (ha : a ≠ 0) (hb : b ≠ 0) : a * b ≠ 0 := fun h => (Rat.mul_eq_zero.mp h).elim ha hb
theorem qc2 (a q : Rat) (gs : List Rat) (hq : q ≠ 0) : qcF [a, q] gs = addF (mulF [q] gs) (trimF [a]) := by
  have h := qc1 q gs hq
  show addF (mulF (qcF [q] gs) gs) (trimF [a]) = _
  rw [h]
theorem qc3 (a b q : Rat) (gs : List Rat) (hq : q ≠ 0) : qcF [a, b, q] gs = addF (mulF (qcF [b, q] gs) gs) (trimF [a]) := rfl
theorem qc22 (a q g0 g1 : Rat) (hq : q ≠ 0) (hg : g1 ≠ 0) : qcF [a, q] [g0, g1] = [q * g0 + a, q * g1] := by
  rw [qc2 a q _ hq, m1_2, al2 _ _ _ (mul_ne hq hg)]
theorem qc23 (a q g0 g1 g2 : Rat) (hq : q ≠ 0) (hg : g2 ≠ 0) : qcF [a, q] [g0, g1, g2] = [q * g0 + a, q * g1, q * g2] := by
  rw [qc2 a q _ hq, m1_3, al3 _ _ _ _ (mul_ne hq hg)]
theorem qc32 (a b q g0 g1 : Rat) (hq : q ≠ 0) (hg : g1 ≠ 0) : qcF [a, b, q] [g0, g1] = [(q * g0 + b) * g0 + a, (q * g0 + b) * g1 + q * g1 * g0, q * g1 * g1] := by
  rw [qc3 a b q _ hq, qc22 b q g0 g1 hq hg, m2_2, al3 _ _ _ _ (mul_ne (mul_ne hq hg) hg)]
theorem qc33 (a b q g0 g1 g2 : Rat) (hq : q ≠ 0) (hg : g2 ≠ 0) : qcF [a, b, q] [g0, g1, g2] = [(q * g0 + b) * g0 + a, (q * g0 + b) * g1 + q * g1 * g0, (q * g0 + b) * g2 + q * g1 * g1 + q * g2 * g0, q * g1 * g2 + q * g2 * g1, q * g2 * g2] := by
  rw [qc3 a b q _ hq, qc23 b q g0 g1 g2 hq hg, m3_3, al5 _ _ _ _ _ _ (mul_ne (mul_ne hq hg) hg)]
theorem trimF_le (xs : List Rat) : (trimF xs).length ≤ xs.length := by unfold trimF; rw [List.length_take]; omega
theorem addF_le (xs ys : List Rat) : (addF xs ys).length ≤ max xs.length ys.length := Nat.le_trans (trimF_le _) (Nat.le_of_eq (addL_length _ _))
theorem mulF_le (xs ys : List Rat) : (mulF xs ys).length ≤ xs.length + ys.length - 1 := by
  unfold mulF
  split
  · exact Nat.zero_le _
  · rw [mulS_length]; omega
theorem qdF_length (qs : List Rat) : (qdF qs).length = qs.length - 1 := by simp [qdF, qdL]
/-- composition with a constant -/
theorem qc_const (g0 : Rat) (fs : List Rat) : ∀ i, (qcS fs [g0] i).length ≤ 1
  | 0 => Nat.zero_le _
  | i + 1 => by
    have h1 := qc_const g0 fs i
    have h2 := mulF_le (qcS fs [g0] i) [g0]
    have h3 := trimF_le [fs.getD (fs.length - 1 - i) 0]
    have h4 := addF_le (mulF (qcS fs [g0] i) [g0]) (trimF [fs.getD (fs.length - 1 - i) 0])
    rw [qcS]
    simp only [List.length_cons, List.length_nil] at h2 h3
    omega
theorem qd1 (a : Rat) : qdF [a] = [] := by simp [qdF, qdL]
theorem qd2 (a b : Rat) : qdF [a, b] = [b] := by simp [qdF, qdL, List.getD, List.range, List.range.loop]
theorem qd3 (a b c : Rat) : qdF [a, b, c] = [b, c * 2] := by simp [qdF, qdL, List.getD, List.range, List.range.loop]
theorem qd5 (a b c d e : Rat) : qdF [a, b, c, d, e] = [b, c * 2, d * 3, e * 4] := by simp [qdF, qdL, List.getD, List.range, List.range.loop]
/-- the chain rule: the nine cases of the degrees -/
theorem chain (fs gs : List Rat) (hf : PolyOk fs) (hg : PolyOk gs) : qdF (qcF fs gs) = mulF (qcF (qdF fs) gs) (qdF gs) := by
  obtain ⟨xs, q, rfl, hl, _, hq⟩ := hf
  obtain ⟨ys, g, rfl, hm, _, hg⟩ := hg
  have hq0 : q ≠ 0 := by rintro rfl; exact absurd hq (by decide)
  have hg0 : g ≠ 0 := by rintro rfl; exact absurd hg (by decide)
  have h2 : q * 2 ≠ 0 := mul_ne hq0 (by decide)
  clear hq hg
  match ys, hm with
  | [], _ =>
    have e1 : qdF (qcF (xs ++ [q]) [g]) = [] := by
      have h := qc_const g (xs ++ [q]) (xs ++ [q]).length
      have h' : (qdF (qcF (xs ++ [q]) [g])).length = 0 := by rw [qdF_length]; show (qcS _ _ _).length - 1 = 0; omega
      exact List.length_eq_zero_iff.mp h'
    show qdF (qcF (xs ++ [q]) [g]) = mulF _ (qdF [g])
    rw [e1, qd1]
    exact (if_pos (.inr rfl)).symm
  | [g0], _ =>
    match xs, hl with
    | [], _ =>
      show qdF (qcF [q] [g0, g]) = mulF (qcF (qdF [q]) [g0, g]) (qdF [g0, g])
      rw [qc1 q _ hq0, qd1]
      exact (if_pos (.inl rfl)).symm
    | [a], _ =>
      show qdF (qcF [a, q] [g0, g]) = mulF (qcF (qdF [a, q]) [g0, g]) (qdF [g0, g])
      rw [qc22 a q g0 g hq0 hg0, qd2, qd2, qd2, qc1 q _ hq0, m1_1]
    | [a, b], _ =>
      show qdF (qcF [a, b, q] [g0, g]) = mulF (qcF (qdF [a, b, q]) [g0, g]) (qdF [g0, g])
      rw [qc32 a b q g0 g hq0 hg0, qd3, qd3, qd2, qc22 b (q * 2) g0 g h2 hg0, m2_1]
      congr 1
      · grind
      · congr 1
        grind
  | [g0, g1], _ =>
    match xs, hl with
    | [], _ =>
      show qdF (qcF [q] [g0, g1, g]) = mulF (qcF (qdF [q]) [g0, g1, g]) (qdF [g0, g1, g])
      rw [qc1 q _ hq0, qd1]
      exact (if_pos (.inl rfl)).symm
    | [a], _ =>
      show qdF (qcF [a, q] [g0, g1, g]) = mulF (qcF (qdF [a, q]) [g0, g1, g]) (qdF [g0, g1, g])
      rw [qc23 a q g0 g1 g hq0 hg0, qd3, qd2, qd3, qc1 q _ hq0, m1_2]
      congr 2
      grind
    | [a, b], _ =>
      show qdF (qcF [a, b, q] [g0, g1, g]) = mulF (qcF (qdF [a, b, q]) [g0, g1, g]) (qdF [g0, g1, g])
      rw [qc33 a b q g0 g1 g hq0 hg0, qd5, qd3, qd3, qc23 b (q * 2) g0 g1 g h2 hg0, m3_2]
      simp only [List.cons.injEq, and_true]
      refine ⟨?_, ?_, ?_, ?_⟩ <;> grind
end
section
theorem mulI_bl {k j C D cnt i : Nat} {qs rs f : List Rat} (ha : BL k C qs) (hb : BL j D rs) (hf : BL (k + j) (cnt * (C * D)) f) : ∀ t, BL (k + j) ((cnt + t) * (C * D)) (mulI qs rs f i t)
  | 0 => hf
  | t + 1 => by
    have ih := mulI_bl (i := i) ha hb hf t
    have e : (cnt + (t + 1)) * (C * D) = (cnt + t) * (C * D) + C * D := by rw [← Nat.add_assoc, Nat.succ_mul]
    rw [mulI, e]
    exact (ih.le (Nat.le_add_right _ _)).set ((ih _).add ((ha i).mul (hb t))) _
theorem mulS_bl {k j C D : Nat} {qs rs : List Rat} (ha : BL k C qs) (hb : BL j D rs) : ∀ i, BL (k + j) ((i * rs.length) * (C * D)) (mulS qs rs i)
  | 0 => BL.of fun x hx => by
    rw [mulS] at hx
    rw [(List.mem_replicate.mp hx).2]
    exact Sm.zero
  | i + 1 => by
    rw [mulS, Nat.succ_mul]
    exact mulI_bl ha hb (mulS_bl ha hb i) rs.length
theorem mul_ok {k j C D N : Nat} {qs rs : List Rat} (ha : BL k C qs) (hb : BL j D rs) (hN : qs.length * rs.length ≤ N) (hCD : (N + 1) * (C * D) < 2 ^ 64) (hC : C < 2 ^ 64) (hD : D < 2 ^ 64) (hk : k + j ≤ 20) : MulOk qs rs ∧ BL (k + j) (N * (C * D)) (mulF qs rs) := by
  have hi : ∀ i, i ≤ N + 1 → i * (C * D) < 2 ^ 64 := fun i h => Nat.lt_of_le_of_lt (Nat.mul_le_mul_right _ h) hCD
  constructor
  · intro i h1 t h2
    have h3 : (i + 1) * rs.length ≤ qs.length * rs.length := Nat.mul_le_mul_right _ h1
    rw [Nat.succ_mul] at h3
    refine ⟨(ha i).tiny hC (six_lt (by omega)), (hb t).tiny hD (six_lt (by omega)), (mulI_bl ha hb (mulS_bl ha hb i) t _).tiny (hi _ (by omega)) (six_lt hk), ((ha i).mul (hb t)).tiny ?_ (six_lt hk)⟩
    have := hi 1 (by omega)
    rwa [Nat.one_mul] at this
  · unfold mulF
    split
    · exact BL.of fun x hx => by simp at hx
    · exact (mulS_bl ha hb _).le (Nat.mul_le_mul_right _ hN)
def qB (C : Nat) : Nat → Nat
  | 0 => 0
  | i + 1 => 18 * (qB C i * 18) + C * 6 ^ i
theorem qB_mono {C i j : Nat} (h : i ≤ j) : qB C i ≤ qB C j := by
  induction h with
  | refl => exact Nat.le_refl _
  | step _ ih => rw [qB]; omega
theorem qB_le {C D : Nat} (h : C ≤ D) : ∀ i, qB C i ≤ qB D i
  | 0 => Nat.le_refl _
  | i + 1 => Nat.add_le_add (Nat.mul_le_mul_left _ (Nat.mul_le_mul_right _ (qB_le h i))) (Nat.mul_le_mul_right _ h)
theorem qB_lt {C i : Nat} (hC : C ≤ 36) (hi : i ≤ 3) : qB C i ≤ 2 ^ 26 := Nat.le_trans (qB_le hC i) (Nat.le_trans (qB_mono hi) (by decide))
theorem BL.trim {k C : Nat} {xs : List Rat} (h : BL k C xs) : BL k C (trimF xs) := h.take _
theorem BL.drop {k C : Nat} {xs : List Rat} (h : BL k C xs) (n : Nat) : BL k C (xs.drop n) := fun i => by
  have : (xs.drop n).getD i 0 = xs.getD (n + i) 0 := by simp [List.getD]
  rw [this]; exact h _
theorem BL.up {k C : Nat} {xs : List Rat} (j : Nat) (h : BL k C xs) : BL (j + k) (C * 6 ^ j) xs := fun i => by
  rw [Nat.add_comm]; exact (h i).up j
theorem BL.one {k C : Nat} {q : Rat} (h : Sm k C q) : BL k C [q] := BL.of fun x hx => by rw [List.mem_singleton.mp hx]; exact h
theorem BL.add {k C D : Nat} {xs ys : List Rat} (h : BL k C xs) (h' : BL k D ys) : BL k (C + D) (addF xs ys) := BL.trim (BL.range fun i _ => (h i).add (h' i))
theorem qc_len (fs gs : List Rat) (hg : gs.length ≤ 3) : ∀ i, (qcS fs gs i).length ≤ 2 * i
  | 0 => Nat.zero_le _
  | i + 1 => by
    have h1 := qc_len fs gs hg i
    have h2 := mulF_le (qcS fs gs i) gs
    have h3 := trimF_le [fs.getD (fs.length - 1 - i) 0]
    have h4 := addF_le (mulF (qcS fs gs i) gs) (trimF [fs.getD (fs.length - 1 - i) 0])
    rw [qcS]
    simp only [List.length_cons, List.length_nil] at h3
    omega
theorem qc_mul {C i : Nat} {fs gs : List Rat} (hr : BL 1 18 gs) (hg : gs.length ≤ 3) (hC : C ≤ 36) (hi : i ≤ 3) (hb : BL i (qB C i) (qcS fs gs i)) : MulOk (qcS fs gs i) gs ∧ BL (i + 1) (18 * (qB C i * 18)) (mulF (qcS fs gs i) gs) := by
  have h1 := qB_lt (i := i) hC hi
  have h3 : (qcS fs gs i).length * gs.length ≤ 6 * 3 := Nat.mul_le_mul (Nat.le_trans (qc_len fs gs hg i) (Nat.mul_le_mul_left 2 hi)) hg
  exact mul_ok hb hr h3 (mul64 h1 (by decide)) (lt64 h1 (by decide)) (by decide) (Nat.le_trans (Nat.add_le_add_right hi 1) (by decide))
theorem qc_bl {C : Nat} {fs gs : List Rat} (hq : BL 1 C fs) (hr : BL 1 18 gs) (hg : gs.length ≤ 3) (hC : C ≤ 36) : ∀ i, i ≤ 3 → BL i (qB C i) (qcS fs gs i)
  | 0, _ => BL.of fun x hx => by simp [qcS] at hx
  | i + 1, hi => by
    have hs := (qc_mul (fs := fs) hr hg hC (by omega) (qc_bl hq hr hg hC i (by omega))).2
    exact hs.add (((BL.one (hq _)).trim).up i)
theorem qc_ok {C : Nat} {fs gs : List Rat} (hq : BL 1 C fs) (hr : BL 1 18 gs) (hf : fs.length ≤ 3) (hg : gs.length ≤ 3) (hC : C ≤ 36) : QcOk fs gs := fun i hi => by
  have i3 : i ≤ 3 := Nat.le_trans (Nat.le_of_lt hi) hf
  obtain ⟨h1, h2⟩ := qc_mul (fs := fs) hr hg hC i3 (qc_bl hq hr hg hC i i3)
  have h3 := qB_lt (i := i) hC i3
  exact ⟨Nat.le_trans (Nat.add_le_add (Nat.le_trans (qc_len fs gs hg i) (Nat.mul_le_mul_left 2 i3)) hg) (by decide), h1, fun j _ => ⟨(h2 j).tiny (Nat.lt_of_le_of_lt (Nat.mul_le_mul_left _ (Nat.mul_le_mul_right _ h3)) (by decide)) (six_lt (Nat.le_trans (Nat.add_le_add_right i3 1) (by decide))), ((BL.one (hq _)).trim j).tiny (lt64 hC (by decide)) (by decide)⟩⟩
theorem qd_bl {fs : List Rat} (hq : BL 1 18 fs) (hl : fs.length ≤ 3) : BL 1 36 (qdF fs) := (BL.range fun i hi => by
  have h := (hq i).mul (Sm.int (C := 2) (k := (i : Int)) (by omega))
  exact h : BL 1 36 (qdL fs)).drop 1
theorem poly_bl {fs : List Rat} (h : PolyOk fs) : BL 1 18 fs ∧ fs.length ≤ 3 := by
  obtain ⟨xs, q, rfl, h1, h2, h3⟩ := h
  refine ⟨BL.of fun x hx => ?_, by rw [List.length_append, List.length_singleton]; omega⟩
  rcases List.mem_append.mp hx with h | h
  · exact RS_sm _ (h2 x h)
  · rw [List.mem_singleton.mp h]; exact RS_sm1 _ h3
theorem qdF_le2 {fs : List Rat} (h : fs.length ≤ 3) : (qdF fs).length ≤ 2 := by
  rw [qdF_length]
  exact Nat.sub_le_sub_right h 1
theorem plainQ (fs gs : List Rat) (hf : PolyOk fs) (hg : PolyOk gs) : PlainQ fs gs := by
  obtain ⟨bf, lf⟩ := poly_bl hf
  obtain ⟨bg, lg⟩ := poly_bl hg
  have df := qd_bl bf lf
  have dg := qd_bl bg lg
  have lq : (qdF fs).length ≤ 3 := Nat.le_trans (qdF_le2 lf) (by decide)
  have k1 : BL _ _ (qcF fs gs) := qc_bl bf bg lg (by decide) _ lf
  have k2 : BL _ _ (qcF (qdF fs) gs) := qc_bl df bg lg (by decide) _ lq
  have c1 := qB_lt (C := 18) (i := fs.length) (by decide) lf
  have c2 := qB_lt (C := 36) (i := (qdF fs).length) (by decide) lq
  have l2 : (qcF (qdF fs) gs).length ≤ 4 := Nat.le_trans (qc_len _ gs lg _) (Nat.mul_le_mul_left 2 (qdF_le2 lf))
  have l3 : (qcF (qdF fs) gs).length * (qdF gs).length ≤ 4 * 2 := Nat.mul_le_mul l2 (qdF_le2 lg)
  exact ⟨qc_ok bf bg lf lg (by decide), k1.derOk (lt64 c1 (by decide)) (six_lt (Nat.le_trans lf (by decide))), bf.derOk (by decide) (by decide), qc_ok df bg lq lg (by decide), bg.derOk (by decide) (by decide), Nat.le_trans (Nat.add_le_add l2 (qdF_le2 lg)) (by decide), (mul_ok k2 dg l3 (mul64 c2 (by decide)) (lt64 c2 (by decide)) (by decide) (Nat.le_trans (Nat.add_le_add_right lq 1) (by decide))).1, chain fs gs hf hg⟩
end
end Mine
theorem PySem.Challenge.cw_sa0095_01_holds : PySem.Challenge.rw_sa0095_01.Holds := by
  exact Mine.law_walk Mine.plain1 Mine.plain0 Mine.plainQ
