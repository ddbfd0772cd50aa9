import PyProof.Rows.All
import Wide.All
import OpenK.AllK
import Wide.FinOn
import KE.KStateDown
import Lean
import HandS.ForMost
import HandS.ForExc
import HandS.Defaults
import HandS.Head0
import HandS.Head1
import HandS.Head2
import HandS.HeadEnd
import HandS.HeadHook1
import HandS.HeadHook2
import HandS.HeadHook3
import HandS.HeadHook4
import HandS.HeadWalk
import HandS.IsInst
import HandS.Walk
import HandS.AnyAll
import HandS.Replace
import HandS.Deep
import HandS.Flow
import HandS.Style
import HandS.DictComp
import HandS.SetKeys
import HandS.SetBool
import HandS.Conv
import HandS.Nested
import HandS.TryMany
import HandS.ExcInit
import HandS.ExcField
import HandS.ExcIs
import HandS.ExcSuper
import HandS.MakeKw
import HandS.SortKw
import KE.KeyNested
import KE.KMinKey
import KE.DataMinKey
import KE.DataMinMax
import KE.KExcSuper
import KE.LtSeq
import KE.GoesMore
import PyProof.Draws
import KE.KDictDisplayH
import KE.KExcIs
import HandS.MakeKwOnly
import PySem.Challenge.RW_backinstep_k90_whole_the_keeper
set_option linter.all false
/-! The mathematics of the law: no program in sight. Signals are the codes 97 .. 101, rows and lots lists of codes, a pair (i, j) of numbers. -/
namespace BK
abbrev Pair := Nat × Nat
abbrev Row := List Nat
abbrev Node := Pair × Row
/-- a device and a family -/
structure Cfg where
  n : Nat
  tabs : List (List Nat)
  lots : List Row
def abc : Row := [97, 98, 99, 100, 101]
def Cfg.sig (C : Cfg) : Row := abc.take C.tabs.length
def pairOf (a b : Nat) : Option Pair := if a = b then none else if a < b then some (a, b) else some (b, a)
def Cfg.at (C : Cfg) (c i : Nat) : Nat := (C.tabs.getD (c - 97) []).getD i 0
def Cfg.step (C : Cfg) (p : Pair) (c : Nat) : Option Pair := pairOf (C.at c p.1) (C.at c p.2)
def more (h : Row) (c : Nat) : Row := abc.filter fun x => h.contains x || x == c
def Cfg.full (C : Cfg) (h : Row) : Bool := C.lots.any fun l => l.all fun c => h.contains c
/-- the tables tell states -/
structure Cfg.Ok (C : Cfg) : Prop where
  n2 : 2 ≤ C.n
  n5 : C.n ≤ 5
  k1 : 1 ≤ C.tabs.length
  k3 : C.tabs.length ≤ 3
  kn : C.tabs.length = 3 → C.n = 3
  len : ∀ t ∈ C.tabs, t.length = C.n
  ent : ∀ t ∈ C.tabs, ∀ x ∈ t, x < C.n
  lot : ∀ l ∈ C.lots, l ≠ [] ∧ ∀ c ∈ l, c ∈ C.sig
  ne : C.lots ≠ []
/-! ### all pairs -/
def pairs (n : Nat) : List Pair := (List.range n).flatMap fun i => (List.range (n - (i + 1))).map fun j => (i, i + 1 + j)
theorem mem_pairs {n : Nat} {p : Pair} : p ∈ pairs n ↔ p.1 < p.2 ∧ p.2 < n := by
  obtain ⟨i, j⟩ := p
  unfold pairs
  simp only [List.mem_flatMap, List.mem_range, List.mem_map, Prod.mk.injEq]
  constructor
  · rintro ⟨a, ha, b, hb, rfl, rfl⟩
    omega
  · rintro ⟨h1, h2⟩
    exact ⟨i, by omega, j - (i + 1), by omega, rfl, by omega⟩
theorem mem_sig {C : Cfg} {c : Nat} (h : c ∈ C.sig) : 97 ≤ c ∧ c < 97 + C.tabs.length ∧ c ≤ 101 := by
  unfold Cfg.sig abc at h
  obtain ⟨i, hi, e⟩ := List.mem_iff_getElem.mp h
  rw [List.getElem_take] at e
  have hl : i < C.tabs.length ∧ i < 5 := by
    rw [List.length_take] at hi
    simp only [List.length_cons, List.length_nil] at hi
    omega
  have : i = 0 ∨ i = 1 ∨ i = 2 ∨ i = 3 ∨ i = 4 := by omega
  rcases this with rfl | rfl | rfl | rfl | rfl <;> simp at e <;> omega
theorem at_lt {C : Cfg} (ok : C.Ok) {c i : Nat} (hc : c ∈ C.sig) (hi : i < C.n) : C.at c i < C.n := by
  obtain ⟨h1, h2, _⟩ := mem_sig hc
  have ht : c - 97 < C.tabs.length := by omega
  have hm : C.tabs[c - 97] ∈ C.tabs := List.getElem_mem ht
  unfold Cfg.at
  have e1 : C.tabs.getD (c - 97) [] = C.tabs[c - 97] := by rw [List.getD_eq_getElem?_getD, List.getElem?_eq_getElem ht, Option.getD_some]
  rw [e1]
  have hl : i < (C.tabs[c - 97]).length := by rw [ok.len _ hm]; exact hi
  rw [List.getD_eq_getElem?_getD, List.getElem?_eq_getElem hl, Option.getD_some]
  exact ok.ent _ hm _ (List.getElem_mem hl)
theorem pairOf_some {a b : Nat} {q : Pair} (h : pairOf a b = some q) : q.1 < q.2 ∧ ((q.1 = a ∧ q.2 = b) ∨ (q.1 = b ∧ q.2 = a)) := by
  unfold pairOf at h
  split at h
  · cases h
  · split at h
    · cases h; exact ⟨by assumption, .inl ⟨rfl, rfl⟩⟩
    · cases h; exact ⟨by simp only; omega, .inr ⟨rfl, rfl⟩⟩
theorem step_pairs {C : Cfg} (ok : C.Ok) {p q : Pair} {c : Nat} (hc : c ∈ C.sig) (hp : p ∈ pairs C.n) (h : C.step p c = some q) : q ∈ pairs C.n := by
  obtain ⟨h1, h2⟩ := mem_pairs.mp hp
  have a1 := at_lt ok hc (show p.1 < C.n by omega)
  have a2 := at_lt ok hc h2
  obtain ⟨h3, h4⟩ := pairOf_some h
  refine mem_pairs.mpr ⟨h3, ?_⟩
  omega
/-! ### lists as tables -/
def hasKey {κ α : Type} [DecidableEq κ] (l : List (κ × α)) (k : κ) : Bool := l.any fun x => decide (x.1 = k)
theorem hasKey_iff {κ α : Type} [DecidableEq κ] {l : List (κ × α)} {k : κ} : hasKey l k = true ↔ k ∈ l.map (·.1) := by
  unfold hasKey
  rw [List.any_eq_true, List.mem_map]
  constructor
  · rintro ⟨x, hx, e⟩; exact ⟨x, hx, of_decide_eq_true e⟩
  · rintro ⟨x, hx, e⟩; exact ⟨x, hx, decide_eq_true e⟩
theorem hasKey_not {κ α : Type} [DecidableEq κ] {l : List (κ × α)} {k : κ} : hasKey l k = false ↔ k ∉ l.map (·.1) := by
  rw [← hasKey_iff]
  cases hasKey l k <;> simp
theorem nodup_snoc {α : Type} {l : List α} {a : α} (h : l.Nodup) (ha : a ∉ l) : (l ++ [a]).Nodup := by
  rw [List.nodup_append]
  refine ⟨h, by simp, fun x hx y hy e => ?_⟩
  rw [List.mem_singleton] at hy
  subst hy; subst e
  exact ha hx
theorem nodup_len {α : Type} [DecidableEq α] : ∀ {l m : List α}, l.Nodup → (∀ x ∈ l, x ∈ m) → l.length ≤ m.length
  | [], _, _, _ => Nat.zero_le _
  | a :: l, m, h, hs => by
    obtain ⟨h1, h2⟩ := List.nodup_cons.mp h
    have ha : a ∈ m := hs a List.mem_cons_self
    have h3 : l.length ≤ (m.erase a).length := nodup_len h2 fun x hx => by
      refine (List.mem_erase_of_ne ?_).mpr (hs x (List.mem_cons_of_mem _ hx))
      rintro rfl
      exact h1 hx
    rw [List.length_erase_of_mem ha] at h3
    have : 0 < m.length := List.length_pos_of_mem ha
    rw [List.length_cons]
    omega
/-! ### the walk by breadth -/
structure B where
  W : List (Node × Row)
  F : List (Pair × Row)
def sig1 (C : Cfg) (nd : Node × Row) (b : B) (c : Nat) : B :=
  match C.step nd.1.1 c with
  | none => b
  | some q =>
    if C.full (more nd.1.2 c) = true then (if hasKey b.F q = true then b else { b with F := b.F ++ [(q, nd.2 ++ [c])] })
    else if hasKey b.W (q, more nd.1.2 c) = true then b else { b with W := b.W ++ [((q, more nd.1.2 c), nd.2 ++ [c])] }
def visit (C : Cfg) (nd : Node × Row) (b : B) : B := C.sig.foldl (sig1 C nd) b
def run (C : Cfg) : Nat → Nat → B → B
  | 0, _, b => b
  | f + 1, i, b => match b.W[i]? with
    | none => b
    | some nd => run C f (i + 1) (visit C nd b)
def start (p : Pair) (h : Row) : B := ⟨[((p, h), [])], []⟩
def bfs (C : Cfg) (p : Pair) (h : Row) : B := run C 100 0 (start p h)
def found (C : Cfg) (p : Pair) (h : Row) : List (Pair × Row) := (bfs C p h).F
/-- what is there stays -/
structure Ext (b b' : B) : Prop where
  w : ∃ m, b'.W = b.W ++ m
  f : ∃ m, b'.F = b.F ++ m
theorem Ext.refl (b : B) : Ext b b := ⟨⟨[], by simp⟩, ⟨[], by simp⟩⟩
theorem Ext.trans {a b c : B} (x : Ext a b) (y : Ext b c) : Ext a c := by
  obtain ⟨⟨m1, e1⟩, ⟨m2, e2⟩⟩ := x
  obtain ⟨⟨m3, e3⟩, ⟨m4, e4⟩⟩ := y
  exact ⟨⟨m1 ++ m3, by rw [e3, e1, List.append_assoc]⟩, ⟨m2 ++ m4, by rw [e4, e2, List.append_assoc]⟩⟩
theorem Ext.at {b b' : B} (x : Ext b b') {i : Nat} {nd : Node × Row} (h : b.W[i]? = some nd) : b'.W[i]? = some nd := by
  obtain ⟨m, e⟩ := x.w
  rw [e, List.getElem?_append_left (List.getElem?_eq_some_iff.mp h).1]
  exact h
theorem Ext.len {b b' : B} (x : Ext b b') : b.W.length ≤ b'.W.length := by
  obtain ⟨m, e⟩ := x.w
  rw [e, List.length_append]
  omega
theorem Ext.keyW {b b' : B} (x : Ext b b') {k : Node} (h : k ∈ b.W.map (·.1)) : k ∈ b'.W.map (·.1) := by
  obtain ⟨m, e⟩ := x.w
  rw [e, List.map_append]
  exact List.mem_append_left _ h
theorem Ext.keyF {b b' : B} (x : Ext b b') {k : Pair} (h : k ∈ b.F.map (·.1)) : k ∈ b'.F.map (·.1) := by
  obtain ⟨m, e⟩ := x.f
  rw [e, List.map_append]
  exact List.mem_append_left _ h
theorem sig1_ext (C : Cfg) (nd : Node × Row) (b : B) (c : Nat) : Ext b (sig1 C nd b c) := by
  unfold sig1
  split
  · exact .refl b
  · split
    · split
      · exact .refl b
      · exact ⟨⟨[], by simp⟩, ⟨_, rfl⟩⟩
    · split
      · exact .refl b
      · exact ⟨⟨_, rfl⟩, ⟨[], by simp⟩⟩
theorem fold_ext (C : Cfg) (nd : Node × Row) : ∀ (l : Row) (b : B), Ext b (l.foldl (sig1 C nd) b)
  | [], b => .refl b
  | c :: l, b => (sig1_ext C nd b c).trans (fold_ext C nd l _)
theorem visit_ext (C : Cfg) (nd : Node × Row) (b : B) : Ext b (visit C nd b) := fold_ext C nd _ b
theorem run_ext (C : Cfg) : ∀ (f i : Nat) (b : B), Ext b (run C f i b)
  | 0, _, b => .refl b
  | f + 1, i, b => by
    unfold run
    split
    · exact .refl b
    · exact (visit_ext C _ b).trans (run_ext C f _ _)
theorem run_add (C : Cfg) : ∀ (f g i : Nat) (b : B), i + f ≤ b.W.length → run C (f + g) i b = run C g (i + f) (run C f i b)
  | 0, g, i, b, _ => by simp [run]
  | f + 1, g, i, b, h => by
    have hi : i < b.W.length := by omega
    have e : b.W[i]? = some b.W[i] := List.getElem?_eq_getElem hi
    have x := visit_ext C b.W[i] b
    have s1 : ∀ k, run C (k + 1) i b = run C k (i + 1) (visit C b.W[i] b) := fun k => by
      rw [run, e]
    rw [show f + 1 + g = (f + g) + 1 by omega, s1, s1, run_add C f g (i + 1) _ (by have := x.len; omega), show i + 1 + f = i + (f + 1) by omega]
theorem run_done (C : Cfg) (f i : Nat) (b : B) (h : b.W.length ≤ i) : run C f i b = b := by
  cases f with
  | zero => rfl
  | succ f =>
    unfold run
    rw [List.getElem?_eq_none h]
/-- a layer: its items visited one after another -/
theorem run_layer (C : Cfg) : ∀ (layer : List (Node × Row)) (i : Nat) (b : B), (∀ j x, layer[j]? = some x → b.W[i + j]? = some x) → layer.foldl (fun b nd => visit C nd b) b = run C layer.length i b
  | [], i, b, _ => rfl
  | x :: layer, i, b, h => by
    have e : b.W[i]? = some x := h 0 x rfl
    rw [List.foldl_cons, List.length_cons]
    unfold run
    rw [e]
    exact run_layer C layer (i + 1) _ fun j y hj => (visit_ext C x b).at (by rw [show i + 1 + j = i + (j + 1) by omega]; exact h (j + 1) y (by simpa using hj))
/-! ### lots that may be heard -/
def subs : Row → List Row
  | [] => [[]]
  | c :: l => subs l ++ (subs l).map (c :: ·)
def Cfg.hearable (C : Cfg) : List Row := subs C.sig
theorem sig_cases {C : Cfg} (ok : C.Ok) : (C.tabs.length = 1 ∧ C.sig = [97]) ∨ (C.tabs.length = 2 ∧ C.sig = [97, 98]) ∨ (C.tabs.length = 3 ∧ C.sig = [97, 98, 99]) := by
  have h1 := ok.k1
  have h3 := ok.k3
  unfold Cfg.sig
  have : C.tabs.length = 1 ∨ C.tabs.length = 2 ∨ C.tabs.length = 3 := by omega
  rcases this with e | e | e <;> rw [e] <;> simp [abc]
theorem more_hear {C : Cfg} (ok : C.Ok) {h : Row} {c : Nat} (hh : h ∈ C.hearable) (hc : c ∈ C.sig) : more h c ∈ C.hearable := by
  have key : ∀ s ∈ ([[97], [97, 98], [97, 98, 99]] : List Row), ∀ h ∈ subs s, ∀ c ∈ s, more h c ∈ subs s := by decide
  unfold Cfg.hearable at *
  refine key C.sig ?_ h hh c hc
  rcases sig_cases ok with ⟨_, e⟩ | ⟨_, e⟩ | ⟨_, e⟩ <;> rw [e] <;> decide
theorem nil_hear (C : Cfg) : [] ∈ C.hearable := by
  unfold Cfg.hearable
  generalize C.sig = l
  induction l with
  | nil => simp [subs]
  | cons c l ih => exact List.mem_append_left _ ih
def Cfg.nodes (C : Cfg) : List Node := (pairs C.n).flatMap fun p => C.hearable.map fun h => (p, h)
theorem nodes_len {C : Cfg} (ok : C.Ok) : C.nodes.length ≤ 40 := by
  have hn := ok.n2
  have hn5 := ok.n5
  have hk := ok.kn
  unfold Cfg.nodes Cfg.hearable
  have cn : C.n = 2 ∨ C.n = 3 ∨ C.n = 4 ∨ C.n = 5 := by omega
  rcases sig_cases ok with ⟨e1, e⟩ | ⟨e1, e⟩ | ⟨e1, e⟩ <;> rw [e]
  · rcases cn with h | h | h | h <;> rw [h] <;> decide
  · rcases cn with h | h | h | h <;> rw [h] <;> decide
  · rw [hk e1]; decide
theorem mem_nodes {C : Cfg} {p : Pair} {h : Row} : (p, h) ∈ C.nodes ↔ p ∈ pairs C.n ∧ h ∈ C.hearable := by
  unfold Cfg.nodes
  simp only [List.mem_flatMap, List.mem_map, Prod.mk.injEq]
  constructor
  · rintro ⟨a, ha, b, hb, rfl, rfl⟩; exact ⟨ha, hb⟩
  · rintro ⟨ha, hb⟩; exact ⟨p, ha, h, hb, rfl, rfl⟩
/-! ### rows that lead -/
/-- a row by which the first cut is its end and that keeps the two apart -/
inductive Leads (C : Cfg) : Node → Row → Pair → Prop
  | cut {p q : Pair} {h : Row} {c : Nat} : c ∈ C.sig → C.step p c = some q → C.full (more h c) = true → Leads C (p, h) [c] q
  | cons {p p' q : Pair} {h w : Row} {c : Nat} : c ∈ C.sig → C.step p c = some p' → C.full (more h c) = false → Leads C (p', more h c) w q → Leads C (p, h) (c :: w) q
/-- a row without a cut -/
inductive Comes (C : Cfg) (s : Node) : Row → Node → Prop
  | nil : Comes C s [] s
  | snoc {p p' : Pair} {h w : Row} {c : Nat} : Comes C s w (p, h) → c ∈ C.sig → C.step p c = some p' → C.full (more h c) = false → Comes C s (w ++ [c]) (p', more h c)
theorem Comes.leads {C : Cfg} {s s' : Node} {w v : Row} {q : Pair} (a : Comes C s w s') : Leads C s' v q → Leads C s (w ++ v) q := by
  induction a generalizing v with
  | nil => exact fun l => l
  | snoc _ hc hs hf ih =>
    intro l
    rw [List.append_assoc]
    exact ih (.cons hc hs hf l)
/-- the walk's state is well made, the first i visited -/
structure Good (C : Cfg) (s : Node) (i : Nat) (b : B) : Prop where
  nw : (b.W.map (·.1)).Nodup
  nf : (b.F.map (·.1)).Nodup
  inw : ∀ x ∈ b.W, x.1 ∈ C.nodes
  inf : ∀ x ∈ b.F, x.1 ∈ pairs C.n
  comes : ∀ x ∈ b.W, Comes C s x.2 x.1
  leads : ∀ x ∈ b.F, Leads C s x.2 x.1
  lw : ∀ (j : Nat) (x : Node × Row), b.W[j]? = some x → x.2.length ≤ j
  lf : ∀ x ∈ b.F, x.2.length ≤ i
  first : s ∈ b.W.map (·.1)
/-- what a node leads to by a signal is there -/
def Seen (C : Cfg) (b : B) (nd : Node) (c : Nat) : Prop := ∀ q, C.step nd.1 c = some q → (C.full (more nd.2 c) = true → q ∈ b.F.map (·.1)) ∧ (C.full (more nd.2 c) = false → (q, more nd.2 c) ∈ b.W.map (·.1))
theorem Seen.ext {C : Cfg} {b b' : B} {nd : Node} {c : Nat} (h : Seen C b nd c) (x : Ext b b') : Seen C b' nd c := fun q e => ⟨fun f => x.keyF ((h q e).1 f), fun f => x.keyW ((h q e).2 f)⟩
theorem sig1_good {C : Cfg} (ok : C.Ok) {s : Node} {i : Nat} {b : B} {nd : Node × Row} {c : Nat} (hn : nd ∈ b.W) (hi : nd.2.length ≤ i) (hiW : i < b.W.length) (hc : c ∈ C.sig) (g : Good C s (i + 1) b) : Good C s (i + 1) (sig1 C nd b c) ∧ Seen C (sig1 C nd b c) nd.1 c := by
  obtain ⟨⟨p, h⟩, w⟩ := nd
  have hnd := g.inw _ hn
  obtain ⟨hp, hh⟩ := mem_nodes.mp hnd
  have hcm := g.comes _ hn
  unfold sig1
  simp only
  cases e : C.step p c with
  | none => exact ⟨g, fun q z => by simp only at z; rw [e] at z; cases z⟩
  | some q =>
    have hq := step_pairs ok hc hp e
    simp only
    cases f : C.full (more h c) with
    | true =>
      rw [if_pos rfl]
      cases k : hasKey b.F q with
      | true =>
        rw [if_pos rfl]
        refine ⟨g, fun q' z => ⟨fun _ => ?_, fun z2 => ?_⟩⟩
        · simp only at z; rw [e] at z; cases z; exact hasKey_iff.mp k
        · simp only at z2; rw [f] at z2; cases z2
      | false =>
        rw [if_neg (by simp)]
        refine ⟨⟨g.nw, ?_, g.inw, ?_, g.comes, ?_, g.lw, ?_, g.first⟩, fun q' z => ⟨fun _ => ?_, fun z2 => ?_⟩⟩
        · rw [List.map_append]; exact nodup_snoc g.nf (hasKey_not.mp k)
        · intro x hx
          rcases List.mem_append.mp hx with hx | hx
          · exact g.inf x hx
          · rw [List.mem_singleton.mp hx]; exact hq
        · intro x hx
          rcases List.mem_append.mp hx with hx | hx
          · exact g.leads x hx
          · rw [List.mem_singleton.mp hx]; exact hcm.leads (.cut hc e f)
        · intro x hx
          rcases List.mem_append.mp hx with hx | hx
          · exact g.lf x hx
          · rw [List.mem_singleton.mp hx]
            simp only [List.length_append, List.length_cons, List.length_nil] at hi ⊢
            omega
        · simp only at z; rw [e] at z; cases z
          simp
        · simp only at z2; rw [f] at z2; cases z2
    | false =>
      rw [if_neg (by simp)]
      cases k : hasKey b.W (q, more h c) with
      | true =>
        rw [if_pos rfl]
        refine ⟨g, fun q' z => ⟨fun z2 => ?_, fun _ => ?_⟩⟩
        · simp only at z2; rw [f] at z2; cases z2
        · simp only at z; rw [e] at z; cases z; exact hasKey_iff.mp k
      | false =>
        rw [if_neg (by simp)]
        refine ⟨⟨?_, g.nf, ?_, g.inf, ?_, g.leads, ?_, g.lf, ?_⟩, fun q' z => ⟨fun z2 => ?_, fun _ => ?_⟩⟩
        · rw [List.map_append]; exact nodup_snoc g.nw (hasKey_not.mp k)
        · intro x hx
          rcases List.mem_append.mp hx with hx | hx
          · exact g.inw x hx
          · rw [List.mem_singleton.mp hx]; exact mem_nodes.mpr ⟨hq, more_hear ok hh hc⟩
        · intro x hx
          rcases List.mem_append.mp hx with hx | hx
          · exact g.comes x hx
          · rw [List.mem_singleton.mp hx]; exact .snoc hcm hc e f
        · intro j x hx
          by_cases hj : j < b.W.length
          · rw [List.getElem?_append_left hj] at hx
            exact g.lw j x hx
          · rw [List.getElem?_append_right (by omega)] at hx
            obtain ⟨hl, ex⟩ := List.getElem?_eq_some_iff.mp hx
            simp only [List.length_cons, List.length_nil] at hl
            have e0 : j - b.W.length = 0 := by omega
            simp only [e0, List.getElem_cons_zero] at ex
            rw [← ex]
            simp only [List.length_append, List.length_cons, List.length_nil] at hi ⊢
            omega
        · rw [List.map_append]; exact List.mem_append_left _ g.first
        · simp only at z2; rw [f] at z2; cases z2
        · simp only at z; rw [e] at z; cases z
          simp
theorem fold_good {C : Cfg} (ok : C.Ok) {s : Node} {i : Nat} {nd : Node × Row} (hi : nd.2.length ≤ i) : ∀ (l : Row) (b : B), nd ∈ b.W → i < b.W.length → (∀ c ∈ l, c ∈ C.sig) → Good C s (i + 1) b → Good C s (i + 1) (l.foldl (sig1 C nd) b) ∧ ∀ c ∈ l, Seen C (l.foldl (sig1 C nd) b) nd.1 c
  | [], b, _, _, _, g => ⟨g, fun _ h => by simp at h⟩
  | c :: l, b, hn, hW, hl, g => by
    have hc := hl c List.mem_cons_self
    obtain ⟨g1, s1⟩ := sig1_good ok hn hi hW hc g
    have x := sig1_ext C nd b c
    have hn1 : nd ∈ (sig1 C nd b c).W := by
      obtain ⟨m, e⟩ := x.w
      rw [e]; exact List.mem_append_left _ hn
    obtain ⟨g2, s2⟩ := fold_good ok hi l (sig1 C nd b c) hn1 (by have := x.len; omega) (fun d hd => hl d (List.mem_cons_of_mem _ hd)) g1
    refine ⟨g2, fun d hd => ?_⟩
    rcases List.mem_cons.mp hd with rfl | hd
    · exact s1.ext (fold_ext C nd l _)
    · exact s2 d hd
theorem Good.mono {C : Cfg} {s : Node} {i j : Nat} {b : B} (g : Good C s i b) (h : i ≤ j) : Good C s j b := ⟨g.nw, g.nf, g.inw, g.inf, g.comes, g.leads, g.lw, fun x hx => Nat.le_trans (g.lf x hx) h, g.first⟩
theorem visit_good {C : Cfg} (ok : C.Ok) {s : Node} {i : Nat} {b : B} {nd : Node × Row} (hn : b.W[i]? = some nd) (g : Good C s i b) : Good C s (i + 1) (visit C nd b) ∧ ∀ c ∈ C.sig, Seen C (visit C nd b) nd.1 c :=
  fold_good ok (g.lw i nd hn) C.sig b (List.mem_of_getElem? hn) (List.getElem?_eq_some_iff.mp hn).1 (fun _ h => h) (g.mono (Nat.le_succ i))
/-- the first i are visited -/
def Closed (C : Cfg) (i : Nat) (b : B) : Prop := ∀ j nd, j < i → b.W[j]? = some nd → ∀ c ∈ C.sig, Seen C b nd.1 c
theorem Closed.visit {C : Cfg} (ok : C.Ok) {s : Node} {i : Nat} {b : B} {nd : Node × Row} (hn : b.W[i]? = some nd) (g : Good C s i b) (cl : Closed C i b) : Closed C (i + 1) (visit C nd b) := fun j nd' hj hj' c hc => by
  have x := visit_ext C nd b
  have hiW := (List.getElem?_eq_some_iff.mp hn).1
  have hjW : j < b.W.length := by omega
  have e : b.W[j]? = some b.W[j] := List.getElem?_eq_getElem hjW
  have e2 := x.at e
  rw [hj'] at e2
  cases e2
  by_cases h : j = i
  · subst h
    rw [e] at hn
    cases hn
    exact (visit_good ok e g).2 c hc
  · exact (cl j _ (by omega) e c hc).ext x
theorem good_start {C : Cfg} {p : Pair} {h : Row} (hn : (p, h) ∈ C.nodes) : Good C (p, h) 0 (start p h) := by
  refine ⟨by simp [start], by simp [start], ?_, by simp [start], ?_, by simp [start], ?_, by simp [start], by simp [start]⟩
  · intro x hx
    rw [show (start p h).W = [((p, h), [])] from rfl] at hx
    rw [List.mem_singleton.mp hx]; exact hn
  · intro x hx
    rw [show (start p h).W = [((p, h), [])] from rfl] at hx
    rw [List.mem_singleton.mp hx]; exact .nil
  · intro j x hx
    rw [show (start p h).W = [((p, h), [])] from rfl] at hx
    obtain ⟨hl, ex⟩ := List.getElem?_eq_some_iff.mp hx
    have : j = 0 := by simpa using hl
    subst this
    simp at ex
    rw [← ex]
    simp
/-- run keeps what is well made; i: where it stands -/
theorem run_good {C : Cfg} (ok : C.Ok) {s : Node} : ∀ (f i : Nat) (b : B), i ≤ b.W.length → Good C s i b → Closed C i b → ∃ j, j ≤ (run C f i b).W.length ∧ Good C s j (run C f i b) ∧ Closed C j (run C f i b) ∧ (j = i + f ∨ j = (run C f i b).W.length)
  | 0, i, b, h, g, cl => ⟨i, h, g, cl, .inl rfl⟩
  | f + 1, i, b, h, g, cl => by
    unfold run
    cases e : b.W[i]? with
    | none =>
      have : b.W.length ≤ i := List.getElem?_eq_none_iff.mp e
      exact ⟨i, h, g, cl, .inr (by simp only; omega)⟩
    | some nd =>
      have x := visit_ext C nd b
      have hi := (List.getElem?_eq_some_iff.mp e).1
      obtain ⟨j, h1, h2, h3, h4⟩ := run_good ok f (i + 1) (visit C nd b) (by have := x.len; omega) (visit_good ok e g).1 (Closed.visit ok e g cl)
      refine ⟨j, h1, h2, h3, h4.imp (fun z => by omega) fun z => z⟩
theorem good_len {C : Cfg} (ok : C.Ok) {s : Node} {i : Nat} {b : B} (g : Good C s i b) : b.W.length ≤ 40 := by
  have h := nodup_len g.nw (m := C.nodes) fun x hx => by
    obtain ⟨y, hy, e⟩ := List.mem_map.mp hx
    rw [← e]; exact g.inw y hy
  rw [List.length_map] at h
  exact Nat.le_trans h (nodes_len ok)
/-- the end of the walk -/
theorem bfs_good {C : Cfg} (ok : C.Ok) {p : Pair} {h : Row} (hn : (p, h) ∈ C.nodes) : ∃ j, j ≤ 40 ∧ j = (bfs C p h).W.length ∧ Good C (p, h) j (bfs C p h) ∧ Closed C j (bfs C p h) := by
  obtain ⟨j, h1, h2, h3, h4⟩ := run_good ok 100 0 (start p h) (by simp [start]) (good_start hn) (fun j _ hj => by omega)
  have h5 := good_len ok h2
  have h6 : j = (run C 100 0 (start p h)).W.length := by
    rcases h4 with z | z
    · omega
    · exact z
  exact ⟨j, by omega, h6, h2, h3⟩
theorem found_complete {C : Cfg} (ok : C.Ok) {p : Pair} {h : Row} (hn : (p, h) ∈ C.nodes) {w : Row} {q : Pair} (l : Leads C (p, h) w q) : q ∈ (found C p h).map (·.1) := by
  obtain ⟨j, _, hj, g, cl⟩ := bfs_good ok hn
  have key : ∀ {s : Node} {w : Row} {q : Pair}, Leads C s w q → s ∈ (bfs C p h).W.map (·.1) → q ∈ (bfs C p h).F.map (·.1) := by
    intro s w q l
    induction l with
    | cut hc e f =>
      intro hm
      obtain ⟨x, hx, ex⟩ := List.mem_map.mp hm
      obtain ⟨k, hk, ek⟩ := List.mem_iff_getElem.mp hx
      have := cl k x (by omega) (by rw [List.getElem?_eq_getElem hk, ek]) _ hc
      rw [ex] at this
      exact (this _ e).1 f
    | cons hc e f _ ih =>
      intro hm
      obtain ⟨x, hx, ex⟩ := List.mem_map.mp hm
      obtain ⟨k, hk, ek⟩ := List.mem_iff_getElem.mp hx
      have := cl k x (by omega) (by rw [List.getElem?_eq_getElem hk, ek]) _ hc
      rw [ex] at this
      exact ih ((this _ e).2 f)
  exact key l g.first
theorem found_sound {C : Cfg} (ok : C.Ok) {p : Pair} {h : Row} (hn : (p, h) ∈ C.nodes) {x : Pair × Row} (hx : x ∈ found C p h) : Leads C (p, h) x.2 x.1 ∧ x.1 ∈ pairs C.n ∧ x.2.length ≤ 40 := by
  obtain ⟨j, hj, _, g, _⟩ := bfs_good ok hn
  exact ⟨g.leads x hx, g.inf x hx, Nat.le_trans (g.lf x hx) hj⟩
theorem found_nodup {C : Cfg} (ok : C.Ok) {p : Pair} {h : Row} (hn : (p, h) ∈ C.nodes) : ((found C p h).map (·.1)).Nodup := by
  obtain ⟨j, hj, _, g, _⟩ := bfs_good ok hn
  exact g.nf
theorem found_iff {C : Cfg} (ok : C.Ok) {p : Pair} {h : Row} (hn : (p, h) ∈ C.nodes) {q : Pair} : q ∈ (found C p h).map (·.1) ↔ ∃ w, Leads C (p, h) w q := by
  constructor
  · intro hm
    obtain ⟨x, hx, e⟩ := List.mem_map.mp hm
    exact ⟨x.2, by rw [← e]; exact (found_sound ok hn hx).1⟩
  · rintro ⟨w, l⟩
    exact found_complete ok hn l
end BK

set_option linter.all false
/-! Ranks, what is due, told rows, the tower. -/
namespace BK
theorem filter_len_eq {α : Type} {p q : α → Bool} (h : ∀ x, p x = true → q x = true) : ∀ {l : List α}, (l.filter p).length = (l.filter q).length → l.filter p = l.filter q
  | [], _ => rfl
  | a :: l, e => by
    have hle : (l.filter p).length ≤ (l.filter q).length := by
      clear e
      induction l with
      | nil => simp
      | cons b l ih =>
        rw [List.filter_cons, List.filter_cons]
        cases hp : p b with
        | true =>
          rw [h b hp]
          simp only [if_true, List.length_cons]
          omega
        | false =>
          cases hq : q b with
          | true =>
            simp only [if_true, Bool.false_eq_true, if_false, List.length_cons]
            omega
          | false => simpa using ih
    rw [List.filter_cons, List.filter_cons] at *
    cases hp : p a with
    | true =>
      have hq := h a hp
      rw [hp, hq] at e
      simp only [if_true, List.length_cons] at e
      rw [hq]
      simp only [if_true]
      rw [filter_len_eq h (by omega)]
    | false =>
      cases hq : q a with
      | true =>
        rw [hp, hq] at e
        simp only [if_true, Bool.false_eq_true, if_false, List.length_cons] at e
        omega
      | false =>
        rw [hp, hq] at e
        simp only [Bool.false_eq_true, if_false] at e ⊢
        exact filter_len_eq h e
def edges (C : Cfg) (p : Pair) : List Pair := (found C p []).map (·.1)
def alive (C : Cfg) : Nat → List Pair
  | 0 => pairs C.n
  | t + 1 => (pairs C.n).filter fun p => (edges C p).any fun q => (alive C t).contains q
theorem alive_sub {C : Cfg} : ∀ {t : Nat} {p : Pair}, p ∈ alive C t → p ∈ pairs C.n
  | 0, _, h => h
  | _ + 1, _, h => (List.mem_filter.mp h).1
theorem mem_alive {C : Cfg} {t : Nat} {p : Pair} : p ∈ alive C (t + 1) ↔ p ∈ pairs C.n ∧ ∃ q ∈ edges C p, q ∈ alive C t := by
  rw [alive, List.mem_filter, List.any_eq_true]
  constructor
  · rintro ⟨h1, q, h2, h3⟩; exact ⟨h1, q, h2, by simpa using h3⟩
  · rintro ⟨h1, q, h2, h3⟩; exact ⟨h1, q, h2, by simpa using h3⟩
theorem alive_anti {C : Cfg} : ∀ {t : Nat} {p : Pair}, p ∈ alive C (t + 1) → p ∈ alive C t
  | 0, _, h => alive_sub h
  | t + 1, _, h => by
    obtain ⟨h1, q, h2, h3⟩ := mem_alive.mp h
    exact mem_alive.mpr ⟨h1, q, h2, alive_anti h3⟩
theorem alive_le {C : Cfg} {s t : Nat} (h : s ≤ t) {p : Pair} (hp : p ∈ alive C t) : p ∈ alive C s := by
  induction h with
  | refl => exact hp
  | step _ ih => exact ih (alive_anti hp)
/-- all levels as filters of the pairs -/
theorem alive_filter (C : Cfg) (t : Nat) : alive C t = (pairs C.n).filter fun p => (alive C t).contains p := by
  cases t with
  | zero =>
    show pairs C.n = (pairs C.n).filter fun p => (pairs C.n).contains p
    exact (List.filter_eq_self.mpr fun p hp => by simpa using hp).symm
  | succ t =>
    show ((pairs C.n).filter fun p => _) = _
    refine List.filter_congr fun p hp => ?_
    cases h : (edges C p).any fun q => (alive C t).contains q with
    | true =>
      refine (List.contains_iff_mem.mpr ?_).symm
      exact List.mem_filter.mpr ⟨hp, h⟩
    | false =>
      cases h2 : (alive C (t + 1)).contains p with
      | false => rfl
      | true =>
        have := (List.mem_filter.mp (List.contains_iff_mem.mp h2)).2
        rw [h] at this
        cases this
theorem alive_len_eq {C : Cfg} {t : Nat} (h : (alive C (t + 1)).length = (alive C t).length) : alive C (t + 1) = alive C t := by
  rw [alive_filter C (t + 1), alive_filter C t] at h ⊢
  exact filter_len_eq (fun p hp => by
    have := alive_anti (List.contains_iff_mem.mp hp)
    exact List.contains_iff_mem.mpr this) h
theorem alive_len_le (C : Cfg) (t : Nat) : (alive C (t + 1)).length ≤ (alive C t).length := by
  have key : ∀ (l : List Pair) (p q : Pair → Bool), (∀ x, p x = true → q x = true) → (l.filter p).length ≤ (l.filter q).length := by
    intro l p q h
    induction l with
    | nil => simp
    | cons b l ih =>
      rw [List.filter_cons, List.filter_cons]
      cases hp : p b with
      | true =>
        rw [h b hp]
        simp only [if_true, List.length_cons]
        omega
      | false =>
        cases hq : q b with
        | true =>
          simp only [if_true, Bool.false_eq_true, if_false, List.length_cons]
          omega
        | false => simpa using ih
  rw [alive_filter C (t + 1), alive_filter C t]
  exact key _ _ _ fun p hp => List.contains_iff_mem.mpr (alive_anti (List.contains_iff_mem.mp hp))
theorem alive_stable {C : Cfg} {t : Nat} (h : alive C (t + 1) = alive C t) : ∀ {s : Nat}, t ≤ s → alive C s = alive C t := by
  intro s hs
  induction hs with
  | refl => rfl
  | @step m hm ih =>
    have hm : t ≤ m := hm
    show ((pairs C.n).filter fun p => (edges C p).any fun q => (alive C m).contains q) = _
    rw [ih]
    exact h
/-- a level of the first len + 1 is stable -/
theorem alive_big (C : Cfg) : alive C ((pairs C.n).length + 1) = alive C (pairs C.n).length := by
  have key : ∀ t, (∃ s, s < t ∧ alive C (s + 1) = alive C s) ∨ (alive C t).length + t ≤ (pairs C.n).length := by
    intro t
    induction t with
    | zero => exact .inr (by simp [alive])
    | succ t ih =>
      rcases ih with ⟨s, h1, h2⟩ | h
      · exact .inl ⟨s, by omega, h2⟩
      · by_cases e : (alive C (t + 1)).length = (alive C t).length
        · exact .inl ⟨t, by omega, alive_len_eq e⟩
        · have := alive_len_le C t
          exact .inr (by omega)
  rcases key (pairs C.n).length with ⟨s, h1, h2⟩ | h
  · rw [alive_stable h2 (show s ≤ (pairs C.n).length + 1 by omega), alive_stable h2 (show s ≤ (pairs C.n).length by omega)]
  · have h0 : (alive C (pairs C.n).length).length = 0 := by omega
    have h1 := alive_len_le C (pairs C.n).length
    exact alive_len_eq (by omega)
def big (C : Cfg) : Nat := (pairs C.n).length
/-- the last of the first T levels in which p is -/
def lvl (C : Cfg) (p : Pair) : Nat → Nat
  | 0 => 0
  | T + 1 => if (alive C T).contains p = true then T else lvl C p T
def rank (C : Cfg) (p : Pair) : Option Nat := if (alive C (big C)).contains p = true then none else some (lvl C p (big C))
theorem lvl_of {C : Cfg} {p : Pair} {r : Nat} (h1 : p ∈ alive C r) (h2 : p ∉ alive C (r + 1)) : ∀ {T : Nat}, r < T → lvl C p T = r
  | 0, h => by omega
  | T + 1, h => by
    unfold lvl
    by_cases e : p ∈ alive C T
    · rw [if_pos (List.contains_iff_mem.mpr e)]
      have : ¬ r + 1 ≤ T := fun q => h2 (alive_le q e)
      omega
    · rw [if_neg (fun q => e (List.contains_iff_mem.mp q))]
      refine lvl_of h1 h2 ?_
      have : r ≠ T := fun q => e (q ▸ h1)
      omega
theorem drop_at {C : Cfg} {p : Pair} (hp : p ∈ pairs C.n) : ∀ {T : Nat}, p ∉ alive C T → ∃ r, r < T ∧ p ∈ alive C r ∧ p ∉ alive C (r + 1)
  | 0, h => absurd hp h
  | T + 1, h => by
    by_cases e : p ∈ alive C T
    · exact ⟨T, by omega, e, h⟩
    · obtain ⟨r, h1, h2⟩ := drop_at hp e
      exact ⟨r, by omega, h2⟩
theorem alive_past {C : Cfg} {s : Nat} (h : big C ≤ s) : alive C s = alive C (big C) := alive_stable (alive_big C) h
theorem rank_none {C : Cfg} {p : Pair} : rank C p = none ↔ ∀ t, p ∈ alive C t := by
  unfold rank
  by_cases e : p ∈ alive C (big C)
  · rw [if_pos (List.contains_iff_mem.mpr e)]
    refine ⟨fun _ t => ?_, fun _ => rfl⟩
    by_cases h : t ≤ big C
    · exact alive_le h e
    · rw [alive_past (by omega)]; exact e
  · rw [if_neg (fun q => e (List.contains_iff_mem.mp q))]
    exact ⟨fun h => (by cases h), fun h => absurd (h _) e⟩
theorem rank_some {C : Cfg} {p : Pair} (hp : p ∈ pairs C.n) {r : Nat} : rank C p = some r ↔ p ∈ alive C r ∧ p ∉ alive C (r + 1) := by
  unfold rank
  by_cases e : p ∈ alive C (big C)
  · rw [if_pos (List.contains_iff_mem.mpr e)]
    refine ⟨fun h => (by cases h), fun ⟨_, h⟩ => absurd ?_ h⟩
    exact (rank_none.mp (by unfold rank; rw [if_pos (List.contains_iff_mem.mpr e)])) _
  · rw [if_neg (fun q => e (List.contains_iff_mem.mp q))]
    obtain ⟨r', h1, h2, h3⟩ := drop_at hp e
    rw [lvl_of h2 h3 h1]
    constructor
    · intro h
      cases h
      exact ⟨h2, h3⟩
    · rintro ⟨h4, h5⟩
      have a : ¬ r + 1 ≤ r' := fun q => h5 (alive_le q h2)
      have b : ¬ r' + 1 ≤ r := fun q => h3 (alive_le q h4)
      rw [show r' = r by omega]
/-! ### what is due -/
def maxL (l : List Nat) : Nat := l.foldl max 0
theorem foldl_max (l : List Nat) (a : Nat) : a ≤ l.foldl max a ∧ (∀ x ∈ l, x ≤ l.foldl max a) ∧ (l.foldl max a = a ∨ l.foldl max a ∈ l) := by
  induction l generalizing a with
  | nil => simp
  | cons b l ih =>
    obtain ⟨h1, h2, h3⟩ := ih (max a b)
    rw [List.foldl_cons]
    refine ⟨by omega, fun x hx => ?_, ?_⟩
    · rcases List.mem_cons.mp hx with rfl | hx
      · omega
      · exact h2 x hx
    · rcases h3 with h3 | h3
      · rw [h3]
        by_cases q : a ≤ b
        · exact .inr (by rw [Nat.max_eq_right q]; exact List.mem_cons_self)
        · exact .inl (by omega)
      · exact .inr (List.mem_cons_of_mem _ h3)
def later (C : Cfg) (p : Pair) (h : Row) : List (Option Nat) := (found C p h).map fun x => rank C x.1
def due (C : Cfg) (p : Pair) (h : Row) : Option Nat := if (later C p h).any (·.isNone) = true then none else some (maxL ((later C p h).map fun r => r.getD 0 + 1))
/-- the rank behind a told row -/
def wanted (d : Option Nat) (r : Option Nat) : Bool := match d, r with
  | none, none => true
  | some m, some r => decide (r + 1 = m)
  | _, _ => false
def kept (C : Cfg) (p : Pair) (h : Row) : List Row := ((found C p h).filter fun x => wanted (due C p h) (rank C x.1)).map (·.2)
def before (a b : Row) : Bool := decide (a.length < b.length) || (decide (a.length = b.length) && decide (a < b))
def firstOf : List Row → Option Row
  | [] => none
  | x :: l => some (l.foldl (fun b y => if before y b = true then y else b) x)
theorem firstOf_mem {l : List Row} {w : Row} (h : firstOf l = some w) : w ∈ l := by
  cases l with
  | nil => cases h
  | cons x l =>
    have key : ∀ (l : List Row) (x : Row), l.foldl (fun b y => if before y b = true then y else b) x ∈ x :: l := by
      intro l
      induction l with
      | nil => intro x; simp
      | cons y l ih =>
        intro x
        rw [List.foldl_cons]
        have := ih (if before y x = true then y else x)
        rcases List.mem_cons.mp this with e | e
        · rw [e]
          split
          · simp
          · simp
        · exact List.mem_cons_of_mem _ (List.mem_cons_of_mem _ e)
    have e : l.foldl (fun b y => if before y b = true then y else b) x = w := Option.some.inj h
    rw [← e]
    exact key l x
theorem firstOf_none {l : List Row} : firstOf l = none ↔ l = [] := by
  cases l with
  | nil => simp [firstOf]
  | cons x l => simp [firstOf]
def told (C : Cfg) (p : Pair) (h : Row) : Option Row := firstOf (kept C p h)
theorem due_none {C : Cfg} {p : Pair} {h : Row} : due C p h = none ↔ ∃ x ∈ found C p h, rank C x.1 = none := by
  unfold due later
  by_cases e : ((found C p h).map fun x => rank C x.1).any (·.isNone) = true
  · rw [if_pos e]
    refine ⟨fun _ => ?_, fun _ => rfl⟩
    obtain ⟨r, h1, h2⟩ := List.any_eq_true.mp e
    obtain ⟨x, h3, h4⟩ := List.mem_map.mp h1
    exact ⟨x, h3, by rw [h4]; simpa using h2⟩
  · rw [if_neg e]
    refine ⟨fun h => (by cases h), fun ⟨x, h1, h2⟩ => absurd (List.any_eq_true.mpr ⟨none, List.mem_map.mpr ⟨x, h1, h2⟩, rfl⟩) e⟩
theorem due_some {C : Cfg} {p : Pair} {h : Row} {m : Nat} (e : due C p h = some m) : (∀ x ∈ found C p h, ∃ r, rank C x.1 = some r ∧ r + 1 ≤ m) ∧ (m = 0 ∨ ∃ x ∈ found C p h, rank C x.1 = some (m - 1) ∧ 1 ≤ m) := by
  have hn : ∀ x ∈ found C p h, rank C x.1 ≠ none := fun x hx q => by
    have := due_none.mpr ⟨x, hx, q⟩
    rw [e] at this
    cases this
  have hd : m = maxL ((later C p h).map fun r => r.getD 0 + 1) := by
    unfold due at e
    split at e
    · cases e
    · exact (Option.some.inj e).symm
  obtain ⟨_, h2, h3⟩ := foldl_max ((later C p h).map fun r => r.getD 0 + 1) 0
  refine ⟨fun x hx => ?_, ?_⟩
  · cases q : rank C x.1 with
    | none => exact absurd q (hn x hx)
    | some r =>
      refine ⟨r, rfl, ?_⟩
      rw [hd]
      exact h2 _ (List.mem_map.mpr ⟨rank C x.1, List.mem_map.mpr ⟨x, hx, rfl⟩, by rw [q]; rfl⟩)
  · rcases h3 with h3 | h3
    · exact .inl (by rw [hd]; exact h3)
    · obtain ⟨r, h4, h5⟩ := List.mem_map.mp h3
      obtain ⟨x, h6, h7⟩ := List.mem_map.mp h4
      cases q : rank C x.1 with
      | none => exact absurd q (hn x h6)
      | some r' =>
        have h7 : rank C x.1 = r := h7
        rw [q] at h7
        subst h7
        have h8 : m = r' + 1 := by rw [hd]; exact h5.symm
        exact .inr ⟨x, h6, by rw [q, h8]; rfl, by omega⟩
section
variable {C : Cfg} (ok : C.Ok)
include ok
theorem edges_pairs {p q : Pair} (hp : p ∈ pairs C.n) (h : q ∈ edges C p) : q ∈ pairs C.n := by
  obtain ⟨x, hx, e⟩ := List.mem_map.mp h
  rw [← e]
  exact (found_sound ok (mem_nodes.mpr ⟨hp, nil_hear C⟩) hx).2.1
/-- a pair at a cut: what is due is its rank -/
theorem due_rank {p : Pair} (hp : p ∈ pairs C.n) : due C p [] = rank C p := by
  have hn : (p, ([] : Row)) ∈ C.nodes := mem_nodes.mpr ⟨hp, nil_hear C⟩
  cases e : rank C p with
  | none =>
    refine due_none.mpr ?_
    have h := rank_none.mp e
    obtain ⟨_, q, h1, h2⟩ := mem_alive.mp (h (big C + 1))
    obtain ⟨x, hx, ex⟩ := List.mem_map.mp h1
    refine ⟨x, hx, rank_none.mpr fun t => ?_⟩
    rw [ex]
    by_cases ht : t ≤ big C
    · exact alive_le ht h2
    · rw [alive_past (by omega)]; exact h2
  | some r =>
    obtain ⟨h1, h2⟩ := (rank_some hp).mp e
    have hx : ∀ x ∈ found C p [], ∃ r', rank C x.1 = some r' ∧ r' + 1 ≤ r := fun x hx => by
      have he : x.1 ∈ edges C p := List.mem_map.mpr ⟨x, hx, rfl⟩
      have hna : x.1 ∉ alive C r := fun q => h2 (mem_alive.mpr ⟨hp, x.1, he, q⟩)
      have hxp := edges_pairs ok hp he
      cases q : rank C x.1 with
      | none => exact absurd (rank_none.mp q r) hna
      | some r' =>
        obtain ⟨h3, _⟩ := (rank_some hxp).mp q
        refine ⟨r', rfl, ?_⟩
        have : ¬ r ≤ r' := fun z => hna (alive_le z h3)
        omega
    cases d : due C p [] with
    | none =>
      obtain ⟨x, h3, h4⟩ := due_none.mp d
      obtain ⟨r', h5, _⟩ := hx x h3
      rw [h4] at h5
      cases h5
    | some m =>
      obtain ⟨h3, h4⟩ := due_some d
      have hle : m ≤ r := by
        rcases h4 with h4 | ⟨x, h5, h6, h7⟩
        · omega
        · obtain ⟨r', h8, h9⟩ := hx x h5
          rw [h6] at h8
          cases h8
          omega
      have hge : r ≤ m := by
        cases r with
        | zero => omega
        | succ r =>
          obtain ⟨_, q, h5, h6⟩ := mem_alive.mp h1
          obtain ⟨x, h7, h8⟩ := List.mem_map.mp h5
          obtain ⟨r', h9, h10⟩ := h3 x h7
          have hxp := edges_pairs ok hp h5
          rw [← h8] at h6 hxp
          obtain ⟨_, h11⟩ := (rank_some hxp).mp h9
          have : ¬ r' + 1 ≤ r := fun z => h11 (alive_le z h6)
          omega
      rw [show m = r by omega]
/-- a signal without a cut -/
theorem due_stay {p q : Pair} {h : Row} {c m : Nat} (hn : (p, h) ∈ C.nodes) (hc : c ∈ C.sig) (hs : C.step p c = some q) (hf : C.full (more h c) = false) (hd : due C p h = some m) :
    ∃ m', due C q (more h c) = some m' ∧ m' ≤ m := by
  obtain ⟨hp, hh⟩ := mem_nodes.mp hn
  have hq := step_pairs ok hc hp hs
  have hn2 : (q, more h c) ∈ C.nodes := mem_nodes.mpr ⟨hq, more_hear ok hh hc⟩
  have sub : ∀ x ∈ found C q (more h c), ∃ y ∈ found C p h, y.1 = x.1 := fun x hx => by
    have l := (found_sound ok hn2 hx).1
    obtain ⟨y, hy, e⟩ := List.mem_map.mp (found_complete ok hn (.cons hc hs hf l))
    exact ⟨y, hy, e⟩
  obtain ⟨h1, _⟩ := due_some hd
  cases d : due C q (more h c) with
  | none =>
    obtain ⟨x, h3, h4⟩ := due_none.mp d
    obtain ⟨y, hy, e⟩ := sub x h3
    obtain ⟨r, h5, _⟩ := h1 y hy
    rw [e, h4] at h5
    cases h5
  | some m' =>
    refine ⟨m', rfl, ?_⟩
    obtain ⟨_, h4⟩ := due_some d
    rcases h4 with h4 | ⟨x, h5, h6, h7⟩
    · omega
    · obtain ⟨y, hy, e⟩ := sub x h5
      obtain ⟨r, h8, h9⟩ := h1 y hy
      rw [e, h6] at h8
      cases h8
      omega
/-- a signal with a cut -/
theorem due_cut {p q : Pair} {h : Row} {c m : Nat} (hn : (p, h) ∈ C.nodes) (hc : c ∈ C.sig) (hs : C.step p c = some q) (hf : C.full (more h c) = true) (hd : due C p h = some m) :
    ∃ m', due C q [] = some m' ∧ m' + 1 ≤ m := by
  obtain ⟨hp, hh⟩ := mem_nodes.mp hn
  have hq := step_pairs ok hc hp hs
  obtain ⟨y, hy, e⟩ := List.mem_map.mp (found_complete ok hn (.cut hc hs hf))
  obtain ⟨h1, _⟩ := due_some hd
  obtain ⟨r, h8, h9⟩ := h1 y hy
  rw [due_rank ok hq]
  rw [e] at h8
  exact ⟨r, h8, h9⟩
/-- a told row -/
theorem told_leads {p : Pair} {h w : Row} (hn : (p, h) ∈ C.nodes) (e : told C p h = some w) : ∃ q, Leads C (p, h) w q ∧ q ∈ pairs C.n ∧ w.length ≤ 40 ∧ (due C p h = none → due C q [] = none) ∧ ∀ m, due C p h = some m → 1 ≤ m ∧ due C q [] = some (m - 1) := by
  obtain ⟨x, hx, ew⟩ := List.mem_map.mp (firstOf_mem e)
  obtain ⟨hx, hw⟩ := List.mem_filter.mp hx
  obtain ⟨h1, h2, h3⟩ := found_sound ok hn hx
  rw [ew] at h1 h3
  refine ⟨x.1, h1, h2, h3, fun hd => ?_, fun m hd => ?_⟩
  · rw [due_rank ok h2]
    rw [hd] at hw
    cases q : rank C x.1 with
    | none => rfl
    | some r => rw [q] at hw; cases hw
  · rw [due_rank ok h2]
    rw [hd] at hw
    cases q : rank C x.1 with
    | none => rw [q] at hw; cases hw
    | some r =>
      rw [q] at hw
      have : r + 1 = m := of_decide_eq_true hw
      exact ⟨by omega, by rw [← this]; rfl⟩
omit ok in
theorem told_none {p : Pair} {h : Row} : told C p h = none ↔ due C p h = some 0 := by
  unfold told
  rw [firstOf_none]
  unfold kept
  rw [List.map_eq_nil_iff, List.filter_eq_nil_iff]
  constructor
  · intro hx
    cases d : due C p h with
    | none =>
      obtain ⟨x, h1, h2⟩ := due_none.mp d
      have := hx x h1
      rw [d, h2] at this
      exact absurd rfl this
    | some m =>
      obtain ⟨_, h2⟩ := due_some d
      rcases h2 with h2 | ⟨x, h3, h4, h5⟩
      · rw [h2]
      · have := hx x h3
        rw [d, h4] at this
        exact absurd (decide_eq_true (by omega)) this
  · intro d x hx hw
    rw [d] at hw
    cases q : rank C x.1 with
    | none => rw [q] at hw; cases hw
    | some r =>
      rw [q] at hw
      have : r + 1 = 0 := of_decide_eq_true hw
      omega
end
/-! ### along a row -/
abbrev Now := Option Pair × Row × Nat
def hear1 (C : Cfg) (s : Now) (c : Nat) : Now :=
  ((match s.1 with | none => none | some p => C.step p c), if C.full (more s.2.1 c) = true then [] else more s.2.1 c, if C.full (more s.2.1 c) = true then s.2.2 + 1 else s.2.2)
def hear (C : Cfg) (s : Now) (w : Row) : Now := w.foldl (hear1 C) s
/-- what may be had: -1 once joined -/
def moreI (C : Cfg) (s : Now) : Option Int := match s.1 with
  | none => some (-1)
  | some p => (due C p s.2.1).map fun m => (m : Int)
def toldI (C : Cfg) (s : Now) : Option Row := match s.1 with
  | none => none
  | some p => told C p s.2.1
/-- a standing that may be -/
def Fit (C : Cfg) (s : Now) : Prop := s.2.1 ∈ C.hearable ∧ ∀ p, s.1 = some p → p ∈ pairs C.n
section
variable {C : Cfg} (ok : C.Ok)
include ok
theorem hear1_fit {s : Now} {c : Nat} (hc : c ∈ C.sig) (f : Fit C s) : Fit C (hear1 C s c) := by
  obtain ⟨f1, f2⟩ := f
  obtain ⟨p, h, k⟩ := s
  refine ⟨?_, fun q hq => ?_⟩
  · show (if C.full (more h c) = true then [] else more h c) ∈ C.hearable
    split
    · exact nil_hear C
    · exact more_hear ok f1 hc
  · cases p with
    | none => cases (show (none : Option Pair) = some q from hq)
    | some p => exact step_pairs ok hc (f2 p rfl) (show C.step p c = some q from hq)
theorem hear_fit : ∀ {w : Row} {s : Now}, (∀ c ∈ w, c ∈ C.sig) → Fit C s → Fit C (hear C s w)
  | [], _, _, f => f
  | c :: w, s, hw, f => hear_fit (w := w) (s := hear1 C s c) (fun d hd => hw d (List.mem_cons_of_mem _ hd)) (hear1_fit ok (hw c List.mem_cons_self) f)
theorem hear_cuts : ∀ {w : Row} {s : Now}, s.2.2 ≤ (hear C s w).2.2
  | [], s => Nat.le_refl _
  | c :: w, s => by
    refine Nat.le_trans ?_ (hear_cuts (w := w) (s := hear1 C s c))
    show s.2.2 ≤ if C.full (more s.2.1 c) = true then s.2.2 + 1 else s.2.2
    split <;> omega
omit ok in
theorem hear_joined : ∀ {w : Row} {s : Now}, s.1 = none → (hear C s w).1 = none
  | [], s, h => h
  | c :: w, s, h => by
    refine hear_joined (w := w) (s := hear1 C s c) ?_
    show (match s.1 with | none => none | some p => C.step p c) = none
    rw [h]
/-- the rounds heard and those still to be had never add up to more -/
theorem hear_more : ∀ {w : Row} {p q : Pair} {h : Row} {k m : Nat}, (∀ c ∈ w, c ∈ C.sig) → Fit C (some p, h, k) → due C p h = some m → (hear C (some p, h, k) w).1 = some q →
    ∃ m', due C q (hear C (some p, h, k) w).2.1 = some m' ∧ m' + (hear C (some p, h, k) w).2.2 ≤ m + k
  | [], p, q, h, k, m, _, f, hd, e => by
    have e : some p = some q := e
    cases e
    exact ⟨m, hd, Nat.le_refl _⟩
  | c :: w, p, q, h, k, m, hw, f, hd, e => by
    have hc := hw c List.mem_cons_self
    have hn : (p, h) ∈ C.nodes := mem_nodes.mpr ⟨f.2 p rfl, f.1⟩
    have f1 := hear1_fit ok hc f
    have e0 : hear C (some p, h, k) (c :: w) = hear C (hear1 C (some p, h, k) c) w := rfl
    rw [e0] at e ⊢
    have hw' : ∀ d ∈ w, d ∈ C.sig := fun d hd => hw d (List.mem_cons_of_mem _ hd)
    cases hs : C.step p c with
    | none =>
      have : (hear1 C (some p, h, k) c).1 = none := hs
      rw [hear_joined this] at e
      cases e
    | some p' =>
      cases hf : C.full (more h c) with
      | true =>
        have e1 : hear1 C (some p, h, k) c = (some p', [], k + 1) := by
          show ((C.step p c, if C.full (more h c) = true then [] else more h c, if C.full (more h c) = true then k + 1 else k) : Now) = _
          rw [hs, hf]; rfl
        rw [e1] at f1 e ⊢
        obtain ⟨m1, h1, h2⟩ := due_cut ok hn hc hs hf hd
        obtain ⟨m', h3, h4⟩ := hear_more hw' f1 h1 e
        exact ⟨m', h3, by omega⟩
      | false =>
        have e1 : hear1 C (some p, h, k) c = (some p', more h c, k) := by
          show ((C.step p c, if C.full (more h c) = true then [] else more h c, if C.full (more h c) = true then k + 1 else k) : Now) = _
          rw [hs, hf]; rfl
        rw [e1] at f1 e ⊢
        obtain ⟨m1, h1, h2⟩ := due_stay ok hn hc hs hf hd
        obtain ⟨m', h3, h4⟩ := hear_more hw' f1 h1 e
        exact ⟨m', h3, by omega⟩
omit ok in
theorem leads_sig {s : Node} {w : Row} {q : Pair} (l : Leads C s w q) : ∀ c ∈ w, c ∈ C.sig := by
  induction l with
  | cut hc _ _ => intro d hd; rw [List.mem_singleton.mp hd]; exact hc
  | cons hc _ _ _ ih =>
    intro d hd
    rcases List.mem_cons.mp hd with rfl | hd
    · exact hc
    · exact ih d hd
omit ok in
theorem leads_hear {s : Node} {w : Row} {q : Pair} (l : Leads C s w q) (k : Nat) : hear C (some s.1, s.2, k) w = (some q, [], k + 1) := by
  induction l with
  | @cut p q h c hc hs hf =>
    show ((C.step p c, if C.full (more h c) = true then [] else more h c, if C.full (more h c) = true then k + 1 else k) : Now) = _
    rw [hs, hf]; rfl
  | @cons p p' q h w c hc hs hf _ ih =>
    have e1 : hear1 C (some p, h, k) c = (some p', more h c, k) := by
      show ((C.step p c, if C.full (more h c) = true then [] else more h c, if C.full (more h c) = true then k + 1 else k) : Now) = _
      rw [hs, hf]; rfl
    show hear C (hear1 C (some p, h, k) c) w = _
    rw [e1]
    exact ih
end
/-! ### the tower: t-joined states make classes -/
def opair (a b : Nat) : Option Pair := pairOf a b
/-- joined by every row of t rounds -/
def Jn (C : Cfg) (t a b : Nat) : Prop := a = b ∨ ∃ p, pairOf a b = some p ∧ p ∉ alive C t
theorem pairOf_comm (a b : Nat) : pairOf a b = pairOf b a := by
  unfold pairOf
  by_cases h : a = b
  · rw [if_pos h, if_pos h.symm]
  · have h' : ¬ b = a := fun e => h (Eq.symm e)
    rw [if_neg h, if_neg h']
    by_cases h2 : a < b
    · rw [if_pos h2, if_neg (show ¬ b < a by omega)]
    · rw [if_neg h2, if_pos (show b < a by omega)]
theorem pairOf_ne {a b : Nat} (h : a ≠ b) : ∃ p, pairOf a b = some p := by
  unfold pairOf
  rw [if_neg h]
  split
  · exact ⟨_, rfl⟩
  · exact ⟨_, rfl⟩
theorem Jn.symm {C : Cfg} {t a b : Nat} (h : Jn C t a b) : Jn C t b a := by
  rcases h with h | ⟨p, h1, h2⟩
  · exact .inl h.symm
  · exact .inr ⟨p, by rw [pairOf_comm]; exact h1, h2⟩
/-- two states behind a row -/
def afterRow (C : Cfg) (a : Nat) (w : Row) : Nat := w.foldl (fun a c => C.at c a) a
def lotAfter (h w : Row) : Row := w.foldl more h
/-- a row whose first cut is its end -/
def Round (C : Cfg) (h w : Row) : Prop := (∀ c ∈ w, c ∈ C.sig) ∧ w ≠ [] ∧ C.full (lotAfter h w) = true ∧ ∀ v u, w = v ++ u → u ≠ [] → v ≠ [] → C.full (lotAfter h v) = false
theorem step_of {C : Cfg} {a b : Nat} {p : Pair} (h : pairOf a b = some p) (c : Nat) : C.step p c = pairOf (C.at c a) (C.at c b) := by
  obtain ⟨_, h2⟩ := pairOf_some h
  unfold Cfg.step
  rcases h2 with ⟨h3, h4⟩ | ⟨h3, h4⟩
  · rw [h3, h4]
  · rw [h3, h4, pairOf_comm]
theorem leads_round {C : Cfg} {s : Node} {w : Row} {q : Pair} (l : Leads C s w q) : ∀ {a b : Nat}, pairOf a b = some s.1 → Round C s.2 w ∧ pairOf (afterRow C a w) (afterRow C b w) = some q := by
  induction l with
  | @cut p q h c hc hs hf =>
    intro a b e
    refine ⟨⟨fun d hd => by rw [List.mem_singleton.mp hd]; exact hc, by simp, hf, fun v u ev hu hv => ?_⟩, ?_⟩
    · have : v.length + u.length = 1 := by rw [← List.length_append, ← ev]; rfl
      have h1 : 0 < v.length := List.length_pos_iff.mpr hv
      have h2 : 0 < u.length := List.length_pos_iff.mpr hu
      omega
    · rw [step_of e] at hs
      exact hs
  | @cons p p' q h w c hc hs hf _ ih =>
    intro a b e
    rw [step_of e] at hs
    obtain ⟨⟨h1, h2, h3, h4⟩, h5⟩ := ih hs
    refine ⟨⟨fun d hd => ?_, by simp, h3, fun v u ev hu hv => ?_⟩, h5⟩
    · rcases List.mem_cons.mp hd with rfl | hd
      · exact hc
      · exact h1 d hd
    · cases v with
      | nil => exact absurd rfl hv
      | cons d v =>
        rw [List.cons_append, List.cons.injEq] at ev
        obtain ⟨rfl, ev⟩ := ev
        show C.full (lotAfter (more h c) v) = false
        by_cases hv2 : v = []
        · rw [hv2]; exact hf
        · exact h4 v u ev hu hv2
theorem round_leads {C : Cfg} : ∀ {w h : Row} {a b : Nat} {p q : Pair}, Round C h w → pairOf a b = some p → pairOf (afterRow C a w) (afterRow C b w) = some q → Leads C (p, h) w q
  | [], _, _, _, _, _, r, _, _ => absurd rfl r.2.1
  | c :: w, h, a, b, p, q, ⟨h1, _, h3, h4⟩, e, e2 => by
    have hc := h1 c List.mem_cons_self
    have hs : C.step p c = pairOf (C.at c a) (C.at c b) := step_of e c
    cases w with
    | nil => exact .cut hc (hs.trans e2) h3
    | cons d w =>
      have hf : C.full (more h c) = false := h4 [c] (d :: w) rfl (by simp) (by simp)
      cases e3 : pairOf (C.at c a) (C.at c b) with
      | none =>
        have : C.at c a = C.at c b := by
          unfold pairOf at e3
          split at e3
          · assumption
          · split at e3 <;> cases e3
        have e4 : afterRow C a (c :: d :: w) = afterRow C b (c :: d :: w) := by
          show afterRow C (C.at c a) (d :: w) = afterRow C (C.at c b) (d :: w)
          rw [this]
        rw [e4] at e2
        unfold pairOf at e2
        rw [if_pos rfl] at e2
        cases e2
      | some p' =>
        refine .cons hc (hs.trans e3) hf (round_leads ⟨fun x hx => h1 x (List.mem_cons_of_mem _ hx), by simp, h3, fun v u ev hu hv => ?_⟩ e3 e2)
        exact h4 (c :: v) u (by rw [ev]; rfl) hu (by simp)
section
variable {C : Cfg} (ok : C.Ok)
include ok
theorem pairOf_pairs {a b : Nat} {p : Pair} (ha : a < C.n) (hb : b < C.n) (e : pairOf a b = some p) : p ∈ pairs C.n := by
  obtain ⟨h1, h2⟩ := pairOf_some e
  exact mem_pairs.mpr ⟨h1, by omega⟩
theorem after_lt {w : Row} : ∀ {a : Nat}, a < C.n → (∀ c ∈ w, c ∈ C.sig) → afterRow C a w < C.n := by
  induction w with
  | nil => intro a h _; exact h
  | cons c w ih => intro a h hw; exact ih (at_lt ok (hw c List.mem_cons_self) h) fun d hd => hw d (List.mem_cons_of_mem _ hd)
/-- the step of a level -/
theorem Jn_succ {t a b : Nat} (ha : a < C.n) (hb : b < C.n) : Jn C (t + 1) a b ↔ ∀ w, Round C [] w → Jn C t (afterRow C a w) (afterRow C b w) := by
  constructor
  · intro h w r
    by_cases e : afterRow C a w = afterRow C b w
    · exact .inl e
    obtain ⟨q, hq⟩ := pairOf_ne e
    refine .inr ⟨q, hq, fun hal => ?_⟩
    rcases h with h | ⟨p, h1, h2⟩
    · rw [h] at e; exact e rfl
    · have hp := pairOf_pairs ok ha hb h1
      have l := round_leads r h1 hq
      exact h2 (mem_alive.mpr ⟨hp, q, found_complete ok (mem_nodes.mpr ⟨hp, nil_hear C⟩) l, hal⟩)
  · intro h
    by_cases e : a = b
    · exact .inl e
    obtain ⟨p, hp⟩ := pairOf_ne e
    refine .inr ⟨p, hp, fun hal => ?_⟩
    obtain ⟨hpp, q, h1, h2⟩ := mem_alive.mp hal
    obtain ⟨x, hx, ex⟩ := List.mem_map.mp h1
    have l := (found_sound ok (mem_nodes.mpr ⟨hpp, nil_hear C⟩) hx).1
    obtain ⟨r, h3⟩ := leads_round l hp
    rw [ex] at h3
    rcases h x.2 r with h4 | ⟨q', h5, h6⟩
    · rw [h4] at h3
      unfold pairOf at h3
      rw [if_pos rfl] at h3
      cases h3
    · rw [h3] at h5
      cases h5
      exact h6 h2
theorem Jn_trans : ∀ {t a b c : Nat}, a < C.n → b < C.n → c < C.n → Jn C t a b → Jn C t b c → Jn C t a c
  | 0, a, b, c, ha, hb, hc, h1, h2 => by
    have key : ∀ {x y : Nat}, x < C.n → y < C.n → Jn C 0 x y → x = y := fun {x y} hx hy h => by
      rcases h with h | ⟨p, h3, h4⟩
      · exact h
      · exact absurd (pairOf_pairs ok hx hy h3) h4
    exact .inl ((key ha hb h1).trans (key hb hc h2))
  | t + 1, a, b, c, ha, hb, hc, h1, h2 => by
    refine (Jn_succ ok ha hc).mpr fun w r => ?_
    exact Jn_trans (after_lt ok ha r.1) (after_lt ok hb r.1) (after_lt ok hc r.1) ((Jn_succ ok ha hb).mp h1 w r) ((Jn_succ ok hb hc).mp h2 w r)
omit ok in
theorem Jn_mono {t a b : Nat} (h : Jn C t a b) : Jn C (t + 1) a b := by
  rcases h with h | ⟨p, h1, h2⟩
  · exact .inl h
  · exact .inr ⟨p, h1, fun q => h2 (alive_anti q)⟩
/-- the leasts of the classes -/
def isRep (C : Cfg) (t a : Nat) : Prop := ∀ b, b < a → ¬ Jn C t b a
omit ok in
open Classical in
/-- the leasts that t has and t + 1 has not -/
theorem rep_of (t : Nat) : ∀ a, a < C.n → ∃ r, r ≤ a ∧ Jn C t r a ∧ ∀ b, b < r → ¬ Jn C t b a := by
  intro a ha
  have key : ∀ k, k ≤ a → (∃ r, r ≤ a ∧ Jn C t r a ∧ ∀ b, b < r → ¬ Jn C t b a) ∨ ∀ b, b < k → ¬ Jn C t b a := by
    intro k
    induction k with
    | zero => intro _; exact .inr fun b hb => by omega
    | succ k ih =>
      intro hk
      rcases ih (by omega) with h | h
      · exact .inl h
      · by_cases e : Jn C t k a
        · exact .inl ⟨k, by omega, e, h⟩
        · refine .inr fun b hb => ?_
          by_cases q : b = k
          · rw [q]; exact e
          · exact h b (by omega)
  rcases key a (Nat.le_refl _) with h | h
  · exact h
  · exact ⟨a, Nat.le_refl _, .inl rfl, h⟩
open Classical in
noncomputable def reps (C : Cfg) (t : Nat) : List Nat := (List.range C.n).filter fun a => decide (isRep C t a)
open Classical in
omit ok in
theorem mem_reps {t a : Nat} : a ∈ reps C t ↔ a < C.n ∧ isRep C t a := by
  unfold reps
  rw [List.mem_filter, List.mem_range]
  exact ⟨fun ⟨h1, h2⟩ => ⟨h1, of_decide_eq_true h2⟩, fun ⟨h1, h2⟩ => ⟨h1, decide_eq_true h2⟩⟩
theorem reps_drop {t : Nat} (h : alive C (t + 1) ≠ alive C t) : (reps C (t + 1)).length < (reps C t).length := by
  -- a pair alive at t and not at t + 1
  have hlt : ¬ (alive C (t + 1)).length = (alive C t).length := fun e => h (alive_len_eq e)
  obtain ⟨p, hp1, hp2⟩ : ∃ p, p ∈ alive C t ∧ p ∉ alive C (t + 1) := by
    refine Classical.byContradiction fun hn => ?_
    have hall : ∀ p ∈ alive C t, p ∈ alive C (t + 1) := fun p hp => Classical.byContradiction fun q => hn ⟨p, hp, q⟩
    refine h ?_
    rw [alive_filter C (t + 1), alive_filter C t]
    refine List.filter_congr fun p _ => ?_
    rw [Bool.eq_iff_iff, List.contains_iff_mem, List.contains_iff_mem]
    exact ⟨alive_anti, hall p⟩
  have hpp := alive_sub hp1
  obtain ⟨i, j⟩ := p
  obtain ⟨hij, hj⟩ := mem_pairs.mp hpp
  simp only at hij hj
  have hi : i < C.n := by omega
  have epo : pairOf i j = some (i, j) := by unfold pairOf; rw [if_neg (by omega), if_pos hij]
  have J1 : Jn C (t + 1) i j := .inr ⟨_, epo, hp2⟩
  have J0 : ¬ Jn C t i j := fun q => by
    rcases q with q | ⟨p, q1, q2⟩
    · omega
    · rw [epo] at q1
      cases q1
      exact q2 hp1
  -- their leasts at t
  obtain ⟨a, ha1, ha2, ha3⟩ := rep_of (C := C) t i hi
  obtain ⟨b, hb1, hb2, hb3⟩ := rep_of (C := C) t j hj
  have han : a < C.n := by omega
  have hbn : b < C.n := by omega
  have hab : a ≠ b := fun e => J0 (Jn_trans ok hi han hj ha2.symm (by rw [e]; exact hb2))
  have Jab : Jn C (t + 1) a b := Jn_trans ok han hi hbn (Jn_mono ha2) (Jn_trans ok hi hj hbn J1 (Jn_mono hb2).symm)
  have ra : isRep C t a := fun c hc q => ha3 c hc (Jn_trans ok (by omega) han hi q ha2)
  have rb : isRep C t b := fun c hc q => hb3 c hc (Jn_trans ok (by omega) hbn hj q hb2)
  -- the greater of the two is a least no more
  have sub : ∀ x ∈ reps C (t + 1), x ∈ reps C t := fun x hx => by
    obtain ⟨h1, h2⟩ := mem_reps.mp hx
    exact mem_reps.mpr ⟨h1, fun c hc q => h2 c hc (Jn_mono q)⟩
  have nd : (reps C (t + 1)).Nodup := List.Pairwise.filter _ List.nodup_range
  obtain ⟨z, hz1, hz2⟩ : ∃ z, z ∈ reps C t ∧ z ∉ reps C (t + 1) := by
    by_cases q : a < b
    · exact ⟨b, mem_reps.mpr ⟨hbn, rb⟩, fun h => (mem_reps.mp h).2 a q Jab⟩
    · exact ⟨a, mem_reps.mpr ⟨han, ra⟩, fun h => (mem_reps.mp h).2 b (by omega) Jab.symm⟩
  have := nodup_len (l := z :: reps C (t + 1)) (m := reps C t) (List.nodup_cons.mpr ⟨hz2, nd⟩) fun x hx => by
    rcases List.mem_cons.mp hx with rfl | hx
    · exact hz1
    · exact sub x hx
  rw [List.length_cons] at this
  omega
theorem reps_pos (t : Nat) : 1 ≤ (reps C t).length := by
  have h : 0 ∈ reps C t := mem_reps.mpr ⟨by have := ok.n2; omega, fun b hb => by omega⟩
  exact List.length_pos_of_mem h
theorem reps_le : ∀ {r : Nat}, (∀ t, t < r → alive C (t + 1) ≠ alive C t) → (reps C r).length + r ≤ C.n
  | 0, _ => by
    have := List.length_filter_le (fun a => @decide (isRep C 0 a) (Classical.propDecidable _)) (List.range C.n)
    rw [List.length_range] at this
    exact this
  | r + 1, h => by
    have h1 := reps_le (r := r) fun t ht => h t (by omega)
    have h2 := reps_drop ok (h r (by omega))
    omega
/-- a finite rank is small -/
theorem rank_bound {p : Pair} (hp : p ∈ pairs C.n) {r : Nat} (e : rank C p = some r) : r + 2 ≤ C.n := by
  obtain ⟨h1, h2⟩ := (rank_some hp).mp e
  have h := reps_le ok (r := r + 1) fun t ht q => by
    have := alive_stable q (s := r + 1) (by omega)
    have h3 := alive_le (s := t) (show t ≤ r by omega) h1
    rw [← this] at h3
    exact h2 h3
  have := reps_pos ok (r + 1)
  omega
theorem due_bound {p : Pair} {h : Row} (hn : (p, h) ∈ C.nodes) {m : Nat} (e : due C p h = some m) : m + 1 ≤ C.n := by
  obtain ⟨_, h2⟩ := due_some e
  rcases h2 with h2 | ⟨x, h3, h4, h5⟩
  · have := ok.n2
    omega
  · have := rank_bound ok (found_sound ok hn h3).2.1 h4
    omega
end
end BK

set_option Elab.async false
set_option linter.all false
set_option maxRecDepth 100000
set_option maxHeartbeats 4000000
/-! The text by places; what a def is worth to whoever calls it. -/
namespace BW
open PySem PySem.Spec PyProof.Rows L2
def top (i : Nat) : Stmt := PySem.Challenge.pw_backinstep_k90_whole_the_keeper.main.body.getD i (.Pass ⟨0, 0, 0, 0⟩)
/-- a def of the text at f -/
def Fn (K : PySem.W.Frag) (x q : Str) (st : Stmt) (f : Addr) : Prop := ∃ fd, FunD K x q (defArgs st) (defBody st) (defScope st) [] [] f fd
/-- what the walk asks of the top: each def where it stands, the names, the classes -/
structure Tx (K : PySem.W.Frag) (mg : Str → Option Value) : Prop where
  g_is_integer : mg "is_integer" = some (.ref (He.ga K "is_integer"))
  F_is_integer : Fn K "is_integer" "is_integer" (top 12) (He.ga K "is_integer")
  g_is_number : mg "is_number" = some (.ref (He.ga K "is_number"))
  F_is_number : Fn K "is_number" "is_number" (top 13) (He.ga K "is_number")
  g_is_text : mg "is_text" = some (.ref (He.ga K "is_text"))
  F_is_text : Fn K "is_text" "is_text" (top 14) (He.ga K "is_text")
  g_is_sequence : mg "is_sequence" = some (.ref (He.ga K "is_sequence"))
  F_is_sequence : Fn K "is_sequence" "is_sequence" (top 15) (He.ga K "is_sequence")
  g_is_lot_of : mg "is_lot_of" = some (.ref (He.ga K "is_lot_of"))
  F_is_lot_of : Fn K "is_lot_of" "is_lot_of" (top 16) (He.ga K "is_lot_of")
  g_lot_within : mg "lot_within" = some (.ref (He.ga K "lot_within"))
  F_lot_within : Fn K "lot_within" "lot_within" (top 17) (He.ga K "lot_within")
  g_is_table : mg "is_table" = some (.ref (He.ga K "is_table"))
  F_is_table : Fn K "is_table" "is_table" (top 20) (He.ga K "is_table")
  g_need_pair : mg "need_pair" = some (.ref (He.ga K "need_pair"))
  F_need_pair : Fn K "need_pair" "need_pair" (top 22) (He.ga K "need_pair")
  g_check_row : mg "check_row" = some (.ref (He.ga K "check_row"))
  F_check_row : Fn K "check_row" "check_row" (top 23) (He.ga K "check_row")
  g_check_family : mg "check_family" = some (.ref (He.ga K "check_family"))
  F_check_family : Fn K "check_family" "check_family" (top 26) (He.ga K "check_family")
  g_joined_lot : mg "joined_lot" = some (.ref (He.ga K "joined_lot"))
  F_joined_lot : Fn K "joined_lot" "joined_lot" (top 27) (He.ga K "joined_lot")
  g_has_full : mg "has_full" = some (.ref (He.ga K "has_full"))
  F_has_full : Fn K "has_full" "has_full" (top 28) (He.ga K "has_full")
  g_pair_of : mg "pair_of" = some (.ref (He.ga K "pair_of"))
  F_pair_of : Fn K "pair_of" "pair_of" (top 30) (He.ga K "pair_of")
  g_next_node : mg "next_node" = some (.ref (He.ga K "next_node"))
  F_next_node : Fn K "next_node" "next_node" (top 31) (He.ga K "next_node")
  g_round_rows : mg "round_rows" = some (.ref (He.ga K "round_rows"))
  F_round_rows : Fn K "round_rows" "round_rows" (top 33) (He.ga K "round_rows")
  g_pair_rows : mg "pair_rows" = some (.ref (He.ga K "pair_rows"))
  F_pair_rows : Fn K "pair_rows" "pair_rows" (top 34) (He.ga K "pair_rows")
  g_pairs_of : mg "pairs_of" = some (.ref (He.ga K "pairs_of"))
  F_pairs_of : Fn K "pairs_of" "pairs_of" (top 35) (He.ga K "pairs_of")
  g_pair_web : mg "pair_web" = some (.ref (He.ga K "pair_web"))
  F_pair_web : Fn K "pair_web" "pair_web" (top 36) (He.ga K "pair_web")
  g_levels_of : mg "levels_of" = some (.ref (He.ga K "levels_of"))
  F_levels_of : Fn K "levels_of" "levels_of" (top 37) (He.ga K "levels_of")
  g_ranks_of : mg "ranks_of" = some (.ref (He.ga K "ranks_of"))
  F_ranks_of : Fn K "ranks_of" "ranks_of" (top 38) (He.ga K "ranks_of")
  g_most_rounds : mg "most_rounds" = some (.ref (He.ga K "most_rounds"))
  F_most_rounds : Fn K "most_rounds" "most_rounds" (top 39) (He.ga K "most_rounds")
  g_first_of : mg "first_of" = some (.ref (He.ga K "first_of"))
  F_first_of : Fn K "first_of" "first_of" (top 40) (He.ga K "first_of")
  g__law_box : mg "_law_box" = some (.ref (He.ga K "_law_box"))
  F__law_box : Fn K "_law_box" "_law_box" (top 43) (He.ga K "_law_box")
  g__law_take : mg "_law_take" = some (.ref (He.ga K "_law_take"))
  F__law_take : Fn K "_law_take" "_law_take" (top 44) (He.ga K "_law_take")
  g__law_pick : mg "_law_pick" = some (.ref (He.ga K "_law_pick"))
  F__law_pick : Fn K "_law_pick" "_law_pick" (top 45) (He.ga K "_law_pick")
  g__law_falling : mg "_law_falling" = some (.ref (He.ga K "_law_falling"))
  F__law_falling : Fn K "_law_falling" "_law_falling" (top 46) (He.ga K "_law_falling")
  g__law_table : mg "_law_table" = some (.ref (He.ga K "_law_table"))
  F__law_table : Fn K "_law_table" "_law_table" (top 47) (He.ga K "_law_table")
  g__law_named : mg "_law_named" = some (.ref (He.ga K "_law_named"))
  F__law_named : Fn K "_law_named" "_law_named" (top 48) (He.ga K "_law_named")
  g__law_tables : mg "_law_tables" = some (.ref (He.ga K "_law_tables"))
  F__law_tables : Fn K "_law_tables" "_law_tables" (top 49) (He.ga K "_law_tables")
  g__law_lots : mg "_law_lots" = some (.ref (He.ga K "_law_lots"))
  F__law_lots : Fn K "_law_lots" "_law_lots" (top 50) (He.ga K "_law_lots")
  g__law_family : mg "_law_family" = some (.ref (He.ga K "_law_family"))
  F__law_family : Fn K "_law_family" "_law_family" (top 51) (He.ga K "_law_family")
  g__law_full : mg "_law_full" = some (.ref (He.ga K "_law_full"))
  F__law_full : Fn K "_law_full" "_law_full" (top 52) (He.ga K "_law_full")
  g__law_more : mg "_law_more" = some (.ref (He.ga K "_law_more"))
  F__law_more : Fn K "_law_more" "_law_more" (top 53) (He.ga K "_law_more")
  g__law_next : mg "_law_next" = some (.ref (He.ga K "_law_next"))
  F__law_next : Fn K "_law_next" "_law_next" (top 54) (He.ga K "_law_next")
  g__law_pairs : mg "_law_pairs" = some (.ref (He.ga K "_law_pairs"))
  F__law_pairs : Fn K "_law_pairs" "_law_pairs" (top 55) (He.ga K "_law_pairs")
  g__law_steps : mg "_law_steps" = some (.ref (He.ga K "_law_steps"))
  F__law_steps : Fn K "_law_steps" "_law_steps" (top 56) (He.ga K "_law_steps")
  g__law_web : mg "_law_web" = some (.ref (He.ga K "_law_web"))
  F__law_web : Fn K "_law_web" "_law_web" (top 57) (He.ga K "_law_web")
  g__law_ranks : mg "_law_ranks" = some (.ref (He.ga K "_law_ranks"))
  F__law_ranks : Fn K "_law_ranks" "_law_ranks" (top 58) (He.ga K "_law_ranks")
  g__law_rows : mg "_law_rows" = some (.ref (He.ga K "_law_rows"))
  F__law_rows : Fn K "_law_rows" "_law_rows" (top 59) (He.ga K "_law_rows")
  g__law_due : mg "_law_due" = some (.ref (He.ga K "_law_due"))
  F__law_due : Fn K "_law_due" "_law_due" (top 60) (He.ga K "_law_due")
  g__law_walk : mg "_law_walk" = some (.ref (He.ga K "_law_walk"))
  F__law_walk : Fn K "_law_walk" "_law_walk" (top 61) (He.ga K "_law_walk")
  g__law_refused : mg "_law_refused" = some (.ref (He.ga K "_law_refused"))
  F__law_refused : Fn K "_law_refused" "_law_refused" (top 62) (He.ga K "_law_refused")
  g__law_none : mg "_law_none" = some (.ref (He.ga K "_law_none"))
  F__law_none : Fn K "_law_none" "_law_none" (top 63) (He.ga K "_law_none")
  g__law_followed : mg "_law_followed" = some (.ref (He.ga K "_law_followed"))
  F__law_followed : Fn K "_law_followed" "_law_followed" (top 64) (He.ga K "_law_followed")
  g_law : mg "law" = some (.ref (He.ga K "law"))
  F_law : Fn K "law" "law" (top 65) (He.ga K "law")
  F_Device___init__ : Fn K "__init__" "Device.__init__" (inClass (top 19) 0) (He.ma K (He.ga K "Device") "__init__")
  F_Keeper___init__ : Fn K "__init__" "Keeper.__init__" (inClass (top 41) 0) (He.ma K (He.ga K "Keeper") "__init__")
  F_Keeper_hear : Fn K "hear" "Keeper.hear" (inClass (top 41) 1) (He.ma K (He.ga K "Keeper") "hear")
  F_Keeper_standing : Fn K "standing" "Keeper.standing" (inClass (top 41) 2) (He.ma K (He.ga K "Keeper") "standing")
  F_Keeper_more_rounds : Fn K "more_rounds" "Keeper.more_rounds" (inClass (top 41) 3) (He.ma K (He.ga K "Keeper") "more_rounds")
  F_Keeper_next_row : Fn K "next_row" "Keeper.next_row" (inClass (top 41) 4) (He.ma K (He.ga K "Keeper") "next_row")
  n_isinstance : mg "isinstance" = none
  n_int : mg "int" = none
  n_bool : mg "bool" = none
  n_str : mg "str" = none
  n_list : mg "list" = none
  n_tuple : mg "tuple" = none
  n_len : mg "len" = none
  n_all : mg "all" = none
  n_any : mg "any" = none
  n_enumerate : mg "enumerate" = none
  n_range : mg "range" = none
  n_sorted : mg "sorted" = none
  n_min : mg "min" = none
  n_max : mg "max" = none
  n_abs : mg "abs" = none
  n_repr : mg "repr" = none
  n_super : mg "super" = none
  n_KeyError : mg "KeyError" = none
  n_ValueError : mg "ValueError" = none
  g_Device : mg "Device" = some (.ref (He.ga K "Device"))
  g_Keeper : mg "Keeper" = some (.ref (He.ga K "Keeper"))
  g_BackError : mg "BackError" = some (.ref (He.ga K "BackError"))
  g_BadRow : mg "BadRow" = some (.ref (He.ga K "BadRow"))
  g_BadFamily : mg "BadFamily" = some (.ref (He.ga K "BadFamily"))
  g_NoPair : mg "NoPair" = some (.ref (He.ga K "NoPair"))
  g_SIGNALS : ∃ t, mg "SIGNALS" = some (.str "abcde" t)
  g_MOST_STATES : ∃ t, mg "MOST_STATES" = some (.int 60 t)
  g_MOST_SIGNS : ∃ t, mg "MOST_SIGNS" = some (.int 10000 t)
  g_MOST_LOTS : ∃ t, mg "MOST_LOTS" = some (.int 31 t)
  cl_Device : Cls K (He.ga K "Device")
  mk_Device : Mk K (He.ga K "Device") (He.ma K (He.ga K "Device") "__init__")
  cl_Keeper : Cls K (He.ga K "Keeper")
  mk_Keeper : Mk K (He.ga K "Keeper") (He.ma K (He.ga K "Keeper") "__init__")
  at_Device_states : NoAttr K (He.ga K "Device") "states"
  at_Device_signals : NoAttr K (He.ga K "Device") "signals"
  at_Device_tables : NoAttr K (He.ga K "Device") "tables"
  at_Keeper_device : NoAttr K (He.ga K "Keeper") "device"
  at_Keeper_lots : NoAttr K (He.ga K "Keeper") "lots"
  at_Keeper_apart : NoAttr K (He.ga K "Keeper") "apart"
  at_Keeper_ranks : NoAttr K (He.ga K "Keeper") "ranks"
  at_Keeper_since : NoAttr K (He.ga K "Keeper") "since"
  at_Keeper_cuts : NoAttr K (He.ga K "Keeper") "cuts"
  me_hear : Meth K (He.ga K "Keeper") "hear" (He.ma K (He.ga K "Keeper") "hear")
  me_standing : Meth K (He.ga K "Keeper") "standing" (He.ma K (He.ga K "Keeper") "standing")
  me_more_rounds : Meth K (He.ga K "Keeper") "more_rounds" (He.ma K (He.ga K "Keeper") "more_rounds")
  me_next_row : Meth K (He.ga K "Keeper") "next_row" (He.ma K (He.ga K "Keeper") "next_row")
/-- how its arguments bind -/
def BindsP (x q : Str) (st : Stmt) (ps : List Str) : Prop := ∀ (kV doc pm : Value) (an : Option Addr) (cdv ct : Value) (us : List Value), us.length = ps.length → bindArgs (PySem.W.fnOf x q (defArgs st) (defBody st) (defScope st) .none kV doc pm an cdv ct) ⟨us, []⟩ = pure (ps.zip us)
/-- a def that may be called by its name -/
structure Cal (CX : CXT) (P : Program) (w : World) (K : PySem.W.Frag) (mg : Str → Option Value) (base : Heap) (k : Nat) (x : Str) (sp : Sp) : Prop where
  ex : ∃ (f : Addr) (fd : FuncData) (ps : List Str), FnOk P w K mg base CX k f fd ps sp ∧ mg x = some (.ref f) ∧ PySem.W.keepIn K (.ref f) = true ∧ Binds K fd ps []
section
variable {CX : CXT} {P : Program} {w : World} {K : PySem.W.Frag} {mg : Str → Option Value} {base : Heap}
theorem cal_of {x : Str} {st : Stmt} {f : Addr} {N ps : List Str} {k : Nat} {sp : Sp} (F : Fn K x x st f) (g : mg x = some (.ref f)) (b : BindsP x x st ps) (S : FnScope N ps (defScope st)) (len : ∀ vs H Q E, sp vs H Q E → vs.length = ps.length)
    (hbody : ∀ (cdv : Value) (A : Around) (outer : List Env) (s : Shared) (H : Hp) (vs : List V) (Q : VK) (E : XK), Room k (A.deeper (envOfC x (defScope st) s.heap.objs.size f cdv)) → sp vs H Q E →
      ∃ t, PSs (cxOf CX P w K mg base N x (defScope st) f cdv A outer s H E) (defBody st) t ∧ t { nx := fun _ H' => Q .non H', rt := Q } (start N vs) H) : Cal CX P w K mg base (k + 1) x sp := by
  obtain ⟨fd, F⟩ := F
  exact ⟨f, fd, ps, F.ok S len hbody, g, F.kp, F.bindsN b⟩
/-- .. that lets nothing out -/
theorem cal_of0 {x : Str} {st : Stmt} {f : Addr} {N ps : List Str} {k : Nat} {sp : Sp} (F : Fn K x x st f) (g : mg x = some (.ref f)) (b : BindsP x x st ps) (S : FnScope N ps (defScope st)) (len : ∀ vs H Q E, sp vs H Q E → vs.length = ps.length)
    (hbody : ∀ (cdv : Value) (A : Around) (outer : List Env) (s : Shared) (H : Hp) (vs : List V) (Q : VK) (E : XK), Room k (A.deeper (envOfC x (defScope st) s.heap.objs.size f cdv)) → sp vs H Q E →
      ∃ t, PSs (cxOf CX0 P w K mg base N x (defScope st) f cdv A outer s H E).nox (defBody st) t ∧ t { nx := fun _ H' => Q .non H', rt := Q } (start N vs) H) : Cal CX0 P w K mg base (k + 1) x sp :=
  cal_of F g b S len fun cdv A outer s H vs Q E hr h => by
    obtain ⟨t, ht, q⟩ := hbody cdv A outer s H vs Q E hr h
    exact ⟨t, ht.nox, q⟩
end
section
variable {X : Cx} {k j : Nat} {x : Str} {sp : Sp} {p pos : Pos} {e : Expr} {es : List Expr} {t : TA}
theorem pe_c (c : Cal CX0 X.prog X.w X.K X.mg X.base k x sp) (hr : Room j X.A) (hg : Gl X x) (ha : PA X (e :: es) t) (hk : k ≤ j := by decide)
    (hdb : (x == ("__debug__" : Str)) = false := by decide) (he : starEach (e :: es) X.env = (false, eval e X.env) :: starEach es X.env := by rfl) (hpl : (backTo pos (starEach es X.env)).any (·.1) = false := by rfl) :
    PE X (.Call (.Name x p) (e :: es) [] pos) (tCall sp [] E0 t) := by
  obtain ⟨f, fd, ps, F, hm, kp, b⟩ := c.ex
  exact pe_call F (hr.mono hk) hg hm kp b .nil pass0 ha hdb he hpl
end
end BW

set_option Elab.async false
set_option linter.all false
set_option maxRecDepth 100000
set_option maxHeartbeats 4000000
/-! what the head is asked beyond the hook's own facts, as Bools of the written part -/
namespace BW
open PySem PySem.Spec PyProof.Rows L2
/-- where the table of the def x stands -/
def tabP (K : PySem.W.Frag) (x : PySem.Str) : Addr := He.tabOf K (He.codeOf K (x, none))
def veT : List Value := [.type "ValueError", .type "Exception", .type "BaseException", .type "object"]
def keT : List Value := [.type "KeyError", .type "LookupError", .type "Exception", .type "BaseException", .type "object"]
/-- the class itself -/
def clsB (K : PySem.W.Frag) (C : Addr) (tl : List Value) (newId i : String) : Bool := match K.lookup C with
  | some ⟨.type "type", _, .cls cd, sl⟩ => (match cd.mro, sl.toList with
    | .ref C' :: bm, [_, _, _, _, some (.builtin n), _] => decide (C' = C) && (decide (n = newId) && (!cd.hasDel && (cd.hasDict && (PySem.W.excTail tl bm && decide (PySem.W.alongIn K "__init__" bm = some (some (.builtin i)))))))
    | _, _ => false)
  | _ => false
/-- an own exception by its name x -/
def xcB (K : PySem.W.Frag) (x : Str) (tl : List Value) (newId Bi i : String) (fld : Str) : Bool :=
  clsB K (He.ga K x) tl newId i && (decide (PySem.W.findIn K (.ref (He.ga K x)) "__init__" = some (some (.ref (He.ma K (He.ga K x) "__init__")))) && (decide (PySem.W.typeIn K (.ref (He.ma K (He.ga K x) "__init__")) = some (.type "function")) &&
  (decide (PySem.W.subIn K (.ref (He.ga K x)) (.type Bi) = some true) && (decide (PySem.W.findIn K (.ref (He.ga K x)) "__setattr__" = some (some (.builtin "object.__setattr__"))) && (decide (PySem.W.findIn K (.ref (He.ga K x)) fld = some none) &&
  (decide (PySem.W.subIn K (.ref (He.ga K x)) (.type "BaseException") = some true) && (decide (PySem.W.typeIn K (.ref (He.ga K x)) = some (.type "type")) && (PySem.W.keepIn K (.ref (He.ga K x)) && decide (PySem.W.nsIn K cStatics "thirdparty.any" = some none)))))))))
/-- its __init__: what the run must give -/
abbrev XV : Type := Option (Str × Str × Arguments × FuncBody × Scope × Addr × List Str × Value × Addr)
def xObs (K : PySem.W.Frag) (x : Str) : XV := match K.lookup (He.ma K (He.ga K x) "__init__") with
  | some ⟨_, _, .func fd, _⟩ => some (fd.name, fd.qualname, fd.params, fd.body, fd.scope, fd.globals, fd.closure.map (·.1), fd.defaults, fd.builtins)
  | _ => none
def xVal (q : Str) (st : Stmt) : XV := some ("__init__", q, defArgs st, .stmts (defBody st), defScope st, mainGlobals, ["__class__"], .none, builtinsNs)
def fileB (file : Str) : Option Value → Bool
  | some (.str f _) => file == f
  | _ => false
/-- .. its code, its cell -/
def xfB2 (K : PySem.W.Frag) (file x q : Str) : Bool := match K.lookup (He.ma K (He.ga K x) "__init__") with
  | some ⟨_, _, .func fd, _⟩ => (match fd.closure, fd.code with
    | [(_, cc)], .ref cda => (match K.lookup cc, K.lookup cda with
      | some ⟨_, _, .cell (some (.ref C)), _⟩, some ⟨_, _, .fields vs, _⟩ => decide (C = He.ga K x) && (PySem.W.codeIn K (.ref cda) q && fileB file vs[2]?)
      | _, _ => false)
    | _, _ => false)
  | _ => false
/-- isinstance of its instances -/
def ecB (K : PySem.W.Frag) (D : Addr) : Bool := decide (PySem.W.findIn K (.ref D) "__getattribute__" = some (some (.builtin "BaseException.__getattribute__"))) && (decide (PySem.W.findIn K (.ref D) "__getattr__" = some none) && (decide (PySem.W.subIn K (.ref D) (.type "BaseException") = some true) &&
  (PySem.W.hasDictIn K D && (decide (PySem.W.findIn K (.ref D) "__class__" = some (some (.builtin "object.__class__"))) && (decide (PySem.W.specialIn K (.builtin "object.__class__") "__get__" = some (some (.builtin "getset_descriptor.__get__"))) &&
  (decide (PySem.W.takesIn K (.builtin "object.__class__") = some true) && decide (PySem.W.mroIn K D (.type "object") = some true)))))))
/-- the rest -/
def exA (K : PySem.W.Frag) : Bool := xcB K "BadRow" veT "ValueError.__new__" "ValueError" "ValueError.__init__" "at" && (xcB K "BadFamily" veT "ValueError.__new__" "ValueError" "ValueError.__init__" "at" && xcB K "NoPair" keT "LookupError.__new__" "KeyError" "KeyError.__init__" "pair")
def exB (K : PySem.W.Frag) : Bool := ecB K (He.ga K "BadRow") && (ecB K (He.ga K "BadFamily") && (ecB K (He.ga K "NoPair") && (decide (PySem.W.kitOne K (.ref (He.ga K "BadRow")) (.ref (He.ga K "BackError")) = some true) && (decide (PySem.W.kitOne K (.ref (He.ga K "BadFamily")) (.ref (He.ga K "BackError")) = some true) &&
  (decide (PySem.W.kitOne K (.ref (He.ga K "NoPair")) (.type "KeyError") = some true) && (decide (PySem.W.exmOne K (.ref (He.ga K "BadRow")) (.ref (He.ga K "BadRow")) = some true) && (decide (PySem.W.exmOne K (.ref (He.ga K "BadFamily")) (.ref (He.ga K "BadFamily")) = some true) &&
  (decide (PySem.W.exmOne K (.ref (He.ga K "NoPair")) (.ref (He.ga K "BadFamily")) = some false) && decide (PySem.W.exmOne K (.ref (He.ga K "NoPair")) (.ref (He.ga K "NoPair")) = some true)))))))))
def exC' (file : Str) (K : PySem.W.Frag) : Bool := xfB2 K file "BadRow" "BadRow.__init__" && (xfB2 K file "BadFamily" "BadFamily.__init__" && xfB2 K file "NoPair" "NoPair.__init__")
def exD (K : PySem.W.Frag) : Bool := decide (tabP K "pair_rows" ≠ tabP K "first_of") && (decide (tabP K "pair_rows" ≠ tabP K "_law_due") && decide (tabP K "first_of" ≠ tabP K "_law_due"))
def exAll (file : Str) (K : PySem.W.Frag) : Bool := exA K && (exB K && (exC' file K && exD K))
end BW

set_option Elab.async false
set_option linter.all false
set_option maxRecDepth 100000
set_option maxHeartbeats 0
/-! the head: its facts by one run of the top -/
namespace BW
open PySem PySem.Spec PyProof.Rows L2
def dF (x : Str) (i : Nat) : He.DefD := ⟨(x, none), x, x, defArgs (top i), defBody (top i), defScope (top i), [], []⟩
def dM (c m q : Str) (i j : Nat) : He.DefD := ⟨(c, some m), m, q, defArgs (inClass (top i) j), defBody (inClass (top i) j), defScope (inClass (top i) j), [], []⟩
def fn : List He.DefD := [dF "is_integer" 12, dF "is_number" 13, dF "is_text" 14, dF "is_sequence" 15, dF "is_lot_of" 16, dF "lot_within" 17, dM "Device" "__init__" "Device.__init__" 19 0,
  dF "is_table" 20, dF "need_pair" 22, dF "check_row" 23, dF "check_family" 26, dF "joined_lot" 27, dF "has_full" 28, dF "pair_of" 30, dF "next_node" 31, dF "round_rows" 33, dF "pair_rows" 34, dF "pairs_of" 35, dF "pair_web" 36,
  dF "levels_of" 37, dF "ranks_of" 38, dF "most_rounds" 39, dF "first_of" 40, dM "Keeper" "__init__" "Keeper.__init__" 41 0, dM "Keeper" "hear" "Keeper.hear" 41 1, dM "Keeper" "standing" "Keeper.standing" 41 2, dM "Keeper" "more_rounds" "Keeper.more_rounds" 41 3, dM "Keeper" "next_row" "Keeper.next_row" 41 4] ++
  [dF "_law_box" 43, dF "_law_take" 44, dF "_law_pick" 45, dF "_law_falling" 46, dF "_law_table" 47, dF "_law_named" 48, dF "_law_tables" 49, dF "_law_lots" 50, dF "_law_family" 51, dF "_law_full" 52, dF "_law_more" 53, dF "_law_next" 54, dF "_law_pairs" 55,
  dF "_law_steps" 56, dF "_law_web" 57, dF "_law_ranks" 58, dF "_law_rows" 59, dF "_law_due" 60, dF "_law_walk" 61, dF "_law_refused" 62, dF "_law_none" 63, dF "_law_followed" 64, dF "law" 65]
def glos1 : List Str := ["is_integer", "is_number", "is_text", "is_sequence", "is_lot_of", "lot_within", "Device", "is_table", "need_pair", "check_row", "check_family", "joined_lot", "has_full", "pair_of", "next_node", "round_rows", "pair_rows", "pairs_of", "pair_web",
  "levels_of", "ranks_of", "most_rounds", "first_of", "Keeper", "BackError", "BadRow", "BadFamily", "NoPair"]
def glos2 : List Str := ["_law_box", "_law_take", "_law_pick", "_law_falling", "_law_table", "_law_named", "_law_tables", "_law_lots", "_law_family", "_law_full", "_law_more", "_law_next", "_law_pairs",
  "_law_steps", "_law_web", "_law_ranks", "_law_rows", "_law_due", "_law_walk", "_law_refused", "_law_none", "_law_followed", "law"]
def glos : List Str := glos1 ++ glos2
def frees : List Str := ["isinstance", "int", "bool", "str", "list", "tuple", "len", "all", "any", "enumerate", "range", "sorted", "min", "max", "abs", "repr", "super", "KeyError", "ValueError"]
def fa : List He.Fa := glos.map He.Fa.glo ++ (frees.map He.Fa.free ++ [.str "SIGNALS" "abcde", .int "MOST_STATES" 60, .int "MOST_SIGNS" 10000, .int "MOST_LOTS" 31, .cls "Device", .mkr "Device", .noat "Device" "states", .noat "Device" "signals", .noat "Device" "tables",
  .cls "Keeper", .mkr "Keeper", .noat "Keeper" "device", .noat "Keeper" "lots", .noat "Keeper" "apart", .noat "Keeper" "ranks", .noat "Keeper" "since", .noat "Keeper" "cuts", .meth "Keeper" "hear", .meth "Keeper" "standing", .meth "Keeper" "more_rounds", .meth "Keeper" "next_row",
  .exm "BadRow" "BadRow" true, .exm "BadFamily" "BadFamily" true, .exm "NoPair" "NoPair" true, .exm "NoPair" "BadFamily" false])
def tf : List He.Defn := [("pair_rows", none), ("first_of", none), ("_law_due", none)]
def ex (K : PySem.W.Frag) : Bool := exAll PySem.Challenge.pw_backinstep_k90_whole_the_keeper.main.file K
abbrev R : PySem.W.OpenRow := PySem.W.OpenLaw.row PySem.Challenge.rw_backinstep_k90_whole_the_keeper
def xNames : List Str := ["BadRow", "BadFamily", "NoPair"]
def xVals : List XV := [xVal "BadRow.__init__" (inClass (top 4) 0), xVal "BadFamily.__init__" (inClass (top 5) 0), xVal "NoPair.__init__" (inClass (top 7) 0)]
/-- what is looked at: all that the names reach, and the statics -/
def asY (g : Addr → Option Obj) : List Addr := cStatics :: He.asD g 6
def alY (g : Addr → Option Obj) (K : PySem.W.Frag) : He.AlX × List XV := ((He.obsT fa fn [] K, ex K && He.tabsB g tf K), xNames.map (xObs K))
theorem says_of {w : World} {h : Heap} {as : List Addr} (e : ((He.obsT fa fn [] (He.frT h.get? as), ex (He.frT h.get? as) && He.tabsB h.get? tf (He.frT h.get? as)) : He.AlX) = He.valX fn [] w) : He.SaysX fa fn [] tf ex w h (He.frT h.get? as) := by
  have e2 : (ex (He.frT h.get? as) && He.tabsB h.get? tf (He.frT h.get? as)) = true := congrArg (fun z : He.AlX => z.2) e
  obtain ⟨h1, h2⟩ := Bool.and_eq_true_iff.mp e2
  have h3 := List.all_eq_true.mp h2
  have tab : ∀ p ∈ tf, ∃ o, h.get? (He.cT (He.frT h.get? as) p).2 = some o ∧ He.emptyTab o = true := fun p hp => by
    have h4 := (Bool.and_eq_true_iff.mp (h3 p hp)).2
    cases q : h.get? (He.cT (He.frT h.get? as) p).2 with
    | none =>
      rw [q] at h4
      cases h4
    | some o =>
      rw [q] at h4
      exact ⟨o, rfl, h4⟩
  refine ⟨congrArg (fun z : He.AlX => z.1) e, h1, fun p hp => (Bool.and_eq_true_iff.mp (h3 p hp)).1, fun p hp => ?_, fun p hp => ?_⟩
  · obtain ⟨o, q1, q2⟩ := tab p hp
    exact He.frT_none q1 q2
  · obtain ⟨o, q1, q2⟩ := tab p hp
    rw [q1, He.emptyTab_eq q2]
/-- the facts, and the three __init__ with a cell -/
def hkY : PySem.W.Hook where
  α := He.AlX × List XV
  obs := fun s => alY s.heap.get? (He.frT s.heap.get? (asY s.heap.get?))
  val := fun w => (He.valX fn [] w, xVals)
  says := fun w h => ∃ K : PySem.W.Frag, K.In h ∧ He.SaysX fa fn [] tf ex w h K ∧ xNames.map (xObs K) = xVals
  of := fun _ _ e => ⟨_, He.frT_in, says_of (congrArg (fun z : He.AlX × List XV => z.1) e), congrArg (fun z : He.AlX × List XV => z.2) e⟩
  keeps := fun _ _ _ ⟨K, hK, c, e⟩ k => ⟨K, PySem.W.Frag.In.keeps hK k, ⟨c.t, c.more, c.hd, c.out, fun p hp => k _ _ (c.empty p hp)⟩, e⟩
def obY (s : PySem.W.SharedT) : He.AlX × List XV := alY (HandSHeadRun.getT s) (He.frT (HandSHeadRun.getT s) (asY (HandSHeadRun.getT s)))
theorem obY_eq (s : PySem.W.SharedT) : obY s = hkY.obs s.abs := by
  have e : HandSHeadRun.getT s = s.abs.heap.get? := funext (HandSHeadRun.getT_eq s)
  unfold obY
  rw [e]
  rfl
def names1 : List Str := ["_wall", "__name__", "BackError", "BadDevice", "BadRow", "BadFamily", "NoState", "NoPair", "SIGNALS", "MOST_STATES", "MOST_SIGNS", "is_integer", "is_number", "is_text", "is_sequence", "is_lot_of", "lot_within", "Device", "is_table", "need_state", "need_pair", "check_row", "MOST_LOTS", "check_family", "joined_lot", "has_full", "pair_of", "next_node", "round_rows"]
def names2 : List Str := ["pair_rows", "pairs_of", "pair_web", "levels_of", "ranks_of", "most_rounds", "first_of", "Keeper", "_law_box", "_law_take", "_law_pick", "_law_falling", "_law_table", "_law_named", "_law_tables", "_law_lots", "_law_family", "_law_full", "_law_more", "_law_next", "_law_pairs",
  "_law_steps", "_law_web", "_law_ranks", "_law_rows", "_law_due", "_law_walk", "_law_refused", "_law_none", "_law_followed"]
def names : List Str := names1 ++ names2
end BW

set_option Elab.async false
set_option linter.all false
set_option maxRecDepth 100000
set_option maxHeartbeats 0
/-! the run of the top -/
namespace BW
open PySem PySem.Spec PyProof.Rows L2
theorem runY (w : World) : HandSHeadRun.RunEq R (PySem.W.view R.prog [65]) hkY obY 20000 names w := by
  intro os
  kernel_rfl
end BW

set_option Elab.async false
set_option linter.all false
set_option maxRecDepth 100000
set_option maxHeartbeats 4000000
/-! words: is_integer .. lot_within -/
namespace BW
open PySem PySem.Spec PyProof.Rows L2 SX
section
variable {P : Program} {w : World} {K : PySem.W.Frag} {mg : Str → Option Value} {base : Heap}
def sp_is_integer : Sp := fun vs H Q _ => ∃ i : Int, vs = [.int i] ∧ Q (.bl true) H
theorem sc_is_integer : FnScope ["value"] ["value"] (defScope (top 12)) := ⟨rfl, rfl, rfl, by decide +kernel, rfl, by decide +kernel, by decide +kernel⟩
theorem ok_is_integer (T : Tx K mg) : Cal CX0 P w K mg base 1 "is_integer" sp_is_integer := by
  refine cal_of0 T.F_is_integer T.g_is_integer (fun _ _ _ _ _ _ us hl => match us, hl with | [_], _ => rfl) sc_is_integer (fun vs H Q E h => ?_) (fun cdv A outer s H vs Q E hr h => ?_)
  · obtain ⟨i, rfl, _⟩ := h
    rfl
  · obtain ⟨i, rfl, k⟩ := h
    refine ⟨_, pss_one (ps_ret (pe_and (pe_callB call_isi (by rfl) T.n_isinstance (by decide +kernel) (pa_cons (pv 0) (pa_cons (pe_bltn (v := .ty "int") (by rfl) T.n_int (by decide +kernel) rfl) pa_nil)))
      (pe_one (pe_not (pe_callB call_isi (by rfl) T.n_isinstance (by decide +kernel) (pa_cons (pv 0) (pa_cons (pe_bltn (v := .ty "bool") (by rfl) T.n_bool (by decide +kernel) rfl) pa_nil))))))), ?_⟩
    refine ⟨_, rfl, _, _, _, _, true, rfl, .ty _, .base (.int i), kit_ty (by decide +kernel), true, rfl, iteT ?_⟩
    exact ⟨_, rfl, _, _, _, _, false, rfl, .ty _, .base (.int i), kit_ty (by decide +kernel), false, rfl, k⟩
def sp_is_number : Sp := fun vs H Q _ => ∃ i : Int, vs = [.int i] ∧ Q (.bl (decide (0 ≤ i))) H
theorem sc_is_number : FnScope ["value"] ["value"] (defScope (top 13)) := ⟨rfl, rfl, rfl, by decide +kernel, rfl, by decide +kernel, by decide +kernel⟩
theorem ok_is_number (T : Tx K mg) : Cal CX0 P w K mg base 2 "is_number" sp_is_number := by
  refine cal_of0 T.F_is_number T.g_is_number (fun _ _ _ _ _ _ us hl => match us, hl with | [_], _ => rfl) sc_is_number (fun vs H Q E h => ?_) (fun cdv A outer s H vs Q E hr h => ?_)
  · obtain ⟨i, rfl, _⟩ := h
    rfl
  · obtain ⟨i, rfl, k⟩ := h
    refine ⟨_, pss_one (ps_ret (pe_and (pe_c (ok_is_integer T) hr (by rfl) (pa_cons (pv 0) pa_nil)) (pe_one (pe_cmpR op_ge (pv 0) pe_int (nomark _))))), ?_⟩
    exact ⟨_, rfl, i, rfl, true, rfl, iteT ⟨_, rfl, _, _, rfl, rfl, k⟩⟩
/-! ### texts -/
theorem joinL_sings : ∀ l : List Nat, TL.joinL [] (l.map fun c => [c]) = l
  | [] => rfl
  | [c] => rfl
  | c :: d :: l => by
    have e := joinL_sings (d :: l)
    show [c] ++ ([] ++ TL.joinL [] ((d :: l).map fun c => [c])) = c :: d :: l
    rw [e]
    rfl
theorem join_sings (l : List Nat) : _root_.PySem.Txt.join (S []) (l.map fun c => S [c]) = S l := by
  have e := join_S [] (l.map fun c => [c])
  rw [List.map_map, joinL_sings] at e
  exact e
theorem sum_sings (l : List Nat) : ((l.map fun c => S [c]).map (·.length)).sum = l.length := by
  induction l with
  | nil => rfl
  | cons c l ih =>
    rw [List.map_cons, List.map_cons, List.sum_cons, ih, List.length_cons]
    show 1 + l.length = l.length + 1
    omega
/-- no test -/
theorem tYes_in {σ : L2.St} {H : Hp} {A B : Hp → Prop} (h : A H) : tYes σ H (fun b H3 => if b = true then A H3 else B H3)   := by
  show if true = true then A H else B H
  rw [if_pos rfl]
  exact h
/-- a text's own signs -/
theorem walk_S {z : List Nat} : Walk (Its (S z)) z.length (fun _ => True) (fun i H v H' => H' = H ∧ ∃ c, z[i]? = some c ∧ v = .str (S [c])) :=
  ⟨fun i _ hi _ => by show i < z.toArray.size; simpa using hi, fun _ _ => by show z.toArray.size ≤ z.length; simp, fun i H x H' _ _ y => by
    obtain ⟨y1, c, h1, h2⟩ := y
    exact ⟨y1, c, by simpa using h1, h2⟩⟩
theorem take_succ {α : Type} {l : List α} {i : Nat} {x : α} (h : l[i]? = some x) : l.take (i + 1) = l.take i ++ [x] := by
  rw [List.take_succ, h]
  rfl
def sp_is_text : Sp := fun vs H Q _ => ∃ v, vs = [v] ∧ ((∃ x, v = .str x ∧ Q (.bl true) H) ∨ (v = .non ∧ Q (.bl false) H) ∨ ∃ a xs, v = .ref a ∧ H a = some (.lst xs) ∧ Q (.bl false) H)
theorem sc_is_text : FnScope ["value"] ["value"] (defScope (top 14)) := ⟨rfl, rfl, rfl, by decide +kernel, rfl, by decide +kernel, by decide +kernel⟩
theorem ok_is_text (T : Tx K mg) : Cal CX0 P w K mg base 1 "is_text" sp_is_text := by
  refine cal_of0 T.F_is_text T.g_is_text (fun _ _ _ _ _ _ us hl => match us, hl with | [_], _ => rfl) sc_is_text (fun vs H Q E h => ?_) (fun cdv A outer s H vs Q E hr h => ?_)
  · obtain ⟨i, rfl, _⟩ := h
    rfl
  · obtain ⟨v, rfl, k⟩ := h
    refine ⟨_, pss_one (ps_ret (pe_callB call_isi (by rfl) T.n_isinstance (by decide +kernel) (pa_cons (pv 0) (pa_cons (pe_bltn (v := .ty "str") (by rfl) T.n_str (by decide +kernel) rfl) pa_nil)))), ?_⟩
    rcases k with ⟨x, rfl, k⟩ | ⟨rfl, k⟩ | ⟨a, xs, rfl, ha, k⟩
    · exact ⟨_, rfl, _, _, _, _, true, rfl, .ty _, .base (.str x), kit_ty (by decide +kernel), k⟩
    · exact ⟨_, rfl, _, _, _, _, false, rfl, .ty _, .base .non, kit_ty (by decide +kernel), k⟩
    · exact ⟨_, rfl, _, _, _, _, false, rfl, .ty _, .base (.lst ha), kit_ty (by decide +kernel), k⟩
/-- a list or a tuple -/
def IsSeq (H : Hp) (a : Addr) : Prop := ∃ xs, H a = some (.lst xs) ∨ H a = some (.tup xs)
theorem same_new {H : Hp} {a : Addr} {o : HO} (n : H a = none) : Same H (upd H a o) := fun b u e => by rw [upd_ne (ne_of_none e n)]; exact e
def sp_is_sequence : Sp := fun vs H Q _ => ∃ a, vs = [.ref a] ∧ IsSeq H a ∧ ∀ H', Same H H' → Q (.bl true) H'
theorem sc_is_sequence : FnScope ["value"] ["value"] (defScope (top 15)) := ⟨rfl, rfl, rfl, by decide +kernel, rfl, by decide +kernel, by decide +kernel⟩
theorem kitAny2 {K : PySem.W.Frag} {t a b : String} {x y : Bool} (h1 : kitB t a = some x) (h2 : kitB t b = some y) (h : (x || y) = true) : PySem.W.kitAny K (.type t) [.type a, .type b] = some true := by
  refine kitAny_cons (kit_ty h1) (fun e => ?_) fun _ => rfl
  refine kitAny_cons (kit_ty h2) (fun e2 => ?_) fun _ => rfl
  rw [e, e2] at h
  cases h
theorem ok_is_sequence (T : Tx K mg) : Cal CX0 P w K mg base 1 "is_sequence" sp_is_sequence := by
  refine cal_of0 T.F_is_sequence T.g_is_sequence (fun _ _ _ _ _ _ us hl => match us, hl with | [_], _ => rfl) sc_is_sequence (fun vs H Q E h => ?_) (fun cdv A outer s H vs Q E hr h => ?_)
  · obtain ⟨i, rfl, _⟩ := h
    rfl
  · obtain ⟨a, rfl, ⟨xs, ha⟩, k⟩ := h
    refine ⟨_, pss_one (ps_ret (pe_callB call_isiT (by rfl) T.n_isinstance (by decide +kernel) (pa_cons (pv 0) (pa_cons (pe_tup (pa_cons (pe_bltn (v := .ty "list") (by rfl) T.n_list (by decide +kernel) rfl) (pa_cons (pe_bltn (v := .ty "tuple") (by rfl) T.n_tuple (by decide +kernel) rfl) pa_nil))) pa_nil)))), ?_⟩
    refine ⟨_, rfl, by show 2 ≤ sizeLine; decide, fun p np => ?_⟩
    have hcl : Paired ClsV [V.ty "list", V.ty "tuple"] [Value.type "list", Value.type "tuple"] := .cons (.ty _) (.cons (.ty _) .nil)
    rcases ha with ha | ha
    · exact ⟨.ref a, p, _, .type "list", _, true, rfl, upd_same, hcl, .base (.lst (by rw [upd_ne (ne_of_none ha np)]; exact ha)), kitAny2 (x := true) (y := false) (by decide +kernel) (by decide +kernel) rfl, k _ (same_new np)⟩
    · exact ⟨.ref a, p, _, .type "tuple", _, true, rfl, upd_same, hcl, .base (.tup (by rw [upd_ne (ne_of_none ha np)]; exact ha)), kitAny2 (x := false) (y := true) (by decide +kernel) (by decide +kernel) rfl, k _ (same_new np)⟩
def sp_is_lot_of : Sp := fun vs H Q _ => ∃ x y : List Nat, vs = [.str (S x), .str (S y)] ∧ x.length ≤ 1000 ∧ y.length ≤ 1000 ∧ ∀ H', Same H H' → Q (.bl (decide (x = y.filter fun c => x.contains c))) H'
theorem sc_is_lot_of : FnScope ["value", "signals", "signal"] ["value", "signals"] (defScope (top 16)) := ⟨rfl, rfl, rfl, by decide +kernel, rfl, by decide +kernel, by decide +kernel⟩
theorem ok_is_lot_of (T : Tx K mg) : Cal CX0 P w K mg base 2 "is_lot_of" sp_is_lot_of := by
  refine cal_of0 T.F_is_lot_of T.g_is_lot_of (fun _ _ _ _ _ _ us hl => match us, hl with | [_, _], _ => rfl) sc_is_lot_of (fun vs H Q E h => ?_) (fun cdv A outer s H vs Q E hr h => ?_)
  · obtain ⟨x, y, rfl, _⟩ := h
    rfl
  · obtain ⟨x, y, rfl, hx, hy, k⟩ := h
    refine ⟨_, pss_one (ps_ret (pe_and (pe_c (ok_is_text T) hr (by rfl) (pa_cons (pv 0) pa_nil)) (pe_one (pe_cmpR op_eq (pv 0)
      (pe_join pe_str (pe_lc (own := [("signal", 2)]) (g := gName 2) (by rfl) sc_is_lot_of.nd (pi_str (pv 1)) (blkOk_by (N := ["value", "signals", "signal"]) (sc := defScope (top 16)) (by decide +kernel)) (fun _ _ _ _ _ => pg_name (i := 2) sc_is_lot_of.nd rfl (Or.inl rfl))
        (fun _ _ _ _ _ => pts_one (pt_cmpR op_in_sign (pv 2) (pv 0) rfl)) (fun _ _ _ _ _ => pv 2))) (nomark _))))), ?_⟩
    refine ⟨_, rfl, _, rfl, .inl ⟨_, rfl, true, rfl, iteT ?_⟩⟩
    refine ⟨_, rfl, ⟨_, rfl⟩, _, rfl, S y, rfl, fun D nD => ?_⟩
    refine lc_it walk_S (fun i H' => Same H H' ∧ H' D = some (.lst (((y.take i).filter fun c => x.contains c).map fun c => V.str (S [c])))) ⟨same_new nD, upd_same⟩ (fun _ _ _ _ => trivial) ?_ ?_
    · rintro i v H1 H2 hi ⟨sm, hD⟩ ⟨rfl, c, hc, rfl⟩
      refine ⟨rfl, _, rfl, _, rfl, c, S x, rfl, rfl, _, rfl, ?_⟩
      have hl : ((y.take i).filter fun c => x.contains c).length ≤ 1000 := Nat.le_trans (List.length_filter_le _ _) (Nat.le_trans (List.length_take_le' _ _) hy)
      have e0 : (decide (c ∈ (S x).cps.toList) : Bool) = x.contains c := by
        rw [Bool.eq_iff_iff, decide_eq_true_eq, List.contains_iff_mem]
      rw [e0]
      cases e : x.contains c with
      | true =>
        refine iteT ⟨_, rfl, _, hD, by rw [List.length_map]; exact small1000 hl, fun b o q => ?_, ?_⟩
        · rw [upd_ne (fun z => by rw [z, nD] at q; cases q)]
          exact sm b o q
        · rw [upd_same, take_succ hc, List.filter_append, List.map_append]
          rw [List.filter_cons, if_pos e]
          rfl
      | false =>
        refine iteF ⟨sm, ?_⟩
        rw [hD, take_succ hc, List.filter_append, List.filter_cons, if_neg (by rw [e]; decide), List.filter_nil, List.append_nil]
    · rintro H1 ⟨sm, hD⟩
      rw [List.take_length] at hD
      refine ⟨S [], D, (y.filter fun c => x.contains c).map fun c => S [c], rfl, rfl, .inl (SqL.of (by rw [hD, List.map_map]; rfl)), ?_, ?_⟩
      · rw [sum_sings]
        have := List.length_filter_le (fun c => x.contains c) y
        show _ + _ * 0 ≤ _
        omega
      · rw [join_sings]
        refine ⟨rfl, ?_⟩
        have e : decide (V.str (S x) = V.str (S (y.filter fun c => x.contains c))) = decide (x = y.filter fun c => x.contains c) := by
          rw [Bool.eq_iff_iff, decide_eq_true_eq, decide_eq_true_eq]
          exact ⟨fun h => S_inj (V.str.inj h), fun h => by rw [← h]⟩
        rw [e]
        exact k H1 sm
def sp_lot_within : Sp := fun vs H Q _ => ∃ x y : List Nat, vs = [.str (S x), .str (S y)] ∧ x.length ≤ 1000 ∧ ∀ H', Same H H' → Q (.bl (x.all fun c => y.contains c)) H'
theorem sc_lot_within : FnScope ["lot", "other", "signal"] ["lot", "other"] (defScope (top 17)) := ⟨rfl, rfl, rfl, by decide +kernel, rfl, by decide +kernel, by decide +kernel⟩
theorem ok_lot_within (T : Tx K mg) : Cal CX0 P w K mg base 1 "lot_within" sp_lot_within := by
  refine cal_of0 T.F_lot_within T.g_lot_within (fun _ _ _ _ _ _ us hl => match us, hl with | [_, _], _ => rfl) sc_lot_within (fun vs H Q E h => ?_) (fun cdv A outer s H vs Q E hr h => ?_)
  · obtain ⟨x, y, rfl, _⟩ := h
    rfl
  · obtain ⟨x, y, rfl, hx, k⟩ := h
    refine ⟨_, pss_one (ps_ret (pe_callB (cr_all rfl) (by rfl) T.n_all (by decide +kernel) (pa_cons
      (pe_lc (own := [("signal", 2)]) (g := gName 2) (by rfl) sc_lot_within.nd (pi_str (pv 0)) (blkOk_by (N := ["lot", "other", "signal"]) (sc := defScope (top 17)) (by decide +kernel)) (fun _ _ _ _ _ => pg_name (i := 2) sc_lot_within.nd rfl (Or.inl rfl))
        (fun _ _ _ _ _ => pts_nil) (fun _ _ _ _ _ => pe_cmpR op_in_sign (pv 2) (pv 1) rfl)) pa_nil))), ?_⟩
    refine ⟨_, rfl, S x, rfl, fun D nD => ?_⟩
    refine lc_it walk_S (fun i H' => Same H H' ∧ H' D = some (.lst ((x.take i).map fun c => V.bl (y.contains c)))) ⟨same_new nD, upd_same⟩ (fun _ _ _ _ => trivial) ?_ ?_
    · rintro i v H1 H2 hi ⟨sm, hD⟩ ⟨rfl, c, hc, rfl⟩
      refine ⟨rfl, tYes_in ?_⟩
      refine ⟨_, rfl, _, rfl, c, S y, rfl, rfl, _, hD, ?_, fun b o q => ?_, ?_⟩
      · rw [List.length_map]
        exact small1000 (Nat.le_trans (List.length_take_le' _ _) hx)
      · rw [upd_ne (fun z => by rw [z, nD] at q; cases q)]
        exact sm b o q
      · have e0 : (decide (c ∈ (S y).cps.toList) : Bool) = y.contains c := by
          rw [Bool.eq_iff_iff, decide_eq_true_eq, List.contains_iff_mem]
        rw [upd_same, take_succ hc, List.map_append, e0]
        all_goals rfl
    · rintro H1 ⟨sm, hD⟩
      rw [List.take_length] at hD
      refine ⟨D, x.map fun c => y.contains c, rfl, SqL.of (by rw [hD, List.map_map]; rfl), ?_⟩
      have e : ((x.map fun c => y.contains c).all id) = x.all fun c => y.contains c := by
        rw [List.all_map]
        rfl
      rw [e]
      exact k H1 sm
end
end BW

set_option Elab.async false
set_option linter.all false
set_option maxRecDepth 100000
set_option maxHeartbeats 4000000
/-! enumerate of a text, of a tuple -/
namespace BW
open PySem PySem.Spec PyProof.Rows L2 SX
theorem meets_enum1 {v : Value} {o : Obj} {Hh : Heap → Prop} (B : Begins v o Hh) :
    Meets (Builtin.«enumerate.__new__» ⟨[.type "enumerate", v], []⟩) (fun _ R s => Hh s.heap ∧
      R (.ok (.ret (.ref (s.heap.push o).objs.size))) { s with heap := (s.heap.push o).push { cls := .type "enumerate", data := .fields #[.none, .bool false, .ref s.heap.objs.size, rawInt 0, .none, .none] } }) :=
  .of_wp fun prog w A R s h => by
    obtain ⟨hp, g, d, tk, os⟩ := s
    obtain ⟨hH, h⟩ := h
    have hsub := sub_enumerate
    have it : ∀ (A : Around) (E : Value → Shared → Prop) (Q : Value → Shared → Prop), Q (.ref hp.objs.size) ⟨hp.push o, g, d, tk, os⟩ → wpAny (model prog w) A (pyIter v) Q E ⟨hp, g, d, tk, os⟩ := fun A E Q q => B.iter prog w A E ⟨hp, g, d, tk, os⟩ Q hH q
    wp_walk
    refine wpAny_stack_any fun st => wpAny_pure ?_
    split
    · rename_i c _ _ _ _ _
      cases (c == Value.type "enumerate")
      · wp_walk using it
        exact ⟨_, rfl, h⟩
      · wp_walk using it
        exact ⟨_, rfl, h⟩
    · wp_walk using it
      exact ⟨_, rfl, h⟩
theorem call_enum1 {prog : Program} {w : World} {A : Around} {E : Value → Shared → Prop} {s : Shared} {v : Value} {o : Obj} {Hh : Heap → Prop} {Q : Value → Shared → Prop} (B : Begins v o Hh) (hH : Hh s.heap)
    (h : ∀ h', IsEnum h' (s.heap.objs.size + 1) s.heap.objs.size 0 .none → h'.get? s.heap.objs.size = some o → h'.objs.size = s.heap.objs.size + 2 → (∀ b u, s.heap.get? b = some u → h'.get? b = some u) → Q (.ref (s.heap.objs.size + 1)) { s with heap := h' }) :
    wpAny (model prog w) A (call (.type "enumerate") [v]) Q E s := by
  refine callType_new F.called_enumerate (by decide) (F.typeCall_enumerate_1 _) (F.newCall_enumerate_1 _) (fun obj => F.args_object_init_2 obj _) F.entry_enumerate_new (meets_enum1 B) ⟨hH, ?_⟩
  have hz : (s.heap.push o).objs.size = s.heap.objs.size + 1 := Heap.size_push ..
  show _ ∧ _
  rw [hz]
  have he : IsEnum ((s.heap.push o).push { cls := .type "enumerate", data := .fields #[.none, .bool false, .ref s.heap.objs.size, rawInt 0, .none, .none] }) (s.heap.objs.size + 1) s.heap.objs.size 0 .none := by
    have z := Heap.get?_push_size (s.heap.push o) (o := { cls := .type "enumerate", data := .fields #[.none, .bool false, .ref s.heap.objs.size, rawInt 0, .none, .none] }) rfl
    rw [hz] at z
    exact z
  refine ⟨⟨_, he, rfl⟩, h _ he (Heap.get?_push_of_some _ (Heap.get?_push_size _ B.free)) (by rw [Heap.size_push, hz]) fun b u x => Heap.get?_push_of_some _ (Heap.get?_push_of_some _ x)⟩
/-- the turns of an enumerate: what the inner one gives at turn i is told by J -/
theorem turn_enumG {P : Program} {w : World} {K : PySem.W.Frag} {elts : List Expr} {kk : Nat} {tpos : Pos} {J : It} {e it : Addr} {Sti : Nat → Heap → Prop} {Ji : Nat → Hp → V → Prop} (hne : e ≠ it)
    (obj : ∀ i h, Sti i h → ∃ o, h.get? it = some o ∧ ∀ v, o.data ≠ .cell v) (keep : ∀ i h h', Sti i h → (∀ o, h.get? it = some o → h'.get? it = some o) → Sti i h')
    (yl : ∀ i H T x, H T = none → J.go i H → Ji i H x → J.yld i H (.ref T) (upd H T (.tup [.int (i : Nat), x])))
    (item : ∀ (X : Cx), X.prog = P → X.w = w → X.K = K → X.calm = true → ∀ (i : Nat) (pins : List (Addr × Obj)) (s : Shared) (σ : L2.St) (H : Hp), Inv X pins σ H s → Sti i s.heap → J.go i H →
      ∃ (fp : List Addr) (n : Nat) (Pv : Nat → Value → Prop) (Sd : Nat → Heap → Prop), Draws P w X.A.in1 it fp n Pv Sd ∧ e ∉ fp ∧ i < n ∧ Sd i s.heap ∧ (∀ v, Pv i v → ∃ x, RelV x v ∧ Ji i H x) ∧ ∀ h', Sd (i + 1) h' → Sti (i + 1) h')
    (done : ∀ (X : Cx), X.prog = P → X.w = w → X.K = K → X.calm = true → ∀ (i : Nat) (pins : List (Addr × Obj)) (s : Shared) (σ : L2.St) (H : Hp), Inv X pins σ H s → Sti i s.heap → J.stop i H →
      ∃ (fp : List Addr) (Pv : Nat → Value → Prop) (Sd : Nat → Heap → Prop), Draws P w X.A.in1 it fp i Pv Sd ∧ Sd i s.heap) :
    Turn P w K (.Tuple elts kk tpos) J [e, it] e (fun i h => (∃ old, IsEnum h e it ((i : Nat) : Int) old) ∧ Sti i h) where
  mem := by simp
  obj := fun i h st b hb => by
    obtain ⟨⟨old, he⟩, hi⟩ := st
    have e' : b = e ∨ b = it := by simpa using hb
    rcases e' with z | z
    · rw [z]; exact ⟨_, he, fun v q => nomatch q⟩
    · rw [z]; exact obj i h hi
  keep := fun i h h' st k => by
    obtain ⟨⟨old, he⟩, hi⟩ := st
    exact ⟨⟨old, k e (by simp) _ he⟩, keep i h h' hi fun o q => k it (by simp) o q⟩
  item := by
    intro X hP hw hK hc i pins s σ H E I hf st hg
    obtain ⟨fp, n, Pv, Sd, D, hef, hlt, hsd, hv, hnx⟩ := item X hP hw hK hc i pins s σ H I st.2 hg
    subst hP hw hK
    obtain ⟨⟨old, he⟩, hit⟩ := st
    have hel : e < s.heap.objs.size := Heap.lt_size he
    obtain ⟨oi, hoi, _⟩ := obj i _ hit
    have hil : it < s.heap.objs.size := Heap.lt_size hoi
    refine wpAny_pyNext_enum_itemD D he hsd hlt hne hef fun u h' tk hPx ho hst' hT hsz hk => ?_
    obtain ⟨x, ru, jx⟩ := hv u hPx
    refine ⟨_, rfl, wpAny_letOwnedTupleGo_enum (s := { s with heap := h', toks := tk + 1 }) ho fun h'' he' sb => ?_⟩
    have hT2 : h''.get? s.heap.objs.size = some { cls := .type "tuple", data := .seq #[.int i tk, u] } := (sb.2 _ (Nat.ne_of_gt hel)).trans hT
    have new : ObjOk X.prog X.w (upd H s.heap.objs.size (.tup [.int (i : Nat), x])) h'' s.heap.objs.size (.tup [.int (i : Nat), x]) :=
      ⟨by show 2 ≤ sizeLine; decide, [.int i tk, u], .cons ⟨_, rfl⟩ (.cons ru .nil), ⟨_, hT2, rfl, _, rfl⟩⟩
    have nT : H s.heap.objs.size = none := I.hok.fresh (Nat.le_refl _)
    have I1 : Inv X pins σ (upd H s.heap.objs.size (.tup [.int (i : Nat), x])) { s with heap := h'', toks := tk + 1 } :=
      I.turnedNew (ch := [e, it]) (fun b ob hb q => (sb.2 b (fun z => hb (by simp [z]))).trans (hk b ob (fun z => hb (by simp [z])) (fun z => hb (by simp [z])) q)) hf (Nat.le_refl _) new
    refine ⟨.ref s.heap.objs.size, _, I1, rfl, yl i H _ x nT hg jx, ⟨⟨u, ?_⟩, keep _ _ _ (hnx _ hst') fun o q => (sb.2 it (Ne.symm hne)).trans q⟩, fun b hb => ?_⟩
    · have e1 : ((i + 1 : Nat) : Int) = (i : Int) + 1 := by omega
      rw [e1]; exact he'
    · have hb' : b < s.heap.objs.size := by
        have e' : b = e ∨ b = it := by simpa using hb
        rcases e' with z | z
        · rw [z]; exact hel
        · rw [z]; exact hil
      rw [upd_ne (Nat.ne_of_lt hb')]
      exact (hf b hb).1
  done := by
    intro X hP hw hK hc i pins s σ H E I hf st hg
    obtain ⟨fp, Pv, Sd, D, hsd⟩ := done X hP hw hK hc i pins s σ H I st.2 hg
    subst hP hw hK
    obtain ⟨⟨old, he⟩, hit⟩ := st
    obtain ⟨f0, f1, f2, f3, f4, f5⟩ := hf it (by simp)
    exact wpAny_pyNext_enum_endD D he hsd fun h' eb => ⟨rfl, I.turned (t' := s.toks) (fun b o hb q => eb b o hb q) f0 f1 f3 f4 f5⟩
  self := fun A i s Q E st h => by
    obtain ⟨⟨_, he⟩, _⟩ := st
    exact wpAny_pyIter_enum he h
/-- enumerate of a text -/
def Itxs (z : List Nat) : It := ⟨fun i _ => i < z.length, fun i H v H' => ∃ T c, v = .ref T ∧ H T = none ∧ H' = upd H T (.tup [.int (i : Nat), .str (S [c])]) ∧ z[i]? = some c, fun i _ => i = z.length⟩
/-- enumerate of a tuple -/
def Itxt (K : PySem.W.Frag) (a : Addr) : It := ⟨fun i H => ∃ (xs : List V) (x : V), SqT K H a xs ∧ xs[i]? = some x, fun i H v H' => ∃ T x, v = .ref T ∧ H T = none ∧ H' = upd H T (.tup [.int (i : Nat), x]) ∧ ∀ xs, SqT K H a xs → xs[i]? = some x,
  fun i H => ∃ xs : List V, SqT K H a xs ∧ xs.length = i⟩
theorem turn_enumS {P : Program} {w : World} {K : PySem.W.Frag} {elts : List Expr} {kk : Nat} {tpos : Pos} {z : List Nat} {t : Tok} {e it : Addr} (hne : e ≠ it) :
    Turn P w K (.Tuple elts kk tpos) (Itxs z) [e, it] e (fun i h => (∃ old, IsEnum h e it ((i : Nat) : Int) old) ∧ h.IsStrIter it (strIterType (S z)) (S z) t i) := by
  refine turn_enumG (Ji := fun i _ x => ∃ c, z[i]? = some c ∧ x = .str (S [c])) hne (fun i h st => ?_) (fun i h h' st k => ?_) (fun i H T x nT hg j => ?_) (fun X hP hw hK hc i pins s σ H I st hg => ?_) (fun X hP hw hK hc i pins s σ H I st hg => ?_)
  · obtain ⟨o, ho, hcl, hd⟩ := st
    exact ⟨o, ho, fun v q => by rw [hd] at q; cases q⟩
  · obtain ⟨o, ho, r⟩ := st
    exact ⟨o, k o ho, r⟩
  · obtain ⟨c, h1, rfl⟩ := j
    exact ⟨T, c, rfl, nT, rfl, h1⟩
  · refine ⟨[it], _, _, _, Draws.text (prog := P) (w := w) (A := X.A.in1) (I.ok.hd hc) it (S z) t, by simpa using hne, ?_, st, fun v hv => ?_, fun h' h => h⟩
    · have hg : i < z.length := hg
      show i < z.toArray.size
      simpa using hg
    · obtain ⟨c, u, h1, h2⟩ := hv
      exact ⟨.str (S [c]), ⟨u, h2⟩, c, by simpa using h1, rfl⟩
  · have hg : i = z.length := hg
    have hn : (S z).cps.size = i := by rw [hg]; show z.toArray.size = z.length; simp
    have D := Draws.text (prog := P) (w := w) (A := X.A.in1) (I.ok.hd hc) it (S z) t
    rw [hn] at D
    exact ⟨[it], _, _, D, st⟩
theorem turn_enumT {P : Program} {w : World} {K : PySem.W.Frag} {elts : List Expr} {kk : Nat} {tpos : Pos} {a e it : Addr} (hne : e ≠ it) (hea : e ≠ a) (hia : it ≠ a) :
    Turn P w K (.Tuple elts kk tpos) (Itxt K a) [e, it] e (fun i h => (∃ old, IsEnum h e it ((i : Nat) : Int) old) ∧ h.IsTupleIter it a i) := by
  refine turn_enumG (Ji := fun i H x => ∀ xs, SqT K H a xs → xs[i]? = some x) hne (fun i h st => ?_) (fun i h h' st k => ?_) (fun i H T x nT hg j => ?_) (fun X hP hw hK hc i pins s σ H I st hg => ?_) (fun X hP hw hK hc i pins s σ H I st hg => ?_)
  · obtain ⟨o, ho, hcl, hd⟩ := st
    exact ⟨o, ho, fun v q => by rw [hd] at q; cases q⟩
  · obtain ⟨o, ho, r⟩ := st
    exact ⟨o, k o ho, r⟩
  · exact ⟨T, x, rfl, nT, rfl, j⟩
  · subst hP hw hK
    obtain ⟨xs, x, hq, hx⟩ := hg
    obtain ⟨its, rv, ht, hz⟩ := I.tuple hq
    obtain ⟨u, hu, ru⟩ := rv.get hx
    refine ⟨[it, a], _, _, _, Draws.tuple (prog := X.prog) (w := X.w) (A := X.A.in1) (I.ok.hd hc) it a (Ne.symm hia) its.toArray, by simp [hne, hea], ?_, ⟨st, ht⟩, fun v hv => ?_, fun h' h => h.1⟩
    · have := (List.getElem?_eq_some_iff.mp hu).1
      simpa using this
    · have hv : its[i]? = some v := by simpa using hv
      rw [hu] at hv
      cases hv
      exact ⟨x, ru, fun ys hy => by rw [I.tuple_inj hy hq]; exact hx⟩
  · subst hP hw hK
    obtain ⟨xs, hq, hx⟩ := hg
    obtain ⟨its, rv, ht, hz⟩ := I.tuple hq
    have hl := rv.length
    have D := Draws.tuple (prog := X.prog) (w := X.w) (A := X.A.in1) (I.ok.hd hc) it a (Ne.symm hia) its.toArray
    have hn : its.toArray.size = i := by rw [List.size_toArray, ← hl, hx]
    rw [hn] at D
    exact ⟨[it, a], _, _, D, st, ht⟩
def iEnumS (ta : TA) : TI := fun σ H R => ta σ H fun vs H1 => ∃ z : List Nat, vs = [.str (S z)] ∧ R (Itxs z) H1
def iEnumT (K : PySem.W.Frag) (ta : TA) : TI := fun σ H R => ta σ H fun vs H1 => ∃ a xs, vs = [.ref a] ∧ SqT K H1 a xs ∧ R (Itxt K a) H1
section
variable {X : Cx} {e : Expr} {ta : TA} {p pos tpos : Pos} {elts : List Expr} {kk : Nat}
theorem pi_enumS (hg : Gl X "enumerate") (hm : X.mg "enumerate" = none) (ha : PA X [e] ta) (hs : starEach [e] X.env = [(false, eval e X.env)] := by rfl) : PI X (.Tuple elts kk tpos) (.Call (.Name "enumerate" p) [e] [] pos) (iEnumS ta) := by
  refine ⟨fun pins s σ H R I h => ?_⟩
  refine Call_ (ld_blt I hg hm boot_enumerate (PyProof.Rows.callWith_type1 (thn (ha.run pos pins s σ H _ I h) fun us s1 ⟨vs, H1, I1, r1, z, ex, q⟩ => ?_) hs rfl))
  subst ex
  obtain ⟨u, eu, ru⟩ := vals1 r1
  subst eu
  obtain ⟨t, rfl⟩ := (show ∃ t, u = Value.str (S z) t from ru)
  refine call_enumerate_str fun h' he hit hsz hk => wpAny_pyIter_enum he ?_
  have I2 : Inv X pins σ H1 { s1 with heap := h' } := I1.kept (t' := s1.toks) hk
  refine ⟨s1.heap.objs.size + 1, [s1.heap.objs.size + 1, s1.heap.objs.size], _, _, H1, rfl, I2, turn_enumS (t := t) (Nat.succ_ne_self _), ⟨⟨.none, he⟩, hit⟩, fun b hb => ?_, q⟩
  have e' : b = s1.heap.objs.size + 1 ∨ b = s1.heap.objs.size := by simpa using hb
  have hle : s1.heap.objs.size ≤ b := by
    rcases e' with z | z
    · rw [z]; exact Nat.le_succ _
    · rw [z]; exact Nat.le_refl _
  exact I1.fpOk hle (I1.hok.fresh hle)
theorem pi_enumT (hg : Gl X "enumerate") (hm : X.mg "enumerate" = none) (ha : PA X [e] ta) (hs : starEach [e] X.env = [(false, eval e X.env)] := by rfl) : PI X (.Tuple elts kk tpos) (.Call (.Name "enumerate" p) [e] [] pos) (iEnumT X.K ta) := by
  refine ⟨fun pins s σ H R I h => ?_⟩
  refine Call_ (ld_blt I hg hm boot_enumerate (PyProof.Rows.callWith_type1 (thn (ha.run pos pins s σ H _ I h) fun us s1 ⟨vs, H1, I1, r1, a, xs, ex, hq, q⟩ => ?_) hs rfl))
  subst ex
  obtain ⟨u, eu, ru⟩ := vals1 r1
  subst eu
  obtain rfl : u = Value.ref a := ru
  obtain ⟨its, rv, ht, hz⟩ := I1.tuple hq
  have hal : a < s1.heap.objs.size := ht.lt
  refine call_enum1 (begins_tuple a its.toArray) ht fun h' he hit hsz hk => wpAny_pyIter_enum he ?_
  have I2 : Inv X pins σ H1 { s1 with heap := h' } := I1.kept (t' := s1.toks) hk
  refine ⟨s1.heap.objs.size + 1, [s1.heap.objs.size + 1, s1.heap.objs.size], _, _, H1, rfl, I2, turn_enumT (K := X.K) (a := a) (Nat.succ_ne_self _) (Nat.ne_of_gt (Nat.lt_succ_of_lt hal)) (Nat.ne_of_gt hal), ⟨⟨.none, he⟩, ⟨_, hit, rfl, rfl⟩⟩, fun b hb => ?_, q⟩
  have e' : b = s1.heap.objs.size + 1 ∨ b = s1.heap.objs.size := by simpa using hb
  have hle : s1.heap.objs.size ≤ b := by
    rcases e' with z | z
    · rw [z]; exact Nat.le_succ _
    · rw [z]; exact Nat.le_refl _
  exact I1.fpOk hle (I1.hok.fresh hle)
end
/-- a new pair of the number and what is there -/
def YNum (f : Nat → Option V) : Nat → Hp → V → Hp → Prop := fun i H v H' => ∃ T x, v = .ref T ∧ H T = none ∧ H' = upd H T (.tup [.int (i : Nat), x]) ∧ f i = some x
theorem walk_enumS {z : List Nat} : Walk (Itxs z) z.length (fun _ => True) (YNum fun i => (z[i]?).map fun c => V.str (S [c])) :=
  ⟨fun _ _ hi _ => hi, fun _ _ => rfl, fun i H v H' _ _ y => by
    obtain ⟨T, c, h1, h2, h3, h4⟩ := y
    exact ⟨T, _, h1, h2, h3, by show (z[i]?).map _ = _; rw [h4]; rfl⟩⟩
theorem walk_enumT {K : PySem.W.Frag} {a : Addr} {xs : List V} : Walk (Itxt K a) xs.length (fun H => SqT K H a xs) (YNum fun i => xs[i]?) :=
  ⟨fun i _ hi q => ⟨xs, xs[i], q, List.getElem?_eq_getElem hi⟩, fun _ q => ⟨xs, q, rfl⟩, fun i H v H' _ q y => by
    obtain ⟨T, x, h1, h2, h3, h4⟩ := y
    exact ⟨T, x, h1, h2, h3, h4 xs q⟩⟩
end BW

set_option Elab.async false
set_option linter.all false
set_option maxRecDepth 100000
set_option maxHeartbeats 4000000
/-! dicts whose keys are ((i, j), text) -/
namespace BW
open PySem PySem.Spec PyProof.Rows L2 SX
abbrev Node := BK.Node
/-- a pair stands at q -/
def PairAt (H : Hp) (q : Addr) (p : Nat × Nat) : Prop := H q = some (.tup [.int (p.1 : Int), .int (p.2 : Int)])
/-- a node stands at b -/
def NodeAt (H : Hp) (b : Addr) (k : Node) : Prop := ∃ q, H b = some (.tup [.ref q, .str (S k.2)]) ∧ PairAt H q k.1
def nk (k : Node) : NestedKey := .tup [.tup [.num (k.1.1 : Int), .num (k.1.2 : Int)], .text (S k.2)]
theorem nk_inj {a b : Node} (e : nk a = nk b) : a = b := by
  obtain ⟨⟨i, j⟩, h⟩ := a
  obtain ⟨⟨i', j'⟩, h'⟩ := b
  unfold nk at e
  simp only [NestedKey.tup.injEq, List.cons.injEq, NestedKey.num.injEq, NestedKey.text.injEq, and_true] at e
  obtain ⟨⟨e1, e2⟩, e3⟩ := e
  rw [show i = i' by omega, show j = j' by omega, S_inj e3]
theorem nk_depth (k : Node) : (nk k).depth ≤ 8 := by
  simp [nk, NestedKey.depth, NestedKey.depthAll]
section
variable {P : Program} {w : World} {H H' : Hp} {h : Heap}
theorem PairAt.same {q : Addr} {p : Nat × Nat} (x : PairAt H q p) (s : ∀ b o, H b = some o → (∀ ps, o ≠ .tbl ps) → H' b = some o) : PairAt H' q p := s _ _ x fun ps z => nomatch z
theorem NodeAt.same {b : Addr} {k : Node} (x : NodeAt H b k) (s : ∀ b o, H b = some o → (∀ ps, o ≠ .tbl ps) → H' b = some o) : NodeAt H' b k := by
  obtain ⟨q, h1, h2⟩ := x
  exact ⟨q, s _ _ h1 fun ps z => (by cases z), h2.same s⟩
theorem node_key {b : Addr} {k : Node} (ok : HOk P w H h) (x : NodeAt H b k) : (nestedKind P w).is h (nk k) b := by
  obtain ⟨q, h1, h2⟩ := x
  obtain ⟨_, its, r, o, e1, e2, n, e3⟩ := (show ObjOk P w H h b (.tup [.ref q, .str (S k.2)]) from ok b _ h1)
  obtain ⟨_, its2, r2, o2, f1, f2, n2, f3⟩ := (show ObjOk P w H h q (.tup [.int (k.1.1 : Int), .int (k.1.2 : Int)]) from ok q _ h2)
  obtain ⟨u1, u2, rfl, ru1, ru2⟩ := vals2 r
  obtain ⟨v1, v2, rfl, rv1, rv2⟩ := vals2 r2
  obtain rfl : u1 = Value.ref q := ru1
  obtain ⟨t2, rfl⟩ := (show ∃ t, u2 = Value.str (S k.2) t from ru2)
  obtain ⟨t3, rfl⟩ := (show ∃ t, v1 = Value.int (k.1.1 : Int) t from rv1)
  obtain ⟨t4, rfl⟩ := (show ∃ t, v2 = Value.int (k.1.2 : Int) t from rv2)
  exact ⟨.tup e1 e2 e3 (.cons (.tup f1 f2 f3 (.cons (.int _ _) (.cons (.int _ _) .nil))) (.cons (.text _ _) .nil)), nk_depth k⟩
end
abbrev NKV := Node × Addr × V
abbrev NRel : List NKV → List (NestedKey × Addr × Value) → Prop := Paired fun p q => q.1 = nk p.1 ∧ q.2.1 = p.2.1 ∧ RelV p.2.2 q.2.2
def NRaw (P : Program) (w : World) (d : Addr) (kvs : List NKV) (h : Heap) : Prop := ∃ xs : List (NestedKey × Addr × Value), NRel kvs xs ∧ ∃ o es ep, h.get? d = some o ∧ o.ExactDict ∧ o.data = .dict es ep ∧ es.toList = xs.map (entryOfKey (nestedKind P w)) ∧ (xs.map (·.1)).Nodup
/-- the dict at d as a tracked thing -/
def NDO (P : Program) (w : World) (d : Addr) (kvs : List NKV) : HO := .ext (NRaw P w d kvs)
theorem ndo_ok {P : Program} {w : World} {H : Hp} {h : Heap} {d : Addr} {kvs : List NKV} (x : NRaw P w d kvs h) : ObjOk P w H h d (NDO P w d kvs) := by
  obtain ⟨xs, r, o, es, ep, h1, h2⟩ := id x
  refine ⟨x, ⟨o, h1⟩, fun g1 g2 y k => ?_⟩
  obtain ⟨xs, r, o, es, ep, h1, h2⟩ := y
  exact ⟨xs, r, o, es, ep, k o h1, h2⟩
/-- a dict of nodes stands at d -/
def NDict (P : Program) (w : World) (H : Hp) (d : Addr) (l : List (Node × V)) : Prop := ∃ kvs : List NKV, l = kvs.map (fun x => (x.1, x.2.2)) ∧ (d == sysModules) = false ∧ H d = some (NDO P w d kvs) ∧ ∀ x ∈ kvs, NodeAt H x.2.1 x.1
theorem ndo_tbl {P : Program} {w : World} {d : Addr} {kvs : List NKV} (ps : Array Value) : NDO P w d kvs ≠ .tbl ps := fun z => by
  unfold NDO at z
  cases z
theorem NDict.same {P : Program} {w : World} {H H' : Hp} {d : Addr} {l : List (Node × V)} (x : NDict P w H d l) (s : ∀ b o, H b = some o → (∀ ps, o ≠ .tbl ps) → H' b = some o) : NDict P w H' d l := by
  obtain ⟨kvs, h1, h2, h3, h4⟩ := x
  exact ⟨kvs, h1, h2, s _ _ h3 ndo_tbl, fun y hy => (h4 y hy).same s⟩
theorem NRel.val : ∀ {kvs : List NKV} {xs : List (NestedKey × Addr × Value)}, NRel kvs xs → ∀ k : Node, RelO (valV (kvs.map fun x => (x.1, x.2.2)) k) ((atKey xs (nk k)).map (·.2))
  | _, _, .nil, _ => True.intro
  | _, _, @Paired.cons _ _ _ p q ps qs h t, k => by
    obtain ⟨h1, _, h2⟩ := h
    have ih := NRel.val t k
    rw [List.map_cons]
    by_cases e : p.1 = k
    · have e' : q.1 = nk k := by rw [h1, e]
      have b : atKey (q :: qs) (nk k) = some q.2 := by simp [atKey, List.find?_cons, e']
      rw [valV_pos (p := (p.1, p.2.2)) e, b]; exact h2
    · have e' : ¬ q.1 = nk k := fun z => e (nk_inj (h1.symm.trans z))
      have b : atKey (q :: qs) (nk k) = atKey qs (nk k) := by simp [atKey, List.find?_cons, e']
      rw [valV_neg (p := (p.1, p.2.2)) e, b]; exact ih
section
variable {X : Cx} {pins : List (Addr × Obj)} {σ : L2.St} {H : Hp} {s : Shared} {d b : Addr} {l : List (Node × V)} {k : Node} {A : Around} {E : Value → Shared → Prop}
theorem nd_of (I : Inv X pins σ H s) (D : NDict X.prog X.w H d l) : ∃ kvs xs, l = kvs.map (fun x => (x.1, x.2.2)) ∧ (d == sysModules) = false ∧ H d = some (NDO X.prog X.w d kvs) ∧ (∀ x ∈ kvs, NodeAt H x.2.1 x.1) ∧ NRel kvs xs ∧ s.heap.DictOfH (nestedKind X.prog X.w) d xs := by
  obtain ⟨kvs, h1, h2, h3, h4⟩ := D
  obtain ⟨⟨xs, r, o, es, ep, g1, g2, g3, g4, g5⟩, _⟩ := (show ObjOk X.prog X.w H s.heap d (NDO X.prog X.w d kvs) from I.hok d _ h3)
  refine ⟨kvs, xs, h1, h2, h3, h4, r, o, es, ep, g1, g2, g3, g4, ?_, g5⟩
  have all : ∀ {kvs : List NKV} {xs : List (NestedKey × Addr × Value)}, NRel kvs xs → (∀ x ∈ kvs, NodeAt H x.2.1 x.1) → ∀ x ∈ xs, (nestedKind X.prog X.w).is s.heap x.1 x.2.1 := by
    intro kvs xs r
    induction r with
    | nil => intro _ x hx; cases hx
    | @cons p q ps qs h t ih =>
      intro hn x hx
      obtain ⟨e1, e2, _⟩ := h
      rcases List.mem_cons.mp hx with rfl | hx
      · rw [e1, e2]
        exact node_key I.hok (hn p List.mem_cons_self)
      · exact ih (fun y hy => hn y (List.mem_cons_of_mem _ hy)) x hx
  exact all r h4
theorem room_n (hu : A.units + 64 < cLine) : (nestedKind X.prog X.w).room A.in1 := by
  show A.units + 1 + 8 < cLine
  omega
theorem nd_get {v : V} {Q : Value → Shared → Prop} (hu : A.units + 64 < cLine) (I : Inv X pins σ H s) (D : NDict X.prog X.w H d l) (hb : NodeAt H b k) (e : valV l k = some v) (h : ∀ w' s', Inv X pins σ H s' → RelV v w' → Q w' s') :
    wpAny (model X.prog X.w) A (getItem (.ref d) (.ref b)) Q E s := by
  obtain ⟨kvs, xs, h1, h2, h3, h4, r, dd⟩ := nd_of I D
  obtain ⟨w', hw, rw'⟩ := RelO.some_of (v := v) (o := (atKey xs (nk k)).map (·.2)) (by rw [← e, h1]; exact r.val k)
  obtain ⟨p, hp, hp2⟩ := Option.map_eq_some_iff.mp hw
  refine wpAny_getItem_heap (room_n hu) (node_key I.hok hb) dd hp ?_
  rw [hp2]
  exact h w' _ (I.tok _) rw'
theorem nd_notin {Q : Value → Shared → Prop} (hu : A.units + 64 < cLine) (I : Inv X pins σ H s) (D : NDict X.prog X.w H d l) (hb : NodeAt H b k) (h : ∀ s', Inv X pins σ H s' → Q (.bool (!(valV l k).isSome)) s') :
    wpAny (model X.prog X.w) A (compareOp .NotIn (.ref b) (.ref d)) Q E s := by
  obtain ⟨kvs, xs, h1, h2, h3, h4, r, dd⟩ := nd_of I D
  refine wpAny_notIn_heap (room_n hu) (node_key I.hok hb) h2 dd ?_
  have q := (r.val k).isSome_eq
  rw [Option.isSome_map] at q
  rw [← q, ← h1]
  exact h _ (I.tok _)
/-- a new node -/
theorem nd_put {v : V} {u : Value} {Q : Unit → Shared → Prop} (hu : A.units + 64 < cLine) (I : Inv X pins σ H s) (D : NDict X.prog X.w H d l) (hb : NodeAt H b k) (e : valV l k = none) (hl : l.length < 1000) (rv : RelV v u)
    (h : ∀ H' s', Inv X pins σ H' s' → NDict X.prog X.w H' d (l ++ [(k, v)]) → (∀ c o, H c = some o → c ≠ d → H' c = some o) → (∀ c, H c = none → H' c = none) → Q () s') : wpAny (model X.prog X.w) A (setItem (.ref d) (.ref b) u) Q E s := by
  obtain ⟨kvs, xs, h1, h2, h3, h4, r, dd⟩ := nd_of I D
  have hk := r.length
  have hlen : kvs.length < 1000 := by
    rw [h1, List.length_map] at hl
    exact hl
  have en : atKey xs (nk k) = none := by
    have q := (r.val k).isSome_eq
    rw [← h1, e, Option.isSome_map] at q
    cases z : atKey xs (nk k) with
    | none => rfl
    | some y => rw [z] at q; cases q
  refine wpAny_setItem_heap (hsz := by rw [← hk, sizeLine_eq]; omega) (room_n hu) (node_key I.hok hb) dd fun h' dd' hs => ?_
  rw [storedH_new en] at dd'
  obtain ⟨o, es, ep, g1, g2, g3, g4, g5, g6⟩ := id dd'
  have hne : ∀ c u, H c = some (.tup u) → c ≠ d := fun c u q => ne_of q h3 (fun z => by unfold NDO at z; cases z)
  have raw : NRaw X.prog X.w d (kvs ++ [(k, b, v)]) h' := ⟨xs ++ [(nk k, b, u)], Paired.snoc r ⟨rfl, rfl, rv⟩, o, es, ep, g1, g2, g3, g4, g6⟩
  have I' := d_write (t' := s.toks + (nestedKind X.prog X.w).draws (nk k)) (ob := NDO X.prog X.w d (kvs ++ [(k, b, v)])) I (by rw [h3]; exact True.intro) hs ⟨o, g1⟩ (ndo_ok raw)
  refine h _ _ I' ⟨kvs ++ [(k, b, v)], by rw [List.map_append, ← h1]; rfl, h2, upd_same, fun x hx => ?_⟩ (fun c o q hc => by rw [upd_ne hc]; exact q) fun c q => ?_
  · have key : ∀ {b : Addr} {k : Node}, NodeAt H b k → NodeAt (upd H d (NDO X.prog X.w d (kvs ++ [(k, b, v)]))) b k := fun z => by
      obtain ⟨q, z1, z2⟩ := z
      refine ⟨q, by rw [upd_ne (hne _ _ z1)]; exact z1, ?_⟩
      show upd H d _ q = _
      rw [upd_ne (hne _ _ z2)]; exact z2
    have key : ∀ {b' : Addr} {k' : Node}, NodeAt H b' k' → NodeAt (upd H d (NDO X.prog X.w d (kvs ++ [(k, b, v)]))) b' k' := fun z => by
      obtain ⟨q, z1, z2⟩ := z
      refine ⟨q, by rw [upd_ne (hne _ _ z1)]; exact z1, ?_⟩
      show upd H d _ q = _
      rw [upd_ne (hne _ _ z2)]; exact z2
    rcases List.mem_append.mp hx with hx | hx
    · exact key (h4 x hx)
    · rw [List.mem_singleton.mp hx]
      exact key hb
  · rw [upd_ne (fun z => by rw [z, h3] at q; cases q)]
    exact q
theorem nd_typeIs (I : Inv X pins σ H s) (D : NDict X.prog X.w H d l) : s.TypeIs (.ref d) "dict" := by
  obtain ⟨kvs, xs, h1, h2, h3, h4, r, dd⟩ := nd_of I D
  exact dd.typeIs
end
/-! ### readings and rules -/
/-- d[k], k a node that is there -/
def tNGet (P : Program) (w : World) (td ty : TE) : TE := fun σ H Q => td σ H fun x H1 => ty σ H1 fun y H2 => ∃ d b l k v, x = .ref d ∧ y = .ref b ∧ NDict P w H2 d l ∧ NodeAt H2 b k ∧ valV l k = some v ∧ Q v H2
/-- k not in d -/
def tNNotIn (P : Program) (w : World) (ty td : TE) : TE := fun σ H Q => ty σ H fun y H1 => td σ H1 fun x H2 => ∃ d b l k, x = .ref d ∧ y = .ref b ∧ NDict P w H2 d l ∧ NodeAt H2 b k ∧ Q (.bl (!(valV l k).isSome)) H2
/-- d[k] = v, k new -/
def sNPut (P : Program) (w : World) (td ty tv : TE) : TS := fun D σ H => tv σ H fun v H1 => td σ H1 fun x H2 => ty σ H2 fun y H3 => ∃ d b l k, x = .ref d ∧ y = .ref b ∧ NDict P w H3 d l ∧ NodeAt H3 b k ∧ valV l k = none ∧ l.length < 1000 ∧
  ∀ H4, NDict P w H4 d (l ++ [(k, v)]) → (∀ c o, H3 c = some o → c ≠ d → H4 c = some o) → (∀ c, H3 c = none → H4 c = none) → D.nx σ H4
section
variable {X : Cx} {o i value : Expr} {pos pos' : Pos} {td ty tv : TE}
theorem pe_nget (hu : X.A.units + 64 < cLine) (ho : PE X o td) (hi : PE X i ty) (hs : NoSl i) : PE X (.Subscript o i pos) (tNGet X.prog X.w td ty) := by
  refine ⟨fun pins s σ H Q I h => ?_⟩
  refine subD_of PySem.F.slot_dict_getitem.lookup hs (thn (ho.run pins s σ H _ I h) fun u s1 ⟨x, H1, I1, rx, q1⟩ => thn (hi.run pins s1 σ H1 _ I1 q1) fun iv s2 ⟨y, H2, I2, ry, d, b, l, k, v, ex, ey, D, N, e, q2⟩ => ?_)
  subst ex ey
  obtain rfl : u = Value.ref d := rx
  obtain rfl : iv = Value.ref b := ry
  exact ⟨nd_typeIs I2 D, nd_get hu I2 D N e fun w' s3 I3 rw' => ⟨v, H2, I3, rw', q2⟩⟩
theorem pc_nnotin (hu : X.A.units + 64 < cLine) (hi : PE X i ty) (ho : PE X o td) : PC X .NotIn i o (tNNotIn X.prog X.w ty td) := by
  refine ⟨fun pins s σ H Q I h => ?_⟩
  refine thn (hi.run pins s σ H _ I h) fun iv s1 ⟨y, H1, I1, ry, q1⟩ => thn (ho.run pins s1 σ H1 _ I1 q1) fun u s2 ⟨x, H2, I2, rx, d, b, l, k, ex, ey, D, N, q2⟩ => ?_
  subst ex ey
  obtain rfl : u = Value.ref d := rx
  obtain rfl : iv = Value.ref b := ry
  exact nd_notin hu I2 D N fun s3 I3 => ⟨.bl (!(valV l k).isSome), H2, I3, rfl, q2⟩
theorem ps_nput (hu : X.A.units + 64 < cLine) (ho : PE X o td) (hi : PE X i ty) (hv : PE X value tv) (hs : swapsWith value (some (.Subscript o i pos')) pos.line X.env = pure false := by rfl) :
    PS X (.Assign [.Subscript o i pos'] value pos) (sNPut X.prog X.w td ty tv) := by
  refine ⟨fun pins s σ H D I h => ?_⟩
  refine wpAny_Assign_Subscript (thn (hv.run pins s σ H _ I h) fun r s1 ⟨v, H1, I1, rv, q1⟩ => thn (ho.run pins s1 σ H1 _ I1 q1) fun u s2 ⟨x, H2, I2, rx, q2⟩ => thn (hi.run pins s2 σ H2 _ I2 q2) fun iv s3 ⟨y, H3, I3, ry, d, b, l, k, ex, ey, ND, N, e, hl, q3⟩ => ?_) hs
  subst ex ey
  obtain rfl : u = Value.ref d := rx
  obtain rfl : iv = Value.ref b := ry
  exact nd_put hu I3 ND N e hl rv fun H' s4 I4 D4 k1 k2 => ⟨σ, H', I4, q3 H' D4 k1 k2⟩
/-- {k: v}, k a node -/
def tNDisp (P : Program) (w : World) (tk tv : TE) : TE := fun σ H Q => ∀ p, H p = none → (p == sysModules) = false → tk σ (upd H p (.dT [])) fun y H1 => tv σ H1 fun v H2 => ∃ b k, y = .ref b ∧ H2 p = some (.dT []) ∧ NodeAt H2 b k ∧
  ∀ H3, NDict P w H3 p [(k, v)] → (∀ c o, H2 c = some o → c ≠ p → H3 c = some o) → (∀ c, H2 c = none → H3 c = none) → Q (.ref p) H3
theorem pe_ndisp {k v : Expr} {tk tv : TE} (hu : X.A.units + 64 < cLine) (hk : PE X k tk) (hv : PE X v tv) : PE X (.Dict [some k] [v] pos) (tNDisp X.prog X.w tk tv) := by
  refine ⟨fun pins s σ H Q I h => ?_⟩
  have hn := I.hok.fresh (Nat.le_refl s.heap.objs.size)
  have hsys : (s.heap.objs.size == sysModules) = false := beq_eq_false_iff_ne.mpr (Ne.symm (Nat.ne_of_lt I.big))
  have I1 := I.laid (a := s.heap.objs.size) (o := .dT []) (h' := s.heap.push { cls := .type "dict", data := .dict #[] }) (t' := s.toks) (fun _ _ q => Heap.get?_push_of_some _ q) (Nat.le_refl _) (dt_empty s.heap I.big)
  have hn2 := pairTrees_length [some k] [v] X.env pos rfl rfl
  rw [arm_eval_Dict, zip_pairTrees [some k] [v] X.env pos rfl rfl, dictDisplay_pairs (pairTrees [some k] [v] X.env pos) (by intro he; rw [he] at hn2; cases hn2) (by rw [hn2]; show 1 < 17; omega)]
  refine wpAny_bind (wpAny_standAt (wpAny_bind ?_))
  refine wpAny_subDictH (knd := nestedKind X.prog X.w) (Q := fun d s' => wpAny (model X.prog X.w) X.A (pure (Value.ref d)) (EP X pins σ Q) X.xe s') (show X.A.units + 8 < cLine by omega) (by rw [hn2]; show 1 ≤ 15; omega) ?_
  refine pairTrees_cons_walk (thn (hk.run pins _ σ _ _ I1 (h _ hn hsys)) fun u s1 ⟨y, H1, J1, ry, q1⟩ => thn (hv.run pins s1 σ H1 _ J1 q1) fun u2 s2 ⟨z, H2, J2, rz, b, kk, ey, hp, N, q2⟩ => pairTrees_nil_walk ?_)
  subst ey
  obtain rfl : u = Value.ref b := ry
  obtain ⟨_, _, xs0, r0, o, es, ep, g1, g2, g3, g4, g5⟩ := (show ObjOk X.prog X.w H2 s2.heap s.heap.objs.size (.dT []) from J2.hok _ _ hp)
  cases r0
  have g4 : es.toList = [] := g4
  have dd0 : s2.heap.DictOfH (nestedKind X.prog X.w) s.heap.objs.size [] := ⟨o, es, ep, g1, g2, g3, by rw [g4]; rfl, fun x hx => (by cases hx), List.nodup_nil⟩
  refine ⟨[(nk kk, b, u2)], ⟨rfl, rfl, node_key J2.hok N, trivial⟩, dd0, fun h' tk dd' hs => wpAny_pure ?_⟩
  obtain ⟨o', es', ep', f1, f2, f3, f4, f5, f6⟩ := id dd'
  have raw : NRaw X.prog X.w s.heap.objs.size [(kk, b, z)] h' := ⟨[(nk kk, b, u2)], .cons ⟨rfl, rfl, rz⟩ .nil, o', es', ep', f1, f2, f3, f4, f6⟩
  have J3 := d_write (t' := tk) (ob := NDO X.prog X.w s.heap.objs.size [(kk, b, z)]) J2 (by rw [hp]; exact True.intro) hs ⟨o', f1⟩ (ndo_ok raw)
  have hne : ∀ c u, H2 c = some (.tup u) → c ≠ s.heap.objs.size := fun c u q => ne_of q hp (fun z => nomatch z)
  refine ⟨.ref s.heap.objs.size, _, J3, rfl, q2 _ ⟨[(kk, b, z)], rfl, hsys, upd_same, fun x hx => ?_⟩ (fun c o q hc => by rw [upd_ne hc]; exact q) fun c q => ?_⟩
  · rw [List.mem_singleton.mp hx]
    obtain ⟨q, z1, z2⟩ := N
    refine ⟨q, by rw [upd_ne (hne _ _ z1)]; exact z1, ?_⟩
    show upd H2 _ _ q = _
    rw [upd_ne (hne _ _ z2)]; exact z2
  · rw [upd_ne (fun z => by rw [z, hp] at q; cases q)]
    exact q
end
end BW

set_option Elab.async false
set_option linter.all false
set_option maxRecDepth 100000
set_option maxHeartbeats 4000000
/-! comprehensions that gather into a new dict of pairs, a new set of texts: one core, the gathering a letter -/
namespace BW
open PySem PySem.Spec PyProof.Rows L2 SX
abbrev Nb (P : Program) (w : World) (A : Around) (ce : Env) (R : Result → Shared → Prop) : Value → Shared → Prop := notedBy (model P w) A ce fun e s' => R (.error e) s'
/-- what one turn's block does behind its target: from what is wanted, where an error would be noted -/
abbrev Blk := Env → Addr → (Shared → Prop) → (Value → Shared → Prop) → Shared → Prop
/-- the node's own ways: how its thing is made, how its loop turns -/
structure Gat (P : Program) (w : World) (A : Around) (tg : Expr) (node : Expr) (mk : Sem Value) (o0 : Obj) (O0 : Addr → HO) (Bd : Blk) : Prop where
  made : ∀ {s : Shared} {Q : Value → Shared → Prop} {E : Value → Shared → Prop}, Q (.ref s.heap.objs.size) { s with heap := s.heap.push o0 } → wpAny (model P w) A mk Q E s
  obj : ∀ (H : Hp) (h : Heap), sysModules < h.objs.size → ObjOk P w H (h.push o0) h.objs.size (O0 h.objs.size)
  start : ∀ {it D : Addr} {ce : Env} {R : Result → Shared → Prop} {s : Shared}, codeAny (model P w) A (.compLoop node 0 (.ref it) (.ref D) ce) R s →
    wpAny (model P w) A (pyIter (.ref it)) (fun it' s' => codeAny (model P w) A (.compLoop node 0 it' (.ref D) ce) R s') (Nb P w A ce R) s → codeAny (model P w) A (.compStart node 0 (.ref it) (.ref D) ce) R s
  loop : ∀ {it : Value} {D : Addr} {ce : Env} {R : Result → Shared → Prop} (I : Nat → Shared → Prop),
    (∀ n s, I n s → wpAny (model P w) A (pyNext it) (fun r s1 => match r with
      | none => R (.ok .next) s1
      | some v => wpAny (model P w) A (letOwnedTupleGo tg it v) (fun _ s2 => wpAny (model P w) A (assign tg ce v) (fun _ s3 => Bd ce D (fun s' => ∃ m, m < n ∧ I m s') (Nb P w A ce R) s3) (Nb P w A ce R) s2) (Nb P w A ce R) s1) (Nb P w A ce R) s) →
    ∀ (n : Nat) (s : Shared), I n s → codeAny (model P w) A (.compLoop node 0 it (.ref D) ce) R s
/-- the reading: D the new thing, tb what the block asks -/
def tGat (O0 : Addr → HO) (wi : TI) (g : TG) (tb : Addr → L2.St → Hp → (Hp → Prop) → Prop) (vs : List Nat) : TE := fun σ H Q => wi σ H fun J H1 => ∀ D, H1 D = none → ∃ W : Nat → Nat → Hp → Prop, (∃ m, W 0 m (upd H1 D (O0 D))) ∧ ∀ i m H, W i m H →
  (J.stop i H ∧ Q (.ref D) H) ∨ (J.go i H ∧ ∃ Nx : Hp → Prop, (∀ H', Nx H' → ∃ m', m' < m ∧ W (i + 1) m' H') ∧ ∀ x H', J.yld i H x H' → g x (wipe σ vs) H' fun σ2 H2 => wipe σ2 vs = wipe σ vs ∧ tb D σ2 H2 Nx)
section
variable {X : Cx}
theorem gat_core {pins : List (Addr × Obj)} {s : Shared} {σ : L2.St} {H : Hp} {Q : VK} {node tg iter : Expr} {scope : Scope} {own : List (Str × Nat)} {pos' : Pos} {wi : TI} {g : TG} {tb : Addr → L2.St → Hp → (Hp → Prop) → Prop}
    {mk : Sem Value} {o0 : Obj} {O0 : Addr → HO} {Bd : Blk} {gs : List Comprehension} {gc : Comprehension} (G : Gat X.prog X.w X.A tg node mk o0 O0 Bd) (hcl : clausesOf node = gc :: gs) (hs : ∀ x, foldedSetIterable gc.iter X.env x = pure x)
    (hc : X.calm = true) (hN : X.N.Nodup) (I : Inv X pins σ H s) (hi : PI X tg iter wi) (ok : BlkOk X.N X.env.scope scope own)
    (hg : ∀ (s : Shared) (H : Hp) (C : Addr) (cl : List (Str × Addr)) (fp : List Addr), PG (X.blk s H scope (compEnvC scope cl C X.env) fp) tg g)
    (hb : ∀ (s0 : Shared) (H0 : Hp) (C : Addr) (cl : List (Str × Addr)) (fp : List Addr) (pins : List (Addr × Obj)) (s : Shared) (σ : L2.St) (H : Hp) (D : Addr) (K : Hp → Prop) (Z : Shared → Prop) (NB : Value → Shared → Prop),
      Inv (X.blk s0 H0 scope (compEnvC scope cl C X.env) fp) pins σ H s → tb D σ H K → (∀ s' H', Inv (X.blk s0 H0 scope (compEnvC scope cl C X.env) fp) pins σ H' s' → K H' → Z s') → Bd (compEnvC scope cl C X.env) D Z NB s)
    (h : tGat O0 wi g tb (own.map (·.2)) σ H Q) :
    wpAny (model X.prog X.w) X.A (comprehension node scope X.env pos' mk false (eval iter X.env) none) (EP X pins σ Q) X.xe s := by
  have caught : ∀ y ∈ scope.names, y.2 = .free → ∃ c, X.env.cells.lookup y.1 = some c := fun y hy e => (ok.free y hy e).elim (fun k => I.ok.has _ (.inl k)) fun k => I.ok.has _ (.inr k)
  refine wpAny_comprehension_free (use := none) hcl hs (closure_ok caught) ok.kind (fun y hy e => by rw [ok.uniq y hy, e]) (thn (hi.run pins s σ H _ I h) fun xv s1 hx => thn hx fun itv s2 come => ?_)
  obtain ⟨it, fp, tn, J, H2, rfl, I2, T, st2, f2, q⟩ := come
  refine G.made (newEnv_comp ?_)
  -- the new thing stands at D
  have newD : H2 s2.heap.objs.size = none := I2.hok.fresh (Nat.le_refl _)
  obtain ⟨W, ⟨m0, w0⟩, turn⟩ := q _ newD
  have keep3 : ∀ b o, s2.heap.get? b = some o → (s2.heap.push o0).get? b = some o := fun b o e => Heap.get?_push_of_some _ e
  have I3 : Inv X pins σ (upd H2 s2.heap.objs.size (O0 s2.heap.objs.size)) { s2 with heap := s2.heap.push o0 } := I2.laid (t' := s2.toks) keep3 (Nat.le_refl _) (G.obj _ _ I2.big)
  have low : ∀ b ∈ fp, b < s2.heap.objs.size := fun b hb => by
    obtain ⟨o, e, _⟩ := T.obj _ _ st2 b hb
    exact Heap.lt_size e
  have f3 : ∀ b ∈ fp, FpOk X pins (upd H2 s2.heap.objs.size (O0 s2.heap.objs.size)) b ∧ b < (s2.heap.push o0).objs.size := fun b hb =>
    ⟨⟨by rw [upd_ne (Nat.ne_of_lt (low b hb))]; exact (f2 b hb).1, (f2 b hb).2⟩, by rw [Heap.size_push]; exact Nat.lt_succ_of_lt (low b hb)⟩
  have I4 : Inv (X.blk { s2 with heap := s2.heap.push o0 } (upd H2 s2.heap.objs.size (O0 s2.heap.objs.size)) scope (compEnvC scope (cellsFrom ((s2.heap.push o0).objs.size + 1) scope.names (cloFrom X.env.cells scope.names [])) (s2.heap.push o0).objs.size X.env) fp) [] (wipe σ (own.map (·.2))) (upd H2 s2.heap.objs.size (O0 s2.heap.objs.size)) ({ s2 with heap := pushCells ((s2.heap.push o0).push { cls := .type "dict", data := .dict #[] }) scope.names } : Shared) := block_start (s := { s2 with heap := s2.heap.push o0 }) I3 ok hN f3
  have st4 : tn 0 ({ s2 with heap := pushCells ((s2.heap.push o0).push { cls := .type "dict", data := .dict #[] }) scope.names } : Shared).heap := T.keep _ _ _ st2 fun b _ o e => pushCells_keeps _ _ _ _ (Heap.get?_push_of_some _ (keep3 b o e))
  show codeAny _ _ (.compStart node 0 (.ref it) (.ref s2.heap.objs.size) (compEnvC scope (cellsFrom ((s2.heap.push o0).objs.size + 1) scope.names (cloFrom X.env.cells scope.names [])) (s2.heap.push o0).objs.size X.env))
    (compPost (model X.prog X.w) X.A X.xe none (EP X pins σ Q) (.ref s2.heap.objs.size) (s2.heap.push o0).objs.size) { s2 with heap := pushCells ((s2.heap.push o0).push { cls := .type "dict", data := .dict #[] }) scope.names }
  have pg := hg { s2 with heap := s2.heap.push o0 } (upd H2 s2.heap.objs.size (O0 s2.heap.objs.size)) (s2.heap.push o0).objs.size (cellsFrom ((s2.heap.push o0).objs.size + 1) scope.names (cloFrom X.env.cells scope.names [])) fp
  have pb := hb { s2 with heap := s2.heap.push o0 } (upd H2 s2.heap.objs.size (O0 s2.heap.objs.size)) (s2.heap.push o0).objs.size (cellsFrom ((s2.heap.push o0).objs.size + 1) scope.names (cloFrom X.env.cells scope.names [])) fp
  have cL : (compEnvC scope (cellsFrom ((s2.heap.push o0).objs.size + 1) scope.names (cloFrom X.env.cells scope.names [])) (s2.heap.push o0).objs.size X.env).locals = (s2.heap.push o0).objs.size := rfl
  have n0 : ∀ b ∈ fp, (upd H2 s2.heap.objs.size (O0 s2.heap.objs.size)) b = none := fun b hb => (f3 b hb).1.1
  generalize (compEnvC scope (cellsFrom ((s2.heap.push o0).objs.size + 1) scope.names (cloFrom X.env.cells scope.names [])) (s2.heap.push o0).objs.size X.env) = ce at I4 pg pb cL ⊢
  generalize hD : s2.heap.objs.size = D at *
  generalize hH3 : upd H2 D (O0 D) = H3 at *
  generalize hs3 : ({ s2 with heap := s2.heap.push o0 } : Shared) = s3 at *
  have hC : (s2.heap.push o0).objs.size = s3.heap.objs.size := by rw [← hs3]
  rw [hC] at cL ⊢
  generalize ({ s2 with heap := pushCells ((s2.heap.push o0).push { cls := .type "dict", data := .dict #[] }) scope.names } : Shared) = s4 at *
  -- the block's iterator stays ours
  have stat : ∀ {σ' : L2.St} {H' : Hp} {s' : Shared}, Inv (X.blk s3 H3 scope ce fp) [] σ' H' s' → (∀ b ∈ fp, H' b = none) → ∀ b ∈ fp, FpOk (X.blk s3 H3 scope ce fp) [] H' b := fun J hn b hb =>
    ⟨hn b hb, (J.ok.exf b hb).1, J.ok.exfs b hb, .inl hb, fun x c e => (J.ok.exf b hb).2 x c e, fun p hp => absurd (show p ∈ ([] : List (Addr × Obj)) ++ [] from hp) (by simp)⟩
  have whole : codeAny (model X.prog X.w) X.A (.compLoop node 0 (.ref it) (.ref D) ce) (compPost (model X.prog X.w) X.A X.xe none (EP X pins σ Q) (.ref D) s3.heap.objs.size) s4 := by
    refine G.loop (fun n s' => ∃ i H', Inv (X.blk s3 H3 scope ce fp) [] (wipe σ (own.map (·.2))) H' s' ∧ tn i s'.heap ∧ (∀ b ∈ fp, H' b = none) ∧ W i n H') ?_ m0 _ ⟨0, H3, I4, st4, n0, w0⟩
    rintro n s5 ⟨i, H5, I5, st5, n5, w5⟩
    rcases turn i n H5 w5 with ⟨stop, qq⟩ | ⟨go, Nx, hNx, step⟩
    · -- no item is left: back to where we came from
      refine thnF (T.done (X.blk s3 H3 scope ce fp) rfl rfl rfl hc i [] s5 _ H5 (fun _ _ => False) I5 (stat I5 n5) st5 stop) fun r s6 ⟨hr, I6⟩ => ?_
      subst hr
      have I7 : Inv X pins σ H5 s6 := I3.call' (ch := fp) I6.os I6.base I6.hok I6.bare fun b hb => ⟨(f3 b hb).1.2.2.2.1, (f3 b hb).1.2.1, (f3 b hb).1.2.2.2.2.1, (f3 b hb).1.2.2.2.2.2⟩
      have nC : H5 s3.heap.objs.size = none := by rw [← cL]; exact I6.free
      obtain ⟨m, hn, _⟩ := I6.loc
      have hn : s6.heap.Ns ce.locals m := hn
      rw [cL] at hn
      refine ⟨m, hn, fun h'' sb => ?_⟩
      obtain ⟨g0, g1, _, g3, g4, g5⟩ := I3.fpOk (Nat.le_refl _) nC
      exact ⟨.ref D, H5, I7.turned (t' := s6.toks) (fun b o hb e => (sb.2 b hb).trans e) g0 g1 g3 g4 g5, rfl, qq⟩
    · refine thnF (T.item (X.blk s3 H3 scope ce fp) rfl rfl rfl hc i [] s5 _ H5 (fun _ _ => False) I5 (stat I5 n5) st5 go) fun r s6 ⟨u, hr, h6⟩ => ?_
      subst hr
      refine thnF h6 fun _ s7 ⟨x, H7, I7, r7, y7, st7, n7⟩ => ?_
      have I7' := I7.pinned (stat I7 n7) (T.obj _ _ st7)
      refine thnF (pg.run _ s7 _ H7 x u _ I7' r7 (step x H7 y7)) fun _ s8 ⟨σ8, H8, I8, hw8, q8⟩ => ?_
      refine pb _ s8 σ8 H8 D Nx _ _ I8 q8 fun s' H' I' nx => ?_
      obtain ⟨m', hm, w'⟩ := hNx H' nx
      have pin' : ∀ b ∈ fp, ∀ o, s7.heap.get? b = some o → s'.heap.get? b = some o ∧ H' b = none := fun b hb o e =>
        let z := I'.pin (b, o) (List.mem_append_right _ (List.mem_append_right _ (mem_pinsAt hb e)))
        ⟨z.1, z.2.1⟩
      have hl : (wipe σ (own.map (·.2))).length = σ8.length := by rw [← hw8, wipe_length]
      refine ⟨m', hm, i + 1, H', (I'.unpinned (pins := [])).weak hl (fun j v e => ?_), T.keep _ _ _ st7 fun b hb o e => (pin' b hb o e).1, fun b hb => ?_, w'⟩
      · rw [← hw8] at e
        exact (wipe_some e).1
      · obtain ⟨o, e, _⟩ := T.obj _ _ st7 b hb
        exact (pin' b hb o e).2
  exact G.start whole (T.self X.A 0 _ _ _ st4 whole)
/-- along a walk -/
theorem gat_it {J : It} {n : Nat} {Gd : Hp → Prop} {Y : Nat → Hp → V → Hp → Prop} (w : Walk J n Gd Y) {O0 : Addr → HO} {g : TG} {tb : Addr → L2.St → Hp → (Hp → Prop) → Prop} {vs : List Nat} {σ : L2.St} {H1 : Hp} {D : Addr} {Qd : Hp → Prop} (Pv : Nat → Hp → Prop)
    (h0 : Pv 0 (upd H1 D (O0 D))) (hG : ∀ i H, i ≤ n → Pv i H → Gd H) (hs : ∀ i x H H', i < n → Pv i H → Y i H x H' → g x (wipe σ vs) H' fun σ2 H2 => wipe σ2 vs = wipe σ vs ∧ tb D σ2 H2 (Pv (i + 1))) (hd : ∀ H, Pv n H → Qd H) :
    ∃ W : Nat → Nat → Hp → Prop, (∃ m, W 0 m (upd H1 D (O0 D))) ∧ ∀ i m H, W i m H →
      (J.stop i H ∧ Qd H) ∨ (J.go i H ∧ ∃ Nx : Hp → Prop, (∀ H', Nx H' → ∃ m', m' < m ∧ W (i + 1) m' H') ∧ ∀ x H', J.yld i H x H' → g x (wipe σ vs) H' fun σ2 H2 => wipe σ2 vs = wipe σ vs ∧ tb D σ2 H2 Nx) := by
  refine ⟨fun i m H => m = n - i ∧ i ≤ n ∧ Pv i H, ⟨n, by simp, Nat.zero_le _, h0⟩, ?_⟩
  rintro i m H ⟨rfl, hi, p⟩
  have q := hG i H hi p
  by_cases hlt : i < n
  · exact .inr ⟨w.goes i H hlt q, Pv (i + 1), fun H' p' => ⟨n - (i + 1), by omega, rfl, hlt, p'⟩, fun x H' y => hs i x H H' hlt p (w.yields i H x H' hlt q y)⟩
  · have e : i = n := by omega
    subst e
    exact .inl ⟨w.stops H q, hd H p⟩
/-! ### a dict of pairs -/
abbrev Pk := List Key
def kp (p : Nat × Nat) : Pk := [.inl (p.1 : Int), .inl (p.2 : Int)]
theorem kp_inj {a b : Nat × Nat} (e : kp a = kp b) : a = b := by
  obtain ⟨i, j⟩ := a
  obtain ⟨i', j'⟩ := b
  unfold kp at e
  simp only [List.cons.injEq, Sum.inl.injEq, and_true] at e
  rw [show i = i' by omega, show j = j' by omega]
theorem pair_tup {H : Hp} {q : Addr} {p : Nat × Nat} (h : PairAt H q p) : H q = some (.tup ((kp p).map kV)) := h
/-- what the block of {k: v ..} asks, k a pair -/
def bPair (tk tv : TE) : Addr → L2.St → Hp → (Hp → Prop) → Prop := fun D σ H K => tk σ H fun y H4 => tv σ H4 fun z H5 => ∃ b kvs p, y = .ref b ∧ H5 D = some (.dT kvs) ∧ PairAt H5 b p ∧ kvs.length < sizeLine ∧ K (upd H5 D (.dT (putK kvs (kp p) z)))
theorem gat_dict {P : Program} {w : World} {A : Around} {kx vx tg iter : Expr} {scope : Scope} {pos : Pos} : Gat P w A tg (.DictComp kx vx [⟨tg, iter, [], 0⟩] scope pos) newDict { cls := .type "dict", data := .dict #[] } (fun _ => .dT [])
    (fun ce D Z NB s => wpAny (model P w) A (eval kx ce) (fun kv s4 => wpAny (model P w) A (eval vx ce) (fun vv s5 => wpAny (model P w) A (dictSet D kv vv) (fun _ s6 => Z s6) NB s5) NB s4) NB s) where
  made := fun h => wpAny_newObj_type h
  obj := fun H h hb => dt_empty h hb
  start := fun h0 h => codeAny_compStart_dict h0 h
  loop := fun I turn n s h => compLoop_anyD I (fun n s hI => wpAny_mono (turn n s hI) (fun r s1 h1 => by
    cases r with
    | none => exact h1
    | some v => exact wpAny_mono h1 (fun _ s2 h2 => wpAny_mono h2 (fun _ s3 h3 => wpAny_tests_nil h3) fun _ _ z => z) fun _ _ z => z) fun _ _ z => z) n h
theorem pe_dcP {kx vx tg iter : Expr} {scope : Scope} {own : List (Str × Nat)} {pos : Pos} {wi : TI} {g : TG} {tk tv : TE} (hu : X.A.units + 64 < cLine) (hc : X.calm = true) (hN : X.N.Nodup) (hi : PI X tg iter wi) (ok : BlkOk X.N X.env.scope scope own)
    (hg : ∀ (s : Shared) (H : Hp) (C : Addr) (cl : List (Str × Addr)) (fp : List Addr), PG (X.blk s H scope (compEnvC scope cl C X.env) fp) tg g)
    (hk : ∀ (s : Shared) (H : Hp) (C : Addr) (cl : List (Str × Addr)) (fp : List Addr), PE (X.blk s H scope (compEnvC scope cl C X.env) fp) kx tk)
    (he : ∀ (s : Shared) (H : Hp) (C : Addr) (cl : List (Str × Addr)) (fp : List Addr), PE (X.blk s H scope (compEnvC scope cl C X.env) fp) vx tv) (hs : ∀ x, foldedSetIterable iter X.env x = pure x := by intro _; rfl) :
    PE X (.DictComp kx vx [⟨tg, iter, [], 0⟩] scope pos) (tGat (fun _ => .dT []) wi g (bPair tk tv) (own.map (·.2))) := by
  refine ⟨fun pins s σ H Q I h => ?_⟩
  rw [arm_eval_DictComp]
  refine gat_core gat_dict rfl hs hc hN I hi ok hg (fun s0 H0 C cl fp pins s σ H D K Z NB I hb fin => ?_) h
  refine thnF ((hk s0 H0 C cl fp).run pins s σ H _ I hb) fun kv s1 ⟨y, H1, I1, r1, q1⟩ => ?_
  refine thnF ((he s0 H0 C cl fp).run pins s1 σ H1 _ I1 q1) fun vv s2 ⟨z, H2, I2, r2, b, kvs, p, ey, hD, hb2, hz, q2⟩ => ?_
  subst ey
  obtain rfl : kv = Value.ref b := r1
  obtain ⟨z1, hd, xs, rel, dd⟩ := dt_of I2.hok hD
  have hl : (putK kvs (kp p) z).length ≤ sizeLine := by have := length_putK kvs (kp p) z; omega
  refine wpAny_dictSet_heap (hsz := by rw [← Paired.length rel]; exact z1) (knd := tupleKind (mixKind X.prog X.w)) (show X.A.units < cLine by omega) (key_of I2.hok (pair_tup hb2)) dd fun h' dd' hs' => ?_
  obtain ⟨o, es, ep, g1, g2, g3, g4, _, g6⟩ := dd'
  refine fin _ _ (d_write (ob := .dT (putK kvs (kp p) z)) (X := X.blk s0 H0 scope (compEnvC scope cl C X.env) fp) I2 (by rw [hD]; exact True.intro) hs' ⟨o, g1⟩ ⟨hl, hd, _, (rel.put (kp p) (pair_tup hb2) r2).keeps fun c ys ec => ?_, o, es, ep, g1, g2, g3, g4, g6⟩) q2
  rw [upd_ne (ne_of ec hD (fun z => nomatch z))]
  exact ec
/-! ### d.setdefault(p, v), keys pairs -/
def tPSetd (td ty tx : TE) : TE := fun σ H Q => td σ H fun x H1 => ∃ a, x = .ref a ∧ IsD H1 a ∧ ty σ H1 fun y H2 => tx σ H2 fun z H3 => ∃ kvs b p, y = .ref b ∧ H3 a = some (.dT kvs) ∧ PairAt H3 b p ∧ kvs.length < sizeLine ∧
  (∀ v, valV kvs (kp p) = some v → Q v H3) ∧ (valV kvs (kp p) = none → Q z (upd H3 a (.dT (putK kvs (kp p) z))))
theorem pe_psetd {o e f : Expr} {td ty tx : TE} {apos cpos : Pos} (hu : X.A.units + 1 < cLine) (ho : PE X o td) (he : PE X e ty) (hf : PE X f tx) (m : M2 X o "setdefault" apos e f cpos) : PE X (.Call (.Attribute o "setdefault" apos) [e, f] [] cpos) (tPSetd td ty tx) := by
  refine ⟨fun pins s σ H Q I h => ?_⟩
  refine wpAny_Call_method m.base m.few m.line PySem.F.plainAttrs_dict PySem.F.slot_dict_setdefault PySem.F.type_dict_setdefault (thn (ho.run pins s σ H _ I h) fun u s1 ⟨x, H1, I1, rx, a, ex, d, q1⟩ => ?_)
  subst ex
  obtain rfl : u = Value.ref a := rx
  obtain ⟨t1, t2, _⟩ := isD_at I1 d
  refine ⟨t1, t2, ?_⟩
  rw [m.trees]
  refine Calls.callWith_builtin rfl (Calls.evalArgs_plain (Calls.spliced_cons (thn (he.run pins s1 σ H1 _ I1 q1) fun iv s2 ⟨y, H2, I2, ry, q2⟩ =>
    Calls.spliced_cons (thn (hf.run pins s2 σ H2 _ I2 q2) fun fv s3 ⟨z, H3, I3, rz, kvs, b, p, ey, hD, hb, hl, q3, q4⟩ => Calls.spliced_nil ?_))))
  subst ey
  obtain rfl : iv = Value.ref b := ry
  obtain ⟨z1, hd, xs, rel, dd⟩ := dt_of I3.hok hD
  refine call_setdefault_heap (hsz := by rw [← Paired.length rel]; exact z1) (knd := tupleKind (mixKind X.prog X.w)) (tupleKind_room_in1 hu) (key_of I3.hok (pair_tup hb)) hd dd (fun pv hp => ?_) fun hn h' dd' hs' => ?_
  · have q := rel.val (kp p)
    rw [hp] at q
    cases q0 : valV kvs (kp p) with
    | none => rw [q0] at q; exact (show False from q).elim
    | some v0 =>
      rw [q0] at q
      exact ⟨v0, H3, I3.tok _, q, q3 v0 q0⟩
  · have q := (rel.val (kp p)).isSome_eq
    rw [hn] at q
    have q0 : valV kvs (kp p) = none := by
      cases z : valV kvs (kp p) with
      | none => rfl
      | some v => rw [z] at q; cases q
    have hl2 : (putK kvs (kp p) z).length ≤ sizeLine := by have := length_putK kvs (kp p) z; omega
    obtain ⟨o, es, ep, g1, g2, g3, g4, _, g6⟩ := dd'
    refine ⟨z, _, d_write (ob := .dT (putK kvs (kp p) z)) I3 (by rw [hD]; exact True.intro) hs' ⟨o, g1⟩ ⟨hl2, hd, _, (rel.put (kp p) (pair_tup hb) rz).keeps fun c ys ec => ?_, o, es, ep, g1, g2, g3, g4, g6⟩, rz, q4 q0⟩
    rw [upd_ne (ne_of ec hD (fun z => nomatch z))]
    exact ec
end
end BW

set_option Elab.async false
set_option linter.all false
set_option maxRecDepth 100000
set_option maxHeartbeats 4000000
/-! sets of texts: {.. for ..} with a text as what is put, sorted of such a set -/
namespace BW
open PySem PySem.Spec PyProof.Rows L2 SX
abbrev SK (P : Program) (w : World) := PySem.strKind P w
def kX (e : Int × Value) : PySem.Str := match e.2 with | .str k _ => k | _ => ⟨#[]⟩
def GX (w : World) (e : Int × Value) : Prop := ∃ k u, e.2 = Value.str k u ∧ e.1 = hashStr w k
/-- the set at a holds the texts l (no two alike), in some order; its table rises and can be walked -/
def SetX (w : World) (h : Heap) (a : Addr) (l : List PySem.Str) : Prop :=
  ∃ o es ep t, h.get? a = some o ∧ o.ExactSet ∧ o.data = .set es ep t ∧ (∀ e ∈ es.toList, GX w e) ∧ (es.toList.map kX).Perm l ∧ l.Nodup ∧
    es.size < scanBound ∧ t.fits es.size = true ∧ Ris t.place.toList ∧ (w.params.followText "set-order" = true ∨ t.led = true)
section
variable {P : Program} {w : World} {h h' : Heap} {a : Addr} {l : List PySem.Str}
theorem SetX.at (R : SetX w h a l) (k : ∀ o, h.get? a = some o → h'.get? a = some o) : SetX w h' a l := by
  obtain ⟨o, es, ep, t, ho, r⟩ := R
  exact ⟨o, es, ep, t, k o ho, r⟩
theorem sk_is (k : PySem.Str) (u : Tok) : (SK P w).is k (.str k u) = true := strKind_is _ _ _ _
theorem gx_elems {l : List (Int × Value)} (g : ∀ e ∈ l, GX w e) : ElemsOf (SK P w) l := fun e he => by
  obtain ⟨k, u, h1, h2⟩ := g e he
  exact ⟨⟨k, by rw [h1]; exact sk_is k u, h2⟩, by rw [h1] <;> rfl⟩
theorem gx_is {e : Int × Value} (g : GX w e) (k : PySem.Str) : (SK P w).is k e.2 = true ↔ kX e = k := by
  obtain ⟨k0, u, h1, _⟩ := g
  unfold kX
  rw [h1]
  refine ⟨fun z => (SK P w).inj _ _ _ (sk_is k0 u) z, fun z => ?_⟩
  subst z
  exact sk_is _ _
theorem gx_mem {l : List (Int × Value)} (g : ∀ e ∈ l, GX w e) (k : PySem.Str) : k ∈ l.map kX ↔ ∃ e ∈ l, (SK P w).is k e.2 = true := by
  rw [List.mem_map]
  exact ⟨fun ⟨e, he, q⟩ => ⟨e, he, (gx_is (g e he) k).2 q⟩, fun ⟨e, he, q⟩ => ⟨e, he, (gx_is (g e he) k).1 q⟩⟩
end
/-- a text more, if it is new -/
def putX (l : List PySem.Str) (k : PySem.Str) : List PySem.Str := if k ∈ l then l else l ++ [k]
section
variable {P : Program} {w : World} {A : Around} {E : Value → Shared → Prop} {s : Shared} {a : Addr} {l : List PySem.Str}
theorem storeX_at {h : Heap} {a : Addr} {o : Obj} {es es' : Array (Int × Value)} {ep : Nat} {t t' : SetTable} (ho : h.get? a = some o) (hd : o.data = .set es ep t) :
    (h.update a (Obj.putSet es' t')).get? a = some { o with data := .set es' (ep + 1) t' } := by
  have q := Heap.get?_update_self (Obj.putSet es' t') ho (by rw [putSet_of es' t' hd]; rfl)
  rwa [putSet_of es' t' hd] at q
theorem setX_tail {g : Bool → Sem Unit} (hg : ∀ (b : Bool) (s₁ : Shared) (Q' : Unit → Shared → Prop), Q' () s₁ → wpAny (model P w) A (g b) Q' E s₁)
    {o : Obj} {es : Array (Int × Value)} {ep : Nat} {t : SetTable} (ho : s.heap.get? a = some o) (hex : o.ExactSet) (hd : o.data = .set es ep t)
    {es1 : Array (Int × Value)} {t2 : SetTable} {l' : List PySem.Str} (g1 : ∀ e ∈ es1.toList, GX w e) (pm1 : (es1.toList.map kX).Perm l') (nd1 : l'.Nodup)
    (hb1 : es1.size < scanBound) (hf2 : t2.fits es1.size = true) (hr : Ris t2.place.toList) (hl : w.params.followText "set-order" = true ∨ t2.led = true) {wasDummy : Bool} {R : Option Bool → Shared → Prop}
    (hR : ∀ h', Heap.SameBut a s.heap h' → SetX w h' a l' → R (some true) { s with heap := h' }) :
    wpAny (model P w) A (do
        storeSet a es1 t2
        if (!wasDummy && t2.tooFull) = true then do
            g (relayAll t2 es1 (SetTable.grown es1.size)).2.2
            storeSet a (relayAll t2 es1 (SetTable.grown es1.size)).1 (relayAll t2 es1 (SetTable.grown es1.size)).2.1
            pure (some true)
          else pure (some true)) R E s := by
  refine wpAny_bind (wpAny_storeSet_of ho hd ?_ (fits_of_scanBound hb1))
  have at1 := storeX_at (es' := es1) (t' := t2) ho hd
  have same1 := Heap.SameBut.update s.heap a (Obj.putSet es1 t2)
  split
  · have pm := relayAll_perm t2 es1 (SetTable.grown es1.size)
    have f3 := relayAll_fits t2 es1 (SetTable.grown es1.size)
    have r3 := relayAll_ris t2 es1 (SetTable.grown es1.size)
    have l3 := relayAll_led t2 es1 (SetTable.grown es1.size)
    generalize relayAll t2 es1 (SetTable.grown es1.size) = Z at pm f3 r3 l3 ⊢
    obtain ⟨es2, t3, gave⟩ := Z
    dsimp only at pm f3 r3 l3 ⊢
    have sz : es2.size = es1.size := by rw [← Array.length_toList, pm.length_eq, Array.length_toList]
    have hb2 : es2.size < scanBound := by rw [sz]; exact hb1
    refine wpAny_bind (hg _ _ _ (wpAny_bind (wpAny_storeSet_of at1 rfl ?_ (fits_of_scanBound hb2))))
    have at2 := storeX_at (es' := es2) (t' := t3) at1 rfl
    refine wpAny_pure (hR _ (same1.trans (Heap.SameBut.update _ a _)) ?_)
    exact ⟨_, es2, _, t3, at2, hex, rfl, fun e he => g1 e (pm.mem_iff.mp he), (pm.map kX).trans pm1, nd1, hb2, f3, r3, hl.imp id fun z => by rw [l3]; exact z⟩
  · exact wpAny_pure (hR _ same1 ⟨_, es1, _, t2, at1, hex, rfl, g1, pm1, nd1, hb1, hf2, hr, hl⟩)
theorem setX_put {k : PySem.Str} {u : Tok} {Q : Bool → Shared → Prop} (R : SetX w s.heap a l) (room : l.length + 1 < scanBound)
    (hQ : ∀ b h', Heap.SameBut a s.heap h' → SetX w h' a (putX l k) → Q b { s with heap := h' }) :
    wpAny (model P w) A (setAddHashed a (.str k u) (hashStr w k)) Q E s := by
  obtain ⟨o, es, ep, t, ho, hex, hd, g, pm, nd, hb, hf, hr, hl⟩ := R
  have hkey : (SK P w).is k (.str k u) = true := sk_is k u
  have hsc : (Value.str k u).scannable = true := rfl
  have hel : ElemsOf (SK P w) es.toList := gx_elems g
  unfold setAddHashed setAddHashedIn
  refine wpAny_holding (wpAny_bind (wpAny_setState_of ho hd hf ?_))
  dsimp only
  rw [byScan_of hsc hb hel]
  simp only [↓reduceIte]
  unfold setAddByScan
  refine wpAny_bind (wpAny_bind (wpAny_rule (wpAny_bind (wpAny_setScan_of (knd := SK P w) (k := k) hkey ho hd hf hel ?_))))
  cases hfi : List.findIdx? (fun e => (SK P w).is k e.2) es.toList with
  | some j =>
    dsimp only
    obtain ⟨hj, pj, _⟩ := List.findIdx?_eq_some_iff_getElem.mp hfi
    have hin : k ∈ l := pm.mem_iff.mp ((gx_mem (P := P) (w := w) g k).2 ⟨es.toList[j], List.getElem_mem hj, pj⟩)
    refine wpAny_pure (wpAny_pure (hQ _ s.heap (Heap.SameBut.refl a s.heap) ?_))
    unfold putX
    rw [if_pos hin]
    exact ⟨o, es, ep, t, ho, hex, hd, g, pm, nd, hb, hf, hr, hl⟩
  | none =>
    dsimp only
    have hnk : k ∉ l := fun z => by
      obtain ⟨e, he, q⟩ := (gx_mem (P := P) (w := w) g k).1 (pm.mem_iff.mpr z)
      have c := List.findIdx?_eq_none_iff.mp hfi e he
      rw [q] at c
      cases c
    have hgw : ∀ (b : Bool) {s₁ : Shared} {Q' : Unit → Shared → Prop}, Q' () s₁ → wpAny (model P w) A (match b with | true => rule "set.scan.the-table-gave-way" | false => pure ()) Q' E s₁ :=
      fun b s₁ Q' q => by cases b <;> first | exact wpAny_pure q | exact wpAny_rule q
    have pn := layNew_perm t es (hashStr w k) (.str k u)
    have f1 := layNew_fits t es (hashStr w k) (.str k u)
    have r1 := layNew_ris t es (hashStr w k) (.str k u) hr
    have l1 := layNew_led t es (hashStr w k) (.str k u)
    show wpAny _ _ (match layNew t es (hashStr w k) (.str k u) with | _ => _) _ _ _
    generalize layNew t es (hashStr w k) (.str k u) = Z at pn f1 r1 l1 ⊢
    obtain ⟨es1, t1, wasDummy, gave⟩ := Z
    dsimp only at pn f1 r1 l1 ⊢
    rw [Array.toList_push] at pn
    have pc : es1.toList.Perm ((hashStr w k, Value.str k u) :: es.toList) := pn.trans (List.perm_append_singleton _ _)
    have pk : (es1.toList.map kX).Perm (putX l k) := by
      unfold putX
      rw [if_neg hnk]
      exact ((pc.map kX).trans (List.Perm.cons k pm)).trans (List.perm_append_singleton _ _).symm
    have g1 : ∀ e ∈ es1.toList, GX w e := fun e he => by
      rcases List.mem_cons.mp (pc.mem_iff.mp he) with z | z
      · rw [z]; exact ⟨k, u, rfl, rfl⟩
      · exact g e z
    have nd1 : (putX l k).Nodup := by
      unfold putX
      rw [if_neg hnk]
      exact (List.perm_append_singleton k l).nodup_iff.mpr (List.nodup_cons.mpr ⟨hnk, nd⟩)
    have hn : es.size = l.length := by rw [← Array.length_toList, ← pm.length_eq, List.length_map]
    have hsz : es1.size = l.length + 1 := by rw [← Array.length_toList, pc.length_eq, List.length_cons, Array.length_toList, hn]
    have hb1 : es1.size < scanBound := by rw [hsz]; exact room
    have hled : w.params.followText "set-order" = true ∨ t1.led = true := hl.imp id fun z => by rw [l1]; exact z
    refine wpAny_bind (hgw _ ?_)
    split
    · refine wpAny_bind ?_
      rw [hashByValue_scannable 8 hsc]
      refine wpAny_pure ?_
      refine setX_tail ?_ ho hex hd g1 pk nd1 hb1 ?_ ?_ ?_ ?_
      · intro b s₁ Q' q; cases b <;> first | exact wpAny_pure q | exact wpAny_rule q
      · first | (split <;> first | exact f1 | exact SetTable.fits_plain_off f1) | exact f1
      · first | (split <;> exact r1) | exact r1
      · first | (split <;> exact hled) | exact hled
      · intro h' sb r; dsimp only; exact wpAny_pure (hQ _ h' sb r)
    · refine wpAny_bind (wpAny_pure ?_)
      simp only [↓reduceIte]
      refine setX_tail ?_ ho hex hd g1 pk nd1 hb1 f1 r1 hled ?_
      · intro b s₁ Q' q; cases b <;> first | exact wpAny_pure q | exact wpAny_rule q
      · intro h' sb r; dsimp only; exact wpAny_pure (hQ _ h' sb r)
/-- found.add(k) -/
theorem setX_add {k : PySem.Str} {u : Tok} {Q : Value → Shared → Prop} (R : SetX w s.heap a l) (room : l.length + 1 < scanBound)
    (hQ : ∀ h', Heap.SameBut a s.heap h' → SetX w h' a (putX l k) → Q .none { s with heap := h', toks := s.toks + 1 }) :
    wpAny (model P w) A (call (.builtin "set.add") [.ref a, .str k u]) Q E s := by
  have hT : s.TypeIs (.ref a) "set" := by
    obtain ⟨o, es, ep, t, ho, hex, _⟩ := R
    exact ⟨o, ho, hex.1⟩
  refine wpAny_call_entry F.slot_set_add hT F.entry_set_add ?_ (F.args_set_add_2 _ _)
  unfold Builtin.«set.add» Builtin.Frozenset.oneOther
  simp only [List.isEmpty_nil, bind_assoc]
  unfold Builtin.Frozenset.addrOf setAdd
  refine wpAny_bind (wpAny_pure ?_)
  try dsimp only
  refine wpAny_bind (wpAny_pure ?_)
  try dsimp only
  refine wpAny_bind (wpAny_holding (wpAny_bind ((SK P w).pyHash (sk_is k u) ?_)))
  refine setX_put (s := { s with toks := s.toks + 1 }) R room fun b h' sb r => ?_
  show wpAny _ _ (ret Value.none) _ _ _
  exact wpAny_pure ⟨_, rfl, hQ h' sb r⟩
theorem setX_fresh {h : Heap} (w : World) : SetX w (h.push { cls := .type "set", dict := none, data := .set #[] 0 (.fresh 0 0 (!w.params.followText "set-order")) }) h.objs.size [] :=
  ⟨_, #[], 0, _, Heap.get?_push_size _ rfl, ⟨rfl, rfl, rfl⟩, rfl, (fun e he => by simp at he), (by simp), List.nodup_nil, (by decide), (by rfl), List.Pairwise.nil, by
    show _ ∨ (!w.params.followText "set-order") = true
    cases w.params.followText "set-order"
    · exact .inr rfl
    · exact .inl rfl⟩
theorem strs_of : ∀ (l : List Value), (∀ v ∈ l, ∃ k tk, v = Value.str k tk) → StrsAre l (l.map fun v => match v with | .str k _ => k | _ => ⟨#[]⟩)
  | [], _ => .nil
  | v :: l, h => by
    obtain ⟨k, tk, rfl⟩ := h v List.mem_cons_self
    exact .cons k tk (strs_of l fun u hu => h u (List.mem_cons_of_mem _ hu))
/-- sorted(set of texts) -/
theorem setX_sorted {Q : Value → Shared → Prop} (R : SetX w s.heap a l) (hh : A.handled = none) (h64 : l.length < 64)
    (hQ : ∀ s' p (out : Array Value) (c : Nat) (ys : List PySem.Str), (∀ b o, s.heap.get? b = some o → s'.heap.get? b = some o) → s'.gens = s.gens → s'.os = s.os → s.heap.objs.size ≤ p →
      s'.heap.get? p = some (seqObj "list" out c) → StrsAre out.toList ys → ys.Perm l → sortedS ys = true → Q (.ref p) s') :
    wpAny (model P w) A (call (.builtin "sorted") [.ref a]) Q E s := by
  obtain ⟨o, es, ep, t, ho, hex, hd, g, pm, nd, hb, hf, hr, hl⟩ := R
  refine Calls.call_function_entry kind_sorted plain_sorted entry_sorted (args_sorted1 _) ?_
  unfold Builtin.«sorted»
  refine wpAny_bind (m := checkCount "sorted" 1 1 _) (wpAny_pure ?_)
  refine wpAny_bind (collect_set (A := A.in1) hh ⟨o, ho, hex.1, hd⟩ hf hb hr hl fun s1 vs k1 hz g1 o1 pv => ?_)
  have hn : es.size = l.length := by rw [← Array.length_toList, ← pm.length_eq, List.length_map]
  have hvl : vs.length = l.length := by rw [pv.length_eq, List.length_map, Array.length_toList]; exact hn
  have hS : StrsAre vs (vs.map fun v => match v with | .str k _ => k | _ => ⟨#[]⟩) := strs_of vs fun v hv => by
    obtain ⟨e, he, q⟩ := List.mem_map.mp (pv.mem_iff.mp hv)
    obtain ⟨k, u, h1, _⟩ := g e he
    exact ⟨k, u, by rw [← q]; exact h1⟩
  have pk : (vs.map fun v => match v with | .str k _ => k | _ => (⟨#[]⟩ : PySem.Str)).Perm l := by
    have q := pv.map fun v => match v with | .str k _ => k | _ => (⟨#[]⟩ : PySem.Str)
    rw [List.map_map] at q
    exact q.trans pm
  refine wpAny_bind (wpAny_newList ?_ (by rw [hvl, sizeLine_eq]; omega))
  have hoL : (s1.heap.push (seqObj "list" vs.toArray 0)).get? s1.heap.objs.size = some (seqObj "list" vs.toArray 0) := Heap.get?_push_size _ rfl
  refine wpAny_bind (wpAny_holding (wpAny_call_entry slot_list_sort ⟨_, hoL, rfl⟩ entry_list_sort (list_sort_treeK strKind_oneLt hoL hS.keysOf (fun v₁ v₂ rest e => keyKind_strs (by rw [← e]; exact hS)) (by rw [hvl]; exact h64) fun st' a1 a2 => ⟨_, rfl, ?_⟩) (args_list_sort _)))
  obtain ⟨ys, b1, b2, b3⟩ := sorted_out_str hS a1 a2
  obtain ⟨c, hc⟩ := sortedHeap_at (vs := vs) (out := (arrOf st').map (·.2)) hoL
  refine wpAny_pure ⟨_, rfl, hQ _ s1.heap.objs.size _ c ys (fun b u e => ?_) g1 o1 hz hc b1 (b2.trans pk) b3⟩
  have q := k1 b u e
  have hlt := Heap.lt_size q
  show (sortedHeap (s1.heap.push (seqObj "list" vs.toArray 0)) s1.heap.objs.size vs _).get? b = some u
  rw [sortedHeap_old (Nat.ne_of_lt hlt) (by rw [size_push']; exact Nat.lt_succ_of_lt hlt)]
  exact Heap.get?_push_of_some _ q
end
/-! ### as tracked things -/
def SetXO (w : World) (a : Addr) (l : List PySem.Str) : HO := .ext fun h => SetX w h a l
theorem setXO_new {w : World} {P : Program} {H : Hp} {h : Heap} {a : Addr} {l : List PySem.Str} (R : SetX w h a l) : ObjOk P w H h a (SetXO w a l) := by
  have ⟨o, _, _, _, ho, _⟩ := R
  exact ⟨R, ⟨o, ho⟩, fun h1 h2 p k => SetX.at p k⟩
section
variable {X : Cx}
theorem setXO_get {pins : List (Addr × Obj)} {σ : L2.St} {H : Hp} {s : Shared} {a : Addr} {l : List PySem.Str} (I : Inv X pins σ H s) (ha : H a = some (SetXO X.w a l)) : SetX X.w s.heap a l := (I.hok a _ ha).1
def rSortedX (w : World) : List V → Hp → VK → Prop := fun vs H Q => ∃ (a : Addr) (l : List PySem.Str), vs = [V.ref a] ∧ H a = some (SetXO w a l) ∧ l.length < 64 ∧
  ∀ (ys : List PySem.Str) (p : Addr), ys.Perm l → sortedS ys = true → H p = none → Q (.ref p) (upd H p (.lst (ys.map V.str)))
theorem cr_sortedX (hc : X.calm = true) : CallR X (.builtin "sorted") (rSortedX X.w) := by
  intro pins s σ H vs us Q I r h
  obtain ⟨a, l, rfl, ha, h64, q⟩ := h
  rw [Vals.ref1 r]
  refine setX_sorted (setXO_get I ha) (I.ok.hd hc) h64 fun s' p out c ys k g o hp hg hi hm hs => ?_
  have hlen : (ys.map V.str).length ≤ sizeLine := by rw [List.length_map, hm.length_eq, sizeLine_eq]; omega
  have hn : H p = none := I.hok.fresh hp
  have J : Inv X pins σ (upd H p (.lst (ys.map V.str))) { s with heap := s'.heap, gens := s'.gens, drawn := s'.drawn, toks := s'.toks } :=
    I.call (ch := []) (Un.laid k hp hn) (I.hok.laid k hp ⟨hlen, out.toList, c, vals_of_strs hi, hg⟩) (by rw [g]; exact I.bare) (fun _ z => nomatch z)
  have e : s' = { s with heap := s'.heap, gens := s'.gens, drawn := s'.drawn, toks := s'.toks } := by
    cases s'
    cases s
    cases o
    rfl
  rw [e]
  exact ⟨.ref p, _, J, rfl, q ys p hm hs hn⟩
/-! ### the comprehension -/
def bTxt (w : World) (te : TE) : Addr → L2.St → Hp → (Hp → Prop) → Prop := fun D σ H K => te σ H fun y H1 => ∃ k l, y = .str k ∧ H1 D = some (SetXO w D l) ∧ l.length + 1 < scanBound ∧ K (upd H1 D (SetXO w D (putX l k)))
theorem gat_set {P : Program} {w : World} {A : Around} {elt tg iter : Expr} {scope : Scope} {pos : Pos} : Gat P w A tg (.SetComp elt [⟨tg, iter, [], 0⟩] scope pos) (newSet (.type "set")) { cls := .type "set", dict := none, data := .set #[] 0 (.fresh 0 0 (!w.params.followText "set-order")) }
    (fun a => SetXO w a []) (fun ce D Z NB s => wpAny (model P w) A (eval elt ce) (fun v s4 => wpAny (model P w) A (call (.builtin "set.add") [.ref D, v]) (fun _ s6 => Z s6) NB s4) NB s) where
  made := fun h => PpSet.newSet_ok h
  obj := fun H h hb => setXO_new (setX_fresh w)
  start := fun h0 h => PpSet.codeAny_compStart_set h0 h
  loop := fun I turn n s h => PpSet.compLoopS_any I (fun n s hI => wpAny_mono (turn n s hI) (fun r s1 h1 => by
    cases r with
    | none => exact h1
    | some v => exact wpAny_mono h1 (fun _ s2 h2 => wpAny_mono h2 (fun _ s3 h3 => wpAny_tests_nil h3) fun _ _ z => z) fun _ _ z => z) fun _ _ z => z) n h
theorem pe_setcomp {elt tg iter : Expr} {scope : Scope} {own : List (PySem.Str × Nat)} {pos : Pos} {wi : TI} {g : TG} {te : TE} (hc : X.calm = true) (hN : X.N.Nodup) (hi : PI X tg iter wi) (ok : BlkOk X.N X.env.scope scope own)
    (hg : ∀ (s : Shared) (H : Hp) (C : Addr) (cl : List (PySem.Str × Addr)) (fp : List Addr), PG (X.blk s H scope (compEnvC scope cl C X.env) fp) tg g)
    (he : ∀ (s : Shared) (H : Hp) (C : Addr) (cl : List (PySem.Str × Addr)) (fp : List Addr), PE (X.blk s H scope (compEnvC scope cl C X.env) fp) elt te) (hs : ∀ x, foldedSetIterable iter X.env x = pure x := by intro _; rfl) :
    PE X (.SetComp elt [⟨tg, iter, [], 0⟩] scope pos) (tGat (fun a => SetXO X.w a []) wi g (bTxt X.w te) (own.map (·.2))) := by
  refine ⟨fun pins s σ H Q I h => ?_⟩
  rw [arm_eval_SetComp]
  refine gat_core gat_set rfl hs hc hN I hi ok hg (fun s0 H0 C cl fp pins s σ H D K Z NB I hb fin => ?_) h
  refine thnF ((he s0 H0 C cl fp).run pins s σ H _ I hb) fun v s1 ⟨y, H1, I1, r1, k, l, ey, hD, room, q⟩ => ?_
  subst ey
  obtain ⟨u, rfl⟩ := r1
  refine setX_add (setXO_get (X := X.blk s0 H0 scope (compEnvC scope cl C X.env) fp) I1 hD) room fun h' sb new => ?_
  have he : ∃ o, h'.get? D = some o := by
    have ⟨o, _, _, _, ho, _⟩ := new
    exact ⟨o, ho⟩
  exact fin _ _ (I1.write (X := X.blk s0 H0 scope (compEnvC scope cl C X.env) fp) (e := D) (t' := s1.toks + 1) (by rw [hD]; trivial) (.inl rfl) (fun b o hb ho => (sb.2 b hb).trans ho) he (setXO_new new)) q
end
end BW

set_option Elab.async false
set_option linter.all false
set_option maxRecDepth 100000
set_option maxHeartbeats 4000000
/-! lambdas with parameters: made, handed to a def as its last argument, called there -/
namespace BW
open PySem PySem.Spec PyProof.Rows L2 SX
open NdefX (NF ncx NScope CellsAt Caps startF envF slotAt)
open LamX (CodeO Tabs TabB ExtN)
/-- the lambda's object stands at f -/
def LamAt (h : Heap) (f : Addr) (F : NF) (params : Arguments) (body : Expr) : Prop := ∃ pm ctv, h.get? f = some (PySem.W.kla_obj "<lambda>" F.qual params body F.scope F.cl pm F.c ctv)
/-- its arguments bind by place -/
def LamB (F : NF) (params : Arguments) (body : Expr) (ps : List PySem.Str) : Prop := ∀ (q : PySem.Str) (cl : List (PySem.Str × Addr)) (pm cv ctv : Value) (us : List Value), us.length = ps.length → bindArgs (PySem.W.kla_fn "<lambda>" q params body F.scope cl pm cv ctv) ⟨us, []⟩ = pure (ps.zip us)
theorem lam_run {CX : CXT} {P : Program} {w : World} {K : PySem.W.Frag} {mg : PySem.Str → Option Value} {base : Heap} {N ps fr : List PySem.Str} {F : NF} {params : Arguments} {body : Expr} {f : Addr} {A : Around} {outer : List Env} {s : Shared} {H : Hp} {E : XK} {us : List Value} {vs : List V} {ws : List (Option V)} {k : Nat} {Q : VK}
    (S : NScope N ps fr F.scope) (hf : LamAt s.heap f F params body) (hco : H F.c = some (CodeO F.c F.qual)) (hb : LamB F params body ps) (e0 : Env0 P w K mg base A outer s H) (hr : Room (k + 1) A) (C : CellsAt F.cl fr ws s.heap H) (r : Vals vs us) (hl : vs.length = ps.length)
    (hbody : Room k (A.deeper (envF F f s.heap.objs.size)) → ∃ t, PE (ncx CX P w K mg base N F f A outer s H E) body t ∧ t (startF N vs ws) H Q) :
    codeAny (model P w) A (.call (.ref f) ⟨us, []⟩) (CR CX outer P w H s Q E) s := by
  have lim : s.heap.NoLimit := e0.mod.nolimit.keeps fun b o e => (e0.bs b o e).1
  obtain ⟨pm, ctv, ho⟩ := hf
  refine PySem.W.kla_callFunE hr.depth ho rfl S.co S.gen rfl (NdefX.codeO_at e0.hok hco) ?_
  rw [hb _ _ _ _ _ us (by rw [← r.length]; exact hl)]
  refine wpAny_pure (wpAny_newFunctionEnv S.nocell (fun ⟨n, _⟩ hy => S.par n (List.of_mem_zip hy).1) (fun h₁ hns hsb => ⟨lim.fresh _ hsb, ?_⟩) S.kind)
  show codeAny _ _ (.expr body (envF F f s.heap.objs.size)) _ _
  have kp : ∀ b o, s.heap.get? b = some o → h₁.get? b = some o := fun b o e => hsb.extBut b o (Nat.ne_of_lt (Heap.lt_size e)) (Heap.get?_push_of_some _ e)
  obtain ⟨t, ht, hq⟩ := hbody (hr.deeper _)
  have I : Inv (ncx CX P w K mg base N F f A outer s H E) [] (startF N vs ws) H { s with heap := h₁, toks := s.toks + (ps.zip us).length } := NdefX.inv_startN S hr.hd e0 hl r C hns kp
  refine PySem.W.kla_codeExpr (wpAny_mono (ht.run [] _ (startF N vs ws) H Q I hq) (fun v s' hs => ?_) fun e s' hs => hs)
  obtain ⟨w', H', J, rv, q⟩ := hs
  exact ⟨w', H', J.os, J.bare, J.base, J.hok, rv, q⟩
section
variable {X : Cx} {pins : List (Addr × Obj)} {σ : L2.St} {H : Hp} {s : Shared}
/-- cells stay cells -/
theorem cells_stay {fs : List Addr} {h h' : Heap} {H H' : Hp} {cl : List (PySem.Str × Addr)} {fr : List PySem.Str} {ws : List (Option V)} (C : CellsAt cl fr ws h H) (un : Un fs [] H H' h h') : CellsAt cl fr ws h' H' := by
  have kp : ∀ y c, cl.lookup y = some c → ∀ v, h.IsCell c v → h'.IsCell c v := fun y c e v ⟨o, ho, hd⟩ => by
    obtain ⟨sl, q⟩ := un.any ho (C.all y c e).1 (fun z => nomatch z)
    exact ⟨_, q, hd⟩
  refine ⟨C.len, fun y c e => ?_, C.inj, fun i y e => ?_⟩
  · obtain ⟨n, v, z⟩ := C.all y c e
    refine ⟨?_, v, kp y c e v z⟩
    obtain ⟨o, ho, _⟩ := z
    exact un.free c o ho n (fun z => nomatch z)
  · obtain ⟨c, hc, hv⟩ := C.has i y e
    exact ⟨c, hc, fun v ev => (hv v ev).imp fun u ⟨r, z⟩ => ⟨r, kp y c hc _ z⟩⟩
/-- what a lambda is worth to a def that was entered with it: a value that may be called -/
theorem lam_callR {g f : Addr} {qg : PySem.Str} {sg : Scope} {Ng N ps fr : List PySem.Str} {cdg : Value} {F : NF} {params : Arguments} {body : Expr} {ws : List (Option V)} {k : Nat} {tl : TE}
    (e0 : Inv X pins σ H s) (S : NScope N ps fr F.scope) (hf : LamAt s.heap f F params body) (hfn : H f = none) (hfr : f ∉ frs X.stack) (hb : LamB F params body ps) (C : CellsAt F.cl fr ws s.heap H)
    (hr : Room (k + 1) (X.A.deeper (envOfC qg sg s.heap.objs.size g cdg)))
    (hbody : ∀ (A : Around) (outer : List Env) (s : Shared) (H : Hp), Room k (A.deeper (envF F f s.heap.objs.size)) → PE (ncx CX0 X.prog X.w X.K X.mg X.base N F f A outer s H E0) body tl) :
    CallR (cxOf CX0 X.prog X.w X.K X.mg X.base Ng qg sg g cdg X.A X.stack s H E0).nox (.ref f) (fun vs HZ Q => vs.length = ps.length ∧ HZ F.c = some (CodeO F.c F.qual) ∧ tl (startF N vs ws) HZ Q) := by
  intro pinsZ sZ σZ HZ vs us Q IZ r h
  obtain ⟨hl, hc, ht⟩ := h
  have un : Un (frs X.stack) [] H HZ s.heap sZ.heap := IZ.base
  obtain ⟨pm, ctv, ho⟩ := hf
  have of1 : LamAt sZ.heap f F params body := ⟨pm, ctv, un.keep f _ ho hfn hfr (fun z => nomatch z)⟩
  have rc := lam_run (CX := CX0) (E := E0) S of1 hc hb IZ.env0 hr (cells_stay C un) r hl (Q := Q) fun hr' => ⟨tl, hbody _ _ _ _ hr', ht⟩
  refine wpAny_call (codeAny_mono rc fun r s' hq => ?_)
  cases r with
  | error e => exact (show False from hq).elim
  | ok fl =>
    cases fl with
    | ret u => exact IZ.after hq
    | next => exact False.elim hq
    | brk => exact False.elim hq
    | cont => exact False.elim hq
/-- .. so long as it is there -/
theorem lam_there {g f : Addr} {qg : PySem.Str} {sg : Scope} {Ng : List PySem.Str} {cdg : Value} {F : NF} {params : Arguments} {body : Expr}
    (hf : LamAt s.heap f F params body) (hfn : H f = none) (hfr : f ∉ frs X.stack) : ∀ (pinsZ : List (Addr × Obj)) (σZ : L2.St) (HZ : Hp) (sZ : Shared), Inv (cxOf CX0 X.prog X.w X.K X.mg X.base Ng qg sg g cdg X.A X.stack s H E0).nox pinsZ σZ HZ sZ → PySem.W.FnAt f sZ.heap := by
  intro pinsZ σZ HZ sZ IZ
  obtain ⟨pm, ctv, ho⟩ := hf
  have un : Un (frs X.stack) [] H HZ s.heap sZ.heap := IZ.base
  exact ⟨_, _, _, _, un.keep f _ ho hfn hfr (fun z => nomatch z)⟩
/-- x(e..), x a name that holds a function of which r is known -/
def tVarC (i : Nat) (f : Addr) (t : TA) (r : List V → Hp → VK → Prop) : TE := fun σ H Q => σ[i]? = some (some (.ref f)) ∧ t σ H fun vs H1 => r vs H1 Q
theorem pe_varc {f : Addr} {r : List V → Hp → VK → Prop} {i : Nat} {x : PySem.Str} {p pos : Pos} {e : Expr} {es : List Expr} {t : TA} (there : ∀ (pins : List (Addr × Obj)) (σ : L2.St) (H : Hp) (s : Shared), Inv X pins σ H s → PySem.W.FnAt f s.heap) (hc : CallR X (.ref f) r)
    (hN : X.N[i]? = some x) (hv : Vis X.env.scope x) (ha : PA X (e :: es) t) (hd : (x == ("__debug__" : PySem.Str)) = false := by decide) (hcd : (x == ("__classdict__" : PySem.Str)) = false := by decide)
    (he : starEach (e :: es) X.env = (false, eval e X.env) :: starEach es X.env := by rfl) (hpl : (backTo pos (starEach es X.env)).any (·.1) = false := by rfl) : PE X (.Call (.Name x p) (e :: es) [] pos) (tVarC i f t r) := by
  refine ⟨fun pins s σ H Q I h => ?_⟩
  obtain ⟨hs, ht⟩ := h
  refine wpAny_Call_Name_kw (thn ((pe_var (pos := p) hN hv hd hcd).run pins s σ H (fun v H1 => v = .ref f ∧ H1 = H) I ⟨.ref f, hs, rfl, rfl⟩) fun u s1 ⟨v, H1, I1, r1, q1⟩ => ?_)
  obtain ⟨ev, eH⟩ := q1
  subst ev
  rw [eH] at I1
  obtain rfl : u = Value.ref f := r1
  refine PySem.W.callWith_F (first := []) (there _ _ _ _ I1) (thn (ha.run pos pins s1 σ H _ I1 ht) fun us s2 ⟨vs, H2, I2, r, q⟩ => ⟨there _ _ _ _ I2, ?_⟩) he hpl
  exact hc pins s2 σ H2 vs us Q I2 r q
/-! ### x(e1, e2, e3, e4, lambda ..) -/
/-- the lambda's reading at the def that got it -/
def rLm (q : PySem.Str) (Nl psl : List PySem.Str) (js : List Nat) (tl : TE) (c' : Addr) (σ : L2.St) : List V → Hp → VK → Prop := fun vs HZ Q => vs.length = psl.length ∧ HZ c' = some (CodeO c' q) ∧ tl (startF Nl vs (js.map (slotAt σ))) HZ Q
def tLam5 (T : List (Addr × PySem.Str)) (q : PySem.Str) (t1 t2 t3 t4 : TE) (TT : Addr → L2.St → List V → Hp → VK → Prop) : TE := fun σ H Q => t1 σ H fun v1 H1 => t2 σ H1 fun v2 H2 => t3 σ H2 fun v3 H3 => t4 σ H3 fun v4 H4 =>
  Tabs T H4 ∧ ∀ (c' : Addr) (H5 : Hp), ExtN H4 H5 → Tabs T H5 → H5 c' = some (CodeO c' q) → TT c' σ [v1, v2, v3, v4] H5 Q
theorem pe_lam5 {T : List (Addr × PySem.Str)} {x : PySem.Str} {st : Stmt} {g c P : Addr} {Ng pg : List PySem.Str} {e1 e2 e3 e4 : Expr} {t1 t2 t3 t4 tl : TE} {params : Arguments} {body : Expr} {scope : Scope} {lpos p pos : Pos} {Nl psl frl : List PySem.Str} {js : List Nat} {k : Nat}
    {TT : Addr → L2.St → List V → Hp → VK → Prop} (Fg : Fn X.K x x st g) (hm : X.mg x = some (.ref g)) (hg : Gl X x) (b : BindsP x x st pg) (Sg : FnScope Ng pg (defScope st)) (h5 : pg.length = 5)
    (TB : TabB X.base X.mg c P) (hcode : X.env.code = .ref c) (hmT : (P, X.env.qual ++ "<lambda>") ∈ T) (hu : ∀ p ∈ T, p.1 = P → p.2 = X.env.qual ++ "<lambda>") (hr : Room (k + 2) X.A)
    (hfree : ∀ y ∈ scope.names, y.2 = .free → X.env.scope.names.lookup y.1 = some .cell ∨ X.env.scope.names.lookup y.1 = some .free) (hfr : ∀ y ∈ frl, (y, NameKind.free) ∈ scope.names) (hjs : js.map (fun j => X.N[j]?) = frl.map some)
    (S : NScope Nl psl frl scope) (hb : ∀ (q : PySem.Str) (cl : List (PySem.Str × Addr)) (pm cv ctv : Value) (us : List Value), us.length = psl.length → bindArgs (PySem.W.kla_fn "<lambda>" q params body scope cl pm cv ctv) ⟨us, []⟩ = pure (psl.zip us)) (hdef : defaultsOf params X.env = ([], []))
    (hbody : ∀ (F : NF) (f : Addr) (A : Around) (outer : List Env) (s : Shared) (H : Hp), F.scope = scope → Room k (A.deeper (envF F f s.heap.objs.size)) → PE (ncx CX0 X.prog X.w X.K X.mg X.base Nl F f A outer s H E0) body tl)
    (h1 : PE X e1 t1) (h2 : PE X e2 t2) (h3 : PE X e3 t3) (h4 : PE X e4 t4)
    (hG : ∀ (f c' : Addr) (cdv : Value) (s : Shared) (H : Hp) (σ : L2.St) (vs : List V) (Q : VK), Room (k + 1) (X.A.deeper (envOfC x (defScope st) s.heap.objs.size g cdv)) →
      CallR (cxOf CX0 X.prog X.w X.K X.mg X.base Ng x (defScope st) g cdv X.A X.stack s H E0).nox (.ref f) (rLm (X.env.qual ++ "<lambda>") Nl psl js tl c' σ) →
      (∀ (pins : List (Addr × Obj)) (σ : L2.St) (HZ : Hp) (sZ : Shared), Inv (cxOf CX0 X.prog X.w X.K X.mg X.base Ng x (defScope st) g cdv X.A X.stack s H E0).nox pins σ HZ sZ → PySem.W.FnAt f sZ.heap) →
      H c' = some (CodeO c' (X.env.qual ++ "<lambda>")) → TT c' σ vs H Q →
      ∃ t, PSs (cxOf CX0 X.prog X.w X.K X.mg X.base Ng x (defScope st) g cdv X.A X.stack s H E0).nox (defBody st) t ∧ t { nx := fun _ H' => Q .non H', rt := Q } (L2.start Ng (vs ++ [.ref f])) H)
    (hdb : (x == ("__debug__" : PySem.Str)) = false := by decide)
    (hst : starEach [e1, e2, e3, e4, .Lambda params body scope lpos] X.env = (false, eval e1 X.env) :: starEach [e2, e3, e4, .Lambda params body scope lpos] X.env := by rfl)
    (hst2 : backTo pos (starEach [e2, e3, e4, .Lambda params body scope lpos] X.env) = backTo pos [(false, eval e2 X.env), (false, eval e3 X.env), (false, eval e4 X.env), (false, eval (.Lambda params body scope lpos) X.env)] := by rfl)
    (hpl : (backTo pos (starEach [e2, e3, e4, .Lambda params body scope lpos] X.env)).any (·.1) = false := by rfl) :
    PE X (.Call (.Name x p) [e1, e2, e3, e4, .Lambda params body scope lpos] [] pos) (tLam5 T (X.env.qual ++ "<lambda>") t1 t2 t3 t4 TT) := by
  obtain ⟨fd, Fg⟩ := Fg
  have kp := Fg.kp
  have bA := Fg.bindsA (ps := pg) b
  obtain ⟨oc, od, dV, kV, doc, pm, an, cdv, ct, osl, rfl, lk, hcd, _, _⟩ := Fg.ex
  refine ⟨fun pins s σ H Q I h => ?_⟩
  refine wpAny_Call_Name_kw (ld_glob I hg hm ?_ hdb)
  refine PySem.W.callWith_K (h₀ := X.base) I.ok.mod.kin kp ?_ hst hpl
  rw [hst]
  show wpAny _ _ (spliced ((false, eval e1 X.env) :: backTo pos (starEach [e2, e3, e4, .Lambda params body scope lpos] X.env))) _ _ s
  rw [hst2]
  refine Calls.spliced_cons (thn (h1.run pins s σ H _ I h) fun u1 s1 ⟨v1, H1, I1, r1, q1⟩ => ?_)
  refine Calls.spliced_cons (thn (h2.run pins s1 σ H1 _ I1 q1) fun u2 s2 ⟨v2, H2, I2, r2, q2⟩ => ?_)
  refine Calls.spliced_cons (thn (h3.run pins s2 σ H2 _ I2 q2) fun u3 s3 ⟨v3, H3, I3, r3, q3⟩ => ?_)
  refine Calls.spliced_cons (thn (h4.run pins s3 σ H3 _ I3 q3) fun u4 s4 ⟨v4, H4, I4, r4, hT, q4⟩ => ?_)
  have hfc : ∀ y ∈ scope.names, y.2 = .free → ∃ c, X.env.cells.lookup y.1 = some c := fun y hy e => (hfree y hy e).elim (fun z => I.ok.has _ (.inl z)) fun z => I.ok.has _ (.inr z)
  refine Calls.spliced_cons (LamX.lam_make2 I4 TB hcode hmT hu hT hdef hfc fun f c' pm' ctv H5 s5 I5 eN T5 hf hfn hfrs hco => ?_)
  refine Calls.spliced_nil ⟨I5.kIn, ?_⟩
  let F : NF := ⟨"<lambda>", X.env.qual ++ "<lambda>", params, [], scope, cloFrom X.env.cells scope.names [], c'⟩
  have C : CellsAt F.cl frl (js.map (slotAt σ)) s5.heap H5 := NdefX.cells_of I5 (Caps.made I5.ok hfree hfr hjs)
  have hla : LamAt s5.heap f F params body := ⟨pm', ctv, hf⟩
  have rc : codeAny (model X.prog X.w) X.A (.call (.ref g) ⟨[u1, u2, u3, u4, .ref f], []⟩) (CR CX0 X.stack X.prog X.w H5 s5 Q E0) s5 := by
    refine LamX.run_ofS (N := Ng) (ps := pg) (us := [u1, u2, u3, u4, .ref f]) (vs := [v1, v2, v3, v4, .ref f]) lk hcd Sg hr I5.env0 (bA s5 _ (by rw [h5]; rfl)) (.cons r1 (.cons r2 (.cons r3 (.cons r4 (.cons rfl .nil))))) (by rw [h5]; rfl) fun hr' => ?_
    obtain ⟨t', ht', hq'⟩ := hG f c' cdv s5 H5 σ [v1, v2, v3, v4] Q hr' (lam_callR (F := F) I5 S hla hfn hfrs (fun q cl pm cv ctv us hl => hb q cl pm cv ctv us hl) C hr' fun A outer s H hr2 => hbody F f A outer s H rfl hr2) (lam_there hla hfn hfrs) hco (q4 c' H5 eN T5 hco)
    exact ⟨t', ht'.nox, hq'⟩
  refine wpAny_call (codeAny_mono rc fun r s2 hq => ?_)
  cases r with
  | error e => exact (show False from hq).elim
  | ok fl =>
    cases fl with
    | ret u => exact I5.after hq
    | next => exact False.elim hq
    | brk => exact False.elim hq
    | cont => exact False.elim hq
end
/-! ### the tables of code objects -/
def lamQ (x : PySem.Str) : PySem.Str := x ++ ".<locals>." ++ "<lambda>"
def T3 (K : PySem.W.Frag) : List (Addr × PySem.Str) := [(tabP K "pair_rows", lamQ "pair_rows"), (tabP K "first_of", lamQ "first_of"), (tabP K "_law_due", lamQ "_law_due")]
structure Tb (K : PySem.W.Frag) (mg : PySem.Str → Option Value) (base : Heap) : Prop where
  at_ : ∀ x ∈ (["pair_rows", "first_of", "_law_due"] : List PySem.Str), TabB base mg (He.codeOf K (x, none)) (tabP K x)
  n12 : tabP K "pair_rows" ≠ tabP K "first_of"
  n13 : tabP K "pair_rows" ≠ tabP K "_law_due"
  n23 : tabP K "first_of" ≠ tabP K "_law_due"
section
variable {CX : CXT} {P : Program} {w : World} {K : PySem.W.Frag} {mg : PySem.Str → Option Value} {base : Heap}
/-- a def that makes a lambda: its code object is told -/
theorem cal_ofL {x : PySem.Str} {st : Stmt} {N ps : List PySem.Str} {k : Nat} {sp : Sp} (F : Fn K x x st (He.ga K x)) (g : mg x = some (.ref (He.ga K x))) (b : BindsP x x st ps) (S : FnScope N ps (defScope st)) (len : ∀ vs H Q E, sp vs H Q E → vs.length = ps.length)
    (hbody : ∀ (A : Around) (outer : List Env) (s : Shared) (H : Hp) (vs : List V) (Q : VK) (E : XK), Room k (A.deeper (envOfC x (defScope st) s.heap.objs.size (He.ga K x) (.ref (He.codeOf K (x, none))))) → sp vs H Q E →
      ∃ t, PSs (cxOf CX P w K mg base N x (defScope st) (He.ga K x) (.ref (He.codeOf K (x, none))) A outer s H E) (defBody st) t ∧ t { nx := fun _ H' => Q .non H', rt := Q } (start N vs) H) : Cal CX P w K mg base (k + 1) x sp := by
  obtain ⟨fd, F⟩ := F
  have kp := F.kp
  have bb := F.bindsN (ps := ps) b
  obtain ⟨oc, od, dV, kV, doc, pm, an, cdv, ct, osl, rfl, lk, hcd, _, _⟩ := F.ex
  obtain ⟨c, rfl⟩ := He.codeIn_ref hcd
  have ec : He.codeOf K (x, none) = c := He.codeOf_eq (p := (x, none)) (by exact lk) rfl
  refine ⟨_, _, ps, fn_of lk hcd S len fun A outer s H vs Q E hr h => ?_, g, kp, bb⟩
  rw [← ec] at hr ⊢
  exact hbody A outer s H vs Q E hr h
end
end BW

set_option Elab.async false
set_option linter.all false
set_option maxRecDepth 100000
set_option maxHeartbeats 4000000
/-! a lambda as a value; min(rows, key=lambda); max(.., default=..) -/
namespace BW
open PySem PySem.Spec PyProof.Rows L2 SX
open NdefX (NF ncx NScope CellsAt Caps startF envF slotAt)
open LamX (CodeO Tabs TabB ExtN)
def LamO (f : Addr) (F : NF) (params : Arguments) (body : Expr) : HO := .ext fun h => LamAt h f F params body
section
variable {X : Cx} {pins : List (Addr × Obj)} {σ : L2.St} {H : Hp} {s : Shared}
/-- objects that are not tracked may turn -/
theorem inv_touch {H' : Hp} {s1 : Shared} {h' : Heap} {tk : Nat} {ch : List Addr} (I : Inv X pins σ H' s1) (k : ∀ b o, b ∉ ch → s1.heap.get? b = some o → h'.get? b = some o) (hn : ∀ b ∈ ch, FpOk X pins H' b) : Inv X pins σ H' { s1 with heap := h', toks := tk } := by
  have tr : ∀ b o, H' b = some o → b ∉ ch := fun b o e z => by rw [(hn b z).1] at e; cases e
  refine I.call (g' := s1.gens) (t' := tk) (d' := s1.drawn) (ch := ch) ⟨fun b o e _ _ hb => k b o hb e, fun b o e _ _ hb => ⟨o.slots, k b o hb e⟩, fun b o _ n _ => n, fun b o e hb => ⟨o, k b o hb e⟩, fun _ _ e => e, fun _ _ _ e => e, fun _ _ e => ⟨#[], by simpa using e⟩⟩ ?_ I.bare fun b hb => ?_
  · intro a o e
    refine (I.hok a o e).stay (fun b u hb q => k b u ?_ q) (fun _ q => q) fun _ _ q => q
    rcases hb with z | z
    · rw [z]; exact tr a o e
    · exact tr b _ z
  · obtain ⟨_, f1, _, f3, f4, f5⟩ := hn b hb
    exact ⟨f3, f1, f4, f5⟩
theorem fp_same {H' : Hp} {b : Addr} (f : FpOk X pins H b) (n : H' b = none) : FpOk X pins H' b := ⟨n, f.2⟩
/-- in1: the same frames -/
theorem env_in1 (I : Inv X pins σ H s) : Env0 X.prog X.w X.K X.mg X.base X.A.in1 X.stack s H := ⟨I.env0.frames, I.env0.mod, I.env0.bs, I.env0.bsz, I.env0.funs, I.env0.frf, I.env0.hok, I.env0.bare⟩
theorem room_in1 {k : Nat} {A : Around} (r : Room (k + 1) A) : Room k A.in1 := ⟨r.hd, by have := r.dp; show A.depth + 3 * k + 5 < _; omega, by have := r.un; show A.units + 1 + 16 * k + 200 < _; omega⟩
/-! ### a lambda as a value -/
/-- a new object is known from now on -/
theorem inv_lam {F : NF} {params : Arguments} {body : Expr} {o : Obj} {t' : Nat} {pm ctv : Value} (I : Inv X pins σ H s) (ho : o = PySem.W.kla_obj "<lambda>" F.qual params body F.scope F.cl pm F.c ctv) :
    Inv X pins σ (upd H s.heap.objs.size (LamO s.heap.objs.size F params body)) { s with heap := s.heap.push o, toks := t' } := by
  subst ho
  have e : (s.heap.push (PySem.W.kla_obj "<lambda>" F.qual params body F.scope F.cl pm F.c ctv)).get? s.heap.objs.size = some (PySem.W.kla_obj "<lambda>" F.qual params body F.scope F.cl pm F.c ctv) := Heap.get?_push_size _ rfl
  exact I.laid (a := s.heap.objs.size) (fun b u e => Heap.get?_push_of_some _ e) (Nat.le_refl _) ⟨⟨pm, ctv, e⟩, ⟨_, e⟩, fun h1 h2 ⟨p, t, z⟩ st => ⟨p, t, st _ z⟩⟩
theorem lamO_ne {f : Addr} {F : NF} {params : Arguments} {body : Expr} (ps : Array Value) : LamO f F params body ≠ .tbl ps := fun z => by
  unfold LamO at z
  cases z
def tLamb (T : List (Addr × PySem.Str)) (q : PySem.Str) (params : Arguments) (body : Expr) (scope : Scope) : TE := fun σ H Q => Tabs T H ∧ ∀ (f : Addr) (F : NF) (H1 : Hp), ExtN H H1 → Tabs T H1 → H f = none → H1 f = some (LamO f F params body) → H1 F.c = some (CodeO F.c q) →
  F.qual = q → F.scope = scope → (scope.names.all (fun y => !decide (y.2 = .free)) = true → F.cl = []) → Q (.ref f) H1
theorem cloFrom_nil {cells : List (PySem.Str × Addr)} : ∀ {names : List (PySem.Str × NameKind)}, names.all (fun y => !decide (y.2 = .free)) = true → cloFrom cells names [] = [] := by
  intro names h
  cases e : cloFrom cells names [] with
  | nil => rfl
  | cons p l =>
    have hm : p ∈ cloFrom cells names [] := by rw [e]; exact List.mem_cons_self
    rcases cloFrom_mem hm with z | ⟨z, _⟩
    · cases z
    · have q := List.all_eq_true.mp h _ z
      simp at q
theorem pe_lambda {T : List (Addr × PySem.Str)} {c P : Addr} {params : Arguments} {body : Expr} {scope : Scope} {pos : Pos} (TB : TabB X.base X.mg c P) (hcode : X.env.code = .ref c) (hm : (P, X.env.qual ++ "<lambda>") ∈ T) (hu : ∀ p ∈ T, p.1 = P → p.2 = X.env.qual ++ "<lambda>")
    (hdef : defaultsOf params X.env = ([], [])) (hfr : scope.names.all (fun y => !decide (y.2 = .free)) = true) : PE X (.Lambda params body scope pos) (tLamb T (X.env.qual ++ "<lambda>") params body scope) := by
  refine ⟨fun pins s σ H Q I h => ?_⟩
  obtain ⟨hT, h⟩ := h
  obtain ⟨ps, hP, ht, ha⟩ := hT _ hm
  have hfree : ∀ y ∈ scope.names, y.2 = .free → ∃ c, X.env.cells.lookup y.1 = some c := fun y hy e => by
    have q := List.all_eq_true.mp hfr y hy
    rw [e] at q
    simp at q
  refine PySem.W.kla_eval hdef ?_
  have bP : s.heap.BuiltinsAt X.mg P := TB.bm.keeps I.bk
  have hP' : s.heap.get? P = some { cls := .none, data := .fields ps } := I.hok P _ hP
  cases hc : codeAmong pos ps.toList with
  | none =>
    refine PySem.W.kla_makeFunction (mg := X.mg) (c := c) (P := P) (ps := ps) (closure_ok hfree) I.ok.glob (I.mod.glob.keeps I.bk) hcode (TB.code.keeps I.bk) hP' ht hc TB.gP bP fun c' ctv h' tk hx hge hlt hrec htb => ?_
    obtain ⟨c2, oc, vs, t, e2, hoc, hd, hv⟩ := hrec
    cases e2
    have nC : H c' = none := I.hok.fresh hge
    have I1 := LamX.inv_table (t' := tk) (more := #[rawInt pos.line, rawInt pos.col, .ref c']) (h' := h') I hP (fun b o hb e => hx b o hb e) htb hge ⟨oc, vs, t, hoc, hd, hv⟩
    have hE : ExtN H (upd (upd H P (.tbl (ps ++ #[rawInt pos.line, rawInt pos.col, .ref c']))) c' (CodeO c' (X.env.qual ++ "<lambda>"))) := fun b o e n => by
      rw [upd_ne (ne_of_none e nC), upd_ne (fun z => n ps (Option.some.inj (e.symm.trans (by rw [z]; exact hP))))]
      exact e
    have eL : (ps ++ #[rawInt pos.line, rawInt pos.col, .ref c']).toList = ps.toList ++ [rawInt pos.line, rawInt pos.col, .ref c'] := by simp
    have T1 : Tabs T (upd (upd H P (.tbl (ps ++ #[rawInt pos.line, rawInt pos.col, .ref c']))) c' (CodeO c' (X.env.qual ++ "<lambda>"))) := fun p hp => by
      by_cases hb : p.1 = P
      · rw [hu p hp hb, hb]
        refine ⟨_, by rw [upd_ne (ne_of_none hP nC), upd_same], by rw [eL]; exact PySem.TriplesOk_snoc _ _ _ _ ht, fun p' cv hcv => ?_⟩
        rw [eL] at hcv
        rcases LamX.among_app _ ht hcv with z | z
        · obtain ⟨c0, e1, e2⟩ := ha p' cv z
          exact ⟨c0, e1, hE _ _ e2 LamX.codeO_ne⟩
        · exact ⟨c', z, upd_same⟩
      · obtain ⟨ps', a1, a2, a3⟩ := hT p hp
        refine ⟨ps', by rw [upd_ne (ne_of_none a1 nC), upd_ne hb]; exact a1, a2, fun p' cv hcv => ?_⟩
        obtain ⟨c0, e1, e2⟩ := a3 p' cv hcv
        exact ⟨c0, e1, hE _ _ e2 LamX.codeO_ne⟩
    have nF := I1.hok.fresh (Nat.le_refl _)
    have I2 := inv_lam (F := ⟨"<lambda>", X.env.qual ++ "<lambda>", params, [], scope, cloFrom X.env.cells scope.names [], c'⟩) (params := params) (body := body) (t' := tk) (pm := (X.mg "__name__").getD .none) (ctv := ctv) I1 rfl
    refine ⟨.ref h'.objs.size, _, I2, rfl, h h'.objs.size _ _ (fun b o e n => ?_) (T1.ext fun b o e => ?_) (I.hok.fresh (Nat.le_trans hge (Nat.le_of_lt hlt))) upd_same ?_ rfl rfl fun z => cloFrom_nil z⟩
    · have e1 := hE b o e n
      exact (upd_ne (ne_of_none e1 nF)).trans e1
    · exact (upd_ne (ne_of_none e nF)).trans e
    · exact (upd_ne (Nat.ne_of_lt hlt)).trans upd_same
  | some cv =>
    obtain ⟨c', e, hco⟩ := ha pos cv hc
    subst e
    refine PySem.W.kla_makeFunctionHit (mg := X.mg) (c := c) (P := P) (ps := ps) (closure_ok hfree) I.ok.glob (I.mod.glob.keeps I.bk) hcode (TB.code.keeps I.bk) hP' ht hc bP fun ctv h' tk hx hsz => ?_
    have I1 : Inv X pins σ H { s with heap := h', toks := tk } := I.kept hx
    have nF : H h'.objs.size = none := I1.hok.fresh (Nat.le_refl _)
    have I2 := inv_lam (F := ⟨"<lambda>", X.env.qual ++ "<lambda>", params, [], scope, cloFrom X.env.cells scope.names [], c'⟩) (params := params) (body := body) (t' := tk) (pm := (X.mg "__name__").getD .none) (ctv := ctv) I1 rfl
    refine ⟨.ref h'.objs.size, _, I2, rfl, h h'.objs.size _ _ (fun b o e n => ?_) (hT.ext fun b o e => ?_) nF upd_same ?_ rfl rfl fun z => cloFrom_nil z⟩
    · exact (upd_ne (ne_of_none e nF)).trans e
    · exact (upd_ne (ne_of_none e nF)).trans e
    · exact (upd_ne (ne_of_none hco nF)).trans hco
/-! ### the tuples (len, row) compared -/
def KeyT (h : Heap) (v : Value) (r : List Nat) : Prop := ∃ p t1 t2, v = .ref p ∧ h.IsTuple p #[.int (r.length : Int) t1, .str (S r) t2]
theorem before_of (a b : List Nat) : SeqAt.firstLt (fun j => if j = 0 then decide (a.length = b.length) else decide (a = b)) (fun j => if j = 0 then decide (a.length < b.length) else decide (a < b)) false [0, 1] = BK.before a b := by
  unfold BK.before
  by_cases h : a.length = b.length
  · by_cases h2 : a = b
    · subst h2
      simp [SeqAt.firstLt]
    · simp [SeqAt.firstLt, h, h2]
  · simp [SeqAt.firstLt, h]
theorem lt_keys {P : Program} {w : World} {A : Around} {s : Shared} {E : Value → Shared → Prop} {Q : Value → Shared → Prop} {u v : Value} {a b : List Nat} (hu : KeyT s.heap u a) (hv : KeyT s.heap v b) (hr : A.units < cLine) (h : Q (.bool (BK.before a b)) s) : wpAny (model P w) A (richCompare .Lt u v) Q E s := by
  obtain ⟨p, t1, t2, rfl, ht⟩ := hu
  obtain ⟨p', u1, u2, rfl, ht'⟩ := hv
  have q := SeqAt.RcLt.tuples (A := A) (s := s) (e := fun j => if j = 0 then decide (a.length = b.length) else decide (a = b)) (r := fun j => if j = 0 then decide (a.length < b.length) else decide (a < b)) ht ht' hr (fun j h1 h2 => ?_) (fun j h1 h2 hj => ?_)
  · refine q P w E Q ?_
    rw [← before_of] at h
    exact h
  · match j, h1 with
    | 0, _ =>
      have q := SeqAt.EqAt.int_int (A := A.in1) (s := s) (a.length : Int) t1 (b.length : Int) u1
      have e : (((a.length : Int) == (b.length : Int)) : Bool) = decide (a.length = b.length) := by
        rw [Bool.eq_iff_iff, beq_iff_eq, decide_eq_true_eq]
        omega
      rw [e] at q
      exact q
    | 1, _ =>
      have q := SeqAt.EqAt.str_str (A := A.in1) (s := s) (S a) t2 (S b) u2
      have e : ((S a == S b) : Bool) = decide (a = b) := by
        rw [Bool.eq_iff_iff, beq_iff_eq, decide_eq_true_eq]
        exact ⟨fun h => S_inj h, fun h => by rw [h]⟩
      rw [e] at q
      exact q
  · match j, h1 with
    | 0, _ =>
      intro prog w E Q hq
      refine PySem.P.lt_int ?_
      have e : decide ((a.length : Int) < (b.length : Int)) = decide (a.length < b.length) := by
        rw [Bool.eq_iff_iff, decide_eq_true_eq, decide_eq_true_eq]
        omega
      rw [e]
      exact hq
    | 1, _ =>
      intro prog w E Q hq
      refine PySem.P.lt_str ?_
      exact hq
end
end BW

set_option Elab.async false
set_option linter.all false
set_option maxRecDepth 100000
set_option maxHeartbeats 4000000
/-! min(rows, key=lambda row: (len(row), row)) -/
namespace BW
open PySem PySem.Spec PyProof.Rows L2 SX
open NdefX (NF ncx NScope CellsAt Caps startF envF slotAt)
open LamX (CodeO Tabs TabB ExtN)
section
variable {X : Cx} {pins : List (Addr × Obj)} {σ : L2.St} {H : Hp} {s : Shared} {It Sx a f : Addr}
/-- where the loop stands: only tuples came -/
structure LS (X : Cx) (pins : List (Addr × Obj)) (σ : L2.St) (H : Hp) (It Sx : Addr) (H' : Hp) (s : Shared) : Prop where
  inv : Inv X pins σ H' s
  same : Same H H'
  ot : ∀ b, H b = none → H' b = none ∨ ∃ xs, H' b = some (.tup xs)
  nI : H' It = none
  nS : H' Sx = none
def KeyK (H : Hp) (h : Heap) (v : Value) (r : List Nat) : Prop := ∃ p t1 t2, v = .ref p ∧ H p = none ∧ h.IsTuple p #[.int (r.length : Int) t1, .str (S r) t2]
theorem KeyK.t {h : Heap} {v : Value} {r : List Nat} (k : KeyK H h v r) : KeyT h v r := by
  obtain ⟨p, t1, t2, e, _, z⟩ := k
  exact ⟨p, t1, t2, e, z⟩
theorem key_stay {v : Value} {r : List Nat} {H' H2 : Hp} {s' : Shared} {fs : List Addr} (k : KeyK H s.heap v r) (L : LS X pins σ H It Sx H' s) (un : Un fs [] H' H2 s.heap s'.heap) (I2 : Inv X pins σ H2 s') : KeyK H s'.heap v r := by
  obtain ⟨p, t1, t2, e, n, o, ho, hc, m, hd⟩ := k
  rcases L.ot p n with z | ⟨xs, z⟩
  · obtain ⟨sl, q⟩ := un.any ho z (fun z => nomatch z)
    exact ⟨p, t1, t2, e, n, _, q, hc, m, hd⟩
  · obtain ⟨its, rv, ⟨o1, ho1, hc1, m1, hd1⟩, _⟩ := L.inv.tuple (SqT.of z)
    rw [ho] at ho1
    cases ho1
    rw [hd] at hd1
    injection hd1 with d1 _
    have ei : its = [Value.int (r.length : Int) t1, Value.str (S r) t2] := by
      have q := congrArg Array.toList d1
      simpa using q.symm
    subst ei
    obtain ⟨its2, rv2, ⟨o2, ho2, hc2, m2, hd2⟩, _⟩ := I2.tuple (SqT.of (un.tups _ _ z))
    cases rv with
    | cons r1 rr =>
      cases rr with
      | cons r2 rn =>
        cases rn
        cases rv2 with
        | cons q1 qq =>
          cases qq with
          | cons q2 qn =>
            cases qn
            have e1 := RelV.inj r1 (show L2.RelV (V.int (r.length : Int)) _ from ⟨t1, rfl⟩)
            have e2 := RelV.inj r2 (show L2.RelV (V.str (S r)) _ from ⟨t2, rfl⟩)
            subst e1 e2
            obtain ⟨u1, rfl⟩ := q1
            obtain ⟨u2, rfl⟩ := q2
            exact ⟨p, u1, u2, e, n, o2, ho2, hc2, m2, hd2⟩
/-- behind a turn of It or Sx -/
theorem LS.touch {H' : Hp} {h' : Heap} {tk : Nat} {b : Addr} (L : LS X pins σ H It Sx H' s) (fb : FpOk X pins H b) (nb : H' b = none) (k : ∀ c o, c ≠ b → s.heap.get? c = some o → h'.get? c = some o) : LS X pins σ H It Sx H' { s with heap := h', toks := tk } :=
  ⟨inv_touch (ch := [b]) L.inv (fun c o hc e => k c o (fun z => hc (by rw [z]; exact List.mem_singleton.mpr rfl)) e) (fun c hc => by rw [List.mem_singleton.mp hc]; exact fp_same fb nb), L.same, L.ot, L.nI, L.nS⟩
theorem KeyK.touch {v : Value} {r : List Nat} {h h' : Heap} {b : Addr} (k : KeyK H h v r) (kp : ∀ c o, c ≠ b → h.get? c = some o → h'.get? c = some o) (nb : ∀ o, h.get? b = some o → o.cls ≠ .type "tuple") : KeyK H h' v r := by
  obtain ⟨p, t1, t2, e, n, o, ho, hc, m⟩ := k
  exact ⟨p, t1, t2, e, n, o, kp p o (fun z => by rw [z] at ho; exact nb o ho hc) ho, hc, m⟩
/-- what the key is -/
structure KeyF (X : Cx) (H : Hp) (f : Addr) (F : NF) (params : Arguments) (body : Expr) : Prop where
  lam : H f = some (LamO f F params body)
  co : H F.c = some (CodeO F.c F.qual)
  nocl : F.cl = []
  run : ∃ (N : List PySem.Str) (x : PySem.Str) (tl : TE), NScope N [x] [] F.scope ∧ LamB F params body [x] ∧
    (∀ (A : Around) (outer : List Env) (s : Shared) (H : Hp), Room 0 (A.deeper (envF F f s.heap.objs.size)) → PE (ncx CX0 X.prog X.w X.K X.mg X.base N F f A outer s H E0) body tl) ∧
    ∀ (r : List Nat) (H : Hp) (Q : VK), r.length ≤ 1000 → (∀ p, H p = none → Q (.ref p) (upd H p (.tup [.int (r.length : Int), .str (S r)]))) → tl (startF N [.str (S r)] []) H Q
theorem cells0 {h : Heap} : CellsAt [] [] [] h H := ⟨rfl, fun y c e => (by cases e), fun x y c e => (by cases e), fun i y e => (by simp at e)⟩
theorem key_call {F : NF} {params : Arguments} {body : Expr} {H' : Hp} {r : List Nat} {t : Tok} {Q : Value → Shared → Prop} {E : Value → Shared → Prop} {o oi : Obj} (KF : KeyF X H f F params body) (hrl : r.length ≤ 1000) (hr : Room 2 X.A) (L : LS X pins σ H It Sx H' s) (hI : s.heap.get? It = some oi) (hS : s.heap.get? Sx = some o)
    (h : ∀ (p : Addr) (H2 : Hp) (s' : Shared), LS X pins σ H It Sx H2 s' → KeyK H s'.heap (.ref p) r → Un (frs X.stack) [] H' H2 s.heap s'.heap → Q (.ref p) s') : wpAny (model X.prog X.w) X.A.in1 (call (.ref f) [.str (S r) t]) Q E s := by
  obtain ⟨N, x, tl, SN, hb, hbody, htl⟩ := KF.run
  have la : LamAt s.heap f F params body := by
    obtain ⟨z, _, _⟩ := L.inv.hok f _ (L.same _ _ KF.lam)
    exact z
  have rc := lam_run (CX := CX0) (E := E0) (N := N) (ps := [x]) (fr := []) (ws := []) (k := 0) (us := [.str (S r) t]) (vs := [.str (S r)]) (Q := fun v H2 => ∃ p, H' p = none ∧ v = .ref p ∧ H2 = upd H' p (.tup [.int (r.length : Int), .str (S r)])) SN la (L.same _ _ KF.co) hb (env_in1 L.inv) (room_in1 hr)
    (by rw [KF.nocl]; exact cells0) (.cons ⟨t, rfl⟩ .nil) rfl fun hr' => ⟨tl, hbody _ _ _ _ hr', htl r _ _ hrl fun p np => ⟨p, np, rfl, rfl⟩⟩
  refine wpAny_call (codeAny_mono rc fun res s' hq => ?_)
  cases res with
  | error e => exact (show False from hq).elim
  | ok fl =>
    cases fl with
    | ret u =>
      have hq : CE X.stack X.prog X.w H' s _ u s' := hq
      have un : ∃ H2, Un (frs X.stack) [] H' H2 s.heap s'.heap ∧ Inv X pins σ H2 s' ∧ ∃ p, H' p = none ∧ u = .ref p ∧ H2 = upd H' p (.tup [.int (r.length : Int), .str (S r)]) := by
        obtain ⟨v, H2, os, bare, un, hok, rv, p, np, ev, eH⟩ := hq
        subst ev
        obtain ⟨hh, g, d, tk, os'⟩ := s'
        obtain rfl : os' = s.os := os
        exact ⟨H2, un, L.inv.call (ch := []) un hok bare (fun _ z => nomatch z), p, np, rv, eH⟩
      obtain ⟨H2, un, I2, p, np, rfl, eH⟩ := un
      subst eH
      have nHp : H p = none := by
        cases e : H p with
        | none => rfl
        | some ob => rw [L.same _ _ e] at np; cases np
      refine h p _ s' ⟨I2, fun b ob e => ?_, fun b n => ?_, un.free It _ hI L.nI (fun z => nomatch z), un.free Sx _ hS L.nS (fun z => nomatch z)⟩ ?_ un
      · rw [upd_ne (ne_of_none (L.same _ _ e) np)]
        exact L.same _ _ e
      · by_cases hb : b = p
        · rw [hb, upd_same]
          exact .inr ⟨_, rfl⟩
        · rw [upd_ne hb]
          exact L.ot b n
      · obtain ⟨its, rv, ⟨o1, ho1, hc1, m1, hd1⟩, _⟩ := I2.tuple (SqT.of (a := p) upd_same)
        cases rv with
        | cons r1 rr =>
          cases rr with
          | cons r2 rn =>
            cases rn
            obtain ⟨t1, rfl⟩ := r1
            obtain ⟨t2, rfl⟩ := r2
            exact ⟨p, t1, t2, rfl, nHp, o1, ho1, hc1, m1, hd1⟩
    | next => exact False.elim hq
    | brk => exact False.elim hq
    | cont => exact False.elim hq
theorem nofr {b : Addr} (I : Inv X pins σ H s) (fb : FpOk X pins H b) : b ∉ frs X.stack := fun z => by
  rcases List.mem_cons.mp (I.stkSub _ z) with e | e
  · exact fb.2.1 e
  · exact fb.2.2.1 e
/-- the raw list -/
theorem raw_list {xs : List V} {H' : Hp} (I : Inv X pins σ H' s) (h : H' a = some (.lst xs)) : ∃ its : List Value, Vals xs its ∧ s.heap.IsList a its.toArray := by
  obtain ⟨its, rv, hl, _⟩ := I.list (SqL.of h)
  exact ⟨its, rv, hl.isList⟩
theorem rows_at {rows : List (List Nat)} {its : List Value} {i : Nat} {r : List Nat} (rv : Vals (rows.map fun r => V.str (S r)) its) (h : rows[i]? = some r) : ∃ t, its[i]? = some (Value.str (S r) t) := by
  obtain ⟨u, hu, ru⟩ := rv.get (i := i) (x := V.str (S r)) (by rw [List.getElem?_map, h]; rfl)
  obtain ⟨t, rfl⟩ := ru
  exact ⟨t, hu⟩
theorem min_loop {F : NF} {params : Arguments} {body : Expr} {rows : List (List Nat)} {R : Result → Shared → Prop} (KF : KeyF X H f F params body) (hrl : ∀ r ∈ rows, r.length ≤ 1000) (hr : Room 2 X.A) (hh : X.A.handled = none) (ha : H a = some (.lst (rows.map fun r => V.str (S r)))) (hSI : Sx ≠ It) (fI : FpOk X pins H It) (fS : FpOk X pins H Sx) :
    ∀ (rest dn : List (List Nat)) (b : List Nat) (H' : Hp) (s : Shared) (vb kb : Value) (c : Nat), rows = dn ++ rest → LS X pins σ H It Sx H' s → s.heap.IsListIter It a dn.length → s.heap.get? Sx = some (seqObj "list" #[vb, kb] c) → KeyK H s.heap kb b → (∃ t, vb = .str (S b) t) →
    (∀ t H2 s2, LS X pins σ H It Sx H2 s2 → R (.ok (.ret (.str (S (rest.foldl (fun b y => if BK.before y b = true then y else b) b)) t))) s2) →
    codeAny (model X.prog X.w) X.A (.builtin "min.loop" ⟨[.ref It, .ref f, .ref Sx], []⟩) R s := by
  have hname : (toString "min" ++ toString ".loop" : String) = "min.loop" := by decide
  have haI : a ≠ It := fun z => by rw [z, fI.1] at ha; cases ha
  intro rest
  induction rest with
  | nil =>
    intro dn b H' s vb kb c er L hit hS hk hv hR
    obtain ⟨its, rv, hl⟩ := raw_list L.inv (L.same _ _ ha)
    have W := Walks.list (prog := X.prog) (w := X.w) (A := X.A.in1) hh It a haI its.toArray
    have hlen : its.toArray.size = dn.length := by
      have q := rv.length
      rw [List.length_map, er, List.append_nil] at q
      simpa using q.symm
    refine codeAny_builtin PySem.F.entry_min_loop ?_
    rw [Around.under_plainId PySem.F.plain_min_loop _]
    show wpAny _ X.A.in1 (seqItems? (.ref Sx) >>= _) _ _ _
    refine wpAny_bind (wpAny_seqItems hS rfl ?_)
    show wpAny _ X.A.in1 (tryCatch (pyNext (.ref It)) _ >>= _) _ _ _
    refine wpAny_bind (wpAny_tryCatch (W.done _ _ _ ⟨by rw [hlen]; exact hit, hl⟩ fun h' tk' hk' => ?_))
    have hS' := hk' Sx _ (by simpa using hSI) hS
    show wpAny _ X.A.in1 (updateSeq Sx (fun _ => #[]) >>= _) _ _ _
    refine wpAny_bind ?_
    refine wpAny_updateSeq hS' rfl (wpAny_bind (wpAny_letGo (wpAny_pure ?_)))
    obtain ⟨t, rfl⟩ := hv
    have L1 : LS X pins σ H It Sx H' { s with heap := h', toks := tk' } := L.touch fI L.nI fun c o hc e => hk' c o (by simpa using hc) e
    have s1 := Heap.SameBut.update h' Sx (Obj.mapSeq fun _ => (#[] : Array Value))
    exact hR t H' _ (L1.touch fS L1.nS fun c o hc e => (s1.2 c hc).trans e)
  | cons r rest ih =>
    intro dn b H' s vb kb c er L hit hS hk hv hR
    obtain ⟨its, rv, hl⟩ := raw_list L.inv (L.same _ _ ha)
    have W := Walks.list (prog := X.prog) (w := X.w) (A := X.A.in1) hh It a haI its.toArray
    have hr0 : rows[dn.length]? = some r := by rw [er, List.getElem?_append_right (Nat.le_refl _), Nat.sub_self]; rfl
    obtain ⟨tv, hv0⟩ := rows_at rv hr0
    have hlt : dn.length < its.toArray.size := by
      have q := (List.getElem?_eq_some_iff.mp hv0).1
      simpa using q
    refine codeAny_builtin PySem.F.entry_min_loop ?_
    rw [Around.under_plainId PySem.F.plain_min_loop _]
    show wpAny _ X.A.in1 (seqItems? (.ref Sx) >>= _) _ _ _
    refine wpAny_bind (wpAny_seqItems hS rfl ?_)
    show wpAny _ X.A.in1 (tryCatch (pyNext (.ref It)) _ >>= _) _ _ _
    refine wpAny_bind (wpAny_tryCatch (W.item dn.length _ _ _ hlt ⟨hit, hl⟩ fun v h' tk' hP hst' hk' => ?_))
    have ev : v = .str (S r) tv := by
      have q : its.toArray[dn.length]? = some v := hP
      rw [List.getElem?_toArray, hv0] at q
      exact (Option.some.inj q).symm
    subst ev
    have L1 : LS X pins σ H It Sx H' { s with heap := h', toks := tk' } := L.touch fI L.nI fun c o hc e => hk' c o (by simpa using hc) e
    obtain ⟨oI, hoI, hoc, hod⟩ := id hst'.1
    have hk1 : KeyK H h' kb b := hk.touch (b := It) (fun c o hc e => hk' c o (by simpa using hc) e) fun o e z => by
      obtain ⟨o2, e2, c2, _⟩ := hit
      rw [e2] at e
      cases e
      rw [c2] at z
      injection z with z
      exact absurd z (by decide)
    have hS1 := hk' Sx _ (by simpa using hSI) hS
    show wpAny _ X.A.in1 (tryCatch (holding [Value.str (S r) tv] (call (.ref f) [.str (S r) tv])) _ >>= _) _ _ _
    refine wpAny_bind (wpAny_tryCatch (wpAny_holding (key_call KF (hrl _ (by rw [er]; exact List.mem_append_right _ List.mem_cons_self)) hr L1 hoI hS1 fun p H2 s2 L2 kp un => ?_)))
    have hk2 : KeyK H s2.heap kb b := key_stay hk1 L1 un L2.inv
    have hS2 : s2.heap.get? Sx = some (seqObj "list" #[vb, kb] c) := un.keep Sx _ hS1 L1.nS (nofr L1.inv (fp_same fS L1.nS)) (fun z => nomatch z)
    obtain ⟨sl, hI2⟩ := un.any hoI L1.nI (fun z => nomatch z)
    show wpAny _ X.A.in1 (tryCatch (holding [.str (S r) tv, .ref p] (richCompare .Lt (.ref p) kb >>= _)) _ >>= _) _ _ _
    refine wpAny_bind (wpAny_tryCatch (wpAny_holding (wpAny_bind (lt_keys kp.t hk2.t (by have := hr.un; show X.A.units + 1 < _; omega) ?_))))
    refine wpAny_bind (wpAny_holding (wpAny_truthy_bool ?_))
    refine wpAny_bind (wpAny_letGo (wpAny_pure ?_))
    have er2 : rows = (dn ++ [r]) ++ rest := by rw [er, List.append_assoc]; rfl
    have it2 : s2.heap.IsListIter It a (dn ++ [r]).length := ⟨_, hI2, hoc, by rw [List.length_append]; exact hod⟩
    cases hb' : BK.before r b with
    | true =>
      simp only [if_true]
      refine wpAny_bind ?_
      refine wpAny_updateSeq hS2 rfl (wpAny_bind (wpAny_letGo ?_))
      rw [hname]
      have s1 := Heap.SameBut.update s2.heap Sx (Obj.mapSeq fun _ => #[Value.str (S r) tv, .ref p])
      obtain ⟨c2, hc2⟩ : ∃ c2, (s2.heap.update Sx (Obj.mapSeq fun _ => #[Value.str (S r) tv, .ref p])).get? Sx = some (seqObj "list" #[Value.str (S r) tv, .ref p] c2) := ⟨_, get?_update_seq hS2 fun _ => #[Value.str (S r) tv, .ref p]⟩
      refine wpAny_pure ⟨plainId_quiet PySem.F.plain_min_loop _, ih (dn ++ [r]) r H2 _ (.str (S r) tv) (.ref p) c2 er2 (L2.touch fS L2.nS fun c o hc e => (s1.2 c hc).trans e) ?_ hc2 ?_ ⟨tv, rfl⟩ fun t H3 s3 L3 => ?_⟩
      · obtain ⟨o, ho, z⟩ := it2
        exact ⟨o, (s1.2 It hSI.symm).trans ho, z⟩
      · exact kp.touch (b := Sx) (fun c o hc e => (s1.2 c hc).trans e) fun o e z => by
          rw [hS2] at e
          cases e
          injection z with z
          exact absurd z (by decide)
      · have q := hR t H3 s3 L3
        rw [List.foldl_cons, if_pos hb'] at q
        exact q
    | false =>
      simp only [Bool.false_eq_true, if_false]
      refine wpAny_bind (wpAny_letGo ?_)
      rw [hname]
      refine wpAny_pure ⟨plainId_quiet PySem.F.plain_min_loop _, ih (dn ++ [r]) b H2 _ vb kb c er2 L2 it2 hS2 hk2 hv fun t H3 s3 L3 => ?_⟩
      have q := hR t H3 s3 L3
      rw [List.foldl_cons, if_neg (by rw [hb']; decide)] at q
      exact q
end
end BW

set_option Elab.async false
set_option linter.all false
set_option maxRecDepth 100000
set_option maxHeartbeats 4000000
/-! min(rows, key=..) called; max(ints, default=..) -/
namespace BW
open PySem PySem.Spec PyProof.Rows L2 SX
open NdefX (NF ncx NScope CellsAt Caps startF envF slotAt)
open LamX (CodeO Tabs TabB ExtN)
section
variable {X : Cx} {pins : List (Addr × Obj)} {σ : L2.St} {H : Hp} {s : Shared}
def rMinKey (X : Cx) : List V → List V → Hp → VK → Prop := fun vs zs H Q => ∃ (a f : Addr) (F : NF) (params : Arguments) (body : Expr) (rows : List (List Nat)) (b : List Nat), vs = [.ref a] ∧ zs = [.ref f] ∧ H a = some (.lst (rows.map fun r => V.str (S r))) ∧ KeyF X H f F params body ∧ (∀ r ∈ rows, r.length ≤ 1000) ∧ BK.firstOf rows = some b ∧
  ∀ H', Same H H' → Q (.str (S b)) H'
theorem ck_minkey (hc : X.calm = true) (hr : Room 2 X.A) : CallRK X (.builtin "min") ["key"] (rMinKey X) := by
  intro pins s σ H vs zs us ws Q I r1 r2 h
  obtain ⟨a, f, F, params, body, rows, b, rfl, rfl, ha, KF, hrl, hb, q⟩ := h
  cases rows with
  | nil => cases hb
  | cons x rest =>
    have hb : rest.foldl (fun b y => if BK.before y b = true then y else b) x = b := Option.some.inj hb
    cases r1 with
    | cons q1 n1 =>
      cases n1
      cases r2 with
      | cons q2 n2 =>
        cases n2
        obtain rfl := q1
        obtain rfl := q2
        have hname : (toString "min" ++ toString ".loop" : String) = "min.loop" := by decide
        obtain ⟨its, rv, hl⟩ := raw_list I ha
        have hlt : a < s.heap.objs.size := by obtain ⟨_, e, _⟩ := hl; exact Heap.lt_size e
        have hh := I.ok.hd hc
        show wpAny _ _ (call (.builtin "min") [.ref a] [(PySem.Str.ofString "key", .ref f)]) _ _ _
        refine PyProof.Rows.kmk_tree PySem.F.kind_min PySem.F.plain_min PySem.F.entry_min (PyProof.Rows.kmk_min_key _ _) ?_
        show wpAny _ X.A.in1 (Builtin.Builtins.bindParams "min" ["key", "default"] 0 ⟨[], [(PySem.Str.ofString "key", .ref f)]⟩ >>= _) _ _ s
        refine wpAny_bind (wpAny_of_eq (show Builtin.Builtins.bindParams "min" ["key", "default"] 0 ⟨[], [(PySem.Str.ofString "key", .ref f)]⟩ = pure [some (.ref f), none] from rfl) ?_)
        refine wpAny_bind (wpAny_pure ?_)
        refine wpAny_bind (wpAny_pyIter_list hl ?_)
        refine wpAny_bind (wpAny_newList ?_ (Nat.zero_le _))
        rw [hname]
        -- the iterator, the loop's own list
        generalize hIt : s.heap.objs.size = It at *
        have hSz : (s.heap.push { cls := .type "list_iterator", data := .fields #[.ref a, .int 0 0] }).objs.size = It + 1 := by rw [Heap.size_push, hIt]
        rw [hSz]
        have nI : H It = none := I.hok.fresh (by rw [hIt]; exact Nat.le_refl _)
        have nS : H (It + 1) = none := I.hok.fresh (by rw [hIt]; exact Nat.le_succ _)
        have fI : FpOk X pins H It := I.fpOk (by rw [hIt]; exact Nat.le_refl _) nI
        have fS : FpOk X pins H (It + 1) := I.fpOk (by rw [hIt]; exact Nat.le_succ _) nS
        have gI0 : (s.heap.push { cls := .type "list_iterator", data := .fields #[.ref a, .int 0 0] }).get? It = some { cls := .type "list_iterator", data := .fields #[.ref a, .int 0 0] } := by rw [← hIt]; exact Heap.get?_push_size _ rfl
        have gI : ((s.heap.push { cls := .type "list_iterator", data := .fields #[.ref a, .int 0 0] }).push (seqObj "list" #[] 0)).get? It = some { cls := .type "list_iterator", data := .fields #[.ref a, .int 0 0] } := Heap.get?_push_of_some _ gI0
        have gS : ((s.heap.push { cls := .type "list_iterator", data := .fields #[.ref a, .int 0 0] }).push (seqObj "list" #[] 0)).get? (It + 1) = some (seqObj "list" #[] 0) := by rw [← hSz]; exact Heap.get?_push_size _ rfl
        have L0 : LS X pins σ H It (It + 1) H { s with heap := (s.heap.push { cls := .type "list_iterator", data := .fields #[.ref a, .int 0 0] }).push (seqObj "list" #[] 0), toks := s.toks } :=
          ⟨I.kept fun c o e => Heap.get?_push_of_some _ (Heap.get?_push_of_some _ e), fun _ _ e => e, fun _ n => .inl n, nI, nS⟩
        have hSI : It + 1 ≠ It := Nat.succ_ne_self It
        have haI : a ≠ It := Nat.ne_of_lt hlt
        refine wpAny_pure ⟨plainId_quiet PySem.F.plain_min_loop _, ?_⟩
        have W := Walks.list (prog := X.prog) (w := X.w) (A := X.A.in1) hh It a haI its.toArray
        obtain ⟨tv, hv0⟩ := rows_at (i := 0) (r := x) rv rfl
        have hlt0 : 0 < its.toArray.size := by
          have q := (List.getElem?_eq_some_iff.mp hv0).1
          simpa using q
        refine codeAny_builtin PySem.F.entry_min_loop ?_
        rw [Around.under_plainId PySem.F.plain_min_loop _]
        show wpAny _ X.A.in1 (seqItems? (.ref _) >>= _) _ _ _
        refine wpAny_bind (wpAny_seqItems gS rfl ?_)
        show wpAny _ X.A.in1 (tryCatch (pyNext (.ref It)) _ >>= _) _ _ _
        refine wpAny_bind (wpAny_tryCatch (W.item 0 _ _ _ hlt0 ⟨⟨_, gI, rfl, rfl⟩, (hl.push _).push _⟩ fun v h' tk' hP hst' hk' => ?_))
        have ev : v = .str (S x) tv := by
          have q : its.toArray[0]? = some v := hP
          rw [List.getElem?_toArray, hv0] at q
          exact (Option.some.inj q).symm
        subst ev
        have L1 := L0.touch (h' := h') (tk := tk') fI L0.nI fun c o hc e => hk' c o (by simpa using hc) e
        obtain ⟨oI, hoI, hoc, hod⟩ := id hst'.1
        have hS1 := hk' (It + 1) _ (by simpa using hSI) gS
        show wpAny _ X.A.in1 (tryCatch (holding [Value.str (S x) tv] (call (.ref f) [.str (S x) tv])) _ >>= _) _ _ _
        refine wpAny_bind (wpAny_tryCatch (wpAny_holding (key_call KF (hrl _ List.mem_cons_self) hr L1 hoI hS1 fun p H2 s2 L2 kp un => ?_)))
        have hS2 : s2.heap.get? (It + 1) = some (seqObj "list" #[] 0) := un.keep _ _ hS1 L1.nS (nofr L1.inv (fp_same fS L1.nS)) (fun z => nomatch z)
        obtain ⟨sl, hI2⟩ := un.any hoI L1.nI (fun z => nomatch z)
        have s1 := Heap.SameBut.update s2.heap (It + 1) (Obj.mapSeq fun _ => #[Value.str (S x) tv, .ref p])
        obtain ⟨c2, hc2⟩ : ∃ c2, (s2.heap.update (It + 1) (Obj.mapSeq fun _ => #[Value.str (S x) tv, .ref p])).get? (It + 1) = some (seqObj "list" #[Value.str (S x) tv, .ref p] c2) := ⟨_, get?_update_seq hS2 fun _ => #[Value.str (S x) tv, .ref p]⟩
        show wpAny _ X.A.in1 (updateSeq (It + 1) (fun _ => #[Value.str (S x) tv, .ref p]) >>= _) _ _ _
        refine wpAny_bind ?_
        refine wpAny_updateSeq hS2 rfl ?_
        rw [hname]
        refine wpAny_pure ⟨plainId_quiet PySem.F.plain_min_loop _, min_loop (rows := x :: rest) KF hrl hr hh ha hSI fI fS rest [x] x H2 _ (.str (S x) tv) (.ref p) c2 rfl (L2.touch fS L2.nS fun c o hc e => (s1.2 c hc).trans e) ⟨_, (s1.2 It hSI.symm).trans hI2, hoc, hod⟩ hc2 ?_ ⟨tv, rfl⟩ fun t H3 s3 L3 => ?_⟩
        · exact kp.touch (b := It + 1) (fun c o hc e => (s1.2 c hc).trans e) fun o e z => by
            rw [hS2] at e
            cases e
            injection z with z
            exact absurd z (by decide)
        · rw [hb]
          exact ⟨.str (S b), H3, L3.inv, ⟨t, rfl⟩, q H3 L3.same⟩
/-- max(ints, default=d) -/
def rMaxDf (K : PySem.W.Frag) : List V → List V → Hp → VK → Prop := fun vs zs H Q => ∃ (a : Addr) (ns : List Int) (d : Int), vs = [.ref a] ∧ zs = [.int d] ∧ SqL K H a (ns.map V.int) ∧ (ns = [] → Q (.int d) H) ∧ (∀ m, m ∈ ns → (∀ y ∈ ns, y ≤ m) → Q (.int m) H)
theorem fold_max (x : Int) : ∀ l : List Int, l.foldl (fun a y => if decide (a < y) = true then y else a) x ∈ x :: l ∧ ∀ y ∈ x :: l, y ≤ l.foldl (fun a y => if decide (a < y) = true then y else a) x := by
  intro l
  induction l generalizing x with
  | nil => exact ⟨List.mem_singleton.mpr rfl, fun y hy => by rw [List.mem_singleton.mp hy]; exact Int.le_refl _⟩
  | cons z l ih =>
    rw [List.foldl_cons]
    by_cases e : x < z
    · rw [if_pos (by simpa using e)]
      obtain ⟨h1, h2⟩ := ih z
      refine ⟨List.mem_cons_of_mem _ h1, fun y hy => ?_⟩
      rcases List.mem_cons.mp hy with rfl | hy
      · exact Int.le_trans (Int.le_of_lt e) (h2 z List.mem_cons_self)
      · exact h2 y hy
    · rw [if_neg (by simpa using e)]
      obtain ⟨h1, h2⟩ := ih x
      refine ⟨?_, fun y hy => ?_⟩
      · rcases List.mem_cons.mp h1 with q | q
        · rw [q]; exact List.mem_cons_self
        · exact List.mem_cons_of_mem _ (List.mem_cons_of_mem _ q)
      · rcases List.mem_cons.mp hy with rfl | hy
        · exact h2 y List.mem_cons_self
        · rcases List.mem_cons.mp hy with rfl | hy
          · exact Int.le_trans (Int.not_lt.mp e) (h2 x List.mem_cons_self)
          · exact h2 y (List.mem_cons_of_mem _ hy)
theorem ck_maxdf (hc : X.calm = true) : CallRK X (.builtin "max") ["default"] (rMaxDf X.K) := by
  intro pins s σ H vs zs us ws Q I r1 r2 h
  obtain ⟨a, ns, d, rfl, rfl, hs, q0, qm⟩ := h
  cases r1 with
  | cons q1 n1 =>
    cases n1
    cases r2 with
    | cons q2 n2 =>
      cases n2
      obtain rfl := q1
      obtain ⟨td, rfl⟩ := q2
      obtain ⟨its, rv, hl, _⟩ := I.list hs
      have hi : IntsAre its ns := rv.ints
      have hh := I.ok.hd hc
      have fin : ∀ {s' : Shared} (h' : Heap) (tk : Nat), s' = { s with heap := h', toks := tk } → (∀ b o, s.heap.get? b = some o → h'.get? b = some o) → Inv X pins σ H s' := fun h' tk e k => by
        subst e
        exact I.kept k
      show wpAny _ _ (call (.builtin "max") [.ref a] [(PySem.Str.ofString "default", .int d td)]) _ _ _
      refine PySem.call_max_walkD (PySem.W.iter_listW (A := X.A.in1) hh hl.isList fun s2 e2 W st fp wrn kp => ?_)
      refine ⟨_, _, _, _, _, _, _, s.heap, fun i j => decide (ns.getD j 0 < ns.getD i 0), rfl, W, st, fp, wrn, kp, fun hn s' m => ?_, fun hn => ⟨fun i j vi vj s' Q' E' k hi' hj' hq => ?_, fun v s' hv m => ?_⟩⟩
      · obtain ⟨h', tk, e, k⟩ := PySem.W.moved_old e2 rfl m
        refine ⟨.int d, H, fin h' tk e k, ⟨td, rfl⟩, q0 ?_⟩
        have hn : its.length = 0 := by simpa using hn
        have q := hi.length
        cases ns with
        | nil => rfl
        | cons n l => rw [hn] at q; simp at q
      · have at_ : ∀ {i v}, its.toArray[i]? = some v → ∃ n t, ns[i]? = some n ∧ v = Value.int n t := fun {i v} h => by
          rw [List.getElem?_toArray] at h
          have hl' : i < its.length := (List.getElem?_eq_some_iff.mp h).1
          have q := hi.length
          obtain ⟨n, hn⟩ : ∃ n, ns[i]? = some n := ⟨_, List.getElem?_eq_getElem (by omega)⟩
          obtain ⟨t, ht⟩ := hi.get i n hn
          rw [ht] at h
          exact ⟨n, t, hn, (Option.some.inj h).symm⟩
        obtain ⟨n, t, h1, rfl⟩ := at_ hi'
        obtain ⟨m, t', h2, rfl⟩ := at_ hj'
        refine PySem.P.gt_int ?_
        simp only [List.getD_eq_getElem?_getD, h1, h2, Option.getD_some] at hq
        exact hq
      · obtain ⟨h', tk, e, k⟩ := PySem.W.moved_old e2 rfl m
        cases ns with
        | nil =>
          have q := hi.length
          have hn : 0 < its.length := by simpa using hn
          rw [List.length_nil] at q
          exact absurd hn (by omega)
        | cons x l =>
          have hsz : its.toArray.size - 1 = l.length := by
            have q := hi.length
            simp at q ⊢
            omega
          rw [hsz] at hv
          obtain ⟨b1, b2⟩ := PySem.W.argBest_fold (fun p q : Int => decide (q < p)) 0 x l l.length (Nat.le_refl _)
          have hv : its.toArray[PySem.argBest (fun i j => decide ((x :: l).getD j 0 < (x :: l).getD i 0)) l.length]? = some v := hv
          generalize PySem.argBest (fun i j => decide ((x :: l).getD j 0 < (x :: l).getD i 0)) l.length = k0 at hv b1 b2
          rw [List.take_length] at b2
          have hk0 : (x :: l)[k0]? = some ((x :: l).getD k0 0) := by
            rw [List.getD_eq_getElem?_getD, List.getElem?_eq_getElem (by rw [List.length_cons]; omega)]
            rfl
          obtain ⟨t, ht⟩ := hi.get k0 _ hk0
          rw [List.getElem?_toArray, ht] at hv
          obtain rfl := Option.some.inj hv
          obtain ⟨m1, m2⟩ := fold_max x l
          rw [← b2] at m1 m2
          exact ⟨.int _, H, fin h' tk e k, ⟨t, rfl⟩, qm _ m1 m2⟩
end
end BW

set_option Elab.async false
set_option linter.all false
set_option maxRecDepth 100000
set_option maxHeartbeats 4000000
/-! own exceptions whose __init__ says super().__init__(text) and self.f = arg: made -/
namespace BW
open PySem PySem.Spec PyProof.Rows L2
open PySem.W (KxsFacts kxs_mw ks_superObj ksEnv ksFn)
/-- what is asked of the built-in __init__ -/
structure IniF (B i : String) : Prop where
  kx : KxsFacts B i
  kind : builtinKind i = some .slot
  row : Manifest.signature? i = some ⟨.positional, "*", B, .self, [⟨"args", .varPos, false⟩]⟩
  noStar : (B != "*") = true
  plain : plainId i = true
  entry : entryFor table i = some Builtin.«BaseException.__init__»
theorem ini_ValueError : IniF "ValueError" "ValueError.__init__" := ⟨PySem.W.kxs_ValueError, F.excBase_ValueError.initKind, F.excBase_ValueError.initRow, F.excBase_ValueError.noStar, F.excBase_ValueError.init.plain, F.excBase_ValueError.initEntry⟩
theorem kxs_KeyError : KxsFacts "KeyError" "KeyError.__init__" := ⟨by show builtinType _ = _; rw [builtinType_eq_fast]; kernel_rfl, by first | kernel_rfl | rfl⟩
theorem ini_KeyError : IniF "KeyError" "KeyError.__init__" where
  kx := kxs_KeyError
  kind := by kernel_rfl
  row := by kernel_rfl
  noStar := by decide +kernel
  plain := by decide +kernel
  entry := entryFor_alias (id' := "BaseException.__init__") (by rw [fastTable_eq_tree]; kernel_rfl) (by first | rfl | decide +kernel) (by decide +kernel) (by rw [fastTable_eq_tree]; kernel_rfl)
abbrev xO (C t : Addr) (d : Option Addr) : Obj := { cls := .ref C, dict := d, data := .fields #[.ref t, .none, .none, .none, .bool false, .none] }
section
variable {M : Model} {A : Around} {E : Value → Shared → Prop} {h : Heap} {g : Array GenState} {d : Drawn} {t : Nat} {os : OsState}
variable {nm q : PySem.Str} {C N : Addr} {bs bm bmB : List Value} {hdct : Bool} {sn : List PySem.Str} {sub : List Value} {ab : Bool} {col : Option Bool} {dd : Option Addr} {k0 k1 k2 k3 k5 : Option Value} {B newId initId Bi i : String}
theorem x_check_bound (F : IniF Bi i) {e : Addr} {oe : Obj} {rest : List Value} {Q : Unit → Shared → Prop}
    (hC : h.get? C = some (excClassObj nm q C N bs bm hdct sn sub ab col dd k0 k1 k2 k3 k5 newId)) (he : h.get? e = some oe) (hcls : oe.cls = .ref C) (hq : Q () ⟨h, g, d, t, os⟩) : wpAny M A (checkBoundCall i ⟨.ref e :: rest, []⟩) Q E ⟨h, g, d, t, os⟩ := by
  have hshort := F.noStar
  simp only [checkBoundCall, F.kind, F.row]
  repeat (first | (with_reducible refine wpAny_loadPart_at he ?_; rw [hcls]) | with_reducible refine wpAny_loadPart_at hC ?_ | wp_step)
  refine wpAny_onRaise ?_
  rw [show ∀ (a b : String) (n : Nat), Bind.check ⟨.positional, "*", Bi, .self, [⟨"args", .varPos, false⟩]⟩ a b n (List.map (fun x => x.fst) ({ pos := Value.ref e :: rest } : Args).kw) = pure () from
    fun a b n => check_star_args _ _ _ _ _ _]
  exact wpAny_pure hq
theorem x_check_new (F : ExcBaseFacts B newId initId bmB) (hcont : (Value.ref C :: bm).contains (.type B) = true) {rest : List Value} {Q : Unit → Shared → Prop}
    (hC : h.get? C = some (excClassObj nm q C N bs bm hdct sn sub ab col dd k0 k1 k2 k3 k5 newId)) (hq : Q () ⟨h, g, d, t, os⟩) : wpAny M A (checkBuiltinCall newId ⟨.ref C :: rest, []⟩) Q E ⟨h, g, d, t, os⟩ := by
  have hstar := F.noStar
  simp only [checkBuiltinCall, F.newKind, F.newSplit, F.newRow]
  repeat (first | refine wpAny_loadPart_at hC ?_ | (refine wpAny_isSubtype_exc hC ?_; rw [hcont]) | refine wpAny_staticBase_exc hC ?_ | refine wpAny_madeBy_exc hC ?_ | simp only [bne_self_eq_false, Bool.false_eq_true, if_false] | wp_step)
  exact hq
end
section
variable {prog : Program} {w : World} {A : Around} {E : Value → Shared → Prop} {R : Result → Shared → Prop} {h : Heap} {g : Array GenState} {d : Drawn} {t : Nat} {os : OsState}
variable {nm q : PySem.Str} {C N : Addr} {bs bm bmB : List Value} {hdct : Bool} {sn : List PySem.Str} {sub : List Value} {ab : Bool} {col : Option Bool} {dd : Option Addr} {k0 k1 k2 k3 k5 : Option Value} {B newId initId Bi i : String}
/-- the wrapper called -/
theorem x_call_mw (F : IniF Bi i) {u e t0 : Addr} {rest : List Value} {Q : Value → Shared → Prop}
    (hC : h.get? C = some (excClassObj nm q C N bs bm hdct sn sub ab col dd k0 k1 k2 k3 k5 newId)) (he : h.get? e = some (xO C t0 none)) (hu : h.get? u = some (kxs_mw i e)) (hrest : rest.length ≤ sizeLine)
    (hq : ∀ h' t1, (∀ b o, b ≠ e → h.get? b = some o → h'.get? b = some o) → h'.get? e = some (xO C t1 none) → Q .none ⟨h', g, d, t, os⟩) :
    wpAny (model prog w) A (call (.ref u) rest) Q E ⟨h, g, d, t, os⟩ := by
  refine wpAny_call (codeAny_of_tree ?_)
  show wpAny _ A.in1 (callAny (.ref u) ⟨rest, []⟩) _ _ _
  simp only [callAny]
  refine wpAny_bind (wpAny_load hu ?_)
  simp only [kxs_mw, show (Value.type "method-wrapper" == Value.type "method" || Value.type "method-wrapper" == Value.type "builtin_function_or_method" || Value.type "method-wrapper" == Value.type "method-wrapper") = true by decide, if_true]
  refine PySem.W.KFB.if_so (by decide) ?_
  refine wpAny_bind (x_check_bound F hC he rfl ?_)
  refine wpAny_bind (wpAny_pure (wpAny_pure ?_))
  refine ⟨plainId_quiet F.plain _, codeAny_builtin F.entry ?_⟩
  exact PySem.W.exc_init_tree (cls := .ref C) (t0 := t0) (dv := none) (c2 := .none) (c3 := .none) (b4 := .bool false) he hrest fun h' k e' _ => hq h' _ k e'
theorem x_new (F : ExcBaseFacts B newId initId bmB) (hcB : (Value.ref C :: bm).contains (.type B) = true) (hcA : (Value.ref C :: bm).contains (.type "AttributeError") = false) (hcN : (Value.ref C :: bm).contains (.type "NameError") = false) {rest : List Value}
    (hC : h.get? C = some (excClassObj nm q C N bs bm hdct sn sub ab col dd k0 k1 k2 k3 k5 newId))
    (hq : R (.ok (.ret (.ref (h.objs.size + 1)))) ⟨(h.push { cls := .type "tuple", data := .seq rest.toArray }).push (xO C h.objs.size none), g, d, t, os⟩) (hrest : rest.length ≤ sizeLine) :
    codeAny (model prog w) A (.builtin newId ⟨.ref C :: rest, []⟩) R ⟨h, g, d, t, os⟩ := by
  have hends := F.ends
  refine codeAny_builtinAt F.entry ?_
  unfold Builtin.«BaseException.__new__»
  refine PySem.wpAt_bind ?_
  show PySem.wpAt _ _ _ (stack >>= _) _ _ _
  refine PySem.wpAt_bind (PySem.wpAt_stack fun p below => PySem.wpAt_of_wpAny ?_)
  wp_walk
  refine PySem.wpAt_of_wpAny ?_
  rw [F.owner]
  repeat (first | with_reducible refine wpAny_madeHere_exc F.canon hC ?_ | with_reducible refine wpAny_loadPart_at hC ?_ | (with_reducible refine wpAny_isSubtype_exc hC ?_; first | rw [hcB] | rw [hcA] | rw [hcN]) | wp_step)
  show R _ _
  rw [Heap.size_push]
  exact hq
theorem x_type_call (F : ExcBaseFacts B newId initId bmB) (hcB : (Value.ref C :: bm).contains (.type B) = true) (hcA : (Value.ref C :: bm).contains (.type "AttributeError") = false) (hcN : (Value.ref C :: bm).contains (.type "NameError") = false) {rest : List Value} {fI : Addr} {Q : Fin → Shared → Prop}
    (hC : h.get? C = some (excClassObj nm q C N bs bm hdct sn sub ab col dd k0 k1 k2 k3 k5 newId))
    (hi : W.Looks (model prog w) h (typeLookup (.ref C) "__init__") (some (.ref fI))) (hb : ∀ self, W.Looks (model prog w) h (bindSpecial (.ref fI) self) (.ref fI, [self])) (hrest : rest.length ≤ sizeLine)
    (hq : codeAny (model prog w) A (.call (.ref fI) ⟨.ref (h.objs.size + 1) :: rest, []⟩)
      (fun r s' => match r with | .ok (.ret v) => v = .none ∧ Q (.done (.ret (.ref (h.objs.size + 1)))) s' | .ok _ => False | .error e => E e s')
      ⟨(h.push (W.kdv_tup rest)).push (xO C h.objs.size none), g, d, t, os⟩) :
    wpAny (model prog w) A (Builtin.«type.__call__» ⟨.ref C :: rest, []⟩) Q E ⟨h, g, d, t, os⟩ := by
  repeat (first | with_reducible refine wpAny_loadPart_at hC ?_ | with_reducible refine wpAny_madeBy_exc hC ?_ | wp_step)
  refine codeAny_call_builtin_code (Code.quiet_builtin _ F.quiet) (x_check_new F hcB hC ?_)
  refine x_new F hcB hcA hcN hC ?_ hrest
  show wpAny _ _ _ _ _ _
  have k : ∀ b o, h.get? b = some o → ((h.push (W.kdv_tup rest)).push (xO C h.objs.size none)).get? b = some o := fun b o e => Heap.get?_push_of_some _ (Heap.get?_push_of_some _ e)
  have hC₁ := k _ _ hC
  have hget : ((h.push (W.kdv_tup rest)).push (xO C h.objs.size none)).get? (h.objs.size + 1) = some (xO C h.objs.size none) := by heap_get
  have hcC : (Value.ref C :: bm).contains (.ref C) = true := by simp
  have i1 := hi.keeps k
  have b1 := (hb (.ref (h.objs.size + 1))).keeps k
  unfold isInstance
  repeat (first | with_reducible refine wpAny_loadPart_at hget ?_ | (with_reducible refine wpAny_isSubtype_exc hC₁ ?_; rw [hcC]) | wp_step)
  show wpAny _ _ (typeLookup (.ref C) _) _ _ _
  refine i1.at ?_
  refine wpAny_holding (wpAny_bind (b1.at ?_))
  refine wpAny_bind (wpAny_call (codeAny_mono hq fun r s' z => ?_))
  rcases r with e | (v | _ | _ | _) <;> first | exact z | exact z.elim | skip
  obtain ⟨rfl, z⟩ := z
  first
    | exact wpAny_pure (wpAny_pure z)
    | (wp_walk; exact z)
theorem x_call_cls (F : ExcBaseFacts B newId initId bmB) (hcB : (Value.ref C :: bm).contains (.type B) = true) (hcA : (Value.ref C :: bm).contains (.type "AttributeError") = false) (hcN : (Value.ref C :: bm).contains (.type "NameError") = false) {rest : List Value} {fI : Addr}
    (hC : h.get? C = some (excClassObj nm q C N bs bm hdct sn sub ab col dd k0 k1 k2 k3 k5 newId))
    (hi : W.Looks (model prog w) h (typeLookup (.ref C) "__init__") (some (.ref fI))) (hb : ∀ self, W.Looks (model prog w) h (bindSpecial (.ref fI) self) (.ref fI, [self])) (hrest : rest.length ≤ sizeLine)
    (hq : codeAny (model prog w) (A.under (.builtin "type.__call__" ⟨.ref C :: rest, []⟩)) (.call (.ref fI) ⟨.ref (h.objs.size + 1) :: rest, []⟩) (W.InitBack (h.objs.size + 1) R)
      ⟨(h.push (W.kdv_tup rest)).push (xO C h.objs.size none), g, d, t, os⟩) :
    codeAny (model prog w) A (.call (.ref C) ⟨rest, []⟩) R ⟨h, g, d, t, os⟩ := by
  have f1 := PySem.tc_lookup
  have f2 := PySem.tc_bind (.ref C)
  have hTy : (⟨h, g, d, t, os⟩ : Shared).TypeIs (.ref C) "type" := ⟨_, hC, rfl⟩
  refine codeAny_of_tree ?_
  show wpAny _ _ (callAny (.ref C) _) _ _ _
  repeat (any_goals (first | assumption | with_reducible refine wpAny_loadPart_at hC ?_ | wp_step))
  refine ⟨rfl, ?_⟩
  refine codeAny_call_builtin_at (Code.quiet_builtin _ (by decide +kernel)) PySem.entry_typeCall (PySem.wpAny_check_type_call_sub hC (x_type_call F hcB hcA hcN hC hi hb hrest ?_))
  refine codeAny_mono hq fun r s' z => ?_
  rcases r with e | (v | _ | _ | _) <;> exact z
end
end BW

set_option Elab.async false
set_option linter.all false
set_option maxRecDepth 100000
set_option maxHeartbeats 4000000
/-! the __init__ walked: super().__init__(text); self.f = arg -/
namespace BW
open PySem PySem.Spec PyProof.Rows L2
open PySem.W (KxsFacts kxs_mw ks_superObj ksEnv ksFn)
/-- what the written part says of the class at C; i: the built-in __init__ above it -/
structure XCls (K : PySem.W.Frag) (C fI : Addr) (newId Bi i : String) (fld : PySem.Str) : Prop where
  cls : ∃ nm q N bs bm sn sub ab col dd k0 k1 k2 k3 k5, K.lookup C = some (excClassObj nm q C N bs bm true sn sub ab col dd k0 k1 k2 k3 k5 newId) ∧
    (Value.ref C :: bm).contains (.type "AttributeError") = false ∧ (Value.ref C :: bm).contains (.type "NameError") = false ∧ (Value.ref C :: bm).contains (.type "object") = true ∧
    (∀ self, refuseLoop self "__setattr__" (.ref C :: bm) = pure ()) ∧ W.alongIn K "__init__" bm = some (some (.builtin i)) ∧ (∃ B initB bmB, ExcBaseFacts B newId initB bmB ∧ (Value.ref C :: bm).contains (.type B) = true)
  ini : W.findIn K (.ref C) "__init__" = some (some (.ref fI))
  tI : W.typeIn K (.ref fI) = some (.type "function")
  up : W.subIn K (.ref C) (.type Bi) = some true
  iniF : IniF Bi i
  sa : W.findIn K (.ref C) "__setattr__" = some (some (.builtin "object.__setattr__"))
  nofld : W.findIn K (.ref C) fld = some none
  exC : W.subIn K (.ref C) (.type "BaseException") = some true
  tyC : W.typeIn K (.ref C) = some (.type "type")
  kC : W.keepIn K (.ref C) = true
  opq : W.nsIn K cStatics "thirdparty.any" = some none
section
open Builtin Builtin.ObjectAttr
variable {prog : Program} {w : World} {A : Around} {R : Result → Shared → Prop} {hp : Heap} {g : Array GenState} {d : Drawn} {t : Nat} {os : OsState} {E : Value → Shared → Prop}
theorem x_osa {K : W.Frag} {name : PySem.Str} {tk : Tok} {v : Value} {x C : Addr} {fv : Array Value} {cd : ClassData}
    (X : K.In hp) (hx : hp.get? x = some { cls := .ref C, data := .fields fv }) (hcd : W.clsIn K C = some cd) (hob : cd.mro.contains (.type "object") = true) (hpass : refuseLoop (.ref x) "__setattr__" cd.mro = pure ()) (hh : cd.hasDict = true) (ha : W.findIn K (.ref C) name = some none)
    (hq : ∀ h' tk' dx, (∀ b o, b ≠ x → hp.get? b = some o → h'.get? b = some o) → hp.objs.size ≤ dx → dx ≠ x → h'.get? x = some { cls := .ref C, dict := some dx, data := .fields fv } →
      h'.Ns1 dx (fun y => if y = name then some v else none) → R (.ok (.ret .none)) ⟨h', g, d, tk', os⟩) :
    codeAny (model prog w) A (.call (.builtin "object.__setattr__") ⟨[.ref x, .str name tk, v], []⟩) R ⟨hp, g, d, t, os⟩ := by
  have I : W.InstAt hp x { cls := .ref C, data := .fields fv } C none := ⟨hx, rfl, rfl, trivial⟩
  have SF := F.store_object
  have ne : cd.mro.isEmpty = false := by
    cases e : cd.mro with
    | nil => rw [e] at hob; cases hob
    | cons _ _ => rfl
  have hxs : x ≠ hp.objs.size := Nat.ne_of_lt (Heap.lt_size hx)
  have sub : W.Looks (model prog w) hp (isInstance (.ref x) (.type "object")) true := I.type.andThen (W.looks_mroIn X (by unfold W.mroIn; rw [hcd, Option.bind_some, if_neg (by rw [ne]; decide), hob]))
  refine codeAny_call_builtin SF.slot.plain SF.entry (@W.check_slot (model prog w) _ _ ⟨hp, g, d, t, os⟩ "object.__setattr__" "object" "__setattr__" (.ref x) [.str name tk, v] [] _ SF.kind SF.split sub (SF.args (.ref x) (.str name tk) v) ?_)
  have hmr : W.Looks (model prog w) hp (mroOf (.ref C)) cd.mro := (W.looks_clsIn X hcd).andThen .now
  have L3 : W.Looks (model prog w) hp (storeTaker? none) none := .now
  have hcls : W.Looks (model prog w) hp (classData C) cd := W.looks_clsIn X hcd
  rw [W.osa_eq, refuse_eq]
  refine wpAny_bind (wpAny_bind (I.type.at (wpAny_bind (hmr.at ?_))))
  rw [hpass]
  refine wpAny_pure (wpAny_bind (I.type.at (wpAny_bind ((W.looks_findIn X ha).at (wpAny_bind (L3.at ?_))))))
  show wpAny _ _ (storeInOwnDict (.ref x) (.ref C) (.str name tk) name v false) _ _ _
  obtain ⟨nm, bs, mro, ns, qn, hd, sn, sb, ab, col, del⟩ := cd
  dsimp only at hh
  subst hh
  unfold storeInOwnDict ownDictForStores
  repeat (first | with_reducible refine PySem.HandSPX.store_in_new ?_ ?_ | with_reducible refine wpAny_loadPart_at hx ?_ | with_reducible refine hcls.at ?_ | wp_step)
  · exact ⟨_, #[], _, (Heap.get?_update_ne _ _ _ _ hxs.symm).trans (Heap.get?_push_at rfl rfl), rfl, fun e he => absurd he (by simp), fun _ => rfl⟩
  · intro h' tk' hn' hs
    have hx₁ : (hp.push { cls := .type "dict", data := .dict #[] }).get? x = some { cls := .ref C, data := .fields fv } := Heap.get?_push_of_some _ hx
    refine hq h' tk' hp.objs.size (fun b o hb ho => ?_) (Nat.le_refl _) hxs.symm ?_ hn'
    · exact (hs.2 b (Nat.ne_of_lt (Heap.lt_size ho))).trans ((Heap.get?_update_ne _ _ _ _ hb).trans (Heap.get?_push_of_some _ ho))
    · exact (hs.2 x hxs).trans (Heap.get?_update_self _ hx₁ rfl)
end
/-- the def's shape -/
structure XSt (st : Stmt) (par fld txt : PySem.Str) : Prop where
  body : ∃ (p0 p1 p2 : Pos) (j : Nat) (p3 p4 p5 p6 p7 p8 p9 : Pos) (pl : Env → Sem Bool), defBody st = [.Expr (.Call (.Attribute (.Call (.Name "super" p0) [] [] p1) "__init__" p2) [.Constant (.str txt) j p3] [] p4) p5, .Assign [.Attribute (.Name "self" p6) fld p7] (.Name par p8) p9] ∧
    (∀ q L f cd cc, eval (.Call (.Attribute (.Call (.Name "super" p0) [] [] p1) "__init__" p2) [.Constant (.str txt) j p3] [] p4) (ksEnv q (defScope st) L f cd cc) = (do
      let ov ← attributeBase (.Call (.Name "super" p0) [] [] p1) "__init__" (ksEnv q (defScope st) L f cd cc) (eval (.Call (.Name "super" p0) [] [] p1) (ksEnv q (defScope st) L f cd cc))
      standAt p2.atName
      let (f', first) ← holding [ov] (getMethod ov "__init__" (pl (ksEnv q (defScope st) L f cd cc)))
      callWith p4 f' first (backTo p4 (starEach [.Constant (.str txt) j p3] (ksEnv q (defScope st) L f cd cc))) [])) ∧
    (∀ q L f cd cc, interactive (ksEnv q (defScope st) L f cd cc) = false ∧ swapsWith (.Call (.Attribute (.Call (.Name "super" p0) [] [] p1) "__init__" p2) [.Constant (.str txt) j p3] [] p4) none p5.line (ksEnv q (defScope st) L f cd cc) = pure false ∧
      swapsWith (.Name par p8) (some (.Attribute (.Name "self" p6) fld p7)) p9.line (ksEnv q (defScope st) L f cd cc) = pure false)
  ar : ((defArgs st).posonlyargs ++ (defArgs st).args).head?.map (·.arg) = some "self"
  k : (defScope st).kind = .function
  co : (defScope st).isCoroutine = false
  gen : (defScope st).isGenerator = false
  cells : ∀ x ∈ (defScope st).names, x.2 ≠ .cell
  sup : (defScope st).names.lookup ("super" : PySem.Str) = some .globalImplicit
  kls : (defScope st).names.lookup ("__class__" : PySem.Str) = some .free
  slf : (defScope st).names.lookup ("self" : PySem.Str) = some .local
  prm : (defScope st).names.lookup par = some .local
  nd : (par == ("__debug__" : PySem.Str)) = false
  ne : par ≠ "self"
  sz : txt.length ≤ sizeLine
/-- its function object -/
structure XFn (prog : Program) (K : PySem.W.Frag) (st : Stmt) (C fI cc cda : Addr) (x q : PySem.Str) : Prop where
  fn : ∃ (oc : Value) (od : Option Addr) (kV doc pm ct : Value) (an : Option Addr) (osl : Array (Option Value)), K.lookup fI = some ⟨oc, od, .func (ksFn x q (defArgs st) (defBody st) (defScope st) .none kV doc pm an (.ref cda) ct cc), osl⟩
  code : W.codeIn K (.ref cda) q = true
  file : ∃ (ccl : Value) (cdd : Option Addr) (vs : Array Value) (ccs : Array (Option Value)) (f : PySem.Str) (tf : Tok), K.lookup cda = some ⟨ccl, cdd, .fields vs, ccs⟩ ∧ vs[2]? = some (.str f tf) ∧ ((prog.main.file : PySem.Str) == f) = true
  cell : ∃ (cl : Value) (cld : Option Addr) (csl : Array (Option Value)), K.lookup cc = some ⟨cl, cld, .cell (some (.ref C)), csl⟩
  top : (prog.main.scope.names.lookup ("super" : PySem.Str)).isSome = false
section
variable {prog : Program} {w : World} {A : Around} {R : Result → Shared → Prop} {hp : Heap} {g : Array GenState} {d : Drawn} {t : Nat} {os : OsState}
theorem x_init {K : W.Frag} {mg : PySem.Str → Option Value} {st : Stmt} {par fld txt x q : PySem.Str} {C fI cc cda e t0 : Addr} {u : Value} {newId Bi i : String} (T : XCls K C fI newId Bi i fld) (ST : XSt st par fld txt) (XF : XFn prog K st C fI cc cda x q)
    (hK : K.In hp) (hg : hp.Ns mainGlobals mg) (hb : ∃ mb, hp.Ns builtinsNs mb ∧ ∀ x : PySem.Str, x ≠ "__name__" → mb x = bootBuiltins x) (hlim : hp.NoLimit) (hroom : A.depth < recursionLimit) (hs : mg "super" = none)
    (hKe : ∀ b o, K.lookup b = some o → b ≠ e) (hbind : ∀ (kV doc pm : Value) (an : Option Addr) (ct : Value), bindArgs (ksFn x q (defArgs st) (defBody st) (defScope st) .none kV doc pm an (.ref cda) ct cc) ⟨[.ref e, u], []⟩ = pure [(("self" : PySem.Str), .ref e), (par, u)]) (he : hp.get? e = some (xO C t0 none))
    (hR : ∀ h' tk dx t1, (∀ b o, b ≠ e → hp.get? b = some o → h'.get? b = some o) → hp.objs.size ≤ dx → dx ≠ e → h'.get? e = some (xO C t1 (some dx)) → h'.Ns1 dx (fun y => if y = fld then some u else none) → R (.ok (.ret .none)) ⟨h', g, d, tk, os⟩) :
    codeAny (model prog w) A (.call (.ref fI) ⟨[.ref e, u], []⟩) R ⟨hp, g, d, t, os⟩ := by
  obtain ⟨nm, qn, N, bs, bm, sn, sub, ab, col, dd, k0, k1, k2, k3, k5, hC, hcA, hcN, hcO, hpass, hal, _⟩ := T.cls
  obtain ⟨oc, od, kV, doc, pm, ct, an, osl, hfn⟩ := XF.fn
  obtain ⟨ccl, cdd, vs, ccs, file, tf, hcda, hvs, hfile⟩ := XF.file
  obtain ⟨cl, cld, csl, hcell⟩ := XF.cell
  obtain ⟨p0, p1, p2, j, p3, p4, p5, p6, p7, p8, p9, pl, hbody, hev, hsw⟩ := ST.body
  have hcl : W.clsIn K C = some { name := nm, bases := bs, mro := .ref C :: bm, ns := N, qualname := qn, hasDict := true, slotNames := sn, subclasses := sub, abstract := ab, collection := col, hasDel := false } := by unfold W.clsIn; rw [hC] <;> rfl
  obtain ⟨ar, har, harg⟩ : ∃ ar, ((defArgs st).posonlyargs ++ (defArgs st).args).head? = some ar ∧ ar.arg = "self" := by
    have q := ST.ar
    cases z : ((defArgs st).posonlyargs ++ (defArgs st).args).head? with
    | none => rw [z] at q; cases q
    | some ar => rw [z] at q; exact ⟨ar, rfl, Option.some.inj q⟩
  refine ks_codeAny_call_defAt (fd := ksFn x q (defArgs st) (defBody st) (defScope st) .none kV doc pm an (.ref cda) ct cc) (body := defBody st) (binds := [(("self" : PySem.Str), .ref e), (par, u)]) hroom (hK _ _ hfn) rfl hlim (W.codeRec_of hK XF.code) rfl (BindsTo.of_eq (hbind kV doc pm an ct)) ST.cells (fun y hy => ?_) (fun h₁ hns k1' => ?_) ST.co ST.gen ST.k
  · rcases List.mem_cons.mp hy with rfl | hy
    · exact ST.slf
    · rw [List.mem_singleton.mp hy]
      exact ST.prm
  generalize hL : hp.objs.size = L at *
  have hK1 : K.In h₁ := hK.keeps k1'
  have hC1 := hK1 _ _ hC
  have he1 := k1' _ _ he
  have hne : e ≠ C := fun z => by
    have q := hK _ _ hC
    rw [← z, he] at q
    cases q
  have lself : (fun y => List.lookup y [(("self" : PySem.Str), Value.ref e), (par, u)].reverse) ("self" : PySem.Str) = some (.ref e) := by
    have h1 : (("self" : PySem.Str) == par) = false := by
      rw [beq_eq_false_iff_ne]
      exact fun z => ST.ne z.symm
    show List.lookup ("self" : PySem.Str) [(par, u), (("self" : PySem.Str), Value.ref e)] = _
    rw [List.lookup_cons, h1]
    simp [List.lookup]
  have lpar : (fun y => List.lookup y [(("self" : PySem.Str), Value.ref e), (par, u)].reverse) par = some u := by
    show List.lookup par [(par, u), (("self" : PySem.Str), Value.ref e)] = _
    rw [List.lookup_cons, beq_self_eq_true]
  rw [hbody]
  have keepK : ∀ {h2 : Heap}, (∀ b o, h₁.get? b = some o → h2.get? b = some o) → K.In h2 := fun k => hK1.keeps k
  obtain ⟨hi0, hs1, hs2⟩ := hsw q L fI (.ref cda) cc
  refine ks_wpAt_execs_cons (ks_wpAt_Expr_any (ks_wpAt_MethodCall (pl := pl (ksEnv q (defScope st) L fI (.ref cda) cc)) ?_ (hev q L fI (.ref cda) cc)) hi0 hs1)
  refine ks_wpAt_super_base (fd := ksFn x q (defArgs st) (defBody st) (defScope st) .none kV doc pm an (.ref cda) ct cc) ST.sup ST.kls rfl rfl (hK1 _ _ hfn) rfl har rfl (hK1 _ _ hcda) rfl hvs hfile XF.top ?_
  obtain ⟨mb, hmb, hmb2⟩ := hb
  refine W.ks_loadName_global ST.k ST.sup (Calls.loadGlobal_builtin (mg := mg) (mb := mb) (hg.keeps k1') hs (hmb.keeps k1') ((hmb2 _ (by decide)).trans (by first | exact PyProof.Rows.Boot.«super» | kernel_rfl)) ⟨rfl, ?_⟩)
  refine wpAny_loadName_free ST.k ST.kls rfl ⟨_, hK1 _ _ hcell, rfl⟩ ?_
  rw [harg]
  refine wpAny_loadName_local ST.k ST.slf hns lself ?_
  refine ks_wpAny_isType_cls hC1 rfl ⟨rfl, ?_⟩
  refine ks_wpAny_call_super hC1 rfl he1 rfl (fun c z => by cases z) (W.looks_mroIn hK1 (by unfold W.mroIn; rw [hcl, Option.bind_some]; simp)) fun h2 hso kS => ?_
  have hK2 : K.In h2 := hK1.keeps kS
  have he2 := kS _ _ he1
  -- its __init__, bound
  refine W.kxs_getMethod T.iniF.kx hso (W.looks_opaque hK2 T.opq) (l₀ := .ref C :: bm) (fun A Q E s k q => wpAny_bind ((W.looks_clsIn hK2 hcl) A _ E s k (wpAny_pure q))) (l := bm) ?_ hK2 hal ?_ hne rfl ?_
  · simp [List.dropWhile_cons]
  · exact (W.InstAt.type (ox := xO C t0 none) (od := none) ⟨he2, rfl, rfl, trivial⟩).andThen (W.looks_subIn hK2 T.up)
  have he3 : (h2.push (kxs_mw i e)).get? e = some (xO C t0 none) := Heap.get?_push_of_some _ he2
  have hu3 : (h2.push (kxs_mw i e)).get? h2.objs.size = some (kxs_mw i e) := Heap.get?_push_at rfl rfl
  have hC3 : (h2.push (kxs_mw i e)).get? C = some (excClassObj nm qn C N bs bm true sn sub ab col dd k0 k1 k2 k3 k5 newId) := Heap.get?_push_of_some _ (kS _ _ hC1)
  show wpAny _ _ (callWith p4 (.ref h2.objs.size) [] (backTo p4 ((false, eval (.Constant (.str txt) j p3) (ksEnv q (defScope st) L fI (.ref cda) cc)) :: starEach [] (ksEnv q (defScope st) L fI (.ref cda) cc))) []) _ _ _
  refine W.kxs_callWith (i := i) (x := e) rfl (Calls.evalArgs_plain (x := eval (.Constant (.str txt) j p3) (ksEnv q (defScope st) L fI (.ref cda) cc)) (rest := []) ?_)
  refine Calls.spliced_cons (x := eval (.Constant (.str txt) j p3) (ksEnv q (defScope st) L fI (.ref cda) cc)) (rest := []) (Calls.Constant_str (Calls.spliced_nil ⟨hu3, ?_⟩))
  show wpAny _ _ (call (.ref h2.objs.size) [.str txt _]) _ _ _
  refine x_call_mw T.iniF hC3 he3 hu3 (by show 1 ≤ sizeLine; decide) fun h4 t1 k4 he4 => ?_
  have kk : ∀ b o, b ≠ e → h₁.get? b = some o → h4.get? b = some o := fun b o hb ho => k4 b o hb (Heap.get?_push_of_some _ (kS _ _ ho))
  have hK4 : K.In h4 := fun b o z => kk b o (hKe b o z) (hK1 _ _ z)
  have hns4 : h4.Ns L (fun y => List.lookup y [(("self" : PySem.Str), Value.ref e), (par, u)].reverse) := by
    obtain ⟨o, es, ep, ho, r⟩ := hns
    exact ⟨o, es, ep, kk _ _ (fun z => by
      have q := Heap.lt_size he
      rw [← z, hL] at q
      exact Nat.lt_irrefl _ q) ho, r⟩
  refine ks_wpAt_execs_cons (ks_wpAt_Assign_Attr (PySem.wpAt_of_wpAny ?_) hs2)
  refine wpAny_Name (wpAny_loadName_local (env := ksEnv q (defScope st) L fI (.ref cda) cc) ST.k ST.prm hns4 lpar ?_) ST.nd
  refine wpAny_Name (wpAny_loadName_local (env := ksEnv q (defScope st) L fI (.ref cda) cc) ST.k ST.slf hns4 lself ?_) rfl
  refine W.set_plain hK4 (ox := xO C t1 none) (od := none) ⟨he4, rfl, rfl, trivial⟩ T.sa ?_
  refine x_osa hK4 he4 hcl hcO (hpass _) rfl T.nofld fun h5 tk5 dx k5 dn dne he5 hn5 => ?_
  refine PySem.wpAt_of_wpAny (wpAny_execs_nil (hR h5 tk5 dx t1 (fun b o hb ho => k5 b o hb (kk b o hb (k1' b o ho))) ?_ dne he5 hn5))
  obtain ⟨oL, _, _, hoL, _⟩ := hns4
  have q := Heap.lt_size hoL
  exact Nat.le_trans (Nat.le_of_lt q) dn
end
end BW

set_option Elab.async false
set_option linter.all false
set_option maxRecDepth 100000
set_option maxHeartbeats 4000000
/-! raise C(arg): the rule -/
namespace BW
open PySem PySem.Spec PyProof.Rows L2
open PySem.W (KxsFacts kxs_mw ks_superObj ksEnv ksFn)
section
variable {X : Cx}
def tMkE (C : Addr) (fld : PySem.Str) (te : TE) : L2.St → Hp → XK → Prop := fun σ H Q => te σ H fun y H1 => ∀ d, H1 d = none → Q (.ref C) (some d) (upd H1 d (.xd [(fld, y)]))
theorem pmk_x {x nx qx par fld txt : PySem.Str} {C fI cc cda : Addr} {st : Stmt} {newId Bi i : String} {e : Expr} {te : TE} {p pos : Pos} {k : Nat} (T : XCls X.K C fI newId Bi i fld) (ST : XSt st par fld txt) (XF : XFn X.prog X.K st C fI cc cda nx qx)
    (hbind : ∀ (a : Addr) (u kV doc pm : Value) (an : Option Addr) (ct : Value), bindArgs (ksFn nx qx (defArgs st) (defBody st) (defScope st) .none kV doc pm an (.ref cda) ct cc) ⟨[.ref a, u], []⟩ = pure [(("self" : PySem.Str), .ref a), (par, u)])
    (hr : Room (k + 1) X.A) (hg : Gl X x) (hm : X.mg x = some (.ref C)) (hs : X.mg "super" = none) (ha : PE X e te) (hdb : (x == ("__debug__" : PySem.Str)) = false := by decide) (he : starEach [e] X.env = (false, eval e X.env) :: starEach [] X.env := by rfl) :
    PMk X (.Call (.Name x p) [e] [] pos) (tMkE C fld te) := by
  intro pins s σ H Q I h
  obtain ⟨nm, q, N, bs, bm, sn, sub, ab, col, dd, k0, k1, k2, k3, k5, hC, hcA, hcN, hcO, hpass, hal, B, initB, bmB, FB, hcB⟩ := id T.cls
  refine wpAny_Call_Name_kw (ld_glob I hg hm ?_ hdb)
  refine PySem.W.callWith_K (h₀ := X.base) I.ok.mod.kin T.kC ?_ he (by rfl)
  rw [he]
  show wpAny _ _ (spliced ((false, eval e X.env) :: backTo pos (starEach [] X.env))) _ _ s
  refine Calls.spliced_cons (thn (ha.run pins s σ H _ I h) fun u s1 ⟨y, H1, I1, r1, q1⟩ => Calls.spliced_nil ⟨I1.kIn, ?_⟩)
  show wpAny _ _ (call (.ref C) [u]) _ _ _
  obtain ⟨hp, g, dr, tk, os⟩ := s1
  have hsz : hp.objs.size ≤ hp.objs.size + 1 := Nat.le_succ _
  have hn : H1 (hp.objs.size + 1) = none := I1.hok.fresh hsz
  have kk : ∀ b o, hp.get? b = some o → ((hp.push (PySem.W.kdv_tup [u])).push (xO C hp.objs.size none)).get? b = some o := fun b o e => Heap.get?_push_of_some _ (Heap.get?_push_of_some _ e)
  have hget : ((hp.push (PySem.W.kdv_tup [u])).push (xO C hp.objs.size none)).get? (hp.objs.size + 1) = some (xO C hp.objs.size none) := by heap_get
  have I2 : Inv X pins σ (upd H1 (hp.objs.size + 1) (exo (hp.objs.size + 1) C none)) ⟨(hp.push (PySem.W.kdv_tup [u])).push (xO C hp.objs.size none), g, dr, tk, os⟩ :=
    I1.laid (t' := tk) (a := hp.objs.size + 1) (o := exo (hp.objs.size + 1) C none) (h' := (hp.push (PySem.W.kdv_tup [u])).push (xO C hp.objs.size none)) kk hsz (exo_ok hget)
  have hlim := I2.mod.nolimit.keeps I2.bk
  refine wpAny_call (x_call_cls FB hcB hcA hcN (I1.kIn _ _ hC) (PySem.W.looks_findIn I1.kIn T.ini) (fun self => PySem.W.bind_fn I1.kIn self T.tI) (by show 1 ≤ sizeLine; decide) ?_)
  obtain ⟨mb, hmb, hmb2⟩ := I2.mod.blt
  refine x_init (mg := X.mg) (par := par) T ST XF I2.kIn (I2.mod.glob.keeps I2.bk) ⟨mb, hmb.keeps I2.bk, hmb2⟩ hlim (hr.make C [u] []).depth hs (fun b o z => ?_) (fun kV doc pm an ct => hbind _ _ kV doc pm an ct) hget fun h' tk' dx t1 kp dn dne he' hns => ?_
  · exact Nat.ne_of_lt (Nat.lt_of_lt_of_le (Heap.lt_size (I1.kIn b o z)) hsz)
  · refine ⟨rfl, ?_⟩
    generalize hae : hp.objs.size + 1 = a at *
    have hs2 : ((hp.push (PySem.W.kdv_tup [u])).push (xO C hp.objs.size none)).objs.size = a + 1 := by rw [Heap.size_push, Heap.size_push, hae]
    have hd1 : H1 dx = none := I1.hok.fresh (Nat.le_trans hsz (Nat.le_trans (Nat.le_succ a) (Nat.le_trans (Nat.le_of_eq hs2.symm) dn)))
    have ea : upd (upd H1 dx (exd dx [(fld, y)])) a (exo a C (some dx)) a = some (exo a C (some dx)) := upd_same
    have ed : upd (upd H1 dx (exd dx [(fld, y)])) a (exo a C (some dx)) dx = some (exd dx [(fld, y)]) := by rw [upd_ne dne, upd_same]
    have lt2 : ∀ {b : Addr} {o : Obj}, ((hp.push (PySem.W.kdv_tup [u])).push (xO C hp.objs.size none)).get? b = some o → b ≠ dx := fun {b o} z => Nat.ne_of_lt (Nat.lt_of_lt_of_le (Heap.lt_size z) dn)
    have up1 : ∀ {b : Addr} {o : HO}, upd H1 a (exo a C none) b = some o → b ≠ a → H1 b = some o := fun {b o} z n => by rw [upd_ne n] at z; exact z
    have nd : ∀ {b : Addr} {o : HO}, H1 b = some o → b ≠ dx := fun {b o} z => ne_of_none z hd1
    have tn : ∀ {b : Addr} {o : HO}, upd H1 a (exo a C none) b = some o → o ≠ exo a C none → b ≠ a ∧ b ≠ dx ∧ H1 b = some o := fun {b o} z n => by
      have hb : b ≠ a := fun w => by
        rw [w, upd_same] at z
        exact n (Option.some.inj z).symm
      exact ⟨hb, nd (up1 z hb), up1 z hb⟩
    have un : Un (frs X.stack) [] (upd H1 a (exo a C none)) (upd (upd H1 dx (exd dx [(fld, y)])) a (exo a C (some dx))) ((hp.push (PySem.W.kdv_tup [u])).push (xO C hp.objs.size none)) h' := {
      keep := fun b o z n _ _ => kp b o (fun w => by rw [w, upd_same] at n; cases n) z
      slot := fun b o z n _ _ => ⟨o.slots, kp b o (fun w => by rw [w, upd_same] at n; cases n) z⟩
      free := fun b o z n _ => by
        have hb : b ≠ a := fun w => by rw [w, upd_same] at n; cases n
        rw [upd_ne hb, upd_ne (lt2 z)]
        rw [upd_ne hb] at n
        exact n
      there := fun b o z _ => by
        by_cases hb : b = a
        · exact ⟨_, by rw [hb]; exact he'⟩
        · exact ⟨o, kp b o hb z⟩
      tups := fun b xs z => by
        obtain ⟨h1, h2, h3⟩ := tn z (fun w => exo_tup w.symm)
        rw [upd_ne h1, upd_ne h2]
        exact h3
      frzs := fun b o v z => by
        obtain ⟨h1, h2, h3⟩ := tn z (fun w => exo_frz w.symm)
        rw [upd_ne h1, upd_ne h2]
        exact h3
      tbls := fun b ps z => by
        obtain ⟨h1, h2, h3⟩ := tn z (fun w => exo_tbl w.symm)
        rw [upd_ne h1, upd_ne h2]
        exact ⟨#[], by simpa using h3⟩ }
    have hok : HOk X.prog X.w (upd (upd H1 dx (exd dx [(fld, y)])) a (exo a C (some dx))) h' := fun b o z => by
      by_cases hb : b = a
      · rw [hb, upd_same] at z
        cases z
        rw [hb]
        exact exo_ok he'
      · rw [upd_ne hb] at z
        by_cases hd : b = dx
        · rw [hd, upd_same] at z
          cases z
          rw [hd]
          exact exd_ok hns (relO_put (fs := []) r1 fun g => True.intro)
        · rw [upd_ne hd] at z
          have z2 : upd H1 a (exo a C none) b = some o := by rw [upd_ne hb]; exact z
          exact (I2.hok b o z2).stay (fun c v hc w => kp c v (by
              rcases hc with hc | hc
              · rw [hc]; exact hb
              · exact fun e => by rw [e, upd_same] at hc; exact exo_own (Option.some.inj hc)) w)
            (fun c hc => by
              obtain ⟨h1, h2, h3⟩ := tn hc (fun w => exo_own w.symm)
              rw [upd_ne h1, upd_ne h2]
              exact h3)
            (fun c xs hc => by
              obtain ⟨h1, h2, h3⟩ := tn hc (fun w => exo_tup w.symm)
              rw [upd_ne h1, upd_ne h2]
              exact h3)
    have eH : upd (L2.del (upd (upd H1 dx (exd dx [(fld, y)])) a (exo a C (some dx))) a) dx (.xd [(fld, y)]) = upd H1 dx (.xd [(fld, y)]) := by
      funext b
      by_cases hd : b = dx
      · rw [hd, upd_same, upd_same]
      · rw [upd_ne hd, upd_ne hd]
        by_cases hb : b = a
        · rw [hb, L2.del_same, hn]
        · rw [L2.del_ne hb, upd_ne hb, upd_ne hd]
    refine mk_end (raises_own T.exC T.tyC) I1 hsz kk un hok rfl I1.bare ea ed hd1 ?_
    rw [eH]
    exact q1 dx hd1
end
end BW

set_option Elab.async false
set_option linter.all false
set_option maxRecDepth 100000
set_option maxHeartbeats 4000000
/-! what stands where -/
namespace BW
open PySem PySem.Spec PyProof.Rows L2 SX
open LamX (Tabs ExtN)
theorem iteT' {c : Bool} {A B : Prop} (e : c = true) (h : A) : if c = true then A else B := by rw [if_pos e]; exact h
theorem iteF' {c : Bool} {A B : Prop} (e : c = false) (h : B) : if c = true then A else B := by rw [if_neg (by rw [e]; decide)]; exact h
theorem same_refl (H : Hp) : Same H H := fun _ _ h => h
theorem same_trans {A B C : Hp} (x : Same A B) (y : Same B C) : Same A C := fun b o h => y b o (x b o h)
/-- all stays but the tables of code objects, which are in order -/
structure Ex (T : List (Addr × PySem.Str)) (H H' : Hp) : Prop where
  ext : ExtN H H'
  tabs : Tabs T H'
theorem Ex.refl {T : List (Addr × PySem.Str)} {H : Hp} (t : Tabs T H) : Ex T H H := ⟨ExtN.refl H, t⟩
theorem Ex.trans {T : List (Addr × PySem.Str)} {A B C : Hp} (x : Ex T A B) (y : Ex T B C) : Ex T A C := ⟨x.ext.trans y.ext, y.tabs⟩
theorem Ex.same {T : List (Addr × PySem.Str)} {H H' : Hp} (t : Tabs T H) (s : Same H H') : Ex T H H' := ⟨ExtN.of s, t.ext s⟩
theorem ext_same {H H' : Hp} (s : Same H H') : ExtN H H' := ExtN.of s
/-- a list of naturals, as values -/
def Num (l : List Nat) : List V := l.map fun x : Nat => V.int (x : Int)
/-- None, or a pair -/
def PairV (H : Hp) (v : V) : Option (Nat × Nat) → Prop
  | none => v = .non
  | some p => ∃ q, v = .ref q ∧ PairAt H q p
theorem PairV.ext {H H' : Hp} {v : V} {o : Option (Nat × Nat)} (x : PairV H v o) (e : ExtN H H') : PairV H' v o := by
  cases o with
  | none => exact x
  | some p =>
    obtain ⟨q, h1, h2⟩ := x
    exact ⟨q, h1, h2.same e⟩
/-- a tuple of tuples -/
def TupTab (H : Hp) (t : Addr) (tabs : List (List Nat)) : Prop := ∃ as : List Addr, H t = some (.tup (as.map V.ref)) ∧ as.length = tabs.length ∧ ∀ (i : Nat) (row : List Nat), tabs[i]? = some row → ∃ a, as[i]? = some a ∧ H a = some (.tup (Num row))
theorem TupTab.ext {H H' : Hp} {t : Addr} {tabs : List (List Nat)} (x : TupTab H t tabs) (e : ExtN H H') : TupTab H' t tabs := by
  obtain ⟨as, h1, h2, h3⟩ := x
  refine ⟨as, e _ _ h1 (fun ps z => by cases z), h2, fun i row h => ?_⟩
  obtain ⟨a, h4, h5⟩ := h3 i row h
  exact ⟨a, h4, e _ _ h5 (fun ps z => by cases z)⟩
/-- the device at d -/
def Dev (K : PySem.W.Frag) (H : Hp) (d : Addr) (C : BK.Cfg) : Prop := ∃ dx fs t, H d = some (.ins (He.ga K "Device") dx fs) ∧ fs.lookup ("states" : PySem.Str) = some (.int (C.n : Int)) ∧ fs.lookup ("signals" : PySem.Str) = some (.str (S C.sig)) ∧ fs.lookup ("tables" : PySem.Str) = some (.ref t) ∧ TupTab H t C.tabs
theorem Dev.ext {K : PySem.W.Frag} {H H' : Hp} {d : Addr} {C : BK.Cfg} (x : Dev K H d C) (e : ExtN H H') : Dev K H' d C := by
  obtain ⟨dx, fs, t, h1, h2, h3, h4, h5⟩ := x
  exact ⟨dx, fs, t, e _ _ h1 (fun ps z => by cases z), h2, h3, h4, h5.ext e⟩
/-- the family, a tuple of texts -/
def Txts (l : List (List Nat)) : List V := l.map fun r => V.str (S r)
def Lots (H : Hp) (a : Addr) (l : List (List Nat)) : Prop := H a = some (.tup (Txts l))
theorem Lots.ext {H H' : Hp} {a : Addr} {l : List (List Nat)} (x : Lots H a l) (e : ExtN H H') : Lots H' a l := e _ _ x (fun ps z => by cases z)
/-- pairs to what -/
def PDict (f : Nat × Nat → V) (l : List (Nat × Nat)) : List (Pk × V) := l.map fun p => (kp p, f p)
section
variable {P : Program} {w : World} {K : PySem.W.Frag} {mg : PySem.Str → Option Value} {base : Heap}
/-! ### webs -/
def sp_pair_of : Sp := fun vs H Q _ => ∃ a b : Nat, vs = [.int a, .int b] ∧ ∀ H' v, Same H H' → PairV H' v (BK.pairOf a b) → Q v H'
theorem sc_pair_of : FnScope ["one", "other"] ["one", "other"] (defScope (top 30)) := ⟨rfl, rfl, rfl, by decide +kernel, rfl, by decide +kernel, by decide +kernel⟩
theorem ok_pair_of (T : Tx K mg) : Cal CX0 P w K mg base 1 "pair_of" sp_pair_of := by
  refine cal_of0 T.F_pair_of T.g_pair_of (fun _ _ _ _ _ _ us hl => match us, hl with | [_, _], _ => rfl) sc_pair_of (fun vs H Q E h => ?_) (fun cdv A outer s H vs Q E hr h => ?_)
  · obtain ⟨a, b, rfl, _⟩ := h
    rfl
  · obtain ⟨a, b, rfl, k⟩ := h
    refine ⟨_, pss_cons (ps_if (pt_cmpR op_eq (pv 0) (pv 1) (nomark _)) (pss_one (ps_ret pe_non)) pss_nil)
      (pss_one (ps_ret (pe_ifExp (pt_cmpR op_lt (pv 0) (pv 1) (nomark _)) (pe_tup (pa_cons (pv 0) (pa_cons (pv 1) pa_nil))) (pe_tup (pa_cons (pv 1) (pa_cons (pv 0) pa_nil)))))), ?_⟩
    refine ⟨_, rfl, _, rfl, rfl, _, rfl, ?_⟩
    by_cases h : a = b
    · subst h
      refine iteT' (by simp) ?_
      exact k H .non (same_refl H) (by unfold BK.pairOf; rw [if_pos rfl]; rfl)
    · refine iteF' (by simp; omega) ?_
      refine ⟨_, rfl, _, rfl, _, _, rfl, rfl, _, rfl, ?_⟩
      by_cases h2 : a < b
      · refine iteT' (by simp; omega) ?_
        refine ⟨_, rfl, _, rfl, by show 2 ≤ sizeLine; decide, fun p np => ?_⟩
        refine k _ _ (same_new np) ?_
        unfold BK.pairOf
        rw [if_neg h, if_pos h2]
        exact ⟨p, rfl, upd_same⟩
      · refine iteF' (by simp; omega) ?_
        refine ⟨_, rfl, _, rfl, by show 2 ≤ sizeLine; decide, fun p np => ?_⟩
        refine k _ _ (same_new np) ?_
        unfold BK.pairOf
        rw [if_neg h, if_neg h2]
        exact ⟨p, rfl, upd_same⟩
end
end BW

set_option Elab.async false
set_option linter.all false
set_option maxRecDepth 100000
set_option maxHeartbeats 4000000
/-! next_node, joined_lot, has_full -/
namespace BW
open PySem PySem.Spec PyProof.Rows L2 SX
open LamX (Tabs ExtN)
/-! ### two rising lists of the same members -/
theorem rise_eq : ∀ {l m : List Nat}, l.Pairwise (· < ·) → m.Pairwise (· < ·) → (∀ x, x ∈ l ↔ x ∈ m) → l = m
  | [], [], _, _, _ => rfl
  | [], y :: m, _, _, h => absurd ((h y).mpr List.mem_cons_self) (by simp)
  | x :: l, [], _, _, h => absurd ((h x).mp List.mem_cons_self) (by simp)
  | x :: l, y :: m, hl, hm, h => by
    obtain ⟨l1, l2⟩ := List.pairwise_cons.mp hl
    obtain ⟨m1, m2⟩ := List.pairwise_cons.mp hm
    have e : x = y := by
      rcases List.mem_cons.mp ((h x).mp List.mem_cons_self) with q | q
      · exact q
      · rcases List.mem_cons.mp ((h y).mpr List.mem_cons_self) with p | p
        · exact p.symm
        · have a := m1 x q
          have b := l1 y p
          omega
    subst e
    rw [rise_eq l2 m2 fun z => ?_]
    constructor
    · intro hz
      rcases List.mem_cons.mp ((h z).mp (List.mem_cons_of_mem _ hz)) with q | q
      · have := l1 z hz
        omega
      · exact q
    · intro hz
      rcases List.mem_cons.mp ((h z).mpr (List.mem_cons_of_mem _ hz)) with q | q
      · have := m1 z hz
        omega
      · exact q
theorem lt_one (a b : Nat) : ltCps [a] [b] = decide (a < b) := by
  rw [PyProof.Rows.ltCps_eq]
  rw [Bool.eq_iff_iff, decide_eq_true_eq, decide_eq_true_eq]
  constructor
  · intro h
    cases h with
    | cons h => cases h
    | rel h => exact h
  · intro h
    exact .rel h
theorem risingS_chain : ∀ (l : List Nat) (p : Nat), risingS (S [p]) (l.map fun c => S [c]) = true → (p :: l).Pairwise (· ≤ ·)
  | [], p, _ => by simp
  | x :: l, p, h => by
    have h : (!ltCps [x] [p] && risingS (S [x]) (l.map fun c => S [c])) = true := h
    rw [Bool.and_eq_true, lt_one] at h
    obtain ⟨h1, h2⟩ := h
    have h1 : ¬ x < p := by simpa using h1
    have q := risingS_chain l x h2
    obtain ⟨q1, q2⟩ := List.pairwise_cons.mp q
    refine List.pairwise_cons.mpr ⟨fun y hy => ?_, q⟩
    rcases List.mem_cons.mp hy with rfl | hy
    · omega
    · have := q1 y hy
      omega
theorem sortedS_rise {l : List Nat} (h : sortedS (l.map fun c => S [c]) = true) (nd : l.Nodup) : l.Pairwise (· < ·) := by
  cases l with
  | nil => exact List.Pairwise.nil
  | cons x l =>
    have q := risingS_chain l x h
    exact List.Pairwise.imp₂ (fun a b h1 h2 => by omega) q nd
theorem sing_of {l : List PySem.Str} {m : List Nat} (h : ∀ x ∈ l, ∃ c ∈ m, x = S [c]) : ∃ z : List Nat, l = z.map (fun c => S [c]) ∧ ∀ c ∈ z, c ∈ m := by
  induction l with
  | nil => exact ⟨[], rfl, fun c hc => by simp at hc⟩
  | cons x l ih =>
    obtain ⟨c, hc, rfl⟩ := h x List.mem_cons_self
    obtain ⟨z, h1, h2⟩ := ih fun y hy => h y (List.mem_cons_of_mem _ hy)
    exact ⟨c :: z, by rw [List.map_cons, h1], fun d hd => by
      rcases List.mem_cons.mp hd with rfl | hd
      · exact hc
      · exact h2 d hd⟩
/-- the signs met, each once -/
def gath (l : List Nat) : List PySem.Str := l.foldl (fun a c => putX a (S [c])) []
theorem putX_mem {l : List PySem.Str} {k x : PySem.Str} : x ∈ putX l k ↔ x ∈ l ∨ x = k := by
  unfold putX
  by_cases h : k ∈ l
  · rw [if_pos h]
    exact ⟨.inl, fun z => z.elim id fun e => e ▸ h⟩
  · rw [if_neg h, List.mem_append, List.mem_singleton]
theorem gath_snoc (l : List Nat) (c : Nat) : gath (l ++ [c]) = putX (gath l) (S [c]) := by
  unfold gath
  rw [List.foldl_append]
  rfl
theorem gath_mem {l : List Nat} {x : PySem.Str} : x ∈ gath l ↔ ∃ c ∈ l, x = S [c] := by
  have key : ∀ (l : List Nat) (a : List PySem.Str), x ∈ l.foldl (fun a c => putX a (S [c])) a ↔ x ∈ a ∨ ∃ c ∈ l, x = S [c] := by
    intro l
    induction l with
    | nil => intro a; simp
    | cons c l ih =>
      intro a
      rw [List.foldl_cons, ih, putX_mem]
      constructor
      · rintro ((h | h) | ⟨d, hd, h⟩)
        · exact .inl h
        · exact .inr ⟨c, List.mem_cons_self, h⟩
        · exact .inr ⟨d, List.mem_cons_of_mem _ hd, h⟩
      · rintro (h | ⟨d, hd, h⟩)
        · exact .inl (.inl h)
        · rcases List.mem_cons.mp hd with rfl | hd
          · exact .inl (.inr h)
          · exact .inr ⟨d, hd, h⟩
  unfold gath
  rw [key]
  simp
theorem gath_len (l : List Nat) : (gath l).length ≤ l.length := by
  have key : ∀ (l : List Nat) (a : List PySem.Str), (l.foldl (fun a c => putX a (S [c])) a).length ≤ a.length + l.length := by
    intro l
    induction l with
    | nil => intro a; simp
    | cons c l ih =>
      intro a
      rw [List.foldl_cons]
      have h1 := ih (putX a (S [c]))
      have h2 : (putX a (S [c])).length ≤ a.length + 1 := by
        unfold putX
        split
        · omega
        · simp
      rw [List.length_cons]
      omega
  have := key l []
  simpa [gath] using this
theorem gath_nodup (l : List Nat) : (gath l).Nodup := by
  have key : ∀ (l : List Nat) (a : List PySem.Str), a.Nodup → (l.foldl (fun a c => putX a (S [c])) a).Nodup := by
    intro l
    induction l with
    | nil => intro a h; exact h
    | cons c l ih =>
      intro a h
      rw [List.foldl_cons]
      refine ih _ ?_
      unfold putX
      split
      · exact h
      · exact (List.perm_append_singleton _ a).nodup_iff.mpr (List.nodup_cons.mpr ⟨by assumption, h⟩)
  exact key l [] List.nodup_nil
theorem abc_rise : BK.abc.Pairwise (· < ·) := by decide
/-- joined, sorted: what BK.more says -/
theorem join_more {h : List Nat} {c : Nat} {ys : List PySem.Str} (hh : ∀ x ∈ h, x ∈ BK.abc) (hc : c ∈ BK.abc) (pm : ys.Perm (gath (h ++ [c]))) (hs : sortedS ys = true) : ys = (BK.more h c).map fun c => S [c] := by
  obtain ⟨z, rfl, hz⟩ := sing_of (l := ys) (m := h ++ [c]) fun x hx => gath_mem.mp (pm.mem_iff.mp hx)
  have nd : z.Nodup := by
    have q := pm.nodup_iff.mpr (gath_nodup _)
    exact (List.pairwise_map.mp q).imp fun h e => h (by rw [e])
  have r1 := sortedS_rise hs nd
  have r2 : (BK.more h c).Pairwise (· < ·) := abc_rise.sublist List.filter_sublist
  rw [rise_eq r1 r2 fun x => ?_]
  unfold BK.more
  rw [List.mem_filter]
  constructor
  · intro hx
    rcases List.mem_append.mp (hz x hx) with q | q
    · exact ⟨hh x q, by simp [q]⟩
    · rw [List.mem_singleton.mp q]
      exact ⟨hc, by simp⟩
  · rintro ⟨_, q⟩
    have hm : S [x] ∈ gath (h ++ [c]) := gath_mem.mpr ⟨x, by
      rw [Bool.or_eq_true] at q
      rcases q with q | q
      · exact List.mem_append_left _ (by simpa using q)
      · exact List.mem_append_right _ (by simpa using q), rfl⟩
    obtain ⟨y, hy, e⟩ := List.mem_map.mp (pm.mem_iff.mpr hm)
    have e2 := S_inj e
    rw [List.cons.injEq] at e2
    rw [← e2.1]
    exact hy
section
variable {P : Program} {w : World} {K : PySem.W.Frag} {mg : PySem.Str → Option Value} {base : Heap}
def sp_next_node (K : PySem.W.Frag) : Sp := fun vs H Q _ => ∃ (d q : Addr) (p : Nat × Nat) (k : Nat) (C : BK.Cfg), vs = [.ref d, .str "pairs", .ref q, .int k] ∧ Dev K H d C ∧ PairAt H q p ∧ C.Ok ∧ p.1 < C.n ∧ p.2 < C.n ∧ k < C.tabs.length ∧ ∀ H' v, Same H H' → PairV H' v (C.step p (97 + k)) → Q v H'
theorem sc_next_node : FnScope ["device", "kind", "node", "number", "table"] ["device", "kind", "node", "number"] (defScope (top 31)) := ⟨rfl, rfl, rfl, by decide +kernel, rfl, by decide +kernel, by decide +kernel⟩
theorem num_at {l : List Nat} {i x : Nat} (h : l[i]? = some x) : (Num l)[i]? = some (V.int (x : Int)) := by
  unfold Num
  rw [List.getElem?_map, h]
  rfl
theorem ok_next_node (T : Tx K mg) : Cal CX0 P w K mg base 2 "next_node" (sp_next_node K) := by
  refine cal_of0 T.F_next_node T.g_next_node (fun _ _ _ _ _ _ us hl => match us, hl with | [_, _, _, _], _ => rfl) sc_next_node (fun vs H Q E h => ?_) (fun cdv A outer s H vs Q E hr h => ?_)
  · obtain ⟨d, q, p, k, C, rfl, _⟩ := h
    rfl
  · obtain ⟨d, q, p, k, C, rfl, hd, hp, ok, h1, h2, hk, kk⟩ := h
    refine ⟨_, pss_cons (ps_set (i := 4) sc_next_node.nd rfl (Or.inl rfl) (pe_ix ix_tup (pe_fld (pv 0) (by rfl)) (pv 3) (fun _ _ => rfl)))
      (pss_cons (ps_if (pt_cmpR op_eq (pv 1) pe_str (nomark _)) (pss_one (ps_ret (pe_ix ix_tup (pv 4) (pv 2) (fun _ _ => rfl)))) pss_nil)
      (pss_one (ps_ret (pe_c (ok_pair_of T) hr (by rfl) (pa_cons (pe_ix ix_tup (pv 4) (pe_ix ix_tup (pv 2) pe_int (fun _ _ => rfl)) (fun _ _ => rfl)) (pa_cons (pe_ix ix_tup (pv 4) (pe_ix ix_tup (pv 2) pe_int (fun _ _ => rfl)) (fun _ _ => rfl)) pa_nil)))))), ?_⟩
    obtain ⟨dx, fs, t, e1, e2, e3, e4, as, e5, e6, e7⟩ := hd
    have hrow : C.tabs[k]? = some C.tabs[k] := List.getElem?_eq_getElem hk
    obtain ⟨a, ha, hta⟩ := e7 k _ hrow
    have hlen : (C.tabs[k]).length = C.n := ok.len _ (List.getElem_mem hk)
    have at1 : ∀ i, i < C.n → (Num C.tabs[k])[i]? = some (V.int ((C.at (97 + k) i : Nat) : Int)) := fun i hi => by
      have hi' : i < (C.tabs[k]).length := by omega
      rw [num_at (x := (C.tabs[k])[i]) (List.getElem?_eq_getElem hi')]
      unfold BK.Cfg.at
      rw [show 97 + k - 97 = k by omega]
      simp [List.getD_eq_getElem?_getD, hrow, List.getElem?_eq_getElem hi']
    refine ⟨_, rfl, d, _, dx, fs, _, rfl, e1, T.cl_Device, T.at_Device_tables, e4, _, rfl, t, _, _, _, rfl, rfl, SqT.of e5, atI_nat (v := .ref a) (by rw [List.getElem?_map, ha]; rfl), ?_⟩
    refine ⟨_, rfl, rfl, _, rfl, iteF' (by decide +kernel) ?_⟩
    refine ⟨_, rfl, _, rfl, q, _, _, _, rfl, rfl, SqT.of hp, atI_nat (j := 0) rfl, a, _, _, _, rfl, rfl, SqT.of hta, atI_nat (at1 p.1 h1), ?_⟩
    refine ⟨_, rfl, _, rfl, q, _, _, _, rfl, rfl, SqT.of hp, atI_nat (j := 1) rfl, a, _, _, _, rfl, rfl, SqT.of hta, atI_nat (at1 p.2 h2), ?_⟩
    exact ⟨_, _, rfl, fun H' v s pv => kk H' v s pv⟩
def sp_joined_lot : Sp := fun vs H Q _ => ∃ (h : List Nat) (c : Nat), vs = [.str (S h), .str (S [c])] ∧ (∀ x ∈ h, x ∈ BK.abc) ∧ c ∈ BK.abc ∧ h.length ≤ 10 ∧ ∀ H', Same H H' → Q (.str (S (BK.more h c))) H'
theorem sc_joined_lot : FnScope ["one", "other", "signal"] ["one", "other"] (defScope (top 27)) := ⟨rfl, rfl, rfl, by decide +kernel, rfl, by decide +kernel, by decide +kernel⟩
theorem ok_joined_lot (T : Tx K mg) : Cal CX0 P w K mg base 1 "joined_lot" sp_joined_lot := by
  refine cal_of0 T.F_joined_lot T.g_joined_lot (fun _ _ _ _ _ _ us hl => match us, hl with | [_, _], _ => rfl) sc_joined_lot (fun vs H Q E h => ?_) (fun cdv A outer s H vs Q E hr h => ?_)
  · obtain ⟨h, c, rfl, _⟩ := h
    rfl
  · obtain ⟨h, c, rfl, hh, hc, hl, k⟩ := h
    refine ⟨_, pss_one (ps_ret (pe_join pe_str (pe_callB (cr_sortedX rfl) (by rfl) T.n_sorted (by decide +kernel) (pa_cons
      (pe_setcomp (own := [("signal", 2)]) (g := gName 2) (by rfl) sc_joined_lot.nd (pi_str (pe_op op_add_str (pv 0) (pv 1))) (blkOk_by (N := ["one", "other", "signal"]) (sc := defScope (top 27)) (by decide +kernel)) (fun _ _ _ _ _ => pg_name (i := 2) sc_joined_lot.nd rfl (Or.inl rfl))
        (fun _ _ _ _ _ => pv 2)) pa_nil)))), ?_⟩
    have hlen : (h ++ [c]).length ≤ 11 := by rw [List.length_append]; show h.length + 1 ≤ 11; omega
    refine ⟨⟨_, rfl⟩, _, rfl, _, rfl, _, _, rfl, rfl, ?_, S (h ++ [c]), ?_, fun D nD => ?_⟩
    · show h.toArray.size + 1 ≤ sizeLine
      rw [sizeLine_eq]
      simp
      omega
    · rw [S_cat]
    refine gat_it (n := (h ++ [c]).length) walk_S (fun i H' => Same H H' ∧ H' D = some (SetXO w D (gath ((h ++ [c]).take i)))) ⟨same_new nD, by rw [upd_same]⟩ (fun _ _ _ _ => trivial) ?_ ?_
    · rintro i v H1 H2 hi ⟨sm, hD⟩ ⟨rfl, e, he, rfl⟩
      refine ⟨rfl, _, rfl, _, _, rfl, hD, ?_, fun b o q => ?_, ?_⟩
      · have h1 := gath_len ((h ++ [c]).take i)
        have h2 := List.length_take_le' i (h ++ [c])
        show _ + 1 < scanBound
        have : scanBound = 4096 := rfl
        omega
      · rw [upd_ne (fun z => by rw [z, nD] at q; cases q)]
        exact sm b o q
      · rw [upd_same, take_succ he, gath_snoc]
        rfl
    · rintro H1 ⟨sm, hD⟩
      rw [List.take_length] at hD
      refine ⟨D, _, rfl, hD, ?_, fun ys p pm hs np => ?_⟩
      · have h1 := gath_len (h ++ [c])
        omega
      have e := join_more hh hc pm hs
      subst e
      refine ⟨S [], p, (BK.more h c).map fun c => S [c], rfl, rfl, .inl (SqL.of upd_same), ?_, ?_⟩
      · rw [sum_sings]
        have : (BK.more h c).length ≤ BK.abc.length := List.length_filter_le _ _
        have e5 : BK.abc.length = 5 := rfl
        show _ + _ * 0 ≤ _
        omega
      · rw [join_sings]
        refine k _ (same_trans sm (same_new np))
def sp_has_full : Sp := fun vs H Q _ => ∃ (a : Addr) (lots : List (List Nat)) (h : List Nat), vs = [.ref a, .str (S h)] ∧ Lots H a lots ∧ lots.length ≤ 1000 ∧ (∀ l ∈ lots, l.length ≤ 1000) ∧ ∀ H', Same H H' → Q (.bl (lots.any fun l => l.all fun c => h.contains c)) H'
theorem sc_has_full : FnScope ["lots", "lot", "other"] ["lots", "lot"] (defScope (top 28)) := ⟨rfl, rfl, rfl, by decide +kernel, rfl, by decide +kernel, by decide +kernel⟩
theorem txts_at {l : List (List Nat)} {i : Nat} {v : V} (h : (Txts l)[i]? = some v) : ∃ r, l[i]? = some r ∧ v = .str (S r) := by
  unfold Txts at h
  rw [List.getElem?_map] at h
  cases e : l[i]? with
  | none => rw [e] at h; cases h
  | some r => rw [e] at h; exact ⟨r, rfl, (Option.some.inj h).symm⟩
theorem ok_has_full (T : Tx K mg) : Cal CX0 P w K mg base 2 "has_full" sp_has_full := by
  refine cal_of0 T.F_has_full T.g_has_full (fun _ _ _ _ _ _ us hl => match us, hl with | [_, _], _ => rfl) sc_has_full (fun vs H Q E h => ?_) (fun cdv A outer s H vs Q E hr h => ?_)
  · obtain ⟨a, lots, h, rfl, _⟩ := h
    rfl
  · obtain ⟨a, lots, h, rfl, ha, hl, hl2, k⟩ := h
    refine ⟨_, pss_one (ps_ret (pe_callB (cr_any rfl) (by rfl) T.n_any (by decide +kernel) (pa_cons
      (pe_lc (own := [("other", 2)]) (g := gName 2) (by rfl) sc_has_full.nd (pi_tup (pv 0)) (blkOk_by (N := ["lots", "lot", "other"]) (sc := defScope (top 28)) (by decide +kernel)) (fun _ _ _ _ _ => pg_name (i := 2) sc_has_full.nd rfl (Or.inl rfl))
        (fun _ _ _ _ _ => pts_nil) (fun _ _ _ _ _ => pe_c (ok_lot_within T) hr (by rfl) (pa_cons (pv 2) (pa_cons (pv 1) pa_nil)))) pa_nil))), ?_⟩
    refine ⟨_, rfl, a, rfl, ⟨_, SqT.of ha⟩, fun D nD => ?_⟩
    refine lc_it (walk_tup (xs := Txts lots)) (fun i H' => Same H H' ∧ H' D = some (.lst ((lots.take i).map fun l => V.bl (l.all fun c => h.contains c)))) ⟨same_new nD, upd_same⟩ (fun i H' _ q => SqT.of (q.1 _ _ ha)) ?_ ?_
    · rintro i v H1 H2 hi ⟨sm, hD⟩ ⟨rfl, hv⟩
      obtain ⟨l, hl0, rfl⟩ := txts_at hv
      refine ⟨rfl, tYes_in ?_⟩
      refine ⟨_, rfl, _, rfl, l, h, rfl, hl2 l (List.mem_of_getElem? hl0), fun H3 sm3 => ?_⟩
      refine ⟨_, sm3 _ _ hD, ?_, fun b o q => ?_, ?_⟩
      · rw [List.length_map]
        exact small1000 (Nat.le_trans (List.length_take_le' _ _) hl)
      · rw [upd_ne (fun z => by rw [z, nD] at q; cases q)]
        exact sm3 b o (sm b o q)
      · rw [upd_same, take_succ hl0, List.map_append]
        rfl
    · rintro H1 ⟨sm, hD⟩
      have e0 : (Txts lots).length = lots.length := by unfold Txts; rw [List.length_map]
      rw [e0, List.take_length] at hD
      refine ⟨D, lots.map fun l => l.all fun c => h.contains c, rfl, SqL.of (by rw [hD, List.map_map]; rfl), ?_⟩
      have e : ((lots.map fun l => l.all fun c => h.contains c).any id) = lots.any fun l => l.all fun c => h.contains c := by
        rw [List.any_map]
        rfl
      rw [e]
      exact k H1 sm
end
end BW

set_option Elab.async false
set_option linter.all false
set_option maxRecDepth 100000
set_option maxHeartbeats 8000000
/-! round_rows -/
namespace BW
open PySem PySem.Spec PyProof.Rows L2 SX
open LamX (Tabs ExtN)
/-! ### keys in the dicts -/
theorem valV_pairs {α : Type} (g : α → V) (key : α → Nat × Nat) : ∀ (l : List α) (q : Nat × Nat), valV (l.map fun x => (kp (key x), g x)) (kp q) = (l.find? fun x => decide (key x = q)).map g
  | [], _ => rfl
  | x :: l, q => by
    have ih := valV_pairs g key l q
    unfold valV at ih ⊢
    rw [List.map_cons, List.find?_cons, List.find?_cons]
    by_cases e : key x = q
    · have e1 : decide (kp (key x) = kp q) = true := by rw [e]; simp
      simp [e]
    · have e1 : ¬ kp (key x) = kp q := fun z => e (kp_inj z)
      simp only [e1, e, decide_false]
      exact ih
theorem valV_nodes {α : Type} (g : α → V) (key : α → Node) : ∀ (l : List α) (q : Node), valV (l.map fun x => (key x, g x)) q = (l.find? fun x => decide (key x = q)).map g
  | [], _ => rfl
  | x :: l, q => by
    have ih := valV_nodes g key l q
    unfold valV at ih ⊢
    rw [List.map_cons, List.find?_cons, List.find?_cons]
    by_cases e : key x = q
    · simp [e]
    · simp only [e, decide_false]
      exact ih
theorem find_some {α β : Type} [DecidableEq β] (key : α → β) (l : List α) (q : β) : (l.find? fun x => decide (key x = q)).isSome = l.any fun x => decide (key x = q) := by
  induction l with
  | nil => rfl
  | cons x l ih =>
    rw [List.find?_cons, List.any_cons]
    by_cases e : key x = q
    · simp [e]
    · simp [e, ih]
def FD (F : List (BK.Pair × BK.Row)) : List (Pk × V) := F.map fun x => (kp x.1, V.str (S x.2))
def WD (W : List (BK.Node × BK.Row)) : List (Node × V) := W.map fun x => (x.1, V.str (S x.2))
theorem fd_has (F : List (BK.Pair × BK.Row)) (q : Nat × Nat) : (valV (FD F) (kp q)).isSome = BK.hasKey F q := by
  unfold FD
  rw [valV_pairs (fun x : BK.Pair × BK.Row => V.str (S x.2)) (fun x => x.1)]
  rw [Option.isSome_map, find_some]
  rfl
theorem wd_has (W : List (BK.Node × BK.Row)) (q : Node) : (valV (WD W) q).isSome = BK.hasKey W q := by
  unfold WD
  rw [valV_nodes (fun x : BK.Node × BK.Row => V.str (S x.2)) (fun x => x.1)]
  rw [Option.isSome_map, find_some]
  rfl
theorem putK_new {κ : Type} [DecidableEq κ] {kvs : List (κ × V)} {k : κ} {v : V} (h : valV kvs k = none) : putK kvs k v = kvs ++ [(k, v)] := by
  unfold putK
  rw [if_neg]
  intro z
  obtain ⟨x, hx, e⟩ := List.any_eq_true.mp z
  unfold valV at h
  rw [Option.map_eq_none_iff, List.find?_eq_none] at h
  exact h x hx e
theorem valV_none {κ : Type} [DecidableEq κ] {kvs : List (κ × V)} {k : κ} (h : (valV kvs k).isSome = false) : valV kvs k = none := by
  cases e : valV kvs k with
  | none => rfl
  | some v => rw [e] at h; cases h
theorem find_nodup {α β : Type} [DecidableEq β] (key : α → β) : ∀ {l : List α} {x : α}, (l.map key).Nodup → x ∈ l → l.find? (fun y => decide (key y = key x)) = some x
  | y :: l, x, nd, h => by
    rw [List.map_cons, List.nodup_cons] at nd
    rw [List.find?_cons]
    by_cases e : key y = key x
    · rcases List.mem_cons.mp h with q | q
      · simp [e, q]
      · exact absurd (by rw [e]; exact List.mem_map_of_mem q) nd.1
    · rcases List.mem_cons.mp h with q | q
      · exact absurd (by rw [q]) e
      · simp only [e, decide_false]
        exact find_nodup key nd.2 q
theorem wd_get {W : List (BK.Node × BK.Row)} {x : BK.Node × BK.Row} (nd : (W.map (·.1)).Nodup) (h : x ∈ W) : valV (WD W) x.1 = some (.str (S x.2)) := by
  unfold WD
  rw [valV_nodes (fun x : BK.Node × BK.Row => V.str (S x.2)) (fun x => x.1), find_nodup (fun x : BK.Node × BK.Row => x.1) nd h]
  rfl
theorem hear_abc {C : BK.Cfg} {h : List Nat} (ok : C.Ok) (hh : h ∈ C.hearable) : (∀ x ∈ h, x ∈ BK.abc) ∧ h.length ≤ 10 := by
  have key : ∀ s ∈ ([[97], [97, 98], [97, 98, 99]] : List BK.Row), ∀ h ∈ BK.subs s, (∀ x ∈ h, x ∈ BK.abc) ∧ h.length ≤ 10 := by decide
  unfold BK.Cfg.hearable at hh
  rcases BK.sig_cases ok with ⟨_, e⟩ | ⟨_, e⟩ | ⟨_, e⟩ <;> rw [e] at hh <;> exact key _ (by simp) h hh
theorem sig_abc {C : BK.Cfg} {c : Nat} (hc : c ∈ C.sig) : c ∈ BK.abc := List.mem_of_mem_take hc
theorem sig_at {C : BK.Cfg} {j c : Nat} (h : C.sig[j]? = some c) : c = 97 + j ∧ j < C.tabs.length := by
  unfold BK.Cfg.sig at h
  rw [List.getElem?_take] at h
  split at h
  · have key : ∀ j c, BK.abc[j]? = some c → c = 97 + j := by
      intro j c h
      match j, h with
      | 0, h => cases h; rfl
      | 1, h => cases h; rfl
      | 2, h => cases h; rfl
      | 3, h => cases h; rfl
      | 4, h => cases h; rfl
      | j + 5, h => simp [BK.abc] at h
    exact ⟨key j c h, by assumption⟩
  · cases h
/-! ### the state -/
structure RR (P : Program) (w : World) (H0 : Hp) (rw wt fd : Addr) (b : BK.B) (H : Hp) : Prop where
  keep : Same H0 H
  rows : NDict P w H rw (WD b.W)
  wait : ∃ ts : List Addr, H wt = some (.lst (ts.map V.ref)) ∧ ts.length = b.W.length ∧ ∀ (j : Nat) (nd : BK.Node × BK.Row), b.W[j]? = some nd → ∃ t, ts[j]? = some t ∧ NodeAt H t nd.1
  fnd : H fd = some (.dT (FD b.F))
theorem RR.same {P : Program} {w : World} {H0 H H' : Hp} {rw wt fd : Addr} {b : BK.B} (r : RR P w H0 rw wt fd b H) (s : Same H H') : RR P w H0 rw wt fd b H' := by
  obtain ⟨ts, h1, h2, h3⟩ := r.wait
  refine ⟨same_trans r.keep s, r.rows.same (ext_same s), ⟨ts, s _ _ h1, h2, fun j nd h => ?_⟩, s _ _ r.fnd⟩
  obtain ⟨t, h4, h5⟩ := h3 j nd h
  exact ⟨t, h4, h5.same (ext_same s)⟩
abbrev NRR : List PySem.Str := ["device", "lots", "start", "lot", "follow", "rows", "waiting", "found", "at", "here", "heard", "row", "number", "signal", "after", "more"]
theorem sc_round_rows : FnScope NRR ["device", "lots", "start", "lot", "follow"] (defScope (top 33)) := ⟨rfl, rfl, rfl, by decide +kernel, rfl, by decide +kernel, by decide +kernel⟩
/-- what the follower is worth -/
def Follows (C : BK.Cfg) (H0 : Hp) (r : List V → Hp → VK → Prop) : Prop := ∀ (H : Hp) (Q : VK) (q : Addr) (p : Nat × Nat) (k : Nat), Same H0 H → PairAt H q p → p.1 < C.n → p.2 < C.n → k < C.tabs.length → (∀ H' v, Same H H' → PairV H' v (C.step p (97 + k)) → Q v H') → r [.ref q, .int k] H Q
def SL (d la q0 : Addr) (h0 : List Nat) (f rw wt fd : Addr) (i : Int) (x9 x10 x11 x12 x13 x14 x15 : Option V) : L2.St :=
  [some (.ref d), some (.ref la), some (.ref q0), some (.str (S h0)), some (.ref f), some (.ref rw), some (.ref wt), some (.ref fd), some (.int i), x9, x10, x11, x12, x13, x14, x15]
/-- at the while's head -/
def WS (P : Program) (w : World) (C : BK.Cfg) (d la q0 : Addr) (p : BK.Pair) (h0 : List Nat) (f : Addr) (H0 : Hp) (rw wt fd : Addr) (i : Nat) (σ : L2.St) (H : Hp) : Prop :=
  ∃ (b : BK.B) (x9 x10 x11 x12 x13 x14 x15 : Option V), σ = SL d la q0 h0 f rw wt fd (i : Int) x9 x10 x11 x12 x13 x14 x15 ∧ i ≤ 40 ∧ i ≤ b.W.length ∧ BK.run C (100 - i) i b = BK.bfs C p h0 ∧ BK.Good C (p, h0) i b ∧ RR P w H0 rw wt fd b H
theorem fd_snoc (F : List (BK.Pair × BK.Row)) (q : Nat × Nat) (r : List Nat) : FD (F ++ [(q, r)]) = FD F ++ [(kp q, V.str (S r))] := by
  unfold FD
  rw [List.map_append]
  rfl
theorem wd_snoc (W : List (BK.Node × BK.Row)) (q : BK.Node) (r : List Nat) : WD (W ++ [(q, r)]) = WD W ++ [(q, V.str (S r))] := by
  unfold WD
  rw [List.map_append]
  rfl
theorem f_len {C : BK.Cfg} {s : BK.Node} {i : Nat} {b : BK.B} (ok : C.Ok) (g : BK.Good C s i b) : b.F.length ≤ 10 := by
  have h := BK.nodup_len g.nf (m := BK.pairs C.n) fun x hx => by
    obtain ⟨y, hy, e⟩ := List.mem_map.mp hx
    rw [← e]
    exact g.inf y hy
  rw [List.length_map] at h
  have h2 : (BK.pairs C.n).length ≤ 10 := by
    have h1 := ok.n2
    have h5 := ok.n5
    have cn : C.n = 2 ∨ C.n = 3 ∨ C.n = 4 ∨ C.n = 5 := by omega
    rcases cn with e | e | e | e <;> rw [e] <;> decide
  omega
section
variable {P : Program} {w : World} {K : PySem.W.Frag} {mg : PySem.Str → Option Value} {base : Heap}
theorem rr_walk (T : Tx K mg) {g : Addr} {cdv : Value} {A : Around} {outer : List Env} {s : Shared} {H0 : Hp} {Q : VK} {d la q0 f : Addr} {p : Nat × Nat} {h0 : List Nat} {C : BK.Cfg} {r : List V → Hp → VK → Prop}
    (hr : Room 2 (A.deeper (envOfC "round_rows" (defScope (top 33)) s.heap.objs.size g cdv)))
    (hc : CallR (cxOf CX0 P w K mg base NRR "round_rows" (defScope (top 33)) g cdv A outer s H0 E0).nox (.ref f) r)
    (there : ∀ (pins : List (Addr × Obj)) (σ : L2.St) (HZ : Hp) (sZ : Shared), Inv (cxOf CX0 P w K mg base NRR "round_rows" (defScope (top 33)) g cdv A outer s H0 E0).nox pins σ HZ sZ → PySem.W.FnAt f sZ.heap)
    (ok : C.Ok) (hd : Dev K H0 d C) (hla : Lots H0 la C.lots) (hl1 : C.lots.length ≤ 1000) (hl2 : ∀ l ∈ C.lots, l.length ≤ 1000) (hq0 : PairAt H0 q0 p) (hn : (p, h0) ∈ C.nodes) (hf : Follows C H0 r)
    (k : ∀ fd H', Same H0 H' → H' fd = some (.dT (FD (BK.found C p h0))) → H0 fd = none → Q (.ref fd) H') :
    ∃ t, PSs (cxOf CX0 P w K mg base NRR "round_rows" (defScope (top 33)) g cdv A outer s H0 E0).nox (defBody (top 33)) t ∧ t { nx := fun _ H' => Q .non H', rt := Q } (L2.start NRR [.ref d, .ref la, .ref q0, .str (S h0), .ref f]) H0 := by
  have hu := hr.units
  have hu1 : (A.deeper (envOfC "round_rows" (defScope (top 33)) s.heap.objs.size g cdv)).units + 1 < cLine := by omega
  refine ⟨_, pss_cons (ps_set (i := 5) sc_round_rows.nd rfl (Or.inl rfl) (pe_ndisp hu (pe_tup (pa_cons (pv 2) (pa_cons (pv 3) pa_nil))) pe_str))
    (pss_cons (ps_set (i := 6) sc_round_rows.nd rfl (Or.inl rfl) (pe_lst (pa_cons (pe_tup (pa_cons (pv 2) (pa_cons (pv 3) pa_nil))) pa_nil)))
    (pss_cons (ps_set (i := 7) sc_round_rows.nd rfl (Or.inl rfl) pe_dnewT)
    (pss_cons (ps_set (i := 8) sc_round_rows.nd rfl (Or.inl rfl) pe_int)
    (pss_cons (ps_while PassesOwn.never (pt_cmpR op_lt (pv 8) (pe_callB call_len (by rfl) T.n_len boot_len (pa_cons (pv 6) pa_nil)) (nomark _))
      (pss_cons (ps_asg (pe_ix ix_list (pv 6) (pv 8) (fun _ _ => rfl)) (pg_tup rfl (pgs_cons (pg_name (i := 9) sc_round_rows.nd rfl (Or.inl rfl)) (pgs_cons (pg_name (i := 10) sc_round_rows.nd rfl (Or.inl rfl)) pgs_nil))))
      (pss_cons (ps_set (i := 11) sc_round_rows.nd rfl (Or.inl rfl) (pe_nget hu (pv 5) (pe_ix ix_list (pv 6) (pv 8) (fun _ _ => rfl)) (fun _ _ => rfl)))
      (pss_cons (ps_aug (i := 8) sc_round_rows.nd rfl (Or.inl rfl) pe_int iop_add)
      (pss_one (ps_for PassesOwn.never rfl (pi_enumS (by rfl) T.n_enumerate (pa_cons (pe_fld (pv 0) (by rfl)) pa_nil)) (pg_tup rfl (pgs_cons (pg_name (i := 12) sc_round_rows.nd rfl (Or.inl rfl)) (pgs_cons (pg_name (i := 13) sc_round_rows.nd rfl (Or.inl rfl)) pgs_nil)))
        (pss_cons (ps_set (i := 14) sc_round_rows.nd rfl (Or.inl rfl) (pe_varc (i := 4) there hc rfl (Or.inl rfl) (pa_cons (pv 9) (pa_cons (pv 12) pa_nil))))
        (pss_one (ps_if (pt_cmp (pc_notN (pv 14)))
          (pss_cons (ps_set (i := 15) sc_round_rows.nd rfl (Or.inl rfl) (pe_c (ok_joined_lot T) hr (by rfl) (pa_cons (pv 10) (pa_cons (pv 13) pa_nil))))
          (pss_one (ps_if (pt_val (pe_c (ok_has_full T) hr (by rfl) (pa_cons (pv 1) (pa_cons (pv 15) pa_nil))))
            (pss_one (ps_if (pt_cmp (pc_dnotin hu1 (pv 14) (pv 7))) (pss_one (ps_dput hu1 (pv 7) (pv 14) (pe_op op_add_str (pv 11) (pv 13)) (by rfl))) pss_nil))
            (pss_one (ps_if (pt_cmp (pc_nnotin hu (pe_tup (pa_cons (pv 14) (pa_cons (pv 15) pa_nil))) (pv 5)))
              (pss_cons (ps_nput hu (pv 5) (pe_tup (pa_cons (pv 14) (pa_cons (pv 15) pa_nil))) (pe_op op_add_str (pv 11) (pv 13)))
              (pss_one (ps_expr (pe_bm PySem.F.plainAttrs_list PySem.F.slot_list_append PySem.F.type_list_append mt_append (pv 6) (pa_cons (pe_tup (pa_cons (pv 14) (pa_cons (pv 15) pa_nil))) pa_nil)))))
              pss_nil)))))
          pss_nil)))))))))
    (pss_one (ps_ret (pv 7))))))), ?_⟩
  intro rw nrw _
  refine ⟨_, rfl, _, rfl, by show 2 ≤ sizeLine; decide, fun t0 nt0 => ?_⟩
  have rt0 : rw ≠ t0 := fun z => by rw [← z, upd_same] at nt0; cases nt0
  have nt0' : H0 t0 = none := by rw [upd_ne (Ne.symm rt0)] at nt0; exact nt0
  have qr : q0 ≠ rw := ne_of_none hq0 nrw
  have qt0 : q0 ≠ t0 := ne_of_none hq0 nt0'
  refine ⟨t0, (p, h0), rfl, by rw [upd_ne rt0, upd_same], ⟨q0, upd_same, by unfold PairAt; rw [upd_ne qt0, upd_ne qr]; exact hq0⟩, fun H3 D3 k3 z3 => ?_⟩
  have sm3 : Same H0 H3 := fun c o e => k3 c o (by rw [upd_ne (ne_of_none e nt0'), upd_ne (ne_of_none e nrw)]; exact e) (ne_of_none e nrw)
  refine ⟨_, rfl, _, rfl, by show 2 ≤ sizeLine; decide, fun t1 nt1 => ⟨by show 1 ≤ sizeLine; decide, fun wt nwt => fun fd nfd => ?_⟩⟩
  have t1w : t1 ≠ wt := fun z => by rw [← z, upd_same] at nwt; cases nwt
  have nwt' : H3 wt = none := by rw [upd_ne (Ne.symm t1w)] at nwt; exact nwt
  have wf : wt ≠ fd := fun z => by rw [← z, upd_same] at nfd; cases nfd
  have t1f : t1 ≠ fd := fun z => by rw [← z, upd_ne t1w, upd_same] at nfd; cases nfd
  have nfd' : H3 fd = none := by rw [upd_ne (Ne.symm wf), upd_ne (Ne.symm t1f)] at nfd; exact nfd
  have sm5 : Same H3 (upd (upd (upd H3 t1 (.tup [.ref q0, .str (S h0)])) wt (.lst [.ref t1])) fd (.dT [])) := fun c o e => by
    rw [upd_ne (ne_of_none e nfd'), upd_ne (ne_of_none e nwt'), upd_ne (ne_of_none e nt1)]
    exact e
  have nf0 : ∀ {c : Addr}, H3 c = none → H0 c = none := fun {c} n => by
    cases e : H0 c with
    | none => rfl
    | some o => rw [sm3 _ _ e] at n; cases n
  have R0 : RR P w H0 rw wt fd (BK.start p h0) (upd (upd (upd H3 t1 (.tup [.ref q0, .str (S h0)])) wt (.lst [.ref t1])) fd (.dT [])) := by
    refine ⟨same_trans sm3 sm5, D3.same (ext_same sm5), ⟨[t1], by rw [upd_ne wf, upd_same]; rfl, rfl, fun j nd h => ?_⟩, upd_same⟩
    cases j with
    | zero =>
      cases h
      refine ⟨t1, rfl, q0, by rw [upd_ne t1f, upd_ne t1w, upd_same], ?_⟩
      exact (PairAt.same (H := H0) hq0 (ext_same (same_trans sm3 sm5)))
    | succ j => simp [BK.start] at h
  generalize upd (upd (upd H3 t1 (.tup [.ref q0, .str (S h0)])) wt (.lst [.ref t1])) fd (.dT []) = H5 at R0
  have nwt0 := nf0 nwt'
  have nfd0 := nf0 nfd'
  refine ⟨fun m σ H => ∃ i, m = 100 - i ∧ WS P w C d la q0 p h0 f H0 rw wt fd i σ H, ⟨100, 0, rfl, BK.start p h0, none, none, none, none, none, none, none, rfl, by omega, by omega, rfl, BK.good_start hn, R0⟩, ?_⟩
  rintro m σ H ⟨i, rfl, b, x9, x10, x11, x12, x13, x14, x15, rfl, hi40, hiW, hrun, hg, hR⟩
  obtain ⟨ts, hts, hlen, hat⟩ := hR.wait
  refine ⟨_, rfl, _, rfl, _, _, rfl, .inl ⟨_, SqL.of hts, rfl⟩, _, _, rfl, rfl, _, rfl, ?_⟩
  rw [List.length_map, hlen]
  by_cases hlt : i < b.W.length
  · refine iteT' (by simpa using hlt) ⟨fun σ' H' => WS P w C d la q0 p h0 f H0 rw wt fd (i + 1) σ' H', fun σ' H' hw => ⟨100 - (i + 1), by omega, i + 1, rfl, hw⟩, ?_⟩
    have hnd : b.W[i]? = some b.W[i] := List.getElem?_eq_getElem hlt
    generalize b.W[i] = nd at hnd
    obtain ⟨t, htt, htn⟩ := hat i nd hnd
    have hmem : nd ∈ b.W := List.mem_of_getElem? hnd
    have hvis : BK.run C (100 - (i + 1)) (i + 1) (BK.visit C nd b) = BK.bfs C p h0 := by
      have e : 100 - i = (100 - (i + 1)) + 1 := by omega
      rw [e] at hrun
      rw [← hrun]
      show _ = (match b.W[i]? with | none => b | some nd => BK.run C (100 - (i + 1)) (i + 1) (BK.visit C nd b))
      rw [hnd]
    obtain ⟨hpn, hhn⟩ := BK.mem_nodes.mp (hg.inw nd hmem)
    obtain ⟨hp1, hp2⟩ := BK.mem_pairs.mp hpn
    have hrl : nd.2.length ≤ 40 := Nat.le_trans (hg.lw i nd hnd) hi40
    obtain ⟨habc, hhl⟩ := hear_abc ok hhn
    obtain ⟨q, htq, hpq⟩ := id htn
    refine ⟨_, rfl, _, rfl, wt, _, _, _, rfl, rfl, SqL.of hts, atI_nat (v := .ref t) (by rw [List.getElem?_map, htt]; rfl), ?_⟩
    refine ⟨t, _, rfl, SqT.of htq, rfl, _, _, rfl, _, _, rfl, rfl, ?_⟩
    refine ⟨_, rfl, _, rfl, _, rfl, wt, _, _, _, rfl, rfl, SqL.of hts, atI_nat (v := .ref t) (by rw [List.getElem?_map, htt]; rfl), ?_⟩
    refine ⟨rw, t, _, nd.1, _, rfl, rfl, hR.rows, htn, wd_get hg.nw hmem, ?_⟩
    refine ⟨_, rfl, _, _, rfl, rfl, ?_⟩
    obtain ⟨dx, fs, tt, e1, e2, e3, e4, e5⟩ := hd
    refine ⟨_, rfl, d, _, dx, fs, _, rfl, hR.keep _ _ e1, T.cl_Device, T.at_Device_signals, e3, C.sig, rfl, ?_⟩
    refine for_it (walk_enumS (z := C.sig)) (fun j σ H => ∃ x12 x13 x14 x15 : Option V, σ = SL d la q0 h0 f rw wt fd ((i : Int) + 1) (some (.ref q)) (some (.str (S nd.1.2))) (some (.str (S nd.2))) x12 x13 x14 x15 ∧ RR P w H0 rw wt fd ((C.sig.take j).foldl (BK.sig1 C nd) b) H ∧ PairAt H q nd.1.1) ⟨_, _, _, _, rfl, hR, hpq⟩ (fun _ _ _ _ _ => trivial) ?_ ?_
    · rintro j v σ H1 H2 hj ⟨x12, x13, x14, x15, rfl, hR1, hq1⟩ ⟨TT, x, rfl, nTT, rfl, hx⟩
      obtain ⟨c, hcj, rfl⟩ : ∃ c, C.sig[j]? = some c ∧ x = .str (S [c]) := by
        have hx : (C.sig[j]?).map (fun c => V.str (S [c])) = some x := hx
        cases z : C.sig[j]? with
        | none => rw [z] at hx; cases hx
        | some c => rw [z] at hx; exact ⟨c, rfl, (Option.some.inj hx).symm⟩
      obtain ⟨hcn, hjt⟩ := sig_at hcj
      have hcs : c ∈ C.sig := List.mem_of_getElem? hcj
      have hG1 : BK.Good C (p, h0) (i + 1) ((C.sig.take j).foldl (BK.sig1 C nd) b) := (BK.fold_good ok (hg.lw i nd hnd) (C.sig.take j) b hmem hlt (fun x hx => List.mem_of_mem_take hx) (hg.mono (Nat.le_succ i))).1
      have hb1 : (C.sig.take (j + 1)).foldl (BK.sig1 C nd) b = BK.sig1 C nd ((C.sig.take j).foldl (BK.sig1 C nd) b) c := by
        rw [take_succ hcj, List.foldl_append]
        rfl
      rw [hb1]
      generalize (C.sig.take j).foldl (BK.sig1 C nd) b = b1 at hR1 hG1
      have hR2 := hR1.same (same_new (o := .tup [.int (j : Nat), .str (S [c])]) nTT)
      have hq2 := hq1.same (ext_same (same_new (o := .tup [.int (j : Nat), .str (S [c])]) nTT))
      refine ⟨TT, _, rfl, SqT.of upd_same, rfl, _, _, rfl, _, _, rfl, rfl, ?_⟩
      generalize upd H1 TT (.tup [.int (j : Nat), .str (S [c])]) = H3' at hR2 hq2
      refine ⟨rfl, _, rfl, _, rfl, hf H3' _ q nd.1.1 j hR2.keep hq2 (Nat.lt_trans hp1 hp2) hp2 hjt fun H4 v sm4 pv4 => ?_⟩
      rw [← hcn] at pv4
      have hR4 := hR2.same sm4
      have hq4 := hq2.same (ext_same sm4)
      refine ⟨_, rfl, _, rfl, ?_⟩
      cases hst : C.step nd.1.1 c with
      | none =>
        rw [hst] at pv4
        have ev : v = .non := pv4
        subst ev
        refine iteF' rfl ⟨_, _, _, _, rfl, ?_, hq4⟩
        unfold BK.sig1
        rw [hst]
        exact hR4
      | some q' =>
        rw [hst] at pv4
        obtain ⟨qa, rfl, hqa⟩ := pv4
        refine iteT' rfl ?_
        refine ⟨_, rfl, _, rfl, nd.1.2, c, rfl, habc, sig_abc hcs, hhl, fun H6 sm6 => ?_⟩
        refine ⟨_, rfl, _, rfl, la, C.lots, BK.more nd.1.2 c, rfl, ?_, hl1, hl2, fun H7 sm7 => ?_⟩
        · exact sm6 _ _ (hR4.keep _ _ hla)
        have hR7 := hR4.same (same_trans sm6 sm7)
        have hq7 := hq4.same (ext_same (same_trans sm6 sm7))
        have hqa7 := hqa.same (ext_same (same_trans sm6 sm7))
        refine ⟨_, rfl, ?_⟩
        have hs1 : BK.sig1 C nd b1 c = if C.full (BK.more nd.1.2 c) = true then (if BK.hasKey b1.F q' = true then b1 else { b1 with F := b1.F ++ [(q', nd.2 ++ [c])] })
            else if BK.hasKey b1.W (q', BK.more nd.1.2 c) = true then b1 else { b1 with W := b1.W ++ [((q', BK.more nd.1.2 c), nd.2 ++ [c])] } := by
          unfold BK.sig1
          rw [hst]
        have hrow : ∀ {x : List Nat}, x.length ≤ 40 → (S x).length + (S [c]).length ≤ sizeLine := fun {x} hx => by
          rw [S_len, S_len, sizeLine_eq]
          show x.length + 1 ≤ _
          omega
        show (if C.full (BK.more nd.1.2 c) = true then _ else _)
        cases hfull : C.full (BK.more nd.1.2 c) with
        | true =>
          refine iteT' rfl ?_
          refine ⟨_, rfl, _, rfl, fd, _, rfl, DGet.t (k := kp q') hR7.fnd (pair_tup hqa7), _, rfl, ?_⟩
          rw [fd_has]
          cases hk : BK.hasKey b1.F q' with
          | true =>
            refine iteF' rfl ⟨_, _, _, _, rfl, ?_, hq7⟩
            rw [hs1, hfull, hk]
            exact hR7
          | false =>
            refine iteT' rfl ?_
            have hvn : valV (FD b1.F) (kp q') = none := valV_none (by rw [fd_has]; exact hk)
            have hfl := f_len ok hG1
            refine ⟨_, rfl, _, rfl, S nd.2, S [c], rfl, rfl, hrow hrl, ?_⟩
            refine ⟨_, rfl, _, rfl, fd, _, rfl, DPut.t (k := kp q') hR7.fnd (pair_tup hqa7) (by unfold FD; rw [List.length_map, sizeLine_eq]; omega), ?_⟩
            rw [putK_new hvn, S_cat]
            have nfd : ∀ {b : Addr} {o : HO}, H7 b = some o → (∀ l, o ≠ .dT l) → b ≠ fd := fun {b o} e n => ne_of e hR7.fnd (n _)
            have ex : ∀ b o, H7 b = some o → b ≠ fd → upd H7 fd (.dT (FD b1.F ++ [(kp q', V.str (S (nd.2 ++ [c])))])) b = some o := fun b o e n => by rw [upd_ne n]; exact e
            obtain ⟨ts', w1, w2, w3⟩ := hR7.wait
            obtain ⟨kvs, r1, r2, r3, r4⟩ := hR7.rows
            have nodeX : ∀ {b : Addr} {k : Node}, NodeAt H7 b k → NodeAt (upd H7 fd (.dT (FD b1.F ++ [(kp q', V.str (S (nd.2 ++ [c])))]))) b k := fun {b k} ⟨qq, n1, n2⟩ => ⟨qq, ex _ _ n1 (nfd n1 fun l z => by cases z), ex _ _ n2 (nfd n2 fun l z => by cases z)⟩
            refine ⟨_, _, _, _, rfl, ?_, ex _ _ hq7 (nfd hq7 fun l z => by cases z)⟩
            rw [hs1, hfull, hk]
            refine ⟨fun b o e => ex _ _ (hR7.keep b o e) (ne_of_none e nfd0), ⟨kvs, r1, r2, ex _ _ r3 (nfd r3 fun l z => by unfold NDO at z; cases z), fun x hx => nodeX (r4 x hx)⟩, ⟨ts', ex _ _ w1 (nfd w1 fun l z => by cases z), w2, fun j' nd' h' => ?_⟩, ?_⟩
            · obtain ⟨t', h1', h2'⟩ := w3 j' nd' h'
              exact ⟨t', h1', nodeX h2'⟩
            · rw [upd_same]
              show some (HO.dT _) = some (HO.dT (FD (b1.F ++ [(q', nd.2 ++ [c])])))
              rw [fd_snoc]
        | false =>
          refine iteF' rfl ?_
          refine ⟨_, rfl, _, rfl, by show 2 ≤ sizeLine; decide, fun t2 nt2 => ?_⟩
          have sm8 := same_new (o := .tup [V.ref qa, V.str (S (BK.more nd.1.2 c))]) nt2
          have hR8 := hR7.same sm8
          have hq8 := hq7.same (ext_same sm8)
          have hqa8 := hqa7.same (ext_same sm8)
          have hn8 : NodeAt (upd H7 t2 (.tup [V.ref qa, V.str (S (BK.more nd.1.2 c))])) t2 (q', BK.more nd.1.2 c) := ⟨qa, upd_same, hqa8⟩
          generalize upd H7 t2 (.tup [V.ref qa, V.str (S (BK.more nd.1.2 c))]) = H8 at hR8 hq8 hqa8 hn8
          refine ⟨_, rfl, rw, t2, _, (q', BK.more nd.1.2 c), rfl, rfl, hR8.rows, hn8, _, rfl, ?_⟩
          rw [wd_has]
          cases hk : BK.hasKey b1.W (q', BK.more nd.1.2 c) with
          | true =>
            refine iteF' rfl ⟨_, _, _, _, rfl, ?_, hq8⟩
            rw [hs1, hfull, hk]
            exact hR8
          | false =>
            refine iteT' rfl ?_
            have hvn : valV (WD b1.W) (q', BK.more nd.1.2 c) = none := valV_none (by rw [wd_has]; exact hk)
            have hwl := BK.good_len ok hG1
            refine ⟨_, rfl, _, rfl, S nd.2, S [c], rfl, rfl, hrow hrl, ?_⟩
            refine ⟨_, rfl, _, rfl, _, rfl, by show 2 ≤ sizeLine; decide, fun t3 nt3 => ?_⟩
            have sm9 := same_new (o := .tup [V.ref qa, V.str (S (BK.more nd.1.2 c))]) nt3
            have hR9 := hR8.same sm9
            have hq9 := hq8.same (ext_same sm9)
            have hqa9 := hqa8.same (ext_same sm9)
            have hn9 : NodeAt (upd H8 t3 (.tup [V.ref qa, V.str (S (BK.more nd.1.2 c))])) t3 (q', BK.more nd.1.2 c) := ⟨qa, upd_same, hqa9⟩
            generalize upd H8 t3 (.tup [V.ref qa, V.str (S (BK.more nd.1.2 c))]) = H9 at hR9 hq9 hqa9 hn9
            refine ⟨rw, t3, _, (q', BK.more nd.1.2 c), rfl, rfl, hR9.rows, hn9, hvn, by unfold WD; rw [List.length_map]; omega, fun H10 D10 k10 z10 => ?_⟩
            rw [S_cat] at D10
            obtain ⟨ts', w1, w2, w3⟩ := hR9.wait
            obtain ⟨kvs, r1, r2, r3, r4⟩ := hR9.rows
            have nrw' : ∀ {b : Addr} {o : HO}, H9 b = some o → (∀ p, o ≠ .ext p) → b ≠ rw := fun {b o} e n => ne_of e r3 (fun z => by unfold NDO at z; exact n _ z)
            have w1' : H10 wt = some (.lst (ts'.map V.ref)) := k10 _ _ w1 (nrw' w1 fun p z => by cases z)
            refine ⟨_, rfl, .inl ⟨rfl, _, SqL.of w1'⟩, _, rfl, _, rfl, by show 2 ≤ sizeLine; decide, fun t4 nt4 => ?_⟩
            have nw4 : wt ≠ t4 := ne_of_none w1' nt4
            refine ⟨wt, _, _, rfl, rfl, by rw [upd_ne nw4]; exact w1', by rw [List.length_map, w2, sizeLine_eq]; omega, ?_⟩
            -- all that stood stands, but rw and wt
            have up : ∀ b o, H9 b = some o → b ≠ rw → b ≠ wt → upd (upd H10 t4 (.tup [V.ref qa, V.str (S (BK.more nd.1.2 c))])) wt (.lst (ts'.map V.ref ++ [V.ref t4])) b = some o := fun b o e n1 n2 => by
              rw [upd_ne n2, upd_ne (ne_of_none (k10 b o e n1) nt4)]
              exact k10 b o e n1
            have nwt' : ∀ {b : Addr} {o : HO}, H9 b = some o → (∀ l, o ≠ .lst l) → b ≠ wt := fun {b o} e n => ne_of e w1 (n _)
            have tupX : ∀ {b : Addr} {xs : List V}, H9 b = some (.tup xs) → upd (upd H10 t4 (.tup [V.ref qa, V.str (S (BK.more nd.1.2 c))])) wt (.lst (ts'.map V.ref ++ [V.ref t4])) b = some (.tup xs) := fun {b xs} e => up b _ e (nrw' e fun p z => by cases z) (nwt' e fun l z => by cases z)
            have nodeX : ∀ {b : Addr} {k : Node}, NodeAt H9 b k → NodeAt (upd (upd H10 t4 (.tup [V.ref qa, V.str (S (BK.more nd.1.2 c))])) wt (.lst (ts'.map V.ref ++ [V.ref t4]))) b k := fun {b k} ⟨qq, n1, n2⟩ => ⟨qq, tupX n1, tupX n2⟩
            refine ⟨_, _, _, _, rfl, ?_, tupX hq9⟩
            rw [hs1, hfull, hk]
            obtain ⟨kvs', s1, s2, s3, s4⟩ := D10
            refine ⟨fun b o e => up b o (hR9.keep b o e) (ne_of_none e nrw) (ne_of_none e nwt0), ⟨kvs', ?_, s2, ?_, fun x hx => ?_⟩, ⟨ts' ++ [t4], ?_, ?_, fun j' nd' h' => ?_⟩, ?_⟩
            · show WD (b1.W ++ [((q', BK.more nd.1.2 c), nd.2 ++ [c])]) = _
              rw [wd_snoc]
              exact s1
            · have nrwt : rw ≠ wt := ne_of s3 w1' (fun z => by unfold NDO at z; cases z)
              rw [upd_ne nrwt, upd_ne (ne_of_none s3 nt4)]
              exact s3
            · obtain ⟨qq, n1, n2⟩ := s4 x hx
              have tX : ∀ {b : Addr} {xs : List V}, H10 b = some (.tup xs) → upd (upd H10 t4 (.tup [V.ref qa, V.str (S (BK.more nd.1.2 c))])) wt (.lst (ts'.map V.ref ++ [V.ref t4])) b = some (.tup xs) := fun {b xs} e => by
                rw [upd_ne (ne_of e w1' (fun z => by cases z)), upd_ne (ne_of_none e nt4)]
                exact e
              exact ⟨qq, tX n1, tX n2⟩
            · rw [upd_same, List.map_append]
              rfl
            · rw [List.length_append, w2]
              show _ = (b1.W ++ [((q', BK.more nd.1.2 c), nd.2 ++ [c])]).length
              rw [List.length_append]
              rfl
            · have h' : (b1.W ++ [((q', BK.more nd.1.2 c), nd.2 ++ [c])])[j']? = some nd' := h'
              by_cases hj' : j' < b1.W.length
              · rw [List.getElem?_append_left hj'] at h'
                obtain ⟨t', h1', h2'⟩ := w3 j' nd' h'
                exact ⟨t', by rw [List.getElem?_append_left (by rw [w2]; exact hj')]; exact h1', nodeX h2'⟩
              · rw [List.getElem?_append_right (by omega)] at h'
                have hj0 : j' - b1.W.length = 0 := by
                  have := (List.getElem?_eq_some_iff.mp h').1
                  simp at this
                  omega
                rw [hj0] at h'
                cases h'
                refine ⟨t4, by rw [List.getElem?_append_right (by rw [w2]; omega), w2, hj0]; rfl, qa, ?_, tupX hqa9⟩
                rw [upd_ne (Ne.symm nw4), upd_same]
            · have nfw : fd ≠ wt := ne_of hR9.fnd w1 (fun z => by cases z)
              have nfr : fd ≠ rw := nrw' hR9.fnd fun p z => by cases z
              exact up _ _ hR9.fnd nfr nfw
    · rintro σ H1 ⟨x12, x13, x14, x15, rfl, hR1, _⟩
      rw [List.take_length] at hR1
      refine ⟨_, _, _, _, _, _, _, _, rfl, ?_, ?_, hvis, (BK.visit_good ok hnd hg).1, hR1⟩
      · have := BK.good_len ok hg
        omega
      · have := (BK.visit_ext C nd b).len
        omega
  · refine iteF' (by simpa using hlt) ?_
    have hdone := BK.run_done C (100 - i) i b (by omega)
    rw [hrun] at hdone
    refine ⟨_, rfl, ?_⟩
    refine k fd H hR.keep ?_ nfd0
    unfold BK.found
    rw [hdone]
    exact hR.fnd
end
end BW

set_option Elab.async false
set_option linter.all false
set_option maxRecDepth 100000
set_option maxHeartbeats 1000000
/-! pair_rows -/
namespace BW
open PySem PySem.Spec PyProof.Rows L2 SX
open LamX (Tabs ExtN CodeO)
open NdefX (NScope startF slotAt nscope_by)
section
variable {P : Program} {w : World} {K : PySem.W.Frag} {mg : PySem.Str → Option Value} {base : Heap}
def lamOf : Expr → Arguments × Expr × Scope
  | .Call _ [_, _, _, _, .Lambda params body scope _] _ _ => (params, body, scope)
  | _ => (⟨[], [], none, [], [], none, []⟩, .Constant .none 0 ⟨0, 0, 0, 0⟩, (defScope (top 33)))
def retOf : List Stmt → Expr
  | [.Return (some e) _] => e
  | _ => .Constant .none 0 ⟨0, 0, 0, 0⟩
def lamPR : Arguments × Expr × Scope := lamOf (retOf (defBody (top 34)))
theorem sc_lamPR : NScope ["here", "number", "device"] ["here", "number"] ["device"] lamPR.2.2 := nscope_by (by decide +kernel)
def sp_pair_rows (K : PySem.W.Frag) : Sp := fun vs H Q _ => ∃ (d la q : Addr) (p : Nat × Nat) (h : List Nat) (C : BK.Cfg), vs = [.ref d, .ref la, .ref q, .str (S h)] ∧ Dev K H d C ∧ Lots H la C.lots ∧ C.Ok ∧ C.lots.length ≤ 1000 ∧ (∀ l ∈ C.lots, l.length ≤ 1000) ∧ PairAt H q p ∧ (p, h) ∈ C.nodes ∧ Tabs (T3 K) H ∧
  ∀ fd H', Ex (T3 K) H H' → H' fd = some (.dT (FD (BK.found C p h))) → (∀ o, H fd = some o → ∃ ps, o = .tbl ps) → Q (.ref fd) H'
theorem sc_pair_rows : FnScope ["device", "lots", "pair", "lot"] ["device", "lots", "pair", "lot"] (defScope (top 34)) := ⟨rfl, rfl, rfl, by decide +kernel, rfl, by decide +kernel, by decide +kernel⟩
theorem three {a b c : Addr} {x y z : PySem.Str} (n12 : a ≠ b) (n13 : a ≠ c) (n23 : b ≠ c) : (∀ p ∈ [(a, x), (b, y), (c, z)], p.1 = a → p.2 = x) ∧ (∀ p ∈ [(a, x), (b, y), (c, z)], p.1 = b → p.2 = y) ∧ (∀ p ∈ [(a, x), (b, y), (c, z)], p.1 = c → p.2 = z) := by
  refine ⟨fun p hp e => ?_, fun p hp e => ?_, fun p hp e => ?_⟩ <;> rcases List.mem_cons.mp hp with q | hp
  · rw [q]
  · rcases List.mem_cons.mp hp with q | hp
    · rw [q] at e; exact absurd e.symm n12
    · rw [List.mem_singleton.mp hp] at e; exact absurd e.symm n13
  · rw [q] at e; exact absurd e n12
  · rcases List.mem_cons.mp hp with q | hp
    · rw [q]
    · rw [List.mem_singleton.mp hp] at e; exact absurd e.symm n23
  · rw [q] at e; exact absurd e n13
  · rcases List.mem_cons.mp hp with q | hp
    · rw [q] at e; exact absurd e n23
    · rw [List.mem_singleton.mp hp]
theorem t3_m1 : (tabP K "pair_rows", lamQ "pair_rows") ∈ T3 K := List.mem_cons_self
theorem t3_m2 : (tabP K "first_of", lamQ "first_of") ∈ T3 K := List.mem_cons_of_mem _ List.mem_cons_self
theorem t3_m3 : (tabP K "_law_due", lamQ "_law_due") ∈ T3 K := List.mem_cons_of_mem _ (List.mem_cons_of_mem _ List.mem_cons_self)
theorem t3_u1 (B : Tb K mg base) : ∀ p ∈ T3 K, p.1 = tabP K "pair_rows" → p.2 = lamQ "pair_rows" := (three B.n12 B.n13 B.n23).1
theorem t3_u2 (B : Tb K mg base) : ∀ p ∈ T3 K, p.1 = tabP K "first_of" → p.2 = lamQ "first_of" := (three B.n12 B.n13 B.n23).2.1
theorem t3_u3 (B : Tb K mg base) : ∀ p ∈ T3 K, p.1 = tabP K "_law_due" → p.2 = lamQ "_law_due" := (three B.n12 B.n13 B.n23).2.2
theorem tb_1 (B : Tb K mg base) : LamX.TabB base mg (He.codeOf K ("pair_rows", none)) (tabP K "pair_rows") := B.at_ _ List.mem_cons_self
theorem tb_2 (B : Tb K mg base) : LamX.TabB base mg (He.codeOf K ("first_of", none)) (tabP K "first_of") := B.at_ _ (List.mem_cons_of_mem _ List.mem_cons_self)
theorem tb_3 (B : Tb K mg base) : LamX.TabB base mg (He.codeOf K ("_law_due", none)) (tabP K "_law_due") := B.at_ _ (List.mem_cons_of_mem _ (List.mem_cons_of_mem _ List.mem_cons_self))
theorem ok_pair_rows (T : Tx K mg) (B : Tb K mg base) : Cal CX0 P w K mg base 5 "pair_rows" (sp_pair_rows K) := by
  refine cal_ofL T.F_pair_rows T.g_pair_rows (fun _ _ _ _ _ _ us hl => match us, hl with | [_, _, _, _], _ => rfl) sc_pair_rows (fun vs H Q E h => ?_) (fun A outer s H vs Q E hr h => ?_)
  · obtain ⟨d, la, q, p, h, C, rfl, _⟩ := h
    rfl
  · obtain ⟨d, la, q, p, h, C, rfl, hd, hla, ok, hl1, hl2, hq, hn, hT, kk⟩ := h
    have hB : NdefX.ndefB (defScope (top 34)) lamPR.2.2 ["device"] = true := by decide +kernel
    refine ⟨_, pss_one (ps_ret (pe_lam5 (T := T3 K) (k := 2) (Nl := ["here", "number", "device"]) (psl := ["here", "number"]) (frl := ["device"]) (js := [0]) (tl := tCall (sp_next_node K) [] E0 (tCons (tVar 2) (tCons (tC (.str "pairs")) (tCons (tVar 0) (tCons (tVar 1) tNil)))))
      (TT := fun c' σ vs H' Q' => Ex (T3 K) H H' ∧ vs = [.ref d, .ref la, .ref q, .str (S h)] ∧ slotAt σ 0 = some (.ref d) ∧ ∀ fd H'', Ex (T3 K) H H'' → H'' fd = some (.dT (FD (BK.found C p h))) → (∀ o, H fd = some o → ∃ ps, o = .tbl ps) → Q' (.ref fd) H'')
      T.F_round_rows T.g_round_rows (by rfl) (fun _ _ _ _ _ _ us hl => match us, hl with | [_, _, _, _, _], _ => rfl) sc_round_rows rfl (tb_1 B) rfl t3_m1 (t3_u1 B) (hr.mono (by decide))
      (NdefX.ndef_free hB) (NdefX.ndef_fr hB) rfl sc_lamPR (fun _ _ _ _ _ us hl => match us, hl with | [_, _], _ => rfl) rfl
      (fun F f A outer s H e hr2 => ?_) (pv 0) (pv 1) (pv 2) (pv 3) (fun f c' cdv s5 H5 σ vs Q' hr5 hcall hthere hco hTT => ?_))), ?_⟩
    · obtain ⟨nm, ql, pr, bd, sc, cl, c⟩ := F
      have e : sc = lamPR.2.2 := e
      subst e
      exact pe_c (ok_next_node T) hr2 (by rfl) (pa_cons (pv 2) (pa_cons pe_str (pa_cons (pv 0) (pa_cons (pv 1) pa_nil))))
    · obtain ⟨eX, rfl, hs0, kk'⟩ := hTT
      refine rr_walk (C := C) (p := p) (h0 := h) T (hr5.mono (by decide)) hcall hthere ok (hd.ext eX.ext) (hla.ext eX.ext) hl1 hl2 (hq.same eX.ext) hn (fun HZ QZ qz pz kz sm hp h1 h2 hk kq => ?_) (fun fd H' sm e nf => kk' fd H' (eX.trans (Ex.same eX.tabs sm)) e fun o ho => by
        cases o with
        | tbl ps => exact ⟨ps, rfl⟩
        | _ => exact absurd (eX.ext _ _ ho (fun ps z => by cases z)) (by rw [nf]; intro z; cases z))
      have es : startF ["here", "number", "device"] [V.ref qz, V.int (kz : Nat)] ([0].map (slotAt σ)) = [some (V.ref qz), some (V.int (kz : Nat)), some (V.ref d)] := by
        show [some (V.ref qz), some (V.int (kz : Nat))] ++ ([slotAt σ 0] ++ []) = _
        rw [hs0]
        rfl
      refine ⟨rfl, sm _ _ hco, ?_⟩
      rw [es]
      refine ⟨_, rfl, _, rfl, _, rfl, d, qz, pz, kz, C, rfl, ?_, hp, ok, h1, h2, hk, fun H' v s pv => kq H' v s pv⟩
      exact hd.ext (eX.ext.trans (ext_same sm))
    · exact ⟨_, rfl, _, rfl, _, rfl, _, rfl, hT, fun c' H5 e5 t5 hc => ⟨⟨e5, t5⟩, rfl, rfl, kk⟩⟩
end
end BW

set_option Elab.async false
set_option linter.all false
set_option maxRecDepth 100000
set_option maxHeartbeats 1000000
/-! pairs_of, pair_web -/
namespace BW
open PySem PySem.Spec PyProof.Rows L2 SX
open LamX (Tabs ExtN CodeO)
/-- any block along a walk -/
theorem it_gen {J : It} {n : Nat} {Gd : Hp → Prop} {Y : Nat → Hp → V → Hp → Prop} (w : Walk J n Gd Y) {H1 : Hp} {Qd : Hp → Prop} {Bd : V → Hp → (Hp → Prop) → Prop} (Pv : Nat → Hp → Prop) (h0 : Pv 0 H1) (hG : ∀ i H, i ≤ n → Pv i H → Gd H)
    (hs : ∀ i x H H', i < n → Pv i H → Y i H x H' → Bd x H' (Pv (i + 1))) (hd : ∀ H, Pv n H → Qd H) :
    ∃ W : Nat → Nat → Hp → Prop, (∃ m, W 0 m H1) ∧ ∀ i m H, W i m H → (J.stop i H ∧ Qd H) ∨ (J.go i H ∧ ∃ Nx : Hp → Prop, (∀ H', Nx H' → ∃ m', m' < m ∧ W (i + 1) m' H') ∧ ∀ x H', J.yld i H x H' → Bd x H' Nx) := by
  refine ⟨fun i m H => m = n - i ∧ i ≤ n ∧ Pv i H, ⟨n, by simp, Nat.zero_le _, h0⟩, ?_⟩
  rintro i m H ⟨rfl, hi, p⟩
  have q := hG i H hi p
  by_cases hlt : i < n
  · exact .inr ⟨w.goes i H hlt q, Pv (i + 1), fun H' p' => ⟨n - (i + 1), by omega, rfl, hlt, p'⟩, fun x H' y => hs i x H H' hlt p (w.yields i H x H' hlt q y)⟩
  · have e : i = n := by omega
    subst e
    exact .inl ⟨w.stops H q, hd H p⟩
/-- pairs stand at the addresses qs -/
def PairsAt (H : Hp) (qs : List Addr) (l : List (Nat × Nat)) : Prop := qs.length = l.length ∧ ∀ (i : Nat) (p : Nat × Nat), l[i]? = some p → ∃ q, qs[i]? = some q ∧ PairAt H q p
/-- a list of pairs -/
def PairsL (H : Hp) (a : Addr) (l : List (Nat × Nat)) : Prop := ∃ qs : List Addr, H a = some (.lst (qs.map V.ref)) ∧ PairsAt H qs l
theorem PairsAt.ext {H H' : Hp} {qs : List Addr} {l : List (Nat × Nat)} (x : PairsAt H qs l) (e : ExtN H H') : PairsAt H' qs l := ⟨x.1, fun i p h => by
  obtain ⟨q, h1, h2⟩ := x.2 i p h
  exact ⟨q, h1, h2.same e⟩⟩
theorem PairsL.ext {H H' : Hp} {a : Addr} {l : List (Nat × Nat)} (x : PairsL H a l) (e : ExtN H H') : PairsL H' a l := by
  obtain ⟨qs, h1, h2⟩ := x
  exact ⟨qs, e _ _ h1 (fun ps z => by cases z), h2.ext e⟩
theorem PairsAt.snoc {H : Hp} {qs : List Addr} {l : List (Nat × Nat)} {q : Addr} {p : Nat × Nat} (x : PairsAt H qs l) (h : PairAt H q p) : PairsAt H (qs ++ [q]) (l ++ [p]) := by
  obtain ⟨h1, h2⟩ := x
  refine ⟨by rw [List.length_append, List.length_append, h1]; rfl, fun i p' h' => ?_⟩
  by_cases hi : i < l.length
  · rw [List.getElem?_append_left hi] at h'
    obtain ⟨q', h3, h4⟩ := h2 i p' h'
    exact ⟨q', by rw [List.getElem?_append_left (by rw [h1]; exact hi)]; exact h3, h4⟩
  · rw [List.getElem?_append_right (by omega)] at h'
    have hi0 : i - l.length = 0 := by
      have := (List.getElem?_eq_some_iff.mp h').1
      simp at this
      omega
    rw [hi0] at h'
    cases h'
    exact ⟨q, by rw [List.getElem?_append_right (by rw [h1]; omega), h1, hi0]; rfl, h⟩
theorem PairsAt.nil {H : Hp} : PairsAt H [] [] := ⟨rfl, fun i p h => by simp at h⟩
/-- what is no list stays when a list is written -/
theorem PairAt.write {H : Hp} {q a : Addr} {p : Nat × Nat} {o o' : HO} (x : PairAt H q p) (ha : H a = some o) (n : ∀ xs, o ≠ .tup xs) : PairAt (upd H a o') q p := by
  unfold PairAt at *
  rw [upd_ne (fun z => by rw [z, ha] at x; exact n _ (Option.some.inj x))]
  exact x
theorem PairsAt.write {H : Hp} {qs : List Addr} {l : List (Nat × Nat)} {a : Addr} {o o' : HO} (x : PairsAt H qs l) (ha : H a = some o) (n : ∀ xs, o ≠ .tup xs) : PairsAt (upd H a o') qs l := ⟨x.1, fun i p h => by
  obtain ⟨q, h1, h2⟩ := x.2 i p h
  exact ⟨q, h1, h2.write ha n⟩⟩
theorem pairs_len {n : Nat} (h2 : 2 ≤ n) (h5 : n ≤ 5) : (BK.pairs n).length ≤ 10 := by
  have cn : n = 2 ∨ n = 3 ∨ n = 4 ∨ n = 5 := by omega
  rcases cn with e | e | e | e <;> rw [e] <;> decide
theorem pairs_nodup {n : Nat} (h2 : 2 ≤ n) (h5 : n ≤ 5) : (BK.pairs n).Nodup := by
  have cn : n = 2 ∨ n = 3 ∨ n = 4 ∨ n = 5 := by omega
  rcases cn with e | e | e | e <;> rw [e] <;> decide
section
variable {P : Program} {w : World} {K : PySem.W.Frag} {mg : PySem.Str → Option Value} {base : Heap}
def sp_pairs_of (K : PySem.W.Frag) : Sp := fun vs H Q _ => ∃ (d : Addr) (C : BK.Cfg), vs = [.ref d] ∧ Dev K H d C ∧ C.n ≤ 5 ∧ ∀ a H', Same H H' → H a = none → PairsL H' a (BK.pairs C.n) → Q (.ref a) H'
theorem sc_pairs_of : FnScope ["device", "i", "j"] ["device"] (defScope (top 35)) := ⟨rfl, rfl, rfl, by decide +kernel, rfl, by decide +kernel, by decide +kernel⟩
theorem ok_pairs_of (T : Tx K mg) : Cal CX0 P w K mg base 1 "pairs_of" (sp_pairs_of K) := by
  refine cal_of0 T.F_pairs_of T.g_pairs_of (fun _ _ _ _ _ _ us hl => match us, hl with | [_], _ => rfl) sc_pairs_of (fun vs H Q E h => ?_) (fun cdv A outer s H vs Q E hr h => ?_)
  · obtain ⟨d, C, rfl, _⟩ := h
    rfl
  · obtain ⟨d, C, rfl, hd, h5, k⟩ := h
    refine ⟨_, pss_one (ps_ret (pe_lc2 (own := [("i", 1), ("j", 2)]) (vs1 := [2]) (g := gName 1) (g1 := gName 2) (by rfl) sc_pairs_of.nd (pi_range1 (by rfl) T.n_range (pa_cons (pe_fld (pv 0) (by rfl)) pa_nil)) (blkOk_by (N := ["device", "i", "j"]) (sc := defScope (top 35)) (by decide +kernel)) (by decide)
      (fun _ _ _ _ _ => pg_name (i := 1) sc_pairs_of.nd rfl (Or.inl rfl)) (fun _ _ _ _ _ => pts_nil)
      (fun _ _ _ _ _ => pi_range2 (by rfl) T.n_range (pa_cons (pe_op op_add (pv 1) pe_int) (pa_cons (show PE _ _ (tFld K (tVar 0) "states") from pe_fld (pv 0) (by rfl)) pa_nil))) (fun _ _ _ _ _ => pg_name (i := 2) sc_pairs_of.nd rfl (Or.inl rfl)) (fun _ _ _ _ _ => pts_nil)
      (fun _ _ _ _ _ => pe_tup (pa_cons (pv 1) (pa_cons (pv 2) pa_nil))))), ?_⟩
    obtain ⟨dx, fs, t, e1, e2, e3, e4, e5⟩ := hd
    refine ⟨_, rfl, d, _, dx, fs, _, rfl, e1, T.cl_Device, T.at_Device_states, e2, C.n, rfl, by omega, by omega, fun D nD => ?_⟩
    refine it_gen (walk_range (lo := 0) (n := (C.n : Int).toNat)) (fun i H' => Same H H' ∧ PairsL H' D ((List.range i).flatMap fun i => (List.range (C.n - (i + 1))).map fun j => (i, i + 1 + j))) ⟨same_new nD, [], upd_same, PairsAt.nil⟩ (fun _ _ _ _ => trivial) ?_ ?_
    · rintro i v H1 H2 hi ⟨sm, hL⟩ ⟨rfl, rfl⟩
      have hi : i < C.n := by simpa using hi
      refine ⟨rfl, tYes_in ?_⟩
      refine ⟨_, rfl, _, _, rfl, rfl, _, rfl, d, _, dx, fs, _, rfl, sm _ _ e1, T.cl_Device, T.at_Device_states, e2, _, _, rfl, by omega, ?_⟩
      refine it_gen (walk_range (lo := 0 + (i : Int) + 1) (n := ((C.n : Int) - (0 + (i : Int) + 1)).toNat)) (fun j H' => Same H H' ∧ PairsL H' D (((List.range i).flatMap fun i => (List.range (C.n - (i + 1))).map fun j => (i, i + 1 + j)) ++ (List.range j).map fun j => (i, i + 1 + j))) ⟨sm, by simpa using hL⟩ (fun _ _ _ _ => trivial) ?_ ?_
      · rintro j v H3 H4 hj ⟨sm3, qs, hq, hP⟩ ⟨rfl, rfl⟩
        refine ⟨rfl, tYes_in ?_⟩
        refine ⟨_, rfl, _, rfl, by show 2 ≤ sizeLine; decide, fun q nq => ?_⟩
        have nDq : D ≠ q := ne_of_none hq nq
        refine ⟨_, by rw [upd_ne nDq]; exact hq, ?_, fun b o e => ?_, qs ++ [q], ?_, ?_⟩
        · have h1 := hP.1
          rw [List.length_map, h1]
          rw [List.length_append, List.length_map, List.length_range]
          have h2 : ((List.range i).flatMap fun i => (List.range (C.n - (i + 1))).map fun j => (i, i + 1 + j)).length ≤ 25 := by
            rw [List.length_flatMap]
            have : ∀ (l : List Nat), ((l.map fun i => ((List.range (C.n - (i + 1))).map fun j => (i, i + 1 + j)).length).sum) ≤ 5 * l.length := by
              intro l
              induction l with
              | nil => simp
              | cons x l ih =>
                rw [List.map_cons, List.sum_cons, List.length_cons, List.length_map, List.length_range]
                omega
            have h3 := this (List.range i)
            rw [List.length_range] at h3
            omega
          have hj : j < ((C.n : Int) - (0 + (i : Int) + 1)).toNat := hj
          rw [sizeLine_eq]
          omega
        · have hb : b ≠ D := fun z => by rw [z, nD] at e; cases e
          rw [upd_ne hb, upd_ne (ne_of_none (sm3 b o e) nq)]
          exact sm3 b o e
        · rw [upd_same, List.map_append]
          rfl
        · rw [List.range_succ, List.map_append, ← List.append_assoc]
          have hp : PairAt (upd H4 q (.tup [V.int (0 + (i : Int)), V.int (0 + (i : Int) + 1 + (j : Int))])) q (i, i + 1 + j) := by
            unfold PairAt
            rw [upd_same]
            have a1 : (0 : Int) + (i : Int) = ((i : Nat) : Int) := by omega
            have a2 : (i : Int) + 1 + (j : Int) = ((i + 1 + j : Nat) : Int) := by omega
            rw [a1, a2]
          refine (((hP.ext (ext_same (same_new nq))).snoc hp).write (a := D) (o := .lst (qs.map V.ref)) ?_ fun xs z => by cases z)
          · rw [upd_ne nDq]; exact hq
      · rintro H3 ⟨sm3, hL3⟩
        refine ⟨sm3, ?_⟩
        have e : ((C.n : Int) - (0 + (i : Int) + 1)).toNat = C.n - (i + 1) := by omega
        rw [e] at hL3
        rw [List.range_succ, List.flatMap_append]
        simpa using hL3
    · rintro H1 ⟨sm, hL⟩
      refine k D H1 sm nD ?_
      simpa [BK.pairs] using hL
theorem nodup_lt {l : List (Nat × Nat)} (nd : l.Nodup) {i j : Nat} {p : Nat × Nat} (h : j < i) (hj : l[j]? = some p) (hi : l[i]? = some p) : False := by
  obtain ⟨h1, e1⟩ := List.getElem?_eq_some_iff.mp hj
  obtain ⟨h2, e2⟩ := List.getElem?_eq_some_iff.mp hi
  exact List.pairwise_iff_getElem.mp nd j i h1 h2 h (by rw [e1, e2])
/-- a web: the pairs, each with its found rows -/
def Web (H : Hp) (a : Addr) (C : BK.Cfg) : Prop := ∃ fs : Nat × Nat → Addr, H a = some (.dT ((BK.pairs C.n).map fun p => (kp p, V.ref (fs p)))) ∧ ∀ p ∈ BK.pairs C.n, H (fs p) = some (.dT (FD (BK.found C p [])))
theorem Web.ext {H H' : Hp} {a : Addr} {C : BK.Cfg} (x : Web H a C) (e : ExtN H H') : Web H' a C := by
  obtain ⟨fs, h1, h2⟩ := x
  exact ⟨fs, e _ _ h1 (fun ps z => by cases z), fun p hp => e _ _ (h2 p hp) (fun ps z => by cases z)⟩
def sp_pair_web (K : PySem.W.Frag) : Sp := fun vs H Q _ => ∃ (d la : Addr) (C : BK.Cfg), vs = [.ref d, .ref la] ∧ Dev K H d C ∧ Lots H la C.lots ∧ C.Ok ∧ C.lots.length ≤ 1000 ∧ (∀ l ∈ C.lots, l.length ≤ 1000) ∧ Tabs (T3 K) H ∧ ∀ a H', Ex (T3 K) H H' → Web H' a C → Q (.ref a) H'
theorem sc_pair_web : FnScope ["device", "lots", "pair"] ["device", "lots"] (defScope (top 36)) := ⟨rfl, rfl, rfl, by decide +kernel, rfl, by decide +kernel, by decide +kernel⟩
theorem ok_pair_web (T : Tx K mg) (B : Tb K mg base) : Cal CX0 P w K mg base 6 "pair_web" (sp_pair_web K) := by
  refine cal_of0 T.F_pair_web T.g_pair_web (fun _ _ _ _ _ _ us hl => match us, hl with | [_, _], _ => rfl) sc_pair_web (fun vs H Q E h => ?_) (fun cdv A outer s H vs Q E hr h => ?_)
  · obtain ⟨d, la, C, rfl, _⟩ := h
    rfl
  · obtain ⟨d, la, C, rfl, hd, hla, ok, hl1, hl2, hT, k⟩ := h
    have hu := hr.units
    refine ⟨_, pss_one (ps_ret (pe_dcP (own := [("pair", 2)]) (g := gName 2) hu (by rfl) sc_pair_web.nd (pi_list (pe_c (ok_pairs_of T) hr (by rfl) (pa_cons (pv 0) pa_nil))) (blkOk_by (N := ["device", "lots", "pair"]) (sc := defScope (top 36)) (by decide +kernel)) (fun _ _ _ _ _ => pg_name (i := 2) sc_pair_web.nd rfl (Or.inl rfl))
      (fun _ _ _ _ _ => pv 2) (fun _ _ _ _ _ => pe_c (ok_pair_rows T B) hr (by rfl) (pa_cons (pv 0) (pa_cons (pv 1) (pa_cons (pv 2) (pa_cons pe_str pa_nil))))))), ?_⟩
    refine ⟨_, rfl, d, C, rfl, hd, ok.n5, fun a H1 sm na hL => ?_⟩
    obtain ⟨qs, hqs, hql, hqa⟩ := hL
    refine ⟨a, rfl, ⟨_, SqL.of hqs⟩, fun D nD => ?_⟩
    have nD0 : H D = none := by
      cases e : H D with
      | none => rfl
      | some o => rw [sm _ _ e] at nD; cases nD
    refine it_gen (n := (qs.map V.ref).length) (walk_list (xs := qs.map V.ref)) (fun i H' => Ex (T3 K) H1 H' ∧ ∃ fs : Nat × Nat → Addr, H' D = some (.dT (((BK.pairs C.n).take i).map fun p => (kp p, V.ref (fs p)))) ∧ (∀ p ∈ (BK.pairs C.n).take i, H' (fs p) = some (.dT (FD (BK.found C p [])))) ∧ ∀ p ∈ (BK.pairs C.n).take i, fs p ≠ D) ?_ (fun i H' _ q => SqL.of (q.1.ext _ _ hqs (fun ps z => by cases z))) ?_ ?_
    · exact ⟨Ex.same (hT.ext sm) (same_new nD), fun _ => D, upd_same, by simp, by simp⟩
    · rintro i v H2 H3 hi ⟨eX, fs, hD, hfs, hfn⟩ ⟨rfl, hv⟩
      have hi : i < qs.length := by simpa using hi
      rw [List.getElem?_map] at hv
      have hpi : i < (BK.pairs C.n).length := by omega
      have hp0 : (BK.pairs C.n)[i]? = some (BK.pairs C.n)[i] := List.getElem?_eq_getElem hpi
      generalize (BK.pairs C.n)[i] = p at hp0
      obtain ⟨q, hq, hqp⟩ := hqa i p hp0
      rw [hq] at hv
      obtain rfl := Option.some.inj hv
      have hpm : p ∈ BK.pairs C.n := List.mem_of_getElem? hp0
      refine ⟨rfl, _, rfl, _, rfl, _, rfl, _, rfl, d, la, q, p, [], C, rfl, ?_, ?_, ok, hl1, hl2, hqp.same eX.ext, BK.mem_nodes.mpr ⟨hpm, BK.nil_hear C⟩, eX.tabs, fun fd H4 eX4 hfd hnew => ?_⟩
      · exact (hd.ext (ext_same sm)).ext eX.ext
      · exact (hla.ext (ext_same sm)).ext eX.ext
      have hD4 := eX4.ext _ _ hD (fun ps z => by cases z)
      have hq4 := (hqp.same eX.ext).same eX4.ext
      have hlen : (((BK.pairs C.n).take i).map fun p => (kp p, V.ref (fs p))).length ≤ 10 := by
        rw [List.length_map]
        exact Nat.le_trans (List.length_take_le' _ _) (pairs_len ok.n2 ok.n5)
      refine ⟨q, _, p, rfl, hD4, hq4, by rw [sizeLine_eq]; omega, ?_⟩
      have hpn : p ∉ (BK.pairs C.n).take i := fun hm => by
        obtain ⟨j, hj⟩ := List.mem_iff_getElem?.mp hm
        rw [List.getElem?_take] at hj
        split at hj
        · rename_i hji
          exact nodup_lt (pairs_nodup ok.n2 ok.n5) hji hj hp0
        · cases hj
      have hvn : valV (((BK.pairs C.n).take i).map fun p => (kp p, V.ref (fs p))) (kp p) = none := by
        rw [valV_pairs (fun p => V.ref (fs p)) (fun p => p)]
        rw [Option.map_eq_none_iff, List.find?_eq_none]
        intro x hx e
        rw [decide_eq_true_eq] at e
        exact hpn (by rw [← e]; exact hx)
      rw [putK_new hvn]
      have fdD : fd ≠ D := fun z => by
        obtain ⟨ps, e⟩ := hnew _ (z ▸ hD)
        cases e
      have hif : ∀ x ∈ (BK.pairs C.n).take i, (if x = p then fd else fs x) = fs x := fun x hx => if_neg fun (e : x = p) => hpn (by rw [← e]; exact hx)
      have hip : (if p = p then fd else fs p) = fd := if_pos rfl
      have hmm : ∀ x ∈ (BK.pairs C.n).take i ++ [p], x ≠ p → x ∈ (BK.pairs C.n).take i := fun x hx e => by
        rcases List.mem_append.mp hx with h | h
        · exact h
        · exact absurd (List.mem_singleton.mp h) e
      refine ⟨⟨fun b o e n => ?_, ?_⟩, fun x => if x = p then fd else fs x, ?_, ?_, ?_⟩
      · have hb : b ≠ D := fun z => by rw [z, nD] at e; cases e
        rw [upd_ne hb]
        exact eX4.ext _ _ (eX.ext b o e n) n
      · refine fun t ht => ?_
        obtain ⟨ps, t1, t2, t3⟩ := eX4.tabs t ht
        refine ⟨ps, by rw [upd_ne (ne_of t1 hD4 (fun z => by cases z))]; exact t1, t2, fun ps' cv hc => ?_⟩
        obtain ⟨c, c1, c2⟩ := t3 ps' cv hc
        exact ⟨c, c1, by rw [upd_ne (ne_of c2 hD4 (fun z => by unfold CodeO at z; cases z))]; exact c2⟩
      · rw [upd_same, take_succ hp0, List.map_append]
        congr 2
        congr 1
        · refine List.map_congr_left fun x hx => ?_
          show _ = (kp x, V.ref (if x = p then fd else fs x))
          rw [hif x hx]
        · show _ = [(kp p, V.ref (if p = p then fd else fs p))]
          rw [hip]
      · intro x hx
        rw [take_succ hp0] at hx
        show upd H4 D _ (if x = p then fd else fs x) = _
        by_cases e : x = p
        · rw [e, hip, upd_ne fdD]
          exact hfd
        · have hx' := hmm x hx e
          rw [hif x hx', upd_ne (hfn x hx')]
          exact eX4.ext _ _ (hfs x hx') (fun ps z => by cases z)
      · intro x hx
        rw [take_succ hp0] at hx
        show (if x = p then fd else fs x) ≠ D
        by_cases e : x = p
        · rw [e, hip]; exact fdD
        · rw [hif x (hmm x hx e)]; exact hfn x (hmm x hx e)
    · rintro H2 ⟨eX, fs, hD, hfs, _⟩
      have e : (BK.pairs C.n).take (qs.map V.ref).length = BK.pairs C.n := by
        rw [List.length_map, hql, List.take_length]
      rw [e] at hD hfs
      exact k D H2 (Ex.trans (Ex.same hT sm) eX) ⟨fs, hD, hfs⟩
end
end BW

set_option Elab.async false
set_option linter.all false
set_option maxRecDepth 100000
set_option maxHeartbeats 1000000
/-! the rank table, as puts -/
namespace BW
open PySem PySem.Spec PyProof.Rows L2 SX
theorem put_in {l : List (Nat × Nat)} (g : Nat × Nat → V) {p : Nat × Nat} (h : p ∈ l) (v : V) : putK (l.map fun x => (kp x, g x)) (kp p) v = l.map fun x => (kp x, if x = p then v else g x) := by
  unfold putK
  rw [if_pos (List.any_eq_true.mpr ⟨(kp p, g p), List.mem_map.mpr ⟨p, h, rfl⟩, by simp⟩), List.map_map]
  refine List.map_congr_left fun x _ => ?_
  show (if kp x = kp p then (kp x, v) else (kp x, g x)) = _
  by_cases e : x = p
  · rw [if_pos (by rw [e]), if_pos e]
  · rw [if_neg (fun z => e (kp_inj z)), if_neg e]
def putAll (d : List (Pk × V)) (l : List (Nat × Nat)) (v : V) : List (Pk × V) := l.foldl (fun d p => putK d (kp p) v) d
theorem putAll_len (v : V) : ∀ (l : List (Nat × Nat)) (d : List (Pk × V)), (putAll d l v).length ≤ d.length + l.length
  | [], _ => Nat.le_refl _
  | p :: l, d => by
    have h1 := putAll_len v l (putK d (kp p) v)
    have h2 := length_putK d (kp p) v
    show (putAll (putK d (kp p) v) l v).length ≤ _
    rw [List.length_cons]
    omega
theorem putAll_snoc (d : List (Pk × V)) (l : List (Nat × Nat)) (p : Nat × Nat) (v : V) : putAll d (l ++ [p]) v = putK (putAll d l v) (kp p) v := by
  unfold putAll
  rw [List.foldl_append]
  rfl
theorem putAll_in {l : List (Nat × Nat)} (v : V) : ∀ (m : List (Nat × Nat)) (g : Nat × Nat → V), (∀ x ∈ m, x ∈ l) → putAll (l.map fun x => (kp x, g x)) m v = l.map fun x => (kp x, if m.contains x = true then v else g x)
  | [], g, _ => by
    refine List.map_congr_left fun x _ => ?_
    rw [if_neg (by simp)]
  | p :: m, g, h => by
    show putAll (putK (l.map fun x => (kp x, g x)) (kp p) v) m v = _
    rw [put_in g (h p List.mem_cons_self) v, putAll_in v m _ fun x hx => h x (List.mem_cons_of_mem _ hx)]
    refine List.map_congr_left fun x _ => ?_
    by_cases e1 : m.contains x = true
    · rw [if_pos e1, if_pos (by rw [List.contains_cons, e1, Bool.or_true])]
    · rw [if_neg e1]
      by_cases e2 : x = p
      · rw [if_pos e2, if_pos (by rw [List.contains_cons, e2]; simp)]
      · rw [if_neg e2, if_neg (fun z => by
          rw [List.contains_cons, Bool.or_eq_true] at z
          rcases z with z | z
          · exact e2 (by simpa using z)
          · exact e1 z)]
theorem putAll_new (v : V) : ∀ (m pre : List (Nat × Nat)), (pre ++ m).Nodup → putAll (pre.map fun x => (kp x, v)) m v = (pre ++ m).map fun x => (kp x, v)
  | [], pre, _ => by rw [List.append_nil]; rfl
  | p :: m, pre, nd => by
    have hp : p ∉ pre := fun h => by
      rw [List.nodup_append] at nd
      exact nd.2.2 p h p List.mem_cons_self rfl
    have hn : valV (pre.map fun x => (kp x, v)) (kp p) = none := by
      rw [valV_pairs (fun _ => v) (fun p => p), Option.map_eq_none_iff, List.find?_eq_none]
      intro x hx e
      rw [decide_eq_true_eq] at e
      exact hp (by rw [← e]; exact hx)
    show putAll (putK (pre.map fun x => (kp x, v)) (kp p) v) m v = _
    rw [putK_new hn]
    have e : (pre.map fun x => (kp x, v)) ++ [(kp p, v)] = (pre ++ [p]).map fun x => (kp x, v) := by rw [List.map_append]; rfl
    rw [e, putAll_new v m (pre ++ [p]) (by rw [List.append_assoc]; exact nd), List.append_assoc]
    rfl
def rv : Option Nat → V
  | none => .non
  | some r => .int (r : Int)
def rankTab (C : BK.Cfg) : Nat → List (Pk × V)
  | 0 => []
  | T + 1 => putAll (rankTab C T) (BK.alive C T) (.int (T : Int))
theorem rankTab_eq {C : BK.Cfg} (nd : (BK.pairs C.n).Nodup) : ∀ T, rankTab C (T + 1) = (BK.pairs C.n).map fun p => (kp p, V.int (BK.lvl C p (T + 1) : Nat))
  | 0 => by
    show putAll (([] : List (Nat × Nat)).map fun x => (kp x, V.int ((0 : Nat) : Int))) (BK.pairs C.n) _ = _
    rw [putAll_new _ _ _ (by simpa using nd)]
    refine List.map_congr_left fun x hx => ?_
    show (kp x, V.int ((0 : Nat) : Int)) = (kp x, V.int ((if (BK.pairs C.n).contains x = true then 0 else 0 : Nat) : Int))
    rw [ite_self]
  | T + 1 => by
    show putAll (rankTab C (T + 1)) (BK.alive C (T + 1)) _ = _
    rw [rankTab_eq nd T, putAll_in _ _ (fun p => V.int (BK.lvl C p (T + 1) : Nat)) fun x hx => BK.alive_sub hx]
    refine List.map_congr_left fun x _ => ?_
    show _ = (kp x, V.int ((if (BK.alive C (T + 1)).contains x = true then T + 1 else BK.lvl C x (T + 1) : Nat) : Int))
    by_cases e : (BK.alive C (T + 1)).contains x = true
    · rw [if_pos e, if_pos e]
    · rw [if_neg e, if_neg e]
theorem rank_lvl {C : BK.Cfg} {T : Nat} (h : BK.alive C (T + 1) = BK.alive C T) {p : Nat × Nat} (hp : p ∈ BK.pairs C.n) : BK.rank C p = if (BK.alive C T).contains p = true then none else some (BK.lvl C p (T + 1)) := by
  by_cases e : (BK.alive C T).contains p = true
  · rw [if_pos e, BK.rank_none]
    have e := List.contains_iff_mem.mp e
    intro t
    by_cases ht : t ≤ T
    · exact BK.alive_le ht e
    · rw [BK.alive_stable h (by omega)]; exact e
  · rw [if_neg e]
    have e : p ∉ BK.alive C T := fun z => e (List.contains_iff_mem.mpr z)
    obtain ⟨r, h1, h2, h3⟩ := BK.drop_at hp e
    rw [BK.rank_some hp, BK.lvl_of h2 h3 (by omega)]
    exact ⟨h2, h3⟩
theorem rankTab_end {C : BK.Cfg} (nd : (BK.pairs C.n).Nodup) {T : Nat} (h : BK.alive C (T + 1) = BK.alive C T) : putAll (rankTab C (T + 1)) (BK.alive C T) .non = (BK.pairs C.n).map fun p => (kp p, rv (BK.rank C p)) := by
  rw [rankTab_eq nd T, putAll_in _ _ (fun p => V.int (BK.lvl C p (T + 1) : Nat)) fun x hx => BK.alive_sub hx]
  refine List.map_congr_left fun x hx => ?_
  rw [rank_lvl h hx]
  by_cases e : (BK.alive C T).contains x = true
  · rw [if_pos e, if_pos e]; rfl
  · rw [if_neg e, if_neg e]; rfl
theorem tab_get {l : List (Nat × Nat)} (nd : l.Nodup) (g : Nat × Nat → V) {p : Nat × Nat} (h : p ∈ l) : valV (l.map fun x => (kp x, g x)) (kp p) = some (g p) := by
  rw [valV_pairs g (fun p => p), find_nodup (fun p => p) (by simpa using nd) h]
  rfl
theorem found_len {C : BK.Cfg} (ok : C.Ok) {p : Nat × Nat} {h : List Nat} (hn : (p, h) ∈ C.nodes) : (BK.found C p h).length ≤ 10 := by
  have h1 := BK.nodup_len (BK.found_nodup ok hn) (m := BK.pairs C.n) fun x hx => by
    obtain ⟨y, hy, e⟩ := List.mem_map.mp hx
    rw [← e]
    exact (BK.found_sound ok hn hy).2.1
  rw [List.length_map] at h1
  exact Nat.le_trans h1 (pairs_len ok.n2 ok.n5)
theorem alive_len {C : BK.Cfg} (h2 : 2 ≤ C.n) (h5 : C.n ≤ 5) : ∀ t, (BK.alive C t).length ≤ 10
  | 0 => pairs_len h2 h5
  | t + 1 => Nat.le_trans (BK.alive_len_le C t) (alive_len h2 h5 t)
theorem alive_nodup {C : BK.Cfg} (h2 : 2 ≤ C.n) (h5 : C.n ≤ 5) (t : Nat) : (BK.alive C t).Nodup := by
  rw [BK.alive_filter]
  exact (pairs_nodup h2 h5).filter _
theorem rankTab_len {C : BK.Cfg} (h2 : 2 ≤ C.n) (h5 : C.n ≤ 5) : ∀ T, (rankTab C T).length ≤ 10 * T
  | 0 => Nat.le_refl _
  | T + 1 => by
    have h := putAll_len (.int (T : Int)) (BK.alive C T) (rankTab C T)
    have := rankTab_len h2 h5 T
    have := alive_len h2 h5 T
    show (putAll _ _ _).length ≤ _
    omega
theorem tup_pair {H : Hp} {b : Addr} {p : Nat × Nat} (h : H b = some (.tup ((kp p).map kV))) : PairAt H b p := h
theorem pairs_keys {H : Hp} (g : Nat × Nat → V) : ∀ {l : List (Nat × Nat)} {bs : List Addr}, IsKeys H (l.map fun p => (kp p, g p)) bs → PairsAt H bs l
  | [], bs, h => by
    cases h
    exact PairsAt.nil
  | p :: l, bs, h => by
    cases h with
    | cons h1 h2 =>
      obtain ⟨a1, a2⟩ := pairs_keys g h2
      refine ⟨by rw [List.length_cons, List.length_cons, a1], fun i q hq => ?_⟩
      cases i with
      | zero => cases hq; exact ⟨_, rfl, h1⟩
      | succ i => exact a2 i q hq
end BW

set_option Elab.async false
set_option linter.all false
set_option maxRecDepth 100000
set_option maxHeartbeats 1000000
/-! levels_of -/
namespace BW
open PySem PySem.Spec PyProof.Rows L2 SX
open LamX (Tabs ExtN CodeO)
def exSt : Stmt → Expr
  | .Return (some e) _ => e
  | .Assign _ e _ => e
  | .Expr e _ => e
  | _ => .Constant .none 0 ⟨0, 0, 0, 0⟩
def arg0 : Expr → Expr
  | .Call _ (a :: _) _ _ => a
  | e => e
def lcSc : Expr → Scope
  | .ListComp _ _ s _ => s
  | .DictComp _ _ _ s _ => s
  | _ => defScope (top 33)
def lcIf : Expr → Expr
  | .ListComp _ [⟨_, _, [c], _⟩] _ _ => c
  | e => e
def loopBody : Stmt → List Stmt
  | .While _ b _ _ => b
  | .For _ _ b _ _ => b
  | _ => []
def nthS (l : List Stmt) (i : Nat) : Stmt := l.getD i (.Pass ⟨0, 0, 0, 0⟩)
section
variable {P : Program} {w : World} {K : PySem.W.Frag} {mg : PySem.Str → Option Value} {base : Heap}
abbrev NLV : List PySem.Str := ["web", "found", "last", "alive", "node", "after"]
theorem sc_levels_of : FnScope NLV ["web"] (defScope (top 37)) := ⟨rfl, rfl, rfl, by decide +kernel, rfl, by decide +kernel, by decide +kernel⟩
def scLV : Scope := { kind := ScopeKind.function, names := [(".0", NameKind.local), ("node", NameKind.local), ("any", NameKind.globalImplicit), ("alive", NameKind.cell), ("web", NameKind.cell)], isGenerator := false, isCoroutine := false }
theorem atI_end {xs : List V} {n : Nat} {v : V} (hl : xs.length = n + 1) (h : xs[n]? = some v) : atI xs (-1) = some v := by
  have e : ixN xs.length (-1) = some n := by
    unfold ixN
    rw [hl, if_neg (by decide), if_pos (by omega)]
    congr 1
    omega
  unfold atI
  rw [e]
  exact h
theorem none_same {H H' : Hp} {a : Addr} (s : Same H H') (n : H' a = none) : H a = none := by
  cases e : H a with
  | none => rfl
  | some o => rw [s _ _ e] at n; cases n
theorem lock_same {H H' : Hp} {a : Addr} {u : HO} {od : Obj} (h : H a = some u) (s : Same (upd H a (.frz od u)) H') : Same H (upd H' a u) := fun b o e => by
  by_cases z : b = a
  · rw [z, upd_same, ← h, ← z]; exact e
  · rw [upd_ne z]
    exact s b o (by rw [upd_ne z]; exact e)
theorem lock_ext {H H' : Hp} {a : Addr} {u : HO} {od : Obj} (h : H a = some u) (s : ExtN (upd H a (.frz od u)) H') : ExtN H (upd H' a u) := fun b o e n => by
  by_cases z : b = a
  · rw [z, upd_same, ← h, ← z]; exact e
  · rw [upd_ne z]
    exact s b o (by rw [upd_ne z]; exact e) n
theorem pair_lock {H : Hp} {a q : Addr} {u : HO} {od : Obj} {p : Nat × Nat} (h : H a = some u) (n : ∀ xs, u ≠ .tup xs) (x : PairAt H q p) : PairAt (upd H a (.frz od u)) q p := x.write h n
theorem mem_tab (l : List (Nat × Nat)) (v : V) (q : Nat × Nat) : (valV (l.map fun x => (kp x, v)) (kp q)).isSome = l.contains q := by
  rw [valV_pairs (fun _ => v) (fun p => p), Option.isSome_map, find_some (fun p => p)]
  rw [Bool.eq_iff_iff, List.any_eq_true, List.contains_iff_mem]
  constructor
  · rintro ⟨x, hx, e⟩; rw [← of_decide_eq_true e]; exact hx
  · intro h; exact ⟨q, h, by simp⟩
/-- the levels, one list each -/
def LevL (H : Hp) (l : Addr) (as : List Addr) (C : BK.Cfg) (n : Nat) : Prop := H l = some (.lst (as.map V.ref)) ∧ as.length = n ∧ l ∉ as ∧ ∀ (i : Nat) (a : Addr), as[i]? = some a → PairsL H a (BK.alive C i)
def sp_levels_of : Sp := fun vs H Q _ => ∃ (wa : Addr) (C : BK.Cfg), vs = [.ref wa] ∧ Web H wa C ∧ C.Ok ∧ ∀ T l as H', Same H H' → LevL H' l as C (T + 1) → BK.alive C (T + 1) = BK.alive C T → T ≤ 12 → Q (.ref l) H'
theorem ok_levels_of (T : Tx K mg) : Cal CX0 P w K mg base 1 "levels_of" sp_levels_of := by
  refine cal_of0 T.F_levels_of T.g_levels_of (fun _ _ _ _ _ _ us hl => match us, hl with | [_], _ => rfl) sc_levels_of (fun vs H Q E h => ?_) (fun cdv A outer s H vs Q E hr h => ?_)
  · obtain ⟨wa, C, rfl, _⟩ := h
    rfl
  · obtain ⟨wa, C, rfl, hw, ok, k⟩ := h
    have h2 := ok.n2
    have h5 := ok.n5
    have hu := hr.units
    have hu1 : (A.deeper (envOfC "levels_of" (defScope (top 37)) s.heap.objs.size (He.ga K "levels_of") cdv)).units + 1 < cLine := by omega
    refine ⟨_, pss_cons (ps_set (i := 1) sc_levels_of.nd rfl (Or.inl rfl) (pe_lst (pa_cons (pe_callTy (call_list_dT rfl) (by rfl) T.n_list (by decide +kernel) (pa_cons (pv 0) pa_nil)) pa_nil)))
      (pss_cons (ps_set (i := 2) sc_levels_of.nd rfl (Or.inl rfl) (pe_un un_neg pe_int))
      (pss_cons (ps_while PassesOwn.never (pt_cmpR op_ne (pv 2) (pe_callB call_len (by rfl) T.n_len boot_len (pa_cons (pe_ix ix_list (pv 1) (pe_un un_neg pe_int) (fun _ _ => rfl)) pa_nil)) (nomark _))
        (pss_cons (ps_set (i := 2) sc_levels_of.nd rfl (Or.inl rfl) (pe_callB call_len (by rfl) T.n_len boot_len (pa_cons (pe_ix ix_list (pv 1) (pe_un un_neg pe_int) (fun _ _ => rfl)) pa_nil)))
        (pss_cons (ps_set (i := 3) sc_levels_of.nd rfl (Or.inr rfl) (pe_dcP (own := [("node", 4)]) (g := gName 4) hu (by rfl) sc_levels_of.nd (pi_list (pe_ix ix_list (pv 1) (pe_un un_neg pe_int) (fun _ _ => rfl))) (blkOk_by (N := NLV) (sc := defScope (top 37)) (by decide +kernel)) (fun _ _ _ _ _ => pg_name (i := 4) sc_levels_of.nd rfl (Or.inl rfl))
          (fun _ _ _ _ _ => pv 4) (fun _ _ _ _ _ => pe_bl)))
        (pss_one (ps_expr (pe_bm PySem.F.plainAttrs_list PySem.F.slot_list_append PySem.F.type_list_append mt_append (pv 1) (pa_cons
          (pe_lock (pe_lc (own := [("node", 4)]) (g := gName 4) (by rfl) sc_levels_of.nd (pi_keys (pv 0)) (blkOk_by (N := NLV) (sc := defScope (top 37)) (by decide +kernel)) (fun _ _ _ _ _ => pg_name (i := 4) sc_levels_of.nd rfl (Or.inl rfl))
            (fun _ _ _ _ _ => pts_one (pt_val (pe_callB (id := "any") (r := rAny K) (cr_any rfl) (by rfl) T.n_any (by decide +kernel) (pa_cons
              (pe_lock (pe_lc (own := [("after", 5)]) (g := gName 5) (by rfl) sc_levels_of.nd (pi_keys (pe_dget hu1 (pv 0) (pv 4) (fun _ _ => rfl))) (blkOk_by (N := NLV) (sc := scLV) (by decide +kernel)) (fun _ _ _ _ _ => pg_name (i := 5) sc_levels_of.nd rfl (Or.inl rfl))
                (fun _ _ _ _ _ => pts_nil) (fun _ _ _ _ _ => pe_cmp (pc_din hu1 (pv 5) (pv 3))))) pa_nil))))
            (fun _ _ _ _ _ => pv 4))) pa_nil)))))))
      (pss_one (ps_ret (pe_slice sl_list (pv 1) po_none (po_some (pe_un un_neg pe_int))))))), ?_⟩
    obtain ⟨fs, hwd, hfs⟩ := id hw
    have hkl : ((BK.pairs C.n).map fun p => (kp p, V.ref (fs p))).length = (BK.pairs C.n).length := List.length_map _
    refine ⟨_, rfl, wa, _, rfl, .inl hwd, fun a0 bs na hbs => ?_⟩
    have sm1 : Same H (upd H a0 (.lst (bs.map V.ref))) := same_new na
    have hP0 : PairsL (upd H a0 (.lst (bs.map V.ref))) a0 (BK.alive C 0) := ⟨bs, upd_same, (pairs_keys _ hbs).ext (ext_same sm1)⟩
    refine ⟨by show 1 ≤ sizeLine; decide, fun fa nfa => ?_⟩
    have nfa0 : H fa = none := none_same sm1 nfa
    have f0 : fa ≠ a0 := fun z => by rw [z, upd_same] at nfa; cases nfa
    have sm2 : Same (upd H a0 (.lst (bs.map V.ref))) (upd (upd H a0 (.lst (bs.map V.ref))) fa (.lst [.ref a0])) := same_new nfa
    refine ⟨1, rfl, ?_⟩
    refine ⟨fun m σ H' => ∃ t as x3 x4 x5, m = 20 - t ∧ t ≤ 11 ∧ (t = 0 ∨ (BK.alive C (t - 1)).length + t ≤ 11) ∧ σ = [some (.ref wa), some (.ref fa), some (.int (if t = 0 then -1 else ((BK.alive C (t - 1)).length : Int))), x3, x4, x5] ∧ Same H H' ∧ LevL H' fa as C (t + 1), ⟨20, 0, [a0], none, none, none, rfl, by omega, .inl rfl, rfl, same_trans sm1 sm2, upd_same, rfl, by simpa using f0, ?_⟩, ?_⟩
    · intro i a hi
      cases i with
      | zero => cases hi; exact hP0.ext (ext_same sm2)
      | succ i => simp at hi
    · rintro m σ H1 ⟨t, as, x3, x4, x5, rfl, ht, hml, rfl, sm, hL⟩
      obtain ⟨hfa, hal, hnf, hlev⟩ := id hL
      obtain ⟨at', hat⟩ : ∃ a, as[t]? = some a := ⟨as[t]'(by omega), List.getElem?_eq_getElem (by omega)⟩
      have hend : atI (as.map V.ref) (-1) = some (V.ref at') := atI_end (by rw [List.length_map]; exact hal) (by rw [List.getElem?_map, hat]; rfl)
      obtain ⟨qs, hqs, hqa⟩ := hlev t at' hat
      have hql := hqa.1
      have hle := alive_len h2 h5 t
      refine ⟨_, rfl, _, rfl, 1, rfl, fa, _, _, _, rfl, rfl, SqL.of hfa, hend, _, _, rfl, .inl ⟨_, SqL.of hqs, rfl⟩, rfl, _, rfl, ?_⟩
      rw [List.length_map, hql]
      by_cases hc : (if t = 0 then -1 else ((BK.alive C (t - 1)).length : Int)) = ((BK.alive C t).length : Int)
      · refine iteF' (by rw [hc]; simp) ?_
        have t0 : t ≠ 0 := fun z => by rw [if_pos z] at hc; omega
        rw [if_neg t0] at hc
        obtain ⟨T', rfl⟩ : ∃ T', t = T' + 1 := ⟨t - 1, by omega⟩
        have hst : BK.alive C (T' + 1) = BK.alive C T' := BK.alive_len_eq (by simp at hc; omega)
        refine ⟨_, rfl, 1, rfl, _, rfl, fa, _, rfl, SqL.of hfa, fun l nl => ?_⟩
        refine k T' l (as.take (T' + 1)) _ (same_trans sm (same_new nl)) ⟨?_, ?_, ?_, ?_⟩ hst (by omega)
        · rw [upd_same]
          unfold cutV
          rw [List.length_map, hal]
          show some (HO.lst (((as.map V.ref).drop 0).take (HT.sIx (T' + 1 + 1) (T' + 1 + 1) (some (-1)) - 0))) = _
          have e : HT.sIx (T' + 1 + 1) (T' + 1 + 1) (some (-1)) = T' + 1 := by
            show (if (-1 : Int) < 0 then ((-1 : Int) + ((T' + 1 + 1 : Nat) : Int)).toNat else min (-1 : Int).toNat (T' + 1 + 1)) = T' + 1
            rw [if_pos (by decide)]
            omega
          rw [e, List.drop_zero, Nat.sub_zero, List.map_take]
        · rw [List.length_take]; omega
        · intro hm
          have hm := List.mem_of_mem_take hm
          obtain ⟨j, hj⟩ := List.mem_iff_getElem?.mp hm
          obtain ⟨qs', h1, _⟩ := hlev j l hj
          rw [nl] at h1
          cases h1
        · intro i a hi
          rw [List.getElem?_take] at hi
          split at hi
          · exact (hlev i a hi).ext (ext_same (same_new nl))
          · cases hi
      · refine iteT' (by simpa using hc) ⟨fun σ' H' => ∃ as x3 x4 x5, t + 1 ≤ 11 ∧ (BK.alive C t).length + (t + 1) ≤ 11 ∧ σ' = [some (.ref wa), some (.ref fa), some (.int ((BK.alive C t).length : Int)), x3, x4, x5] ∧ Same H H' ∧ LevL H' fa as C (t + 1 + 1), fun σ' H' ⟨as, x3, x4, x5, g1, g2, g3, g4, g5⟩ => ⟨20 - (t + 1), by omega, t + 1, as, x3, x4, x5, rfl, g1, .inr g2, by rw [if_neg (by omega)]; exact g3, g4, g5⟩, ?_⟩
        have hlt : (BK.alive C t).length + t ≤ 10 := by
          rcases hml with z | z
          · subst z; omega
          · by_cases t0 : t = 0
            · subst t0; omega
            · rw [if_neg t0] at hc
              obtain ⟨T', rfl⟩ : ∃ T', t = T' + 1 := ⟨t - 1, by omega⟩
              have h3 := BK.alive_len_le C T'
              simp at hc z
              omega
        have ht11 : t + 1 ≤ 11 := by omega
        refine ⟨_, rfl, 1, rfl, fa, _, _, _, rfl, rfl, SqL.of hfa, hend, _, _, rfl, .inl ⟨_, SqL.of hqs, rfl⟩, ?_⟩
        rw [List.length_map, hql]
        refine ⟨_, rfl, 1, rfl, fa, _, _, _, rfl, rfl, SqL.of hfa, hend, at', rfl, ⟨_, SqL.of hqs⟩, fun da nda => ?_⟩
        refine it_gen (n := (qs.map V.ref).length) (walk_list (xs := qs.map V.ref)) (fun i H' => Same H1 H' ∧ H' da = some (.dT (((BK.alive C t).take i).map fun p => (kp p, V.bl true)))) ⟨same_new nda, by rw [upd_same]; rfl⟩ (fun i H' _ q => SqL.of (q.1 _ _ hqs)) ?_ ?_
        · rintro i v H2 H3 hi ⟨sm2, hD⟩ ⟨rfl, hv⟩
          have hi : i < (BK.alive C t).length := by rw [List.length_map] at hi; omega
          rw [List.getElem?_map] at hv
          have hp0 : (BK.alive C t)[i]? = some (BK.alive C t)[i] := List.getElem?_eq_getElem hi
          generalize (BK.alive C t)[i] = p at hp0
          obtain ⟨q, hq, hqp⟩ := hqa.2 i p hp0
          rw [hq] at hv
          obtain rfl := Option.some.inj hv
          have hqp2 := hqp.same (ext_same sm2)
          have hlen : (((BK.alive C t).take i).map fun p => (kp p, V.bl true)).length ≤ 10 := by
            rw [List.length_map]
            exact Nat.le_trans (List.length_take_le' _ _) hle
          have hvn : valV (((BK.alive C t).take i).map fun p => (kp p, V.bl true)) (kp p) = none := by
            rw [valV_pairs (fun _ => V.bl true) (fun p => p), Option.map_eq_none_iff, List.find?_eq_none]
            intro x hx e
            rw [decide_eq_true_eq] at e
            have e : x = p := e
            subst e
            obtain ⟨j, hj⟩ := List.mem_iff_getElem?.mp hx
            rw [List.getElem?_take] at hj
            split at hj
            · rename_i hji
              exact nodup_lt (alive_nodup h2 h5 t) hji hj hp0
            · cases hj
          refine ⟨rfl, _, rfl, q, _, p, rfl, hD, hqp2, by rw [sizeLine_eq]; omega, ?_⟩
          rw [putK_new hvn]
          refine ⟨fun b o e => ?_, ?_⟩
          · rw [upd_ne (ne_of_none e nda)]
            exact sm2 b o e
          · rw [upd_same, take_succ hp0, List.map_append]
            rfl
        · rintro H2 ⟨sm2, hD⟩
          rw [List.length_map, hql, List.take_length] at hD
          have hwd2 := sm2 _ _ (sm _ _ hwd)
          have hfa2 := sm2 _ _ hfa
          refine ⟨_, rfl, .inl ⟨rfl, _, SqL.of hfa2⟩, ?_⟩
          refine ⟨wa, _, hwd2, trivial, fun od => ?_⟩
          refine ⟨_, rfl, wa, od, rfl, .inr ⟨_, upd_same, fun L nL => ?_⟩⟩
          have nL2 : H2 L = none := by
            have : L ≠ wa := fun z => by rw [z, upd_same] at nL; cases nL
            rw [upd_ne this] at nL; exact nL
          refine it_gen (n := (BK.pairs C.n).length) (hkl ▸ walk_keysT) (fun i H' => Same (upd H2 wa (.frz od (.dT ((BK.pairs C.n).map fun p => (kp p, V.ref (fs p)))))) H' ∧ ∃ ls : List Addr, H' L = some (.lst (ls.map V.ref)) ∧ PairsAt H' ls (((BK.pairs C.n).take i).filter fun p => (BK.edges C p).any fun q => (BK.alive C t).contains q)) ⟨same_new nL, [], by rw [upd_same]; rfl, by simpa using PairsAt.nil⟩ (fun i H' _ q => q.1 _ _ upd_same) ?_ ?_
          · rintro i v H3 H4 hi ⟨sm3, ls, hLs, hPs⟩ ⟨rfl, kk, vv, q, hkv, rfl, hqt⟩
            have hp0 : (BK.pairs C.n)[i]? = some (BK.pairs C.n)[i] := List.getElem?_eq_getElem hi
            generalize (BK.pairs C.n)[i] = p at hp0
            rw [List.getElem?_map, hp0] at hkv
            obtain ⟨rfl, rfl⟩ := Prod.mk.inj (Option.some.inj hkv).symm
            have hpm : p ∈ BK.pairs C.n := List.mem_of_getElem? hp0
            have hqp : PairAt H4 q p := hqt
            have hwz : H4 wa = some (.frz od (.dT ((BK.pairs C.n).map fun p => (kp p, V.ref (fs p))))) := sm3 _ _ upd_same
            have hf2 : H2 (fs p) = some (.dT (FD (BK.found C p []))) := sm2 _ _ (sm _ _ (hfs p hpm))
            have nfw : fs p ≠ wa := fun z => by
              have h1 := hf2
              rw [z, hwd2] at h1
              have h2 := HO.dT.inj (Option.some.inj h1)
              have h3 : ((BK.pairs C.n).map fun p => (kp p, V.ref (fs p))) ≠ [] := fun z => by
                have z := List.map_eq_nil_iff.mp z
                rw [z] at hpm
                cases hpm
              unfold FD at h2
              cases hx : BK.pairs C.n with
              | nil => rw [hx] at hpm; cases hpm
              | cons x l =>
                rw [hx] at h2
                cases hy : BK.found C p [] with
                | nil => rw [hy] at h2; cases h2
                | cons y m =>
                  rw [hy, List.map_cons, List.map_cons] at h2
                  have h4 := congrArg Prod.snd (List.cons.inj h2).1
                  cases h4
            have hf4 : H4 (fs p) = some (.dT (FD (BK.found C p []))) := sm3 _ _ (by rw [upd_ne nfw]; exact hf2)
            have hda2 : H4 da = some (.dT ((BK.alive C t).map fun p => (kp p, V.bl true))) := by
              have nda2 : da ≠ wa := fun z => by
                have := sm _ _ hwd
                rw [← z, nda] at this
                cases this
              exact sm3 _ _ (by rw [upd_ne nda2]; exact hD)
            have ndf : da ≠ fs p := fun z => by
              have := sm _ _ (hfs p hpm)
              rw [← z, nda] at this
              cases this
            refine ⟨rfl, ?_⟩
            refine ⟨fs p, _, hf4, trivial, fun od2 => ?_⟩
            refine ⟨_, rfl, _, rfl, wa, _, rfl, .inr ⟨_, kp p, q, .inr ⟨od, by rw [upd_ne (Ne.symm nfw)]; exact hwz⟩, rfl, pair_lock hf4 (fun xs z => by cases z) hqp, (tab_get (pairs_nodup h2 h5) (fun p => V.ref (fs p)) hpm).symm⟩, fs p, od2, rfl, .inr ⟨_, upd_same, fun L2 nL2' => ?_⟩⟩
            have hfl := found_len ok (BK.mem_nodes.mpr ⟨hpm, BK.nil_hear C⟩)
            have hfl2 : (FD (BK.found C p [])).length = (BK.found C p []).length := List.length_map _
            have nL2 : L2 ≠ fs p := fun z => by rw [z, upd_same] at nL2'; cases nL2'
            have nL24 : H4 L2 = none := by rw [upd_ne nL2] at nL2'; exact nL2'
            refine it_gen (n := (BK.found C p []).length) (hfl2 ▸ walk_keysT) (fun j H' => Same (upd H4 (fs p) (.frz od2 (.dT (FD (BK.found C p []))))) H' ∧ H' L2 = some (.lst (((BK.found C p []).take j).map fun x => V.bl ((BK.alive C t).contains x.1)))) ⟨same_new nL2', by rw [upd_same]; rfl⟩ (fun i H' _ q => q.1 _ _ upd_same) ?_ ?_
            · rintro j v H5 H6 hj ⟨sm5, hL5⟩ ⟨rfl, kk, vv, q2, hkv2, rfl, hq2⟩
              have hx0 : (BK.found C p [])[j]? = some (BK.found C p [])[j] := List.getElem?_eq_getElem hj
              generalize (BK.found C p [])[j] = x at hx0
              unfold FD at hkv2
              rw [List.getElem?_map, hx0] at hkv2
              obtain ⟨rfl, rfl⟩ := Prod.mk.inj (Option.some.inj hkv2).symm
              have hda6 : H6 da = some (.dT ((BK.alive C t).map fun p => (kp p, V.bl true))) := sm5 _ _ (by rw [upd_ne ndf]; exact hda2)
              refine ⟨rfl, tYes_in ?_⟩
              refine ⟨_, rfl, _, rfl, da, _, rfl, DGet.t (k := kp x.1) hda6 hq2, _, hL5, ?_, fun b o e => ?_, ?_⟩
              · rw [List.length_map, List.length_take, sizeLine_eq]
                omega
              · rw [upd_ne (ne_of_none e nL2')]
                exact sm5 b o e
              · rw [upd_same, take_succ hx0, List.map_append, mem_tab]
                rfl
            · rintro H5 ⟨sm5, hL5⟩
              rw [List.take_length] at hL5
              refine ⟨sm5 _ _ upd_same, ?_⟩
              have sm6 := lock_same hf4 sm5
              have hL6 : upd H5 (fs p) (.dT (FD (BK.found C p []))) L2 = some (.lst ((BK.found C p []).map fun x => V.bl ((BK.alive C t).contains x.1))) := by rw [upd_ne nL2]; exact hL5
              generalize upd H5 (fs p) (.dT (FD (BK.found C p []))) = H6 at sm6 hL6
              refine ⟨L2, (BK.found C p []).map fun x => (BK.alive C t).contains x.1, rfl, SqL.of (by rw [hL6, List.map_map]; rfl), ?_⟩
              refine ⟨_, rfl, ?_⟩
              have eb : (((BK.found C p []).map fun x => (BK.alive C t).contains x.1).any id) = (BK.edges C p).any fun q => (BK.alive C t).contains q := by
                unfold BK.edges
                rw [List.any_map, List.any_map]
                rfl
              rw [eb]
              have hqp6 := hqp.same (ext_same sm6)
              cases hb : (BK.edges C p).any fun q => (BK.alive C t).contains q with
              | false =>
                refine iteF' rfl ⟨same_trans sm3 sm6, ls, sm6 _ _ hLs, ?_⟩
                rw [take_succ hp0, List.filter_append, List.filter_cons, if_neg (by rw [hb]; decide), List.filter_nil, List.append_nil]
                exact hPs.ext (ext_same sm6)
              | true =>
                have hll : ls.length ≤ 10 := by
                  rw [hPs.1]
                  refine Nat.le_trans (List.length_filter_le _ _) ?_
                  exact Nat.le_trans (List.length_take_le' _ _) (pairs_len h2 h5)
                refine iteT' rfl ⟨_, rfl, _, sm6 _ _ hLs, by rw [List.length_map, sizeLine_eq]; omega, fun b o e => ?_, ls ++ [q], ?_, ?_⟩
                · rw [upd_ne (ne_of_none e nL)]
                  exact sm6 _ _ (sm3 b o e)
                · rw [upd_same, List.map_append]
                  rfl
                · rw [take_succ hp0, List.filter_append, List.filter_cons, if_pos hb, List.filter_nil]
                  exact ((hPs.ext (ext_same sm6)).snoc hqp6).write (sm6 _ _ hLs) (fun xs z => by cases z)
          · rintro H3 ⟨sm3, ls, hLs, hPs⟩
            refine ⟨sm3 _ _ upd_same, ?_⟩
            rw [List.take_length] at hPs
            have hPs : PairsAt H3 ls (BK.alive C (t + 1)) := hPs
            have nLw : L ≠ wa := fun z => by rw [z, upd_same] at nL; cases nL
            have sm6 := lock_same hwd2 sm3
            have hPs6 : PairsAt (upd H3 wa (.dT ((BK.pairs C.n).map fun p => (kp p, V.ref (fs p))))) ls (BK.alive C (t + 1)) := hPs.write (sm3 _ _ upd_same) (fun xs z => by cases z)
            have hL6 : upd H3 wa (.dT ((BK.pairs C.n).map fun p => (kp p, V.ref (fs p)))) L = some (.lst (ls.map V.ref)) := by rw [upd_ne nLw]; exact hLs
            generalize upd H3 wa (.dT ((BK.pairs C.n).map fun p => (kp p, V.ref (fs p)))) = H6 at sm6 hPs6 hL6
            have hfa6 := sm6 _ _ hfa2
            have nLf : L ≠ fa := fun z => by rw [← z, nL2] at hfa2; cases hfa2
            refine ⟨fa, _, _, rfl, rfl, hfa6, by rw [List.length_map, hal, sizeLine_eq]; omega, as ++ [L], _, _, _, ht11, by omega, rfl, fun b o e => ?_, ?_, ?_, ?_, fun i a hi => ?_⟩
            · rw [upd_ne (ne_of_none e nfa0)]
              exact sm6 _ _ (sm2 _ _ (sm _ _ e))
            · rw [upd_same, List.map_append]
              rfl
            · rw [List.length_append, hal]; rfl
            · intro hm
              rcases List.mem_append.mp hm with h | h
              · exact hnf h
              · exact nLf (List.mem_singleton.mp h).symm
            · have wr : ∀ {b : Addr} {l : List (Nat × Nat)}, b ≠ fa → PairsL H6 b l → PairsL (upd H6 fa (.lst (as.map V.ref ++ [V.ref L]))) b l := fun {b l} nb ⟨qs, h1, h2⟩ => ⟨qs, by rw [upd_ne nb]; exact h1, h2.write hfa6 (fun xs z => by cases z)⟩
              by_cases hil : i < as.length
              · rw [List.getElem?_append_left hil] at hi
                exact wr (fun z => hnf (z ▸ List.mem_of_getElem? hi)) (((hlev i a hi).ext (ext_same sm2)).ext (ext_same sm6))
              · rw [List.getElem?_append_right (by omega)] at hi
                have hi0 : i - as.length = 0 := by
                  have := (List.getElem?_eq_some_iff.mp hi).1
                  simp at this
                  omega
                rw [hi0] at hi
                cases hi
                have : i = t + 1 := by omega
                subst this
                exact wr nLf ⟨ls, hL6, hPs6⟩
end
end BW

set_option Elab.async false
set_option linter.all false
set_option maxRecDepth 100000
set_option maxHeartbeats 1000000
/-! ranks_of -/
namespace BW
open PySem PySem.Spec PyProof.Rows L2 SX
open LamX (Tabs ExtN CodeO)
section
variable {P : Program} {w : World} {K : PySem.W.Frag} {mg : PySem.Str → Option Value} {base : Heap}
abbrev NRK : List PySem.Str := ["web", "levels", "found", "number", "alive", "node"]
theorem sc_ranks_of : FnScope NRK ["web"] (defScope (top 38)) := ⟨rfl, rfl, rfl, by decide +kernel, rfl, by decide +kernel, by decide +kernel⟩
/-- the rank of each pair -/
def RankD (H : Hp) (a : Addr) (C : BK.Cfg) : Prop := H a = some (.dT ((BK.pairs C.n).map fun p => (kp p, rv (BK.rank C p))))
def sp_ranks_of : Sp := fun vs H Q _ => ∃ (wa : Addr) (C : BK.Cfg), vs = [.ref wa] ∧ Web H wa C ∧ C.Ok ∧ ∀ a H', Same H H' → RankD H' a C → Q (.ref a) H'
theorem ok_ranks_of (T : Tx K mg) : Cal CX0 P w K mg base 2 "ranks_of" sp_ranks_of := by
  refine cal_of0 T.F_ranks_of T.g_ranks_of (fun _ _ _ _ _ _ us hl => match us, hl with | [_], _ => rfl) sc_ranks_of (fun vs H Q E h => ?_) (fun cdv A outer s H vs Q E hr h => ?_)
  · obtain ⟨wa, C, rfl, _⟩ := h
    rfl
  · obtain ⟨wa, C, rfl, hw, ok, k⟩ := h
    have h2 := ok.n2
    have h5 := ok.n5
    have hu := hr.units
    have hu1 : (A.deeper (envOfC "ranks_of" (defScope (top 38)) s.heap.objs.size (He.ga K "ranks_of") cdv)).units + 1 < cLine := by omega
    refine ⟨_, pss_cons (ps_set (i := 1) sc_ranks_of.nd rfl (Or.inl rfl) (pe_c (ok_levels_of T) hr (by rfl) (pa_cons (pv 0) pa_nil)))
      (pss_cons (ps_set (i := 2) sc_ranks_of.nd rfl (Or.inl rfl) pe_dnewT)
      (pss_cons (ps_for PassesOwn.never rfl (pi_enum (by rfl) T.n_enumerate (pa_cons (pv 1) pa_nil)) (pg_tup rfl (pgs_cons (pg_name (i := 3) sc_ranks_of.nd rfl (Or.inl rfl)) (pgs_cons (pg_name (i := 4) sc_ranks_of.nd rfl (Or.inl rfl)) pgs_nil)))
        (pss_one (ps_for PassesOwn.never rfl (pi_list (pv 4)) (pg_name (i := 5) sc_ranks_of.nd rfl (Or.inl rfl)) (pss_one (ps_dput hu1 (pv 2) (pv 5) (pv 3) (by rfl))))))
      (pss_cons (ps_for PassesOwn.never rfl (pi_list (pe_ix ix_list (pv 1) (pe_un un_neg pe_int) (fun _ _ => rfl))) (pg_name (i := 5) sc_ranks_of.nd rfl (Or.inl rfl)) (pss_one (ps_dput hu1 (pv 2) (pv 5) pe_non (by rfl))))
      (pss_one (ps_ret (pv 2)))))), ?_⟩
    refine ⟨_, rfl, wa, C, rfl, hw, ok, fun N l as H1 sm1 hL hst hN => ?_⟩
    obtain ⟨hla, hal, hnl, hlev⟩ := hL
    intro fd nfd
    have nfd0 := none_same sm1 nfd
    have keepL : ∀ {b : Addr} {o : HO}, H1 b = some o → b ≠ fd := fun e => ne_of_none e nfd
    -- what stands at any time
    have hT0 := rankTab_len h2 h5
    refine ⟨_, rfl, l, _, rfl, SqL.of (by rw [upd_ne (keepL hla)]; exact hla), ?_⟩
    refine for_it (n := (as.map V.ref).length) walk_enum (fun i σ H' => ∃ x3 x4 x5 : Option V, σ = [some (.ref wa), some (.ref l), some (.ref fd), x3, x4, x5] ∧ Same H1 H' ∧ H' fd = some (.dT (rankTab C i))) ⟨none, none, none, rfl, same_new nfd, upd_same⟩ (fun i σ H' _ ⟨_, _, _, _, sm, _⟩ => SqL.of (sm _ _ hla)) ?_ ?_
    · rintro i v σ H2 H3 hi ⟨x3, x4, x5, rfl, sm2, hD⟩ ⟨TT, x, y, rfl, nTT, rfl, hx, hy⟩
      obtain rfl := Option.some.inj hx
      rw [List.length_map] at hi
      obtain ⟨a, ha⟩ : ∃ a, as[i]? = some a := ⟨as[i], List.getElem?_eq_getElem hi⟩
      have hy : (as.map V.ref)[i]? = some y := hy
      rw [List.getElem?_map, ha] at hy
      obtain rfl := Option.some.inj hy
      obtain ⟨qs, hqs, hqa⟩ := hlev i a ha
      have sm3 := same_trans sm2 (same_new (o := .tup [V.int (i : Nat), V.ref a]) nTT)
      have hD3 : upd H2 TT (.tup [V.int (i : Nat), V.ref a]) fd = some (.dT (rankTab C i)) := same_new nTT _ _ hD
      refine ⟨TT, _, rfl, SqT.of upd_same, rfl, _, _, rfl, _, _, rfl, rfl, ?_⟩
      generalize upd H2 TT (.tup [V.int (i : Nat), V.ref a]) = H3 at sm3 hD3
      refine ⟨_, rfl, a, rfl, ⟨_, SqL.of (sm3 _ _ hqs)⟩, ?_⟩
      refine for_it (n := (qs.map V.ref).length) (walk_list (xs := qs.map V.ref)) (fun j σ H' => ∃ x5 : Option V, σ = [some (.ref wa), some (.ref l), some (.ref fd), some (.int (i : Nat)), some (.ref a), x5] ∧ Same H1 H' ∧ H' fd = some (.dT (putAll (rankTab C i) ((BK.alive C i).take j) (.int (i : Int))))) ⟨x5, rfl, sm3, hD3⟩ (fun j σ H' _ ⟨_, _, sm, _⟩ => SqL.of (sm _ _ hqs)) ?_ ?_
      · rintro j v σ H4 H5 hj ⟨x5, rfl, sm4, hD4⟩ ⟨rfl, hv⟩
        rw [List.length_map, hqa.1] at hj
        have hp0 : (BK.alive C i)[j]? = some (BK.alive C i)[j] := List.getElem?_eq_getElem hj
        generalize (BK.alive C i)[j] = p at hp0
        obtain ⟨q, hq, hqp⟩ := hqa.2 j p hp0
        rw [List.getElem?_map, hq] at hv
        obtain rfl := Option.some.inj hv
        have hlen : (putAll (rankTab C i) ((BK.alive C i).take j) (.int (i : Int))).length < sizeLine := by
          have h3 := putAll_len (.int (i : Int)) ((BK.alive C i).take j) (rankTab C i)
          have h4 := hT0 i
          have h6 := alive_len h2 h5 i
          have h7 : ((BK.alive C i).take j).length ≤ (BK.alive C i).length := List.length_take_le' _ _
          rw [sizeLine_eq]
          omega
        refine ⟨_, rfl, _, rfl, _, rfl, fd, _, rfl, DPut.t (k := kp p) hD4 (pair_tup (hqp.same (ext_same sm4))) hlen, _, rfl, fun b o e => ?_, ?_⟩
        · rw [upd_ne (keepL e)]
          exact sm4 b o e
        · rw [upd_same, take_succ hp0, putAll_snoc]
      · rintro σ H4 ⟨x5, rfl, sm4, hD4⟩
        rw [List.length_map, hqa.1, List.take_length] at hD4
        exact ⟨_, _, _, rfl, sm4, hD4⟩
    · rintro σ H2 ⟨x3, x4, x5, rfl, sm2, hD⟩
      rw [List.length_map, hal] at hD
      obtain ⟨a, ha⟩ : ∃ a, as[N]? = some a := ⟨as[N]'(by omega), List.getElem?_eq_getElem (by omega)⟩
      obtain ⟨qs, hqs, hqa⟩ := hlev N a ha
      have hend : atI (as.map V.ref) (-1) = some (V.ref a) := atI_end (by rw [List.length_map]; exact hal) (by rw [List.getElem?_map, ha]; rfl)
      refine ⟨_, rfl, 1, rfl, l, _, _, _, rfl, rfl, SqL.of (sm2 _ _ hla), hend, a, rfl, ⟨_, SqL.of (sm2 _ _ hqs)⟩, ?_⟩
      refine for_it (n := (qs.map V.ref).length) (walk_list (xs := qs.map V.ref)) (fun j σ H' => ∃ x5 : Option V, σ = [some (.ref wa), some (.ref l), some (.ref fd), x3, x4, x5] ∧ Same H1 H' ∧ H' fd = some (.dT (putAll (rankTab C (N + 1)) ((BK.alive C N).take j) .non))) ⟨x5, rfl, sm2, hD⟩ (fun j σ H' _ ⟨_, _, sm, _⟩ => SqL.of (sm _ _ hqs)) ?_ ?_
      · rintro j v σ H4 H5 hj ⟨x5, rfl, sm4, hD4⟩ ⟨rfl, hv⟩
        rw [List.length_map, hqa.1] at hj
        have hp0 : (BK.alive C N)[j]? = some (BK.alive C N)[j] := List.getElem?_eq_getElem hj
        generalize (BK.alive C N)[j] = p at hp0
        obtain ⟨q, hq, hqp⟩ := hqa.2 j p hp0
        rw [List.getElem?_map, hq] at hv
        obtain rfl := Option.some.inj hv
        have hlen : (putAll (rankTab C (N + 1)) ((BK.alive C N).take j) .non).length < sizeLine := by
          have h3 := putAll_len .non ((BK.alive C N).take j) (rankTab C (N + 1))
          have h4 := hT0 (N + 1)
          have h6 := alive_len h2 h5 N
          have h7 : ((BK.alive C N).take j).length ≤ (BK.alive C N).length := List.length_take_le' _ _
          rw [sizeLine_eq]
          omega
        refine ⟨_, rfl, _, rfl, fd, _, rfl, DPut.t (k := kp p) hD4 (pair_tup (hqp.same (ext_same sm4))) hlen, _, rfl, fun b o e => ?_, ?_⟩
        · rw [upd_ne (keepL e)]
          exact sm4 b o e
        · rw [upd_same, take_succ hp0, putAll_snoc]
      · rintro σ H4 ⟨x5, rfl, sm4, hD4⟩
        rw [List.length_map, hqa.1, List.take_length, rankTab_end (pairs_nodup h2 h5) hst] at hD4
        refine ⟨_, rfl, k fd H4 (same_trans sm1 sm4) hD4⟩
end
end BW

set_option Elab.async false
set_option linter.all false
set_option maxRecDepth 100000
set_option maxHeartbeats 1000000
/-! first_of -/
namespace BW
open PySem PySem.Spec PyProof.Rows L2 SX
open LamX (Tabs ExtN CodeO)
open NdefX (NScope NF ncx envF startF slotAt nscope_by)
section
variable {P : Program} {w : World} {K : PySem.W.Frag} {mg : PySem.Str → Option Value} {base : Heap}
def lamKw : Expr → Arguments × Expr × Scope
  | .Call _ _ [⟨_, .Lambda params body scope _, _⟩] _ => (params, body, scope)
  | _ => (⟨[], [], none, [], [], none, []⟩, .Constant .none 0 ⟨0, 0, 0, 0⟩, (defScope (top 33)))
def ifThen : Expr → Expr
  | .IfExp _ a _ _ => a
  | e => e
def lamFO : Arguments × Expr × Scope := lamKw (ifThen (retOf (defBody (top 40))))
theorem sc_lamFO : NScope ["row"] ["row"] [] lamFO.2.2 := nscope_by (by decide +kernel)
def toldV : Option (List Nat) → V
  | none => .non
  | some r => .str (S r)
def TxtsL (H : Hp) (a : Addr) (rows : List (List Nat)) : Prop := H a = some (.lst (rows.map fun r => V.str (S r)))
def sp_first_of (K : PySem.W.Frag) : Sp := fun vs H Q _ => ∃ (a : Addr) (rows : List (List Nat)), vs = [.ref a] ∧ TxtsL H a rows ∧ (∀ r ∈ rows, r.length ≤ 1000) ∧ Tabs (T3 K) H ∧ ∀ H', Ex (T3 K) H H' → Q (toldV (BK.firstOf rows)) H'
theorem sc_first_of : FnScope ["rows"] ["rows"] (defScope (top 40)) := ⟨rfl, rfl, rfl, by decide +kernel, rfl, by decide +kernel, by decide +kernel⟩
theorem ok_first_of (T : Tx K mg) (B : Tb K mg base) : Cal CX0 P w K mg base 3 "first_of" (sp_first_of K) := by
  refine cal_ofL T.F_first_of T.g_first_of (fun _ _ _ _ _ _ us hl => match us, hl with | [_], _ => rfl) sc_first_of (fun vs H Q E h => ?_) (fun A outer s H vs Q E hr h => ?_)
  · obtain ⟨a, rows, rfl, _⟩ := h
    rfl
  · obtain ⟨a, rows, rfl, ha, hrl, hT, k⟩ := h
    refine ⟨_, pss_one (ps_ret (pe_ifExp (pt_cmpR op_gt (pe_callB call_len (by rfl) T.n_len boot_len (pa_cons (pv 0) pa_nil)) pe_int (nomark _))
      (pe_callBK (ck_minkey rfl hr) (by rfl) T.n_min (by decide +kernel) (pa_cons (pv 0) pa_nil) (pk_cons (pe_lambda (T := T3 K) (tb_2 B) rfl t3_m2 (t3_u2 B) rfl rfl) pk_nil)) pe_non)), ?_⟩
    refine ⟨_, rfl, _, _, rfl, .inl ⟨_, SqL.of ha, rfl⟩, _, _, rfl, rfl, _, rfl, ?_⟩
    cases hb : BK.firstOf rows with
    | none =>
      have e := BK.firstOf_none.mp hb
      subst e
      refine iteF' rfl ?_
      have := k H (Ex.refl hT)
      rw [hb] at this
      exact this
    | some b =>
      have hne : rows ≠ [] := fun e => by
        rw [BK.firstOf_none.mpr e] at hb
        cases hb
      have hlp : 0 < rows.length := List.length_pos_iff.mpr hne
      refine iteT' (by rw [List.length_map, decide_eq_true_eq]; omega) ?_
      refine ⟨_, rfl, hT, fun f F H1 e1 t1 nf hf hco hq hs hcl => ?_⟩
      have hcl := hcl (by rfl)
      obtain ⟨nm, ql, pr, bd, sc, cl, c⟩ := F
      have hs : sc = lamFO.2.2 := hs
      have hq : ql = lamQ "first_of" := hq
      subst hs hq
      refine ⟨a, f, _, _, _, rows, b, rfl, rfl, e1 _ _ ha (fun ps z => by cases z), ⟨hf, hco, hcl, ["row"], "row", _, sc_lamFO, fun q cl pm cv ctv us hl => match us, hl with | [_], _ => rfl, fun A outer s H hr => pe_tup (pa_cons (pe_callB (r := rLen K) call_len (by rfl) T.n_len boot_len (pa_cons (pv 0) pa_nil)) (pa_cons (pv 0) pa_nil)), fun r H Q hr h => ?_⟩, hrl, hb, fun H' sm => ?_⟩
      · exact ⟨_, rfl, _, _, rfl, ⟨by show r.length ≤ sizeLine; rw [sizeLine_eq]; omega, rfl⟩, _, rfl, by show 2 ≤ sizeLine; decide, h⟩
      · have := k H' ((Ex.mk e1 t1).trans (Ex.same t1 sm))
        rw [hb] at this
        exact this
end
end BW

set_option Elab.async false
set_option linter.all false
set_option maxRecDepth 100000
set_option maxHeartbeats 1000000
/-! the three own exceptions -/
namespace BW
open PySem PySem.Spec PyProof.Rows L2
structure Xs (P : Program) (K : PySem.W.Frag) (mg : PySem.Str → Option Value) : Prop where
  row : ∃ fI cc cda, XCls K (He.ga K "BadRow") fI "ValueError.__new__" "ValueError" "ValueError.__init__" "at" ∧ XFn P K (inClass (top 4) 0) (He.ga K "BadRow") fI cc cda "__init__" "BadRow.__init__"
  fam : ∃ fI cc cda, XCls K (He.ga K "BadFamily") fI "ValueError.__new__" "ValueError" "ValueError.__init__" "at" ∧ XFn P K (inClass (top 5) 0) (He.ga K "BadFamily") fI cc cda "__init__" "BadFamily.__init__"
  pair : ∃ fI cc cda, XCls K (He.ga K "NoPair") fI "LookupError.__new__" "KeyError" "KeyError.__init__" "pair" ∧ XFn P K (inClass (top 7) 0) (He.ga K "NoPair") fI cc cda "__init__" "NoPair.__init__"
def supOf (st : Stmt) : Expr := match defBody st with
  | .Expr (.Call (.Attribute o _ _) _ _ _) _ :: _ => o
  | _ => .Constant .none 0 ⟨0, 0, 0, 0⟩
def plOf (st : Stmt) : Env → Sem Bool := fun env => do return (← importBound (supOf st) env).getD true
theorem st_row : XSt (inClass (top 4) 0) "at" "at" "no such row" where
  body := ⟨_, _, _, _, _, _, _, _, _, _, _, plOf (inClass (top 4) 0), rfl, fun _ _ _ _ _ => rfl, fun _ _ _ _ _ => ⟨rfl, rfl, rfl⟩⟩
  ar := rfl
  k := rfl
  co := rfl
  gen := rfl
  cells := by decide +kernel
  sup := rfl
  kls := rfl
  slf := rfl
  prm := rfl
  nd := by decide
  ne := by decide
  sz := by show _ ≤ sizeLine; rw [sizeLine_eq]; decide
theorem st_fam : XSt (inClass (top 5) 0) "at" "at" "no such family" where
  body := ⟨_, _, _, _, _, _, _, _, _, _, _, plOf (inClass (top 5) 0), rfl, fun _ _ _ _ _ => rfl, fun _ _ _ _ _ => ⟨rfl, rfl, rfl⟩⟩
  ar := rfl
  k := rfl
  co := rfl
  gen := rfl
  cells := by decide +kernel
  sup := rfl
  kls := rfl
  slf := rfl
  prm := rfl
  nd := by decide
  ne := by decide
  sz := by show _ ≤ sizeLine; rw [sizeLine_eq]; decide
theorem st_pair : XSt (inClass (top 7) 0) "pair" "pair" "no such pair" where
  body := ⟨_, _, _, _, _, _, _, _, _, _, _, plOf (inClass (top 7) 0), rfl, fun _ _ _ _ _ => rfl, fun _ _ _ _ _ => ⟨rfl, rfl, rfl⟩⟩
  ar := rfl
  k := rfl
  co := rfl
  gen := rfl
  cells := by decide +kernel
  sup := rfl
  kls := rfl
  slf := rfl
  prm := rfl
  nd := by decide
  ne := by decide
  sz := by show _ ≤ sizeLine; rw [sizeLine_eq]; decide
section
variable {X : Cx} {W : WX} {e : Expr} {te : TE} {p pos pos' : Pos} {k : Nat}
theorem ps_row (Xx : Xs X.prog X.K X.mg) (hm : X.mg "BadRow" = some (.ref (He.ga X.K "BadRow"))) (hs : X.mg "super" = none) (hc : X.calm = true) (tk : Takes X W) (hr : Room (k + 1) X.A) (hg : Gl X "BadRow") (ha : PE X e te) (he : starEach [e] X.env = (false, eval e X.env) :: starEach [] X.env := by rfl) :
    PS X (.Raise (some (.Call (.Name "BadRow" p) [e] [] pos)) none pos') (fun _ σ H => te σ H fun y H1 => ∀ d, H1 d = none → W (.ref (He.ga X.K "BadRow")) (some d) σ (upd H1 d (.xd [("at", y)]))) := by
  obtain ⟨fI, cc, cda, T, XF⟩ := Xx.row
  have q := ps_raise (pos := pos') hc tk (pmk_x (p := p) (pos := pos) T st_row XF (fun _ _ _ _ _ _ _ => rfl) hr hg hm hs ha (by decide) he)
  exact q
theorem ps_fam (Xx : Xs X.prog X.K X.mg) (hm : X.mg "BadFamily" = some (.ref (He.ga X.K "BadFamily"))) (hs : X.mg "super" = none) (hc : X.calm = true) (tk : Takes X W) (hr : Room (k + 1) X.A) (hg : Gl X "BadFamily") (ha : PE X e te) (he : starEach [e] X.env = (false, eval e X.env) :: starEach [] X.env := by rfl) :
    PS X (.Raise (some (.Call (.Name "BadFamily" p) [e] [] pos)) none pos') (fun _ σ H => te σ H fun y H1 => ∀ d, H1 d = none → W (.ref (He.ga X.K "BadFamily")) (some d) σ (upd H1 d (.xd [("at", y)]))) := by
  obtain ⟨fI, cc, cda, T, XF⟩ := Xx.fam
  have q := ps_raise (pos := pos') hc tk (pmk_x (p := p) (pos := pos) T st_fam XF (fun _ _ _ _ _ _ _ => rfl) hr hg hm hs ha (by decide) he)
  exact q
theorem ps_pair (Xx : Xs X.prog X.K X.mg) (hm : X.mg "NoPair" = some (.ref (He.ga X.K "NoPair"))) (hs : X.mg "super" = none) (hc : X.calm = true) (tk : Takes X W) (hr : Room (k + 1) X.A) (hg : Gl X "NoPair") (ha : PE X e te) (he : starEach [e] X.env = (false, eval e X.env) :: starEach [] X.env := by rfl) :
    PS X (.Raise (some (.Call (.Name "NoPair" p) [e] [] pos)) none pos') (fun _ σ H => te σ H fun y H1 => ∀ d, H1 d = none → W (.ref (He.ga X.K "NoPair")) (some d) σ (upd H1 d (.xd [("pair", y)]))) := by
  obtain ⟨fI, cc, cda, T, XF⟩ := Xx.pair
  have q := ps_raise (pos := pos') hc tk (pmk_x (p := p) (pos := pos) T st_pair XF (fun _ _ _ _ _ _ _ => rfl) hr hg hm hs ha (by decide) he)
  exact q
end
section
variable {X : Cx} {k j : Nat} {x : Str} {sp : Sp} {p pos : Pos} {e : Expr} {es : List Expr} {t : TA} {W : WX}
/-- all that is known where an exception comes in -/
theorem Takes.len (tk : Takes X W) : Takes X (fun c d σ H => σ.length = X.N.length → W c d σ H) := fun u s' ⟨a, B, sI, pins, σ, H, cls, d, e, I, nb, up, sky, na, os, ag, w⟩ =>
  tk u s' ⟨a, B, sI, pins, σ, H, cls, d, e, I, nb, up, sky, na, os, ag, w I.len⟩
def EW (W : WX) (n : Nat) : XK := fun cls d H => ∀ σ : L2.St, σ.length = n → W cls d σ H
theorem passesW (tk : Takes X W) : Passes (CX X.prog X.w) X (EW W X.N.length) := passes_call (Takes.len tk) fun cls d σ H h hl => h σ hl
theorem pe_cx (c : Cal (CX X.prog X.w) X.prog X.w X.K X.mg X.base k x sp) (tk : Takes X W) (hr : Room j X.A) (hg : Gl X x) (ha : PA X (e :: es) t) (hk : k ≤ j := by decide)
    (hdb : (x == ("__debug__" : Str)) = false := by decide) (he : starEach (e :: es) X.env = (false, eval e X.env) :: starEach es X.env := by rfl) (hpl : (backTo pos (starEach es X.env)).any (·.1) = false := by rfl) :
    PE X (.Call (.Name x p) (e :: es) [] pos) (tCall sp [] (EW W X.N.length) t) := by
  obtain ⟨f, fd, ps, F, hm, kp, b⟩ := c.ex
  exact pe_call F (hr.mono hk) hg hm kp b .nil (passesW tk) ha hdb he hpl
end
end BW

set_option Elab.async false
set_option linter.all false
set_option maxRecDepth 100000
set_option maxHeartbeats 1000000
/-! check_row, check_family, need_pair -/
namespace BW
open PySem PySem.Spec PyProof.Rows L2 SX
open LamX (Tabs ExtN CodeO)
section
variable {P : Program} {w : World} {K : PySem.W.Frag} {mg : PySem.Str → Option Value} {base : Heap}
/-- a row is refused, and where -/
def BadAt (H : Hp) (C : BK.Cfg) (v : V) (i : Int) : Prop :=
  (∃ (r t : List Nat) (z : Nat), v = .str (S (r ++ z :: t)) ∧ (∀ x ∈ r, x ∈ C.sig) ∧ z ∉ C.sig ∧ (r ++ z :: t).length ≤ 1000 ∧ i = (r.length : Int)) ∨ ((v = .non ∨ ∃ a xs, v = .ref a ∧ H a = some (.lst xs)) ∧ i = -1)
/-- what is let out -/
def Out (H : Hp) (C : Addr) (fld : PySem.Str) (y : V) (E : XK) : Prop := ∀ d H1, Same H H1 → H1 d = none → E (.ref C) (some d) (upd H1 d (.xd [(fld, y)]))
theorem Out.same {H H' : Hp} {C : Addr} {fld : PySem.Str} {y : V} {E : XK} (o : Out H C fld y E) (s : Same H H') : Out H' C fld y E := fun d H1 s1 n => o d H1 (same_trans s s1) n
def sp_check_row (K : PySem.W.Frag) : Sp := fun vs H Q E => ∃ (d : Addr) (v : V) (C : BK.Cfg), vs = [.ref d, v] ∧ Dev K H d C ∧ ((∃ r : List Nat, v = .str (S r) ∧ (∀ x ∈ r, x ∈ C.sig) ∧ r.length ≤ 1000 ∧ ∀ H', Same H H' → Q (.str (S r)) H') ∨
  ∃ i, BadAt H C v i ∧ Out H (He.ga K "BadRow") "at" (.int i) E)
abbrev NCR : List PySem.Str := ["device", "row", "at", "signal"]
theorem sc_check_row : FnScope NCR ["device", "row"] (defScope (top 23)) := ⟨rfl, rfl, rfl, by decide +kernel, rfl, by decide +kernel, by decide +kernel⟩
theorem mem_S (c : Nat) (l : List Nat) : (decide (c ∈ (S l).cps.toList)) = decide (c ∈ l) := rfl
theorem ok_check_row (T : Tx K mg) (Xx : Xs P K mg) : Cal (CX P w) P w K mg base 2 "check_row" (sp_check_row K) := by
  refine cal_of T.F_check_row T.g_check_row (fun _ _ _ _ _ _ us hl => match us, hl with | [_, _], _ => rfl) sc_check_row (fun vs H Q E h => ?_) (fun cdv A outer s H vs Q E hr h => ?_)
  · obtain ⟨d, v, C, rfl, _⟩ := h
    rfl
  · obtain ⟨d, v, C, rfl, hd, k⟩ := h
    obtain ⟨tM, gM⟩ := T.g_MOST_SIGNS
    have tk : Takes (cxOf (CX P w) P w K mg base NCR "check_row" (defScope (top 23)) (He.ga K "check_row") cdv A outer s H E) (fun cls d _ H => E cls d H) := takes_of rfl rfl rfl rfl
    refine ⟨_, pss_cons (ps_if (pt_not (pt_val (pe_c (ok_is_text T) hr (by rfl) (pa_cons (pv 1) pa_nil)))) (pss_one (ps_row Xx T.g_BadRow T.n_super rfl tk hr (by rfl) (pe_un un_neg pe_int))) pss_nil)
      (pss_cons (ps_for (passes_of rfl) rfl (pi_enumS (by rfl) T.n_enumerate (pa_cons (pv 1) pa_nil)) (pg_tup rfl (pgs_cons (pg_name (i := 2) sc_check_row.nd rfl (Or.inl rfl)) (pgs_cons (pg_name (i := 3) sc_check_row.nd rfl (Or.inl rfl)) pgs_nil)))
        (pss_one (ps_if (pt_cmpR op_notIn_sign (pv 3) (pe_fld (pv 0) (by rfl)) rfl) (pss_one (ps_row Xx T.g_BadRow T.n_super rfl tk hr (by rfl) (pv 2))) pss_nil)))
      (pss_cons (ps_if (pt_cmpR op_gt (pe_callB call_len (by rfl) T.n_len boot_len (pa_cons (pv 1) pa_nil)) (pe_glob (v := .int 10000) (by rfl) gM ⟨_, rfl⟩) (nomark _)) (pss_one (ps_row Xx T.g_BadRow T.n_super rfl tk hr (by rfl) (pe_glob (v := .int 10000) (by rfl) gM ⟨_, rfl⟩))) pss_nil)
      (pss_one (ps_ret (pv 1))))), ?_⟩
    obtain ⟨dx, fs, tt, e1, e2, e3, e4, e5⟩ := hd
    have kk : (∃ (l : List Nat) (n : Nat), v = .str (S l) ∧ l.length ≤ 1000 ∧ (∀ j c, l[j]? = some c → j < n → c ∈ C.sig) ∧ ((n = l.length ∧ ∀ H', Same H H' → Q (.str (S l)) H') ∨ ((∃ z, l[n]? = some z ∧ z ∉ C.sig) ∧ Out H (He.ga K "BadRow") "at" (.int (n : Int)) E))) ∨
        ((v = .non ∨ ∃ a xs, v = .ref a ∧ H a = some (.lst xs)) ∧ Out H (He.ga K "BadRow") "at" (.int (-1)) E) := by
      rcases k with ⟨r, rfl, hr1, hr2, hk⟩ | ⟨i, hb, ho⟩
      · exact .inl ⟨r, r.length, rfl, hr2, fun j c hj _ => hr1 c (List.mem_of_getElem? hj), .inl ⟨rfl, hk⟩⟩
      · rcases hb with ⟨r, t, z, rfl, hr1, hz, hl, rfl⟩ | ⟨hv, rfl⟩
        · refine .inl ⟨r ++ z :: t, r.length, rfl, hl, fun j c hj hlt => ?_, .inr ⟨⟨z, by simp, hz⟩, ho⟩⟩
          rw [List.getElem?_append_left hlt] at hj
          exact hr1 c (List.mem_of_getElem? hj)
        · exact .inr ⟨hv, ho⟩
    rcases kk with ⟨l, n, rfl, hl, hpre, hk⟩ | ⟨hv, ho⟩
    · skip
      refine ⟨_, rfl, _, rfl, .inl ⟨_, rfl, true, rfl, iteF' rfl ?_⟩⟩
      refine ⟨_, rfl, l, rfl, ?_⟩
      refine for_it (walk_enumS (z := l)) (fun i σ H' => i ≤ n ∧ ∃ x2 x3 : Option V, σ = [some (.ref d), some (.str (S l)), x2, x3] ∧ Same H H') ⟨Nat.zero_le _, none, none, rfl, same_refl H⟩ (fun _ _ _ _ _ => trivial) ?_ ?_
      · rintro i v σ H1 H2 hi ⟨hin, x2, x3, rfl, sm⟩ ⟨TT, x, rfl, nTT, rfl, hx⟩
        have hx : (l[i]?).map (fun c => V.str (S [c])) = some x := hx
        cases z : l[i]? with
        | none => rw [z] at hx; cases hx
        | some c =>
          rw [z] at hx
          obtain rfl := Option.some.inj hx
          have sm2 := same_trans sm (same_new (o := .tup [.int (i : Nat), .str (S [c])]) nTT)
          refine ⟨TT, _, rfl, SqT.of upd_same, rfl, _, _, rfl, _, _, rfl, rfl, ?_⟩
          generalize upd H1 TT (.tup [.int (i : Nat), .str (S [c])]) = H3 at sm2
          refine ⟨_, rfl, _, rfl, d, _, dx, fs, _, rfl, sm2 _ _ e1, T.cl_Device, T.at_Device_signals, e3, c, _, rfl, rfl, _, rfl, ?_⟩
          by_cases hn : i < n
          · refine iteF' ?_ ⟨hn, _, _, rfl, sm2⟩
            have : c ∈ C.sig := hpre i c z hn
            rw [mem_S]
            simpa using this
          · have : i = n := by omega
            subst this
            rcases hk with ⟨hh, _⟩ | ⟨⟨z', hz, hzs⟩, ho⟩
            · omega
            · rw [z] at hz
              cases hz
              refine iteT' (by rw [mem_S]; simpa using hzs) ?_
              exact ⟨_, rfl, fun dd nd => ho dd _ sm2 nd⟩
      · rintro σ H1 ⟨hin, x2, x3, rfl, sm⟩
        rcases hk with ⟨hh, hk⟩ | ⟨⟨z', hz, hzs⟩, ho⟩
        · refine ⟨_, rfl, _, l.length, rfl, ⟨by show l.length ≤ sizeLine; rw [sizeLine_eq]; omega, rfl⟩, _, _, rfl, rfl, _, rfl, iteF' (by simp; omega) ⟨_, rfl, hk H1 sm⟩⟩
        · have := (List.getElem?_eq_some_iff.mp hz).1
          omega
    · rcases hv with rfl | ⟨a, xs, rfl, ha⟩
      · exact ⟨_, rfl, _, rfl, .inr (.inl ⟨rfl, false, rfl, iteT' rfl ⟨1, rfl, fun dd nd => ho dd _ (same_refl H) nd⟩⟩)⟩
      · exact ⟨_, rfl, _, rfl, .inr (.inr ⟨a, xs, rfl, ha, false, rfl, iteT' rfl ⟨1, rfl, fun dd nd => ho dd _ (same_refl H) nd⟩⟩)⟩
end
end BW

set_option Elab.async false
set_option linter.all false
set_option maxRecDepth 100000
set_option maxHeartbeats 1000000
/-! need_pair -/
namespace BW
open PySem PySem.Spec PyProof.Rows L2 SX
open LamX (Tabs ExtN CodeO)
section
variable {P : Program} {w : World} {K : PySem.W.Frag} {mg : PySem.Str → Option Value} {base : Heap}
def sp_need_pair (K : PySem.W.Frag) : Sp := fun vs H Q E => ∃ (d q : Addr) (p : Nat × Nat) (C : BK.Cfg), vs = [.ref d, .ref q] ∧ Dev K H d C ∧ PairAt H q p ∧
  ((p.1 < p.2 ∧ p.2 < C.n ∧ ∀ H', Same H H' → Q (.ref q) H') ∨ (¬ (p.1 < p.2 ∧ p.2 < C.n) ∧ Out H (He.ga K "NoPair") "pair" (.ref q) E))
theorem sc_need_pair : FnScope ["device", "pair"] ["device", "pair"] (defScope (top 22)) := ⟨rfl, rfl, rfl, by decide +kernel, rfl, by decide +kernel, by decide +kernel⟩
theorem ok_need_pair (T : Tx K mg) (Xx : Xs P K mg) : Cal (CX P w) P w K mg base 3 "need_pair" (sp_need_pair K) := by
  refine cal_of T.F_need_pair T.g_need_pair (fun _ _ _ _ _ _ us hl => match us, hl with | [_, _], _ => rfl) sc_need_pair (fun vs H Q E h => ?_) (fun cdv A outer s H vs Q E hr h => ?_)
  · obtain ⟨d, q, p, C, rfl, _⟩ := h
    rfl
  · obtain ⟨d, q, p, C, rfl, hd, hq, k⟩ := h
    have tk : Takes (cxOf (CX P w) P w K mg base ["device", "pair"] "need_pair" (defScope (top 22)) (He.ga K "need_pair") cdv A outer s H E) (fun cls d _ H => E cls d H) := takes_of rfl rfl rfl rfl
    refine ⟨_, pss_cons (ps_if (PW.pt (pw_or (pt_not (pt_val (pe_callB call_isi (by rfl) T.n_isinstance (by decide +kernel) (pa_cons (pv 1) (pa_cons (pe_bltn (v := .ty "tuple") (by rfl) T.n_tuple (by decide +kernel) rfl) pa_nil)))))
        (pw_or (pt_cmpR op_ne (pe_callB call_len (by rfl) T.n_len boot_len (pa_cons (pv 1) pa_nil)) pe_int (nomark _))
        (pw_or (pt_not (pt_val (pe_c (ok_is_number T) hr (by rfl) (pa_cons (pe_ix ix_tup (pv 1) pe_int (fun _ _ => rfl)) pa_nil))))
        (pw_or1 (pt_not (pt_val (pe_c (ok_is_number T) hr (by rfl) (pa_cons (pe_ix ix_tup (pv 1) pe_int (fun _ _ => rfl)) pa_nil)))))))))
      (pss_one (ps_pair Xx T.g_NoPair T.n_super rfl tk hr (by rfl) (pv 1))) pss_nil)
      (pss_cons (ps_if (pt_not (pt_chain op_lt op_lt (pe_ix ix_tup (pv 1) pe_int (fun _ _ => rfl)) (pe_ix ix_tup (pv 1) pe_int (fun _ _ => rfl)) (pe_fld (pv 0) (by rfl)))) (pss_one (ps_pair Xx T.g_NoPair T.n_super rfl tk hr (by rfl) (pv 1))) pss_nil)
      (pss_one (ps_ret (pv 1)))), ?_⟩
    obtain ⟨dx, fs, tt, e1, e2, e3, e4, e5⟩ := hd
    refine ⟨_, rfl, _, _, _, _, true, rfl, .ty _, .base (.tup hq), kit_ty (by decide +kernel), true, rfl, iteF' rfl ?_⟩
    refine ⟨_, rfl, _, _, rfl, .inr ⟨_, SqT.of hq, rfl⟩, rfl, _, rfl, iteF' rfl ?_⟩
    refine ⟨_, rfl, q, _, _, _, rfl, rfl, SqT.of hq, atI_nat (j := 0) (v := .int (p.1 : Int)) rfl, _, rfl, _, rfl, iteF' (by simp) ?_⟩
    refine ⟨_, rfl, q, _, _, _, rfl, rfl, SqT.of hq, atI_nat (j := 1) (v := .int (p.2 : Int)) rfl, _, rfl, _, rfl, iteF' (by simp) ?_⟩
    refine ⟨_, rfl, q, _, _, _, rfl, rfl, SqT.of hq, atI_nat (j := 0) (v := .int (p.1 : Int)) rfl, _, rfl, q, _, _, _, rfl, rfl, SqT.of hq, atI_nat (j := 1) (v := .int (p.2 : Int)) rfl, _, _, rfl, rfl, _, rfl, ?_⟩
    by_cases h1 : p.1 < p.2
    · refine iteT' (by simpa using h1) ?_
      refine ⟨_, rfl, d, _, dx, fs, _, rfl, e1, T.cl_Device, T.at_Device_states, e2, _, _, rfl, rfl, _, rfl, ?_⟩
      by_cases h2 : p.2 < C.n
      · refine iteF' (by simpa using h2) ⟨_, rfl, ?_⟩
        rcases k with ⟨_, _, k⟩ | ⟨k, _⟩
        · exact k H (same_refl H)
        · exact absurd ⟨h1, h2⟩ k
      · refine iteT' (by simpa using h2) ⟨_, rfl, fun dd nd => ?_⟩
        rcases k with ⟨_, k, _⟩ | ⟨_, ho⟩
        · exact absurd k h2
        · exact ho dd _ (same_refl H) nd
    · refine iteF' (by simpa using h1) ⟨_, rfl, iteT' rfl ⟨_, rfl, fun dd nd => ?_⟩⟩
      rcases k with ⟨k, _, _⟩ | ⟨_, ho⟩
      · exact absurd k h1
      · exact ho dd _ (same_refl H) nd
end
end BW

set_option Elab.async false
set_option linter.all false
set_option maxRecDepth 100000
set_option maxHeartbeats 1000000
/-! check_family -/
namespace BW
open PySem PySem.Spec PyProof.Rows L2 SX
open LamX (Tabs ExtN CodeO)
section
variable {X : Cx} {tg iter : Expr}
/-- either way -/
def iOr (t1 t2 : TI) : TI := fun σ H R => t1 σ H R ∨ t2 σ H R
theorem pi_or {t1 t2 : TI} (h1 : PI X tg iter t1) (h2 : PI X tg iter t2) : PI X tg iter (iOr t1 t2) := by
  refine ⟨fun pins s σ H R I h => ?_⟩
  rcases h with h | h
  · exact h1.run pins s σ H R I h
  · exact h2.run pins s σ H R I h
end
/-- a list or a tuple of texts -/
def TxtsQ (H : Hp) (a : Addr) (l : List (List Nat)) : Prop := H a = some (.lst (Txts l)) ∨ H a = some (.tup (Txts l))
theorem TxtsQ.same {H H' : Hp} {a : Addr} {l : List (List Nat)} (x : TxtsQ H a l) (s : Same H H') : TxtsQ H' a l := x.elim (fun e => .inl (s _ _ e)) fun e => .inr (s _ _ e)
theorem or_enum {K : PySem.W.Frag} {σ : L2.St} {H : Hp} {i : Nat} {a : Addr} {l : List (List Nat)} {R : It → Hp → Prop} (hσ : σ[i]? = some (some (.ref a))) (hs : TxtsQ H a l)
    (h : ∀ J, Walk J (Txts l).length (fun H' => TxtsQ H' a l ∧ H' a = H a) (YNum fun i => (Txts l)[i]?) → R J H) : iOr (iEnum K (tCons (tVar i) tNil)) (iEnumT K (tCons (tVar i) tNil)) σ H R := by
  rcases hs with hs | hs
  · exact .inl ⟨_, hσ, a, _, rfl, SqL.of hs, h _ ((walk_enum (K := K) (a := a) (xs := Txts l)).mono (fun H' q => SqL.of (by rw [q.2, hs])) fun i H v H' _ _ y => by
      obtain ⟨T, x, y, h1, h2, h3, h4, h5⟩ := y
      cases h4
      exact ⟨T, y, h1, h2, h3, h5⟩)⟩
  · exact .inr ⟨_, hσ, a, _, rfl, SqT.of hs, h _ (walk_enumT.mono (fun H' q => SqT.of (by rw [q.2, hs])) fun i H v H' _ _ y => y)⟩
section
variable {P : Program} {w : World} {K : PySem.W.Frag} {mg : PySem.Str → Option Value} {base : Heap}
def MetD (l : List (List Nat)) : List (Key × V) := l.map fun r => ((Sum.inr (S r) : Key), V.bl true)
theorem met_none {l : List (List Nat)} {r : List Nat} (h : r ∉ l) : valV (MetD l) (.inr (S r)) = none := by
  unfold valV MetD
  rw [Option.map_eq_none_iff, List.find?_eq_none]
  intro x hx e
  obtain ⟨y, hy, rfl⟩ := List.mem_map.mp hx
  rw [decide_eq_true_eq] at e
  have e : (Sum.inr (S y) : Key) = Sum.inr (S r) := e
  injection e with e
  exact h (S_inj e ▸ hy)
theorem nodup_at {l : List (List Nat)} (nd : l.Nodup) {i : Nat} {r : List Nat} (h : l[i]? = some r) : r ∉ l.take i := by
  intro hm
  obtain ⟨j, hj⟩ := List.mem_iff_getElem?.mp hm
  rw [List.getElem?_take] at hj
  split at hj
  · rename_i hji
    obtain ⟨h1, e1⟩ := List.getElem?_eq_some_iff.mp hj
    obtain ⟨h2, e2⟩ := List.getElem?_eq_some_iff.mp h
    exact List.pairwise_iff_getElem.mp nd j i h1 h2 hji (by rw [e1, e2])
  · cases hj
/-- a lot of these signals -/
def LotOk (sig l : List Nat) : Prop := l = sig.filter (fun c => l.contains c) ∧ l ≠ []
def sp_check_family (K : PySem.W.Frag) : Sp := fun vs H Q E => ∃ (d a : Addr) (l : List (List Nat)) (C : BK.Cfg), vs = [.ref d, .ref a] ∧ Dev K H d C ∧ C.sig.length ≤ 5 ∧ TxtsQ H a l ∧ 1 ≤ l.length ∧ l.length ≤ 31 ∧ (∀ r ∈ l, r.length ≤ 1000) ∧
  (((∀ r ∈ l, LotOk C.sig r) ∧ l.Nodup ∧ ∀ t H', Same H H' → Lots H' t l → Q (.ref t) H') ∨ ((∃ r, l[0]? = some r ∧ ¬ r = C.sig.filter (fun c => r.contains c)) ∧ Out H (He.ga K "BadFamily") "at" (.int 0) E))
abbrev NCF : List PySem.Str := ["device", "family", "met", "at", "lot"]
theorem sc_check_family : FnScope NCF ["device", "family"] (defScope (top 26)) := ⟨rfl, rfl, rfl, by decide +kernel, rfl, by decide +kernel, by decide +kernel⟩
theorem ok_check_family (T : Tx K mg) (Xx : Xs P K mg) : Cal (CX P w) P w K mg base 3 "check_family" (sp_check_family K) := by
  refine cal_of T.F_check_family T.g_check_family (fun _ _ _ _ _ _ us hl => match us, hl with | [_, _], _ => rfl) sc_check_family (fun vs H Q E h => ?_) (fun cdv A outer s H vs Q E hr h => ?_)
  · obtain ⟨d, a, l, C, rfl, _⟩ := h
    rfl
  · obtain ⟨d, a, l, C, rfl, hd, hs5, ha, hl1, hl2, hrl, k⟩ := h
    obtain ⟨tM, gM⟩ := T.g_MOST_LOTS
    have hu := hr.units
    have hu1 : (A.deeper (envOfC "check_family" (defScope (top 26)) s.heap.objs.size (He.ga K "check_family") cdv)).units + 1 < cLine := by omega
    have tk : Takes (cxOf (CX P w) P w K mg base NCF "check_family" (defScope (top 26)) (He.ga K "check_family") cdv A outer s H E) (fun cls d _ H => E cls d H) := takes_of rfl rfl rfl rfl
    refine ⟨_, pss_cons (ps_if (PW.pt (pw_or (pt_not (pt_val (pe_c (ok_is_sequence T) hr (by rfl) (pa_cons (pv 1) pa_nil))))
        (pw_or1 (pt_not (pt_chain op_le op_le pe_int (pe_callB call_len (by rfl) T.n_len boot_len (pa_cons (pv 1) pa_nil)) (pe_glob (v := .int 31) (by rfl) gM ⟨_, rfl⟩))))))
        (pss_one (ps_fam Xx T.g_BadFamily T.n_super rfl tk hr (by rfl) (pe_un un_neg pe_int))) pss_nil)
      (pss_cons (ps_set (i := 2) sc_check_family.nd rfl (Or.inl rfl) pe_dnewK)
      (pss_cons (ps_for (passes_of rfl) rfl (pi_or (pi_enum (by rfl) T.n_enumerate (pa_cons (pv 1) pa_nil)) (pi_enumT (by rfl) T.n_enumerate (pa_cons (pv 1) pa_nil))) (pg_tup rfl (pgs_cons (pg_name (i := 3) sc_check_family.nd rfl (Or.inl rfl)) (pgs_cons (pg_name (i := 4) sc_check_family.nd rfl (Or.inl rfl)) pgs_nil)))
        (pss_cons (ps_if (PW.pt (pw_or (pt_not (pt_val (pe_c (ok_is_lot_of T) hr (by rfl) (pa_cons (pv 4) (pa_cons (pe_fld (pv 0) (by rfl)) pa_nil)))))
            (pw_or (pt_cmpR op_eq (pv 4) pe_str (nomark _)) (pw_or1 (pt_cmp (pc_din hu1 (pv 4) (pv 2)))))))
            (pss_one (ps_fam Xx T.g_BadFamily T.n_super rfl tk hr (by rfl) (pv 3))) pss_nil)
        (pss_one (ps_dput hu1 (pv 2) (pv 4) pe_bl (by rfl)))))
      (pss_one (ps_ret (pe_callTy call_tuple_of (by rfl) T.n_tuple (by decide +kernel) (pa_cons (pv 1) pa_nil)))))), ?_⟩
    obtain ⟨dx, fs, tt, e1, e2, e3, e4, e5⟩ := hd
    have hseq : IsSeq H a := ⟨Txts l, ha⟩
    have htl : (Txts l).length = l.length := List.length_map _
    refine ⟨_, rfl, a, rfl, hseq, fun H1 sm1 => ⟨true, rfl, iteF' rfl ?_⟩⟩
    have ha1 := ha.same sm1
    refine ⟨_, rfl, _, l.length, rfl, ha1.elim (fun e => .inl ⟨_, SqL.of e, htl.symm⟩) (fun e => .inr ⟨_, SqT.of e, htl.symm⟩), _, _, rfl, rfl, _, rfl, iteT' (by simp; omega) ⟨_, _, rfl, rfl, _, rfl, iteF' (by simp; omega) ?_⟩⟩
    intro md nmd
    have sm2 := same_trans sm1 (same_new (o := .dK []) nmd)
    have ha2 := ha.same sm2
    have hd2 : upd H1 md (.dK []) md = some (.dK (MetD (l.take 0))) := by rw [upd_same]; rfl
    have nmd0 := none_same sm1 nmd
    generalize upd H1 md (.dK []) = H2 at sm2 ha2 hd2
    refine or_enum rfl ha2 fun J wJ => ?_
    have stay : ∀ {H'}, Same H H' → H' a = H2 a := fun {H'} sm => by
      rcases ha with e | e
      · rw [sm _ _ e, sm2 _ _ e]
      · rw [sm _ _ e, sm2 _ _ e]
    refine for_it wJ (fun i σ H' => ((∃ r, l[0]? = some r ∧ ¬ r = C.sig.filter (fun c => r.contains c)) → i = 0) ∧ ∃ x3 x4 : Option V, σ = [some (.ref d), some (.ref a), some (.ref md), x3, x4] ∧ Same H H' ∧ H' md = some (.dK (MetD (l.take i)))) ⟨fun _ => rfl, none, none, rfl, sm2, hd2⟩ (fun i σ H' _ ⟨_, _, _, _, sm, _⟩ => ⟨ha.same sm, stay sm⟩) ?_ ?_
    · rintro i v σ H3 H4 hi ⟨hbad, x3, x4, rfl, sm3, hD3⟩ ⟨TT, x, rfl, nTT, rfl, hx⟩
      rw [htl] at hi
      have hr0 : l[i]? = some l[i] := List.getElem?_eq_getElem hi
      generalize l[i] = r at hr0
      have hx : (Txts l)[i]? = some x := hx
      unfold Txts at hx
      rw [List.getElem?_map, hr0] at hx
      obtain rfl := Option.some.inj hx
      have hrm : r ∈ l := List.mem_of_getElem? hr0
      have sm4 := same_trans sm3 (same_new (o := .tup [.int (i : Nat), .str (S r)]) nTT)
      have hD4 : upd H3 TT (.tup [.int (i : Nat), .str (S r)]) md = some (.dK (MetD (l.take i))) := same_new nTT _ _ hD3
      refine ⟨TT, _, rfl, SqT.of upd_same, rfl, _, _, rfl, _, _, rfl, rfl, ?_⟩
      generalize upd H3 TT (.tup [.int (i : Nat), .str (S r)]) = H4 at sm4 hD4
      refine ⟨_, rfl, _, rfl, d, _, dx, fs, _, rfl, sm4 _ _ e1, T.cl_Device, T.at_Device_signals, e3, r, C.sig, rfl, hrl r hrm, by omega, fun H5 sm5 => ⟨_, rfl, ?_⟩⟩
      have hD5 := sm5 _ _ hD4
      have sm6 := same_trans sm4 sm5
      rcases k with ⟨hok, hnd, hk⟩ | ⟨⟨z, hz, hzn⟩, ho⟩
      · obtain ⟨h1, h2⟩ := hok r hrm
        refine iteF' (by rw [decide_eq_true h1]; rfl) ?_
        refine ⟨_, rfl, rfl, _, rfl, iteF' (decide_eq_false fun e => h2 (S_inj (V.str.inj e))) ?_⟩
        refine ⟨_, rfl, _, rfl, md, _, rfl, DGet.k (k := .inr (S r)) hD5, _, rfl, ?_⟩
        have hn := met_none (nodup_at hnd hr0)
        rw [hn]
        refine iteF' rfl ?_
        refine ⟨_, rfl, _, rfl, md, _, rfl, DPut.k (k := .inr (S r)) hD5 (by unfold MetD; rw [List.length_map, List.length_take, sizeLine_eq]; omega), fun ⟨z, hz, hzn⟩ => absurd (hok z (List.mem_of_getElem? hz)).1 hzn, _, _, rfl, fun b o e => ?_, ?_⟩
        · rw [upd_ne (ne_of_none e nmd0)]
          exact sm6 b o e
        · rw [upd_same, putK_new hn, take_succ hr0]
          unfold MetD
          rw [List.map_append]
          rfl
      · have i0 := hbad ⟨z, hz, hzn⟩
        subst i0
        rw [hr0] at hz
        cases hz
        exact iteT' (by rw [decide_eq_false hzn]; rfl) ⟨_, rfl, fun dd nd => ho dd _ sm6 nd⟩
    · rintro σ H3 ⟨hbad, x3, x4, rfl, sm3, hD3⟩
      rcases k with ⟨hok, hnd, hk⟩ | ⟨hz, ho⟩
      · refine ⟨_, rfl, a, Txts l, rfl, ?_⟩
        rcases ha.same sm3 with e | e
        · exact .inl ⟨SqL.of e, fun t nt => hk t _ (same_trans sm3 (same_new nt)) upd_same⟩
        · exact .inr ⟨SqT.of e, hk a H3 sm3 e⟩
      · have := hbad hz
        omega
end
end BW

set_option Elab.async false
set_option linter.all false
set_option maxRecDepth 100000
set_option maxHeartbeats 1000000
/-! most_rounds -/
namespace BW
open PySem PySem.Spec PyProof.Rows L2 SX
open LamX (Tabs ExtN CodeO)
/-- a device and a family that the keepers take -/
structure Fam (C : BK.Cfg) : Prop where
  ok : C.Ok
  lots : ∀ r ∈ C.lots, LotOk C.sig r
  nd : C.lots.Nodup
  l1 : 1 ≤ C.lots.length
  l31 : C.lots.length ≤ 31
theorem sig_len (C : BK.Cfg) : C.sig.length ≤ 5 := by
  unfold BK.Cfg.sig
  exact Nat.le_trans (List.length_take_le' _ _) (by decide)
theorem Fam.short {C : BK.Cfg} (f : Fam C) : ∀ r ∈ C.lots, r.length ≤ 1000 := fun r hr => by
  have h := (f.lots r hr).1
  rw [h]
  have h1 := List.length_filter_le (fun c => r.contains c) C.sig
  have h2 := sig_len C
  omega
section
variable {X : Cx} {k j : Nat} {x : Str} {sp : Sp} {p pos : Pos} {e : Expr} {es : List Expr} {t : TA}
theorem pass1 : Passes (CX X.prog X.w) X E0 := fun _ _ _ _ _ _ _ h => by
  obtain ⟨a, B, H', cls, d, _, _, _, _, _, _, _, h⟩ := h
  exact h.elim
/-- .. that lets out nothing here -/
theorem pe_c1 (c : Cal (CX X.prog X.w) X.prog X.w X.K X.mg X.base k x sp) (hr : Room j X.A) (hg : Gl X x) (ha : PA X (e :: es) t) (hk : k ≤ j := by decide)
    (hdb : (x == ("__debug__" : Str)) = false := by decide) (he : starEach (e :: es) X.env = (false, eval e X.env) :: starEach es X.env := by rfl) (hpl : (backTo pos (starEach es X.env)).any (·.1) = false := by rfl) :
    PE X (.Call (.Name x p) (e :: es) [] pos) (tCall sp [] E0 t) := by
  obtain ⟨f, fd, ps, F, hm, kp, b⟩ := c.ex
  exact pe_call F (hr.mono hk) hg hm kp b .nil pass1 ha hdb he hpl
end
section
variable {P : Program} {w : World} {K : PySem.W.Frag} {mg : PySem.Str → Option Value} {base : Heap}
def sp_most_rounds (K : PySem.W.Frag) : Sp := fun vs H Q _ => ∃ (d a q : Addr) (p : Nat × Nat) (C : BK.Cfg), vs = [.ref d, .ref a, .ref q] ∧ Dev K H d C ∧ Fam C ∧ TxtsQ H a C.lots ∧ PairAt H q p ∧ p ∈ BK.pairs C.n ∧ Tabs (T3 K) H ∧ ∀ H', Ex (T3 K) H H' → Q (rv (BK.rank C p)) H'
theorem sc_most_rounds : FnScope ["device", "family", "pair", "lots"] ["device", "family", "pair"] (defScope (top 39)) := ⟨rfl, rfl, rfl, by decide +kernel, rfl, by decide +kernel, by decide +kernel⟩
theorem ok_most_rounds (T : Tx K mg) (B : Tb K mg base) (Xx : Xs P K mg) : Cal CX0 P w K mg base 7 "most_rounds" (sp_most_rounds K) := by
  refine cal_of0 T.F_most_rounds T.g_most_rounds (fun _ _ _ _ _ _ us hl => match us, hl with | [_, _, _], _ => rfl) sc_most_rounds (fun vs H Q E h => ?_) (fun cdv A outer s H vs Q E hr h => ?_)
  · obtain ⟨d, a, q, p, C, rfl, _⟩ := h
    rfl
  · obtain ⟨d, a, q, p, C, rfl, hd, hF, ha, hq, hp, hT, k⟩ := h
    have hu := hr.units
    have hu1 : (A.deeper (envOfC "most_rounds" (defScope (top 39)) s.heap.objs.size (He.ga K "most_rounds") cdv)).units + 1 < cLine := by omega
    refine ⟨_, pss_cons (ps_set (i := 3) sc_most_rounds.nd rfl (Or.inl rfl) (pe_c1 (ok_check_family T Xx) hr (by rfl) (pa_cons (pv 0) (pa_cons (pv 1) pa_nil))))
      (pss_cons (ps_expr (pe_c1 (ok_need_pair T Xx) hr (by rfl) (pa_cons (pv 0) (pa_cons (pv 2) pa_nil))))
      (pss_one (ps_ret (pe_dget hu1 (pe_c (ok_ranks_of T) hr (by rfl) (pa_cons (pe_c (ok_pair_web T B) hr (by rfl) (pa_cons (pv 0) (pa_cons (pv 3) pa_nil))) pa_nil)) (pv 2) (fun _ _ => rfl))))), ?_⟩
    refine ⟨_, rfl, _, rfl, d, a, C.lots, C, rfl, hd, sig_len C, ha, hF.l1, hF.l31, hF.short, .inl ⟨hF.lots, hF.nd, fun t H1 sm1 ht => ?_⟩⟩
    have hmp := BK.mem_pairs.mp hp
    refine ⟨_, rfl, _, rfl, d, q, p, C, rfl, hd.ext (ext_same sm1), hq.same (ext_same sm1), .inl ⟨hmp.1, hmp.2, fun H2 sm2 => ?_⟩⟩
    have sm12 := same_trans sm1 sm2
    refine ⟨_, rfl, _, rfl, d, t, C, rfl, hd.ext (ext_same sm12), ht.ext (ext_same sm2), hF.ok, Nat.le_trans hF.l31 (by decide), hF.short, hT.ext sm12, fun wa H3 eX hw => ?_⟩
    refine ⟨wa, C, rfl, hw, hF.ok, fun ra H4 sm4 hra => ?_⟩
    have eX4 : Ex (T3 K) H H4 := ((Ex.same hT sm12).trans eX).trans (Ex.same eX.tabs sm4)
    exact ⟨_, rfl, ra, _, rfl, (tab_get (pairs_nodup hF.ok.n2 hF.ok.n5) (fun p => rv (BK.rank C p)) hp) ▸ DGet.t (k := kp p) hra (pair_tup (hq.same eX4.ext)), k H4 eX4⟩
end
end BW

set_option Elab.async false
set_option linter.all false
set_option maxRecDepth 100000
set_option maxHeartbeats 1000000
/-! is_table, Device -/
namespace BW
open PySem PySem.Spec PyProof.Rows L2 SX
open LamX (Tabs ExtN CodeO)
/-- a def of a class, by its address -/
structure CalM (CX : CXT) (P : Program) (w : World) (K : PySem.W.Frag) (mg : Str → Option Value) (base : Heap) (k : Nat) (f : Addr) (sp : Sp) : Prop where
  ex : ∃ (fd : FuncData) (ps : List Str), FnOk P w K mg base CX k f fd ps sp ∧ Binds K fd ps []
section
variable {CX : CXT} {P : Program} {w : World} {K : PySem.W.Frag} {mg : Str → Option Value} {base : Heap}
theorem calm_of {x q : Str} {st : Stmt} {f : Addr} {N ps : List Str} {k : Nat} {sp : Sp} (F : Fn K x q st f) (b : BindsP x q st ps) (S : FnScope N ps (defScope st)) (len : ∀ vs H Q E, sp vs H Q E → vs.length = ps.length)
    (hbody : ∀ (cdv : Value) (A : Around) (outer : List Env) (s : Shared) (H : Hp) (vs : List V) (Q : VK) (E : XK), Room k (A.deeper (envOfC q (defScope st) s.heap.objs.size f cdv)) → sp vs H Q E →
      ∃ t, PSs (cxOf CX P w K mg base N q (defScope st) f cdv A outer s H E) (defBody st) t ∧ t { nx := fun _ H' => Q .non H', rt := Q } (start N vs) H) : CalM CX P w K mg base (k + 1) f sp := by
  obtain ⟨fd, F⟩ := F
  exact ⟨fd, ps, F.ok S len hbody, F.bindsN b⟩
theorem calp_of {x q : Str} {st : Stmt} {f : Addr} {N ps : List Str} {k : Nat} {sp : Sp} (F : Fn K x q st f) (S : FnScope N ps (defScope st)) (len : ∀ vs H Q E, sp vs H Q E → vs.length = ps.length)
    (hbody : ∀ (cdv : Value) (A : Around) (outer : List Env) (s : Shared) (H : Hp) (vs : List V) (Q : VK) (E : XK), Room k (A.deeper (envOfC q (defScope st) s.heap.objs.size f cdv)) → sp vs H Q E →
      ∃ t, PSs (cxOf CX P w K mg base N q (defScope st) f cdv A outer s H E) (defBody st) t ∧ t { nx := fun _ H' => Q .non H', rt := Q } (start N vs) H) : ∃ fd, FnOk P w K mg base CX (k + 1) f fd ps sp ∧ FunD K x q (defArgs st) (defBody st) (defScope st) [] [] f fd := by
  obtain ⟨fd, F⟩ := F
  exact ⟨fd, F.ok S len hbody, F⟩
theorem calm_of0 {x q : Str} {st : Stmt} {f : Addr} {N ps : List Str} {k : Nat} {sp : Sp} (F : Fn K x q st f) (b : BindsP x q st ps) (S : FnScope N ps (defScope st)) (len : ∀ vs H Q E, sp vs H Q E → vs.length = ps.length)
    (hbody : ∀ (cdv : Value) (A : Around) (outer : List Env) (s : Shared) (H : Hp) (vs : List V) (Q : VK) (E : XK), Room k (A.deeper (envOfC q (defScope st) s.heap.objs.size f cdv)) → sp vs H Q E →
      ∃ t, PSs (cxOf CX0 P w K mg base N q (defScope st) f cdv A outer s H E).nox (defBody st) t ∧ t { nx := fun _ H' => Q .non H', rt := Q } (start N vs) H) : CalM CX0 P w K mg base (k + 1) f sp :=
  calm_of F b S len fun cdv A outer s H vs Q E hr h => by
    obtain ⟨t, ht, q⟩ := hbody cdv A outer s H vs Q E hr h
    exact ⟨t, ht.nox, q⟩
end
/-- tuple(..) of a list or a tuple -/
def rTupleOf (K : PySem.W.Frag) : List V → Hp → VK → Prop := fun xs H Q => ∃ p ys, xs = [.ref p] ∧ ((SqL K H p ys ∧ ∀ l, H l = none → Q (.ref l) (upd H l (.tup ys))) ∨ (SqT K H p ys ∧ Q (.ref p) H))
section
variable {X : Cx} {st : Stmt}
/-- code that is not reached -/
theorem ps_dead : PS X st (fun _ _ _ => False) := ⟨fun _ _ _ _ _ _ h => h.elim⟩
end
def TabL (H : Hp) (t : Addr) (tabs : List (List Nat)) : Prop := ∃ as : List Addr, H t = some (.lst (as.map V.ref)) ∧ as.length = tabs.length ∧ ∀ (i : Nat) (row : List Nat), tabs[i]? = some row → ∃ a, as[i]? = some a ∧ H a = some (.lst (Num row))
theorem TabL.same {H H' : Hp} {t : Addr} {tabs : List (List Nat)} (x : TabL H t tabs) (s : Same H H') : TabL H' t tabs := by
  obtain ⟨as, h1, h2, h3⟩ := x
  refine ⟨as, s _ _ h1, h2, fun i row h => ?_⟩
  obtain ⟨a, h4, h5⟩ := h3 i row h
  exact ⟨a, h4, s _ _ h5⟩
theorem TabL.write {H : Hp} {t x : Addr} {tabs : List (List Nat)} {o o' : HO} (z : TabL H t tabs) (h : H x = some o) (n : ∀ xs, o ≠ .lst xs) : TabL (upd H x o') t tabs := by
  obtain ⟨as, h1, h2, h3⟩ := z
  have ne : ∀ {b : Addr} {xs : List V}, H b = some (.lst xs) → b ≠ x := fun e z => by rw [z, h] at e; exact n _ (Option.some.inj e)
  refine ⟨as, by rw [upd_ne (ne h1)]; exact h1, h2, fun i row hr => ?_⟩
  obtain ⟨a, h4, h5⟩ := h3 i row hr
  exact ⟨a, h4, by rw [upd_ne (ne h5)]; exact h5⟩
/-- all stands but at x -/
def But (x : Addr) (H H' : Hp) : Prop := ∀ b o, b ≠ x → H b = some o → H' b = some o
theorem But.of {x : Addr} {H H' : Hp} (s : Same H H') : But x H H' := fun b o _ e => s b o e
theorem But.trans {x : Addr} {A B C : Hp} (a : But x A B) (b : But x B C) : But x A C := fun c o n e => b c o n (a c o n e)
theorem But.upd {x : Addr} {H H' : Hp} {o : HO} (b : But x H H') : But x H (upd H' x o) := fun c o n e => by rw [upd_ne n]; exact b c o n e
theorem But.fresh {x : Addr} {H H' : Hp} (b : But x H H') (n : H x = none) : Same H H' := fun c o e => b c o (ne_of_none e n) e
section
variable {P : Program} {w : World} {K : PySem.W.Frag} {mg : PySem.Str → Option Value} {base : Heap}
def sp_is_table : Sp := fun vs H Q _ => ∃ (a : Addr) (m : V) (row : List Nat), vs = [.ref a, m] ∧ H a = some (.lst (Num row)) ∧ 1 ≤ row.length ∧ row.length ≤ 60 ∧ (m = .non ∨ m = .int (row.length : Int)) ∧ (∀ x ∈ row, x < row.length) ∧ ∀ H', Same H H' → Q (.bl true) H'
abbrev NIT : List PySem.Str := ["value", "many", "state"]
theorem sc_is_table : FnScope NIT ["value", "many"] (defScope (top 20)) := ⟨rfl, rfl, rfl, by decide +kernel, rfl, by decide +kernel, by decide +kernel⟩
theorem ok_is_table (T : Tx K mg) : Cal CX0 P w K mg base 3 "is_table" sp_is_table := by
  refine cal_of0 T.F_is_table T.g_is_table (fun _ _ _ _ _ _ us hl => match us, hl with | [_, _], _ => rfl) sc_is_table (fun vs H Q E h => ?_) (fun cdv A outer s H vs Q E hr h => ?_)
  · obtain ⟨a, m, row, rfl, _⟩ := h
    rfl
  · obtain ⟨a, m, row, rfl, ha, h1, h60, hm, hrow, k⟩ := h
    obtain ⟨tM, gM⟩ := T.g_MOST_STATES
    refine ⟨_, pss_cons (ps_if (PW.pt (pw_or (pt_not (pt_val (pe_c (ok_is_sequence T) hr (by rfl) (pa_cons (pv 0) pa_nil))))
        (pw_or (pt_not (pt_chain op_le op_le pe_int (pe_callB call_len (by rfl) T.n_len boot_len (pa_cons (pv 0) pa_nil)) (pe_glob (v := .int 60) (by rfl) gM ⟨_, rfl⟩)))
        (pw_or1 (PW.pt (pw_and (pt_cmp (pc_notN (pv 1))) (pw_and1 (pt_cmpR op_ne (pe_callB call_len (by rfl) T.n_len boot_len (pa_cons (pv 0) pa_nil)) (pv 1) (nomark _)))))))))
        (pss_one (ps_ret pe_bl)) pss_nil)
      (pss_one (ps_ret (pe_callB (cr_all rfl) (by rfl) T.n_all (by decide +kernel) (pa_cons
        (pe_lc (own := [("state", 2)]) (g := gName 2) (by rfl) sc_is_table.nd (pi_list (pv 0)) (blkOk_by (N := NIT) (sc := defScope (top 20)) (by decide +kernel)) (fun _ _ _ _ _ => pg_name (i := 2) sc_is_table.nd rfl (Or.inl rfl))
          (fun _ _ _ _ _ => pts_nil) (fun _ _ _ _ _ => pe_and (pe_c (ok_is_number T) hr (by rfl) (pa_cons (pv 2) pa_nil)) (pe_one (pe_cmpR op_lt (pv 2) (pe_callB (r := rLen K) call_len (by rfl) T.n_len boot_len (pa_cons (pv 0) pa_nil)) (nomark _))))) pa_nil)))), ?_⟩
    have hnl : (Num row).length = row.length := List.length_map _
    refine ⟨_, rfl, a, rfl, ⟨_, .inl ha⟩, fun H1 sm1 => ⟨true, rfl, iteF' rfl ?_⟩⟩
    have ha1 := sm1 _ _ ha
    refine ⟨_, rfl, _, row.length, rfl, .inl ⟨_, SqL.of ha1, hnl.symm⟩, _, _, rfl, rfl, _, rfl, iteT' (by simp; omega) ⟨_, _, rfl, rfl, _, rfl, iteF' (by simp; omega) ?_⟩⟩
    rcases hm with rfl | rfl
    · refine ⟨_, rfl, _, rfl, iteF' rfl (iteF' rfl ?_)⟩
      refine ⟨_, rfl, a, rfl, ⟨_, SqL.of ha1⟩, fun D nD => ?_⟩
      refine lc_it (n := (Num row).length) (walk_list (K := K) (a := a) (xs := Num row)) (fun i H' => Same H1 H' ∧ H' D = some (.lst ((row.take i).map fun _ => V.bl true))) ⟨same_new nD, by rw [upd_same]; rfl⟩ (fun i H' _ q => SqL.of (q.1 _ _ ha1)) ?_ ?_
      · rintro i v H3 H4 hi ⟨sm3, hD⟩ ⟨rfl, hv⟩
        rw [hnl] at hi
        have hx0 : row[i]? = some row[i] := List.getElem?_eq_getElem hi
        generalize row[i] = x at hx0
        unfold Num at hv
        rw [List.getElem?_map, hx0] at hv
        obtain rfl := Option.some.inj hv
        have hxr := hrow x (List.mem_of_getElem? hx0)
        refine ⟨rfl, tYes_in ?_⟩
        refine ⟨_, rfl, _, rfl, _, rfl, ?_⟩
        rw [if_pos (by simp)]
        refine ⟨_, rfl, _, rfl, _, row.length, rfl, .inl ⟨_, SqL.of (sm3 _ _ ha1), hnl.symm⟩, _, _, rfl, rfl, _, hD, by rw [List.length_map, List.length_take, sizeLine_eq]; omega, fun b o e => ?_, ?_⟩
        · rw [upd_ne (ne_of_none e nD)]
          exact sm3 b o e
        · have eb : decide ((x : Int) < (row.length : Int)) = true := decide_eq_true (by omega)
          rw [upd_same, take_succ hx0, List.map_append]
          show some (HO.lst (_ ++ [V.bl (decide ((x : Int) < (row.length : Int)))])) = _
          rw [eb]
          rfl
      · rintro H3 ⟨sm3, hD⟩
        rw [hnl, List.take_length] at hD
        refine ⟨D, row.map fun _ => true, rfl, SqL.of (by rw [hD, List.map_map]; rfl), ?_⟩
        have e : ((row.map fun _ => true).all id) = true := by rw [List.all_map]; simp
        rw [e]
        exact k H3 (same_trans sm1 sm3)
    · refine ⟨_, rfl, _, rfl, iteT' rfl ?_⟩
      refine ⟨_, rfl, _, row.length, rfl, .inl ⟨_, SqL.of ha1, hnl.symm⟩, _, rfl, rfl, _, rfl, iteF' (by simp) ?_⟩
      refine ⟨_, rfl, a, rfl, ⟨_, SqL.of ha1⟩, fun D nD => ?_⟩
      refine lc_it (n := (Num row).length) (walk_list (K := K) (a := a) (xs := Num row)) (fun i H' => Same H1 H' ∧ H' D = some (.lst ((row.take i).map fun _ => V.bl true))) ⟨same_new nD, by rw [upd_same]; rfl⟩ (fun i H' _ q => SqL.of (q.1 _ _ ha1)) ?_ ?_
      · rintro i v H3 H4 hi ⟨sm3, hD⟩ ⟨rfl, hv⟩
        rw [hnl] at hi
        have hx0 : row[i]? = some row[i] := List.getElem?_eq_getElem hi
        generalize row[i] = x at hx0
        unfold Num at hv
        rw [List.getElem?_map, hx0] at hv
        obtain rfl := Option.some.inj hv
        have hxr := hrow x (List.mem_of_getElem? hx0)
        refine ⟨rfl, tYes_in ?_⟩
        refine ⟨_, rfl, _, rfl, _, rfl, ?_⟩
        rw [if_pos (by simp)]
        refine ⟨_, rfl, _, rfl, _, row.length, rfl, .inl ⟨_, SqL.of (sm3 _ _ ha1), hnl.symm⟩, _, _, rfl, rfl, _, hD, by rw [List.length_map, List.length_take, sizeLine_eq]; omega, fun b o e => ?_, ?_⟩
        · rw [upd_ne (ne_of_none e nD)]
          exact sm3 b o e
        · have eb : decide ((x : Int) < (row.length : Int)) = true := decide_eq_true (by omega)
          rw [upd_same, take_succ hx0, List.map_append]
          show some (HO.lst (_ ++ [V.bl (decide ((x : Int) < (row.length : Int)))])) = _
          rw [eb]
          rfl
      · rintro H3 ⟨sm3, hD⟩
        rw [hnl, List.take_length] at hD
        refine ⟨D, row.map fun _ => true, rfl, SqL.of (by rw [hD, List.map_map]; rfl), ?_⟩
        have e : ((row.map fun _ => true).all id) = true := by rw [List.all_map]; simp
        rw [e]
        exact k H3 (same_trans sm1 sm3)
/-- tables that a device takes -/
structure TabsOk (n : Nat) (tabs : List (List Nat)) : Prop where
  k1 : 1 ≤ tabs.length
  k5 : tabs.length ≤ 5
  n1 : 1 ≤ n
  n60 : n ≤ 60
  len : ∀ t ∈ tabs, t.length = n
  ent : ∀ t ∈ tabs, ∀ x ∈ t, x < n
theorem cut_abc {k : Nat} (h : k ≤ 5) : cutS "abcde" none (some (k : Int)) = S (BK.abc.take k) := by
  have c : k = 0 ∨ k = 1 ∨ k = 2 ∨ k = 3 ∨ k = 4 ∨ k = 5 := by omega
  rcases c with e | e | e | e | e | e <;> rw [e] <;> decide +kernel
def sp_dev_init (K : PySem.W.Frag) : Sp := fun vs H Q _ => ∃ (x ta dx : Addr) (n : Nat) (tabs : List (List Nat)), vs = [.ref x, .ref ta] ∧ H x = some (.ins (He.ga K "Device") dx []) ∧ TabL H ta tabs ∧ TabsOk n tabs ∧
  ∀ H', But x H H' → (∀ lots, Dev K H' x ⟨n, tabs, lots⟩) → Q .non H'
abbrev NDI : List PySem.Str := ["self", "tables", "at", "table"]
theorem sc_dev_init : FnScope NDI ["self", "tables"] (defScope (inClass (top 19) 0)) := ⟨rfl, rfl, rfl, by decide +kernel, rfl, by decide +kernel, by decide +kernel⟩
theorem ok_dev_init (T : Tx K mg) : CalM CX0 P w K mg base 4 (He.ma K (He.ga K "Device") "__init__") (sp_dev_init K) := by
  refine calm_of0 T.F_Device___init__ (fun _ _ _ _ _ _ us hl => match us, hl with | [_, _], _ => rfl) sc_dev_init (fun vs H Q E h => ?_) (fun cdv A outer s H vs Q E hr h => ?_)
  · obtain ⟨x, ta, dx, n, tabs, rfl, _⟩ := h
    rfl
  · obtain ⟨x, ta, dx, n, tabs, rfl, hx, hT, ok, k⟩ := h
    obtain ⟨tS, gS⟩ := T.g_SIGNALS
    refine ⟨_, pss_cons (ps_if (PW.pt (pw_or (pt_not (pt_val (pe_c (ok_is_sequence T) hr (by rfl) (pa_cons (pv 1) pa_nil))))
        (pw_or1 (pt_not (pt_chain op_le op_le pe_int (pe_callB call_len (by rfl) T.n_len boot_len (pa_cons (pv 1) pa_nil)) (pe_callB call_len (by rfl) T.n_len boot_len (pa_cons (pe_glob (v := .str "abcde") (by rfl) gS ⟨_, rfl⟩) pa_nil)))))))
        (pss_one ps_dead) pss_nil)
      (pss_cons (ps_for PassesOwn.never rfl (pi_enum (by rfl) T.n_enumerate (pa_cons (pv 1) pa_nil)) (pg_tup rfl (pgs_cons (pg_name (i := 2) sc_dev_init.nd rfl (Or.inl rfl)) (pgs_cons (pg_name (i := 3) sc_dev_init.nd rfl (Or.inl rfl)) pgs_nil)))
        (pss_one (ps_if (pt_not (pt_val (pe_c (ok_is_table T) hr (by rfl) (pa_cons (pv 3) (pa_cons (pe_ifExp (pt_cmpR op_gt (pv 2) pe_int (nomark _)) (pe_callB call_len (by rfl) T.n_len boot_len (pa_cons (pe_ix ix_list (pv 1) pe_int (fun _ _ => rfl)) pa_nil)) pe_non) pa_nil))))) (pss_one ps_dead) pss_nil)))
      (pss_cons (ps_fld (pv 0) (pe_callB call_len (by rfl) T.n_len boot_len (pa_cons (pe_ix ix_list (pv 1) pe_int (fun _ _ => rfl)) pa_nil)) (by rfl))
      (pss_cons (ps_fld (pv 0) (pe_slice sl_str (pe_glob (v := .str "abcde") (by rfl) gS ⟨_, rfl⟩) po_none (po_some (pe_callB call_len (by rfl) T.n_len boot_len (pa_cons (pv 1) pa_nil)))) (by rfl))
      (pss_one (ps_fld (pv 0) (pe_callTy call_tuple_of (by rfl) T.n_tuple (by decide +kernel) (pa_cons
        (pe_lc (own := [("table", 3)]) (g := gName 3) (by rfl) sc_dev_init.nd (pi_list (pv 1)) (blkOk_by (N := NDI) (sc := defScope (inClass (top 19) 0)) (by decide +kernel)) (fun _ _ _ _ _ => pg_name (i := 3) sc_dev_init.nd rfl (Or.inl rfl))
          (fun _ _ _ _ _ => pts_nil) (fun _ _ _ _ _ => pe_callTy (r := rTupleOf K) call_tuple_of (by rfl) T.n_tuple (by decide +kernel) (pa_cons (pv 3) pa_nil))) pa_nil)) (by rfl)))))), ?_⟩
    have hal := id hT
    obtain ⟨as, has, hlen, hat⟩ := hal
    have hml : (as.map V.ref).length = tabs.length := by rw [List.length_map, hlen]
    have k1 := ok.k1
    have k5 := ok.k5
    have n1 := ok.n1
    have n60 := ok.n60
    obtain ⟨row0, hrow0⟩ : ∃ r, tabs[0]? = some r := ⟨tabs[0], List.getElem?_eq_getElem (by omega)⟩
    obtain ⟨a0, ha0, hra0⟩ := hat 0 row0 hrow0
    have hl0 : row0.length = n := ok.len _ (List.mem_of_getElem? hrow0)
    have hat0 : atI (as.map V.ref) (0 : Int) = some (V.ref a0) := atI_nat (j := 0) (by rw [List.getElem?_map, ha0]; rfl)
    refine ⟨_, rfl, ta, rfl, ⟨_, .inl has⟩, fun H1 sm1 => ⟨true, rfl, iteF' rfl ?_⟩⟩
    refine ⟨_, rfl, _, tabs.length, rfl, .inl ⟨_, SqL.of (sm1 _ _ has), hml.symm⟩, _, _, rfl, rfl, _, rfl, iteT' (by simp; omega) ⟨_, 5, rfl, ⟨by show 5 ≤ sizeLine; decide, rfl⟩, _, _, rfl, rfl, _, rfl, iteF' (by simp; omega) ?_⟩⟩
    refine ⟨_, rfl, ta, _, rfl, SqL.of (sm1 _ _ has), ?_⟩
    refine for_it (n := (as.map V.ref).length) walk_enum (fun i σ H' => ∃ x2 x3 : Option V, σ = [some (.ref x), some (.ref ta), x2, x3] ∧ Same H H') ⟨none, none, rfl, sm1⟩ (fun i σ H' _ ⟨_, _, _, sm⟩ => SqL.of (sm _ _ has)) ?_ ?_
    · rintro i v σ H2 H3 hi ⟨x2, x3, rfl, sm2⟩ ⟨TT, u, y, rfl, nTT, rfl, hu, hy⟩
      obtain rfl := Option.some.inj hu
      rw [hml] at hi
      have hr0 : tabs[i]? = some tabs[i] := List.getElem?_eq_getElem hi
      generalize tabs[i] = row at hr0
      have hrm := List.mem_of_getElem? hr0
      obtain ⟨a, ha, hra⟩ := hat i row hr0
      have hy : (as.map V.ref)[i]? = some y := hy
      rw [List.getElem?_map, ha] at hy
      obtain rfl := Option.some.inj hy
      have sm3 := same_trans sm2 (same_new (o := .tup [V.int (i : Nat), V.ref a]) nTT)
      refine ⟨TT, _, rfl, SqT.of upd_same, rfl, _, _, rfl, _, _, rfl, rfl, ?_⟩
      generalize upd H2 TT (.tup [V.int (i : Nat), V.ref a]) = H3 at sm3
      have hrl : row.length = n := ok.len row hrm
      refine ⟨_, rfl, _, rfl, _, _, rfl, rfl, _, rfl, ?_⟩
      have goal : ∀ m : V, (m = .non ∨ m = .int (row.length : Int)) → sp_is_table [.ref a, m] H3 (fun v H' => ∃ d, v = .bl d ∧ (if (!d) = true then False else ∃ x2 x3 : Option V, [some (.ref x), some (.ref ta), some (V.int (i : Nat)), some (V.ref a)] = [some (.ref x), some (.ref ta), x2, x3] ∧ Same H H')) E0 := fun m hm =>
        ⟨a, m, row, rfl, sm3 _ _ hra, by omega, by omega, hm, fun x hx => by rw [hrl]; exact ok.ent row hrm x hx, fun H' sm => ⟨true, rfl, iteF' rfl ⟨_, _, rfl, same_trans sm3 sm⟩⟩⟩
      by_cases h0 : 0 < i
      · refine iteT' (by simpa using h0) ?_
        refine ⟨_, rfl, ta, _, _, _, rfl, rfl, SqL.of (sm3 _ _ has), hat0, _, n, rfl, .inl ⟨_, SqL.of (sm3 _ _ hra0), ?_⟩, goal _ (.inr (by rw [hrl]))⟩
        unfold Num
        rw [List.length_map, hl0]
      · exact iteF' (by simpa using h0) (goal _ (.inl rfl))
    · rintro σ H2 ⟨x2, x3, rfl, sm2⟩
      have hx2 := sm2 _ _ hx
      have hT2 := hT.same sm2
      refine ⟨_, rfl, ta, _, _, _, rfl, rfl, SqL.of (sm2 _ _ has), hat0, _, n, rfl, .inl ⟨_, SqL.of (sm2 _ _ hra0), by unfold Num; rw [List.length_map, hl0]⟩, ?_⟩
      refine ⟨_, rfl, x, _, dx, [], rfl, hx2, T.cl_Device, T.at_Device_states, by decide, ?_⟩
      have b3 : But x H (upd H2 x (.ins (He.ga K "Device") dx (putF "states" (.int (n : Nat)) []))) := (But.of sm2).upd
      have hx3 : upd H2 x (.ins (He.ga K "Device") dx (putF "states" (.int (n : Nat)) [])) x = some (.ins (He.ga K "Device") dx [("states", .int (n : Nat))]) := upd_same
      have hT3 : TabL (upd H2 x (.ins (He.ga K "Device") dx (putF "states" (.int (n : Nat)) []))) ta tabs := hT2.write hx2 (fun xs z => by cases z)
      generalize upd H2 x (.ins (He.ga K "Device") dx (putF "states" (.int (n : Nat)) [])) = H3 at b3 hx3 hT3
      obtain ⟨as3, has3, hlen3, hat3⟩ := id hT3
      refine ⟨_, rfl, _, tabs.length, rfl, .inl ⟨_, SqL.of has3, by rw [List.length_map, hlen3]⟩, _, rfl, _, rfl, by show 5 ≤ sizeLine; decide, _, rfl, x, _, dx, _, rfl, hx3, T.cl_Device, T.at_Device_signals, (by show 1 < 1000; decide), ?_⟩
      rw [cut_abc k5]
      have b4 : But x H (upd H3 x (.ins (He.ga K "Device") dx (putF "signals" (.str (S (BK.abc.take tabs.length))) [("states", .int (n : Nat))]))) := b3.upd
      have hx4 : upd H3 x (.ins (He.ga K "Device") dx (putF "signals" (.str (S (BK.abc.take tabs.length))) [("states", .int (n : Nat))])) x = some (.ins (He.ga K "Device") dx [("states", .int (n : Nat)), ("signals", .str (S (BK.abc.take tabs.length)))]) := upd_same
      have hT4 : TabL (upd H3 x (.ins (He.ga K "Device") dx (putF "signals" (.str (S (BK.abc.take tabs.length))) [("states", .int (n : Nat))]))) ta tabs := hT3.write hx3 (fun xs z => by cases z)
      generalize upd H3 x (.ins (He.ga K "Device") dx (putF "signals" (.str (S (BK.abc.take tabs.length))) [("states", .int (n : Nat))])) = H4 at b4 hx4 hT4
      obtain ⟨as4, has4, hlen4, hat4⟩ := id hT4
      have hml4 : (as4.map V.ref).length = tabs.length := by rw [List.length_map, hlen4]
      refine ⟨_, rfl, ta, rfl, ⟨_, SqL.of has4⟩, fun D nD => ?_⟩
      refine lc_it (n := (as4.map V.ref).length) (walk_list (K := K) (a := ta) (xs := as4.map V.ref)) (fun i H' => Same H4 H' ∧ ∃ bs : List Addr, H' D = some (.lst (bs.map V.ref)) ∧ bs.length = i ∧ ∀ (j : Nat) (row : List Nat), j < i → tabs[j]? = some row → ∃ b, bs[j]? = some b ∧ H' b = some (.tup (Num row))) ⟨same_new nD, [], by rw [upd_same]; rfl, rfl, fun j row h => by omega⟩ (fun i H' _ q => SqL.of (q.1 _ _ has4)) ?_ ?_
      · rintro i v H5 H6 hi ⟨sm5, bs, hD, hbl, hbs⟩ ⟨rfl, hv⟩
        rw [hml4] at hi
        have hr0 : tabs[i]? = some tabs[i] := List.getElem?_eq_getElem hi
        generalize tabs[i] = row at hr0
        obtain ⟨a, ha, hra⟩ := hat4 i row hr0
        rw [List.getElem?_map, ha] at hv
        obtain rfl := Option.some.inj hv
        refine ⟨rfl, tYes_in ?_⟩
        refine ⟨_, rfl, a, _, rfl, .inl ⟨SqL.of (sm5 _ _ hra), fun l nl => ?_⟩⟩
        have nDl : D ≠ l := ne_of_none hD nl
        have hdn : ∀ {b : Addr} {xs : List V}, H6 b = some (.tup xs) → b ≠ D := fun e z => by rw [z, hD] at e; cases e
        refine ⟨_, by rw [upd_ne nDl]; exact hD, by rw [List.length_map, hbl, sizeLine_eq]; omega, fun b o e => ?_, bs ++ [l], ?_, ?_, fun j r hj hjr => ?_⟩
        · rw [upd_ne (ne_of_none e nD), upd_ne (ne_of_none (sm5 b o e) nl)]
          exact sm5 b o e
        · rw [upd_same, List.map_append]
          rfl
        · rw [List.length_append, hbl]; rfl
        · by_cases hji : j < i
          · obtain ⟨b, hb1, hb2⟩ := hbs j r hji hjr
            refine ⟨b, by rw [List.getElem?_append_left (by omega)]; exact hb1, ?_⟩
            rw [upd_ne (hdn hb2), upd_ne (ne_of_none hb2 nl)]
            exact hb2
          · have : j = i := by omega
            subst this
            rw [hr0] at hjr
            cases hjr
            refine ⟨l, by rw [List.getElem?_append_right (by omega), hbl, Nat.sub_self]; rfl, ?_⟩
            rw [upd_ne (Ne.symm nDl), upd_same]
      · rintro H5 ⟨sm5, bs, hD, hbl, hbs⟩
        rw [hml4] at hbl hbs
        refine ⟨D, _, rfl, .inl ⟨SqL.of hD, fun t nt => ?_⟩⟩
        have hx5 := sm5 _ _ hx4
        have ntx : t ≠ x := fun z => by rw [z, hx5] at nt; cases nt
        refine ⟨_, rfl, x, _, dx, _, rfl, by rw [upd_ne (Ne.symm ntx)]; exact hx5, T.cl_Device, T.at_Device_tables, (by show 2 < 1000; decide), ?_⟩
        refine k _ (((b4.trans (But.of sm5)).trans (But.of (same_new nt))).upd) fun lots => ⟨dx, _, t, upd_same, rfl, rfl, rfl, bs, ?_, hbl, fun i row hr => ?_⟩
        · rw [upd_ne ntx, upd_same]
        · obtain ⟨b, hb1, hb2⟩ := hbs i row (List.getElem?_eq_some_iff.mp hr).1 hr
          refine ⟨b, hb1, ?_⟩
          have nbx : b ≠ x := fun z => by rw [z, hx5] at hb2; cases hb2
          rw [upd_ne nbx, upd_ne (ne_of_none hb2 nt)]
          exact hb2
end
end BW

set_option Elab.async false
set_option linter.all false
set_option maxRecDepth 100000
set_option maxHeartbeats 1000000
/-! keepers: what stands where -/
namespace BW
open PySem PySem.Spec PyProof.Rows L2 SX
open LamX (Tabs ExtN CodeO)
/-- all stands but at x and in the tables of code objects -/
def BN (x : Addr) (H H' : Hp) : Prop := ∀ b o, b ≠ x → H b = some o → (∀ ps, o ≠ .tbl ps) → H' b = some o
theorem BN.refl {x : Addr} {H : Hp} : BN x H H := fun _ _ _ e _ => e
theorem BN.trans {x : Addr} {A B C : Hp} (a : BN x A B) (b : BN x B C) : BN x A C := fun c o n e t => b c o n (a c o n e t) t
theorem BN.ext {x : Addr} {H H' : Hp} (e : ExtN H H') : BN x H H' := fun b o _ h n => e b o h n
theorem BN.same {x : Addr} {H H' : Hp} (e : Same H H') : BN x H H' := fun b o _ h _ => e b o h
theorem BN.but {x : Addr} {H H' : Hp} (e : But x H H') : BN x H H' := fun b o n h _ => e b o n h
theorem BN.upd {x : Addr} {H H' : Hp} {o : HO} (b : BN x H H') : BN x H (upd H' x o) := fun c u n e t => by rw [upd_ne n]; exact b c u n e t
theorem BN.fresh {x : Addr} {H H' : Hp} (b : BN x H H') (n : H x = none) : ExtN H H' := fun c o e t => b c o (ne_of_none e n) e t
section
variable {x : Addr} {H H' : Hp} {Cx dx : Addr} {fx : List (Str × V)}
theorem PairAt.bn {q : Addr} {p : Nat × Nat} (z : PairAt H q p) (b : BN x H H') (hx : H x = some (.ins Cx dx fx)) : PairAt H' q p := by
  unfold PairAt at *
  exact b _ _ (fun e => by rw [e, hx] at z; cases z) z (fun ps z => by cases z)
theorem PairV.bn {v : V} {o : Option (Nat × Nat)} (z : PairV H v o) (b : BN x H H') (hx : H x = some (.ins Cx dx fx)) : PairV H' v o := by
  cases o with
  | none => exact z
  | some p =>
    obtain ⟨q, h1, h2⟩ := z
    exact ⟨q, h1, h2.bn b hx⟩
theorem Lots.bn {a : Addr} {l : List (List Nat)} (z : Lots H a l) (b : BN x H H') (hx : H x = some (.ins Cx dx fx)) : Lots H' a l := by
  unfold Lots at *
  exact b _ _ (fun e => by rw [e, hx] at z; cases z) z (fun ps z => by cases z)
theorem TxtsQ.bn {a : Addr} {l : List (List Nat)} (z : TxtsQ H a l) (b : BN x H H') (hx : H x = some (.ins Cx dx fx)) : TxtsQ H' a l := by
  rcases z with z | z
  · exact .inl (b _ _ (fun e => by rw [e, hx] at z; cases z) z (fun ps z => by cases z))
  · exact .inr (b _ _ (fun e => by rw [e, hx] at z; cases z) z (fun ps z => by cases z))
theorem RankD.bn {a : Addr} {C : BK.Cfg} (z : RankD H a C) (b : BN x H H') (hx : H x = some (.ins Cx dx fx)) : RankD H' a C := by
  unfold RankD at *
  exact b _ _ (fun e => by rw [e, hx] at z; cases z) z (fun ps z => by cases z)
theorem Dev.bn {K : PySem.W.Frag} {d : Addr} {C : BK.Cfg} (z : Dev K H d C) (b : BN x H H') (hx : H x = some (.ins Cx dx fx)) (hf : fx.lookup ("states" : Str) = none) : Dev K H' d C := by
  obtain ⟨dd, fs, t, h1, h2, h3, h4, as, h5, h6, h7⟩ := z
  have tn : ∀ {c : Addr} {xs : List V}, H c = some (.tup xs) → H' c = some (.tup xs) := fun e => b _ _ (fun z => by rw [z, hx] at e; cases e) e (fun ps z => by cases z)
  refine ⟨dd, fs, t, b _ _ (fun e => ?_) h1 (fun ps z => by cases z), h2, h3, h4, as, tn h5, h6, fun i row hr => ?_⟩
  · rw [e, hx] at h1
    cases h1
    rw [hf] at h2
    cases h2
  · obtain ⟨a, h8, h9⟩ := h7 i row hr
    exact ⟨a, h8, tn h9⟩
theorem tabs_bn {T : List (Addr × Str)} {o' : HO} (t : Tabs T H) (hx : H x = some (.ins Cx dx fx)) : Tabs T (upd H x o') := fun p hp => by
  obtain ⟨ps, t1, t2, t3⟩ := t p hp
  refine ⟨ps, by rw [upd_ne (ne_of t1 hx (fun z => by cases z))]; exact t1, t2, fun ps' cv hc => ?_⟩
  obtain ⟨c, c1, c2⟩ := t3 ps' cv hc
  exact ⟨c, c1, by rw [upd_ne (ne_of c2 hx (fun z => by unfold CodeO at z; cases z))]; exact c2⟩
end
/-- a keeper's fields -/
def Kf (d la ra : Addr) (ap : V) (st : BK.Now) : List (Str × V) := [("device", .ref d), ("lots", .ref la), ("apart", ap), ("ranks", .ref ra), ("since", .str (S st.2.1)), ("cuts", .int (st.2.2 : Int))]
/-- a keeper at k -/
def Kp (K : PySem.W.Frag) (H : Hp) (k d : Addr) (C : BK.Cfg) (st : BK.Now) : Prop := ∃ (dx la ra : Addr) (ap : V), H k = some (.ins (He.ga K "Keeper") dx (Kf d la ra ap st)) ∧ PairV H ap st.1 ∧ Dev K H d C ∧ Lots H la C.lots ∧ RankD H ra C
theorem kf_states {d la ra : Addr} {ap : V} {st : BK.Now} : (Kf d la ra ap st).lookup ("states" : Str) = none := rfl
theorem Kp.bn {K : PySem.W.Frag} {H H' : Hp} {k x d : Addr} {C : BK.Cfg} {st : BK.Now} {Cx dx : Addr} {fx : List (Str × V)} (z : Kp K H k d C st) (b : BN x H H') (hx : H x = some (.ins Cx dx fx)) (hf : fx.lookup ("states" : Str) = none) (hk : k ≠ x) : Kp K H' k d C st := by
  obtain ⟨dd, la, ra, ap, h1, h2, h3, h4, h5⟩ := z
  exact ⟨dd, la, ra, ap, b _ _ hk h1 (fun ps z => by cases z), h2.bn b hx, h3.bn b hx hf, h4.bn b hx, h5.bn b hx⟩
theorem Kp.ext {K : PySem.W.Frag} {H H' : Hp} {k d : Addr} {C : BK.Cfg} {st : BK.Now} (z : Kp K H k d C st) (e : ExtN H H') : Kp K H' k d C st := by
  obtain ⟨dd, la, ra, ap, h1, h2, h3, h4, h5⟩ := z
  exact ⟨dd, la, ra, ap, e _ _ h1 (fun ps z => by cases z), h2.ext e, h3.ext e, h4.ext e, e _ _ h5 (fun ps z => by cases z)⟩
theorem Kp.dev {K : PySem.W.Frag} {H : Hp} {k d : Addr} {C : BK.Cfg} {st : BK.Now} (z : Kp K H k d C st) : Dev K H d C := by
  obtain ⟨dd, la, ra, ap, h1, h2, h3, h4, h5⟩ := z
  exact h3
/-- what is let out where x was under way -/
def OutB (K : PySem.W.Frag) (x : Addr) (H : Hp) (C : Addr) (fld : PySem.Str) (y : V) (E : XK) : Prop := ∀ d H1, BN x H H1 → Tabs (T3 K) H1 → H1 d = none → E (.ref C) (some d) (upd H1 d (.xd [(fld, y)]))
section
variable {P : Program} {w : World} {K : PySem.W.Frag} {mg : PySem.Str → Option Value} {base : Heap}
def sp_keep_init (K : PySem.W.Frag) : Sp := fun vs H Q E => ∃ (x d a dx : Addr) (v : V) (C : BK.Cfg), vs = [.ref x, .ref d, .ref a, v] ∧ H x = some (.ins (He.ga K "Keeper") dx []) ∧ Dev K H d C ∧ Tabs (T3 K) H ∧
  ((Fam C ∧ TxtsQ H a C.lots ∧ ∃ q p, v = .ref q ∧ PairAt H q p ∧
    ((p ∈ BK.pairs C.n ∧ ∀ H', BN x H H' → Tabs (T3 K) H' → Kp K H' x d C (some p, [], 0) → Q .non H') ∨ (¬ (p.1 < p.2 ∧ p.2 < C.n) ∧ OutB K x H (He.ga K "NoPair") "pair" (.ref q) E))) ∨
  (∃ l r, TxtsQ H a l ∧ l[0]? = some r ∧ (¬ r = C.sig.filter fun c => r.contains c) ∧ l.length ≤ 31 ∧ (∀ r ∈ l, r.length ≤ 1000) ∧ OutB K x H (He.ga K "BadFamily") "at" (.int 0) E))
abbrev NKI : List PySem.Str := ["self", "device", "family", "pair"]
theorem sc_keep_init : FnScope NKI ["self", "device", "family", "pair"] (defScope (inClass (top 41) 0)) := ⟨rfl, rfl, rfl, by decide +kernel, rfl, by decide +kernel, by decide +kernel⟩
theorem okp_keep_init (T : Tx K mg) (B : Tb K mg base) (Xx : Xs P K mg) : ∃ fd, FnOk P w K mg base (CX P w) 7 (He.ma K (He.ga K "Keeper") "__init__") fd ["self", "device", "family", "pair"] (sp_keep_init K) ∧
    FunD K "__init__" "Keeper.__init__" (defArgs (inClass (top 41) 0)) (defBody (inClass (top 41) 0)) (defScope (inClass (top 41) 0)) [] [] (He.ma K (He.ga K "Keeper") "__init__") fd := by
  refine calp_of T.F_Keeper___init__ sc_keep_init (fun vs H Q E h => ?_) (fun cdv A outer s H vs Q E hr h => ?_)
  · obtain ⟨x, d, a, dx, v, C, rfl, _⟩ := h
    rfl
  · obtain ⟨x, d, a, dx, v, C, rfl, hx, hd, hT, h⟩ := h
    have tk : Takes (cxOf (CX P w) P w K mg base NKI "Keeper.__init__" (defScope (inClass (top 41) 0)) (He.ma K (He.ga K "Keeper") "__init__") cdv A outer s H E) (fun cls d _ H => E cls d H) := takes_of rfl rfl rfl rfl
    refine ⟨_, pss_cons (ps_fld (pv 0) (pv 1) (by rfl))
      (pss_cons (ps_fld (pv 0) (pe_cx (ok_check_family T Xx) tk hr (by rfl) (pa_cons (pv 1) (pa_cons (pv 2) pa_nil))) (by rfl))
      (pss_cons (ps_fld (pv 0) (pe_cx (ok_need_pair T Xx) tk hr (by rfl) (pa_cons (pv 1) (pa_cons (pv 3) pa_nil))) (by rfl))
      (pss_cons (ps_fld (pv 0) (pe_c (ok_ranks_of T) hr (by rfl) (pa_cons (pe_c (ok_pair_web T B) hr (by rfl) (pa_cons (pv 1) (pa_cons (pe_fld (pv 0) (by rfl)) pa_nil))) pa_nil)) (by rfl))
      (pss_cons (ps_fld (pv 0) pe_str (by rfl))
      (pss_one (ps_fld (pv 0) pe_int (by rfl))))))), ?_⟩
    refine ⟨_, rfl, _, rfl, x, _, dx, [], rfl, hx, T.cl_Keeper, T.at_Keeper_device, by decide, ?_⟩
    have b1 : BN x H (upd H x (.ins (He.ga K "Keeper") dx (putF "device" (.ref d) []))) := BN.refl.upd
    have hx1 : upd H x (.ins (He.ga K "Keeper") dx (putF "device" (.ref d) [])) x = some (.ins (He.ga K "Keeper") dx [("device", .ref d)]) := upd_same
    have hd1 := hd.bn b1 hx rfl
    have hT1 : Tabs (T3 K) (upd H x (.ins (He.ga K "Keeper") dx (putF "device" (.ref d) []))) := tabs_bn hT hx
    generalize upd H x (.ins (He.ga K "Keeper") dx (putF "device" (.ref d) [])) = H1 at b1 hx1 hd1 hT1
    rcases h with ⟨hF, ha, q, p, rfl, hq, h⟩ | ⟨l, r, ha, hl0, hrn, hl31, hrl, ho⟩
    rotate_left
    · have := (List.getElem?_eq_some_iff.mp hl0).1
      exact ⟨_, rfl, _, rfl, d, a, l, C, rfl, hd1, sig_len C, ha.bn b1 hx, by omega, hl31, hrl, .inr ⟨⟨r, hl0, hrn⟩, fun dd H2 sm2 nd σ _ => ho dd H2 (b1.trans (BN.same sm2)) (hT1.ext sm2) nd⟩⟩
    · refine ⟨_, rfl, _, rfl, d, a, C.lots, C, rfl, hd1, sig_len C, ha.bn b1 hx, hF.l1, hF.l31, hF.short, .inl ⟨hF.lots, hF.nd, fun t H2 sm2 ht => ?_⟩⟩
      have hx2 := sm2 _ _ hx1
      have hT2 := hT1.ext sm2
      have hd2 := hd1.ext (ext_same sm2)
      have b2 := b1.trans (BN.same (x := x) sm2)
      refine ⟨_, rfl, x, _, dx, _, rfl, hx2, T.cl_Keeper, T.at_Keeper_lots, (by show 1 < 1000; decide), ?_⟩
      have b3 : BN x H (upd H2 x (.ins (He.ga K "Keeper") dx (putF "lots" (.ref t) [("device", .ref d)]))) := b2.upd
      have b23 : BN x H2 (upd H2 x (.ins (He.ga K "Keeper") dx (putF "lots" (.ref t) [("device", .ref d)]))) := BN.refl.upd
      have hx3 : upd H2 x (.ins (He.ga K "Keeper") dx (putF "lots" (.ref t) [("device", .ref d)])) x = some (.ins (He.ga K "Keeper") dx [("device", .ref d), ("lots", .ref t)]) := upd_same
      have hd3 := hd2.bn b23 hx2 rfl
      have ht3 := ht.bn b23 hx2
      have hT3 : Tabs (T3 K) (upd H2 x (.ins (He.ga K "Keeper") dx (putF "lots" (.ref t) [("device", .ref d)]))) := tabs_bn hT2 hx2
      have hq3 := hq.bn b3 hx
      generalize upd H2 x (.ins (He.ga K "Keeper") dx (putF "lots" (.ref t) [("device", .ref d)])) = H3 at b3 b23 hx3 hd3 ht3 hT3 hq3
      refine ⟨_, rfl, _, rfl, d, q, p, C, rfl, hd3, hq3, ?_⟩
      rcases h with ⟨hp, k⟩ | ⟨hp, ho⟩
      rotate_left
      · exact .inr ⟨hp, fun dd H4 sm4 nd σ _ => ho dd H4 (b3.trans (BN.same sm4)) (hT3.ext sm4) nd⟩
      · obtain ⟨hp1, hp2⟩ := BK.mem_pairs.mp hp
        refine .inl ⟨hp1, hp2, fun H4 sm4 => ?_⟩
        have hx4 := sm4 _ _ hx3
        have b4 := b3.trans (BN.same (x := x) sm4)
        refine ⟨_, rfl, x, _, dx, _, rfl, hx4, T.cl_Keeper, T.at_Keeper_apart, (by show 2 < 1000; decide), ?_⟩
        have b5 : BN x H (upd H4 x (.ins (He.ga K "Keeper") dx (putF "apart" (.ref q) [("device", .ref d), ("lots", .ref t)]))) := b4.upd
        have b45 : BN x H4 (upd H4 x (.ins (He.ga K "Keeper") dx (putF "apart" (.ref q) [("device", .ref d), ("lots", .ref t)]))) := BN.refl.upd
        have hx5 : upd H4 x (.ins (He.ga K "Keeper") dx (putF "apart" (.ref q) [("device", .ref d), ("lots", .ref t)])) x = some (.ins (He.ga K "Keeper") dx [("device", .ref d), ("lots", .ref t), ("apart", .ref q)]) := upd_same
        have hd5 := (hd3.ext (ext_same sm4)).bn b45 hx4 rfl
        have ht5 := (ht3.ext (ext_same sm4)).bn b45 hx4
        have hT5 : Tabs (T3 K) (upd H4 x (.ins (He.ga K "Keeper") dx (putF "apart" (.ref q) [("device", .ref d), ("lots", .ref t)]))) := tabs_bn (hT3.ext sm4) hx4
        have hq5 := (hq3.same (ext_same sm4)).bn b45 hx4
        generalize upd H4 x (.ins (He.ga K "Keeper") dx (putF "apart" (.ref q) [("device", .ref d), ("lots", .ref t)])) = H5 at b5 b45 hx5 hd5 ht5 hT5 hq5
        refine ⟨_, rfl, _, rfl, x, _, dx, _, _, rfl, hx5, T.cl_Keeper, T.at_Keeper_lots, rfl, d, t, C, rfl, hd5, ht5, hF.ok, Nat.le_trans hF.l31 (by decide), hF.short, hT5, fun wa H6 eX6 hw => ?_⟩
        refine ⟨wa, C, rfl, hw, hF.ok, fun ra H7 sm7 hra => ?_⟩
        have e57 : ExtN H5 H7 := eX6.ext.trans (ext_same sm7)
        have hT7 := eX6.tabs.ext sm7
        have hx7 := e57 _ _ hx5 (fun ps z => by cases z)
        have b7 := b5.trans (BN.ext (x := x) e57)
        refine ⟨_, rfl, x, _, dx, _, rfl, hx7, T.cl_Keeper, T.at_Keeper_ranks, (by show 3 < 1000; decide), ?_⟩
        refine ⟨_, rfl, x, _, dx, _, rfl, upd_same, T.cl_Keeper, T.at_Keeper_since, (by show 4 < 1000; decide), ?_⟩
        refine ⟨_, rfl, x, _, dx, _, rfl, upd_same, T.cl_Keeper, T.at_Keeper_cuts, (by show 5 < 1000; decide), ?_⟩
        have b78 : ∀ {o1 o2 o3 : HO}, BN x H7 (upd (upd (upd H7 x o1) x o2) x o3) := ((BN.refl.upd).upd).upd
        refine k _ (b7.trans b78) ?_ ⟨dx, t, ra, .ref q, upd_same, ⟨q, rfl, (hq5.same e57).bn b78 hx7⟩, (hd5.ext e57).bn b78 hx7 rfl, (ht5.ext e57).bn b78 hx7, RankD.bn hra b78 hx7⟩
        rw [upd_upd, upd_upd]
        exact tabs_bn hT7 hx7
theorem ok_keep_init (T : Tx K mg) (B : Tb K mg base) (Xx : Xs P K mg) : CalM (CX P w) P w K mg base 7 (He.ma K (He.ga K "Keeper") "__init__") (sp_keep_init K) := by
  obtain ⟨fd, F, D⟩ := okp_keep_init (w := w) T B Xx
  exact ⟨fd, _, F, D.bindsN fun _ _ _ _ _ _ us hl => match us, hl with | [_, _, _, _], _ => rfl⟩
end
end BW

set_option Elab.async false
set_option linter.all false
set_option maxRecDepth 100000
set_option maxHeartbeats 1000000
/-! Keeper.hear -/
namespace BW
open PySem PySem.Spec PyProof.Rows L2 SX
open LamX (Tabs ExtN CodeO)
def stepO (C : BK.Cfg) (c : Nat) : Option (Nat × Nat) → Option (Nat × Nat)
  | none => none
  | some p => C.step p c
theorem hear1_eq (C : BK.Cfg) (c : Nat) (o : Option (Nat × Nat)) (hh : List Nat) (n : Nat) : BK.hear1 C (o, hh, n) c = (stepO C c o, if C.full (BK.more hh c) = true then [] else BK.more hh c, if C.full (BK.more hh c) = true then n + 1 else n) := by
  cases o <;> rfl
theorem idx_sig {k j c : Nat} (hk : k ≤ 5) (h : (BK.abc.take k)[j]? = some c) : Builtin.Str.occurrences (S (BK.abc.take k)) (S [c]) 0 (S (BK.abc.take k)).length 1 = [j] := by
  have key : ∀ k ∈ [0, 1, 2, 3, 4, 5], ∀ j ∈ [0, 1, 2, 3, 4], ∀ c ∈ [97, 98, 99, 100, 101], (BK.abc.take k)[j]? = some c → Builtin.Str.occurrences (S (BK.abc.take k)) (S [c]) 0 (S (BK.abc.take k)).length 1 = [j] := by decide +kernel
  have hj : j < 5 := by
    have := (List.getElem?_eq_some_iff.mp h).1
    rw [List.length_take] at this
    have : (BK.abc).length = 5 := rfl
    omega
  have hc : c ∈ BK.abc := List.mem_of_mem_take (List.mem_of_getElem? h)
  exact key k (by simp; omega) j (by simp; omega) c hc h
section
variable {P : Program} {w : World} {K : PySem.W.Frag} {mg : PySem.Str → Option Value} {base : Heap}
def sp_hear (K : PySem.W.Frag) : Sp := fun vs H Q E => ∃ (k d : Addr) (v : V) (C : BK.Cfg) (st : BK.Now), vs = [.ref k, v] ∧ Kp K H k d C st ∧ Fam C ∧ BK.Fit C st ∧
  ((∃ r : List Nat, v = .str (S r) ∧ (∀ c ∈ r, c ∈ C.sig) ∧ r.length ≤ 1000 ∧ ∀ H', But k H H' → Kp K H' k d C (BK.hear C st r) → Q .non H') ∨ ∃ i, BadAt H C v i ∧ Out H (He.ga K "BadRow") "at" (.int i) E)
abbrev NHR : List PySem.Str := ["self", "row", "signal"]
theorem sc_hear : FnScope NHR ["self", "row"] (defScope (inClass (top 41) 1)) := ⟨rfl, rfl, rfl, by decide +kernel, rfl, by decide +kernel, by decide +kernel⟩
theorem okp_hear (T : Tx K mg) (Xx : Xs P K mg) : ∃ fd, FnOk P w K mg base (CX P w) 3 (He.ma K (He.ga K "Keeper") "hear") fd ["self", "row"] (sp_hear K) ∧
    FunD K "hear" "Keeper.hear" (defArgs (inClass (top 41) 1)) (defBody (inClass (top 41) 1)) (defScope (inClass (top 41) 1)) [] [] (He.ma K (He.ga K "Keeper") "hear") fd := by
  refine calp_of T.F_Keeper_hear sc_hear (fun vs H Q E h => ?_) (fun cdv A outer s H vs Q E hr h => ?_)
  · obtain ⟨k, d, v, C, st, rfl, _⟩ := h
    rfl
  · obtain ⟨k, d, v, C, st, rfl, hK, hF, hfit, h⟩ := h
    have tk : Takes (cxOf (CX P w) P w K mg base NHR "Keeper.hear" (defScope (inClass (top 41) 1)) (He.ma K (He.ga K "Keeper") "hear") cdv A outer s H E) (fun cls d _ H => E cls d H) := takes_of rfl rfl rfl rfl
    refine ⟨_, pss_one (ps_for (passes_of rfl) rfl (pi_str (pe_cx (ok_check_row T Xx) tk hr (by rfl) (pa_cons (pe_fld (pv 0) (by rfl)) (pa_cons (pv 1) pa_nil)))) (pg_name (i := 2) sc_hear.nd rfl (Or.inl rfl))
      (C8.pss_cut (ps_if (pt_cmp (pc_notN (pe_fld (pv 0) (by rfl)))) (pss_one (ps_fld (pv 0) (pe_c (ok_next_node T) hr (by rfl) (pa_cons (pe_fld (pv 0) (by rfl)) (pa_cons pe_str (pa_cons (pe_fld (pv 0) (by rfl)) (pa_cons (pe_m1 PySem.F.slot_str_index PySem.F.type_str_index mt_sindex (pe_fld (pe_fld (pv 0) (by rfl)) (by rfl)) (pv 2)) pa_nil))))) (by rfl))) pss_nil)
      (pss_cons (ps_fld (pv 0) (pe_c (ok_joined_lot T) hr (by rfl) (pa_cons (pe_fld (pv 0) (by rfl)) (pa_cons (pv 2) pa_nil))) (by rfl))
      (pss_one (ps_if (pt_val (pe_c (ok_has_full T) hr (by rfl) (pa_cons (pe_fld (pv 0) (by rfl)) (pa_cons (pe_fld (pv 0) (by rfl)) pa_nil)))) (pss_cons (ps_fld (pv 0) pe_str (by rfl)) (pss_one (ps_fldaug (pv 0) pe_int iop_add))) pss_nil))))), ?_⟩
    obtain ⟨dx, la, ra, ap, hk, hap, hd, hl, hra⟩ := id hK
    rcases h with ⟨r, rfl, hr1, hr2, kk⟩ | ⟨i, hb, ho⟩
    rotate_left
    · exact ⟨_, rfl, k, _, dx, _, _, rfl, hk, T.cl_Keeper, T.at_Keeper_device, rfl, _, rfl, d, v, C, rfl, hd, .inr ⟨i, hb, fun dd H1 sm nd σ _ => ho dd H1 sm nd⟩⟩
    · refine ⟨_, rfl, k, _, dx, _, _, rfl, hk, T.cl_Keeper, T.at_Keeper_device, rfl, _, rfl, d, _, C, rfl, hd, .inl ⟨r, rfl, hr1, hr2, fun H1 sm1 => ⟨_, rfl, ?_⟩⟩⟩
      refine for_it (walk_S (z := r)) (fun i σ H' => ∃ x2 : Option V, σ = [some (.ref k), some (.str (S r)), x2] ∧ But k H H' ∧ Kp K H' k d C (BK.hear C st (r.take i)) ∧ BK.Fit C (BK.hear C st (r.take i))) ⟨none, rfl, But.of sm1, hK.ext (ext_same sm1), hfit⟩ (fun _ _ _ _ _ => trivial) ?_ ?_
      · rintro i v σ H2 H3 hi ⟨x2, rfl, b2, hK2, f2⟩ ⟨rfl, c, hc, rfl⟩
        have hcs : c ∈ C.sig := hr1 c (List.mem_of_getElem? hc)
        have e : BK.hear C st (r.take (i + 1)) = BK.hear1 C (BK.hear C st (r.take i)) c := by
          unfold BK.hear
          rw [take_succ hc, List.foldl_append]
          rfl
        have ff : BK.Fit C (BK.hear C st (r.take (i + 1))) := by
          rw [e]
          exact BK.hear1_fit hF.ok hcs f2
        generalize BK.hear C st (r.take i) = st1 at hK2 f2 e
        obtain ⟨o, hh, n⟩ := st1
        clear dx la ra ap hk hap hd hl hra
        obtain ⟨dx, la, ra, ap, hk, hap, hd, hl, hra⟩ := hK2
        refine ⟨fun σ' H' => ∃ ap' : V, σ' = [some (.ref k), some (.str (S r)), some (.str (S [c]))] ∧ But k H H' ∧ H' k = some (.ins (He.ga K "Keeper") dx (Kf d la ra ap' (o, hh, n))) ∧ PairV H' ap' (stepO C c o) ∧ Dev K H' d C ∧ Lots H' la C.lots ∧ RankD H' ra C, ?_, ?_⟩
        · refine ⟨_, rfl, k, _, dx, _, ap, rfl, hk, T.cl_Keeper, T.at_Keeper_apart, rfl, _, rfl, ?_⟩
          cases o with
          | none =>
            have hap : ap = .non := hap
            subst hap
            exact iteF' rfl ⟨.non, rfl, b2, hk, rfl, hd, hl, hra⟩
          | some p =>
            obtain ⟨q, rfl, hq⟩ := hap
            refine iteT' rfl ?_
            obtain ⟨hp1, hp2⟩ := BK.mem_pairs.mp (f2.2 p rfl)
            obtain ⟨j, hj⟩ := List.mem_iff_getElem?.mp hcs
            obtain ⟨hcn, hjt⟩ := sig_at hj
            have k3 := hF.ok.k3
            obtain ⟨dd, fs, tt, e1, e2, e3, e4, e5⟩ := id hd
            refine ⟨_, rfl, k, _, dx, _, _, rfl, hk, T.cl_Keeper, T.at_Keeper_device, rfl, _, rfl, k, _, dx, _, _, rfl, hk, T.cl_Keeper, T.at_Keeper_apart, rfl, _, rfl, k, _, dx, _, _, rfl, hk, T.cl_Keeper, T.at_Keeper_device, rfl, d, _, dd, fs, _, rfl, e1, T.cl_Device, T.at_Device_signals, e3, ⟨_, rfl⟩, _, rfl, _, _, j, [], rfl, rfl, idx_sig (by omega) hj, ?_⟩
            refine ⟨d, q, p, j, C, rfl, hd, hq, hF.ok, Nat.lt_trans hp1 hp2, hp2, hjt, fun H4 v sm4 pv4 => ?_⟩
            rw [← hcn] at pv4
            have hk4 := sm4 _ _ hk
            have b44 : ∀ {o : HO}, BN k H4 (upd H4 k o) := BN.refl.upd
            refine ⟨_, rfl, k, _, dx, _, rfl, hk4, T.cl_Keeper, T.at_Keeper_apart, (by show 6 < 1000; decide), v, rfl, (b2.trans (But.of sm4)).upd, upd_same, pv4.bn b44 hk4, (hd.ext (ext_same sm4)).bn b44 hk4 rfl, (hl.ext (ext_same sm4)).bn b44 hk4, RankD.bn (sm4 _ _ hra) b44 hk4⟩
        · rintro σ' H4 ⟨ap', rfl, b4, hk4, hap4, hd4, hl4, hra4⟩
          obtain ⟨habc, hlen⟩ := hear_abc hF.ok f2.1
          refine ⟨_, rfl, k, _, dx, _, _, rfl, hk4, T.cl_Keeper, T.at_Keeper_since, rfl, _, rfl, hh, c, rfl, habc, sig_abc hcs, hlen, fun H5 sm5 => ?_⟩
          have hk5 := sm5 _ _ hk4
          refine ⟨_, rfl, k, _, dx, _, rfl, hk5, T.cl_Keeper, T.at_Keeper_since, (by show 6 < 1000; decide), ?_⟩
          have b6 : But k H (upd H5 k (.ins (He.ga K "Keeper") dx (putF "since" (.str (S (BK.more hh c))) (Kf d la ra ap' (o, hh, n))))) := (b4.trans (But.of sm5)).upd
          have b56 : BN k H5 (upd H5 k (.ins (He.ga K "Keeper") dx (putF "since" (.str (S (BK.more hh c))) (Kf d la ra ap' (o, hh, n))))) := BN.refl.upd
          have hk6 : upd H5 k (.ins (He.ga K "Keeper") dx (putF "since" (.str (S (BK.more hh c))) (Kf d la ra ap' (o, hh, n)))) k = some (.ins (He.ga K "Keeper") dx (Kf d la ra ap' (o, BK.more hh c, n))) := upd_same
          have hap6 := (hap4.ext (ext_same sm5)).bn b56 hk5
          have hd6 := (hd4.ext (ext_same sm5)).bn b56 hk5 rfl
          have hl6 := (hl4.ext (ext_same sm5)).bn b56 hk5
          have hra6 := RankD.bn (sm5 _ _ hra4) b56 hk5
          generalize upd H5 k (.ins (He.ga K "Keeper") dx (putF "since" (.str (S (BK.more hh c))) (Kf d la ra ap' (o, hh, n)))) = H6 at b6 b56 hk6 hap6 hd6 hl6 hra6
          refine ⟨_, rfl, k, _, dx, _, _, rfl, hk6, T.cl_Keeper, T.at_Keeper_lots, rfl, _, rfl, k, _, dx, _, _, rfl, hk6, T.cl_Keeper, T.at_Keeper_since, rfl, la, C.lots, BK.more hh c, rfl, hl6, Nat.le_trans hF.l31 (by decide), hF.short, fun H7 sm7 => ⟨_, rfl, ?_⟩⟩
          have hk7 := sm7 _ _ hk6
          have b7 := b6.trans (But.of sm7)
          have e67 := ext_same sm7
          cases hfull : C.full (BK.more hh c) with
          | false =>
            refine iteF' hfull ⟨_, rfl, b7, ?_, ff⟩
            rw [e, hear1_eq, hfull]
            exact ⟨dx, la, ra, ap', hk7, hap6.ext e67, hd6.ext e67, hl6.ext e67, sm7 _ _ hra6⟩
          | true =>
            refine iteT' hfull ?_
            refine ⟨_, rfl, k, _, dx, _, rfl, hk7, T.cl_Keeper, T.at_Keeper_since, (by show 6 < 1000; decide), ?_⟩
            refine ⟨_, rfl, k, _, dx, _, _, rfl, upd_same, T.cl_Keeper, T.at_Keeper_cuts, rfl, _, _, rfl, rfl, dx, _, upd_same, (by show 6 < 1000; decide), ?_⟩
            have b78 : ∀ {o1 o2 : HO}, BN k H7 (upd (upd H7 k o1) k o2) := (BN.refl.upd).upd
            refine ⟨_, rfl, (b7.upd).upd, ?_, ff⟩
            rw [e, hear1_eq, hfull]
            exact ⟨dx, la, ra, ap', upd_same, (hap6.ext e67).bn b78 hk7, (hd6.ext e67).bn b78 hk7 rfl, (hl6.ext e67).bn b78 hk7, RankD.bn (sm7 _ _ hra6) b78 hk7⟩
      · rintro σ H2 ⟨x2, rfl, b2, hK2, f2⟩
        rw [List.take_length] at hK2
        exact kk H2 b2 hK2
theorem ok_hear (T : Tx K mg) (Xx : Xs P K mg) : CalM (CX P w) P w K mg base 3 (He.ma K (He.ga K "Keeper") "hear") (sp_hear K) := by
  obtain ⟨fd, F, D⟩ := okp_hear (w := w) T Xx
  exact ⟨fd, _, F, D.bindsN fun _ _ _ _ _ _ us hl => match us, hl with | [_, _], _ => rfl⟩
end
end BW

set_option Elab.async false
set_option linter.all false
set_option maxRecDepth 100000
set_option maxHeartbeats 1000000
/-! Keeper.standing, more_rounds, next_row -/
namespace BW
open PySem PySem.Spec PyProof.Rows L2 SX
open LamX (Tabs ExtN CodeO)
section
variable {P : Program} {w : World} {K : PySem.W.Frag} {mg : PySem.Str → Option Value} {base : Heap}
/-- a standing, as a tuple -/
def NowT (H : Hp) (t : Addr) (st : BK.Now) : Prop := ∃ ap, H t = some (.tup [ap, .str (S st.2.1), .int (st.2.2 : Int)]) ∧ PairV H ap st.1
theorem NowT.ext {H H' : Hp} {t : Addr} {st : BK.Now} (x : NowT H t st) (e : ExtN H H') : NowT H' t st := by
  obtain ⟨ap, h1, h2⟩ := x
  exact ⟨ap, e _ _ h1 (fun ps z => by cases z), h2.ext e⟩
def sp_standing (K : PySem.W.Frag) : Sp := fun vs H Q _ => ∃ (k d : Addr) (C : BK.Cfg) (st : BK.Now), vs = [.ref k] ∧ Kp K H k d C st ∧ ∀ t H', Same H H' → NowT H' t st → Q (.ref t) H'
theorem sc_standing : FnScope ["self"] ["self"] (defScope (inClass (top 41) 2)) := ⟨rfl, rfl, rfl, by decide +kernel, rfl, by decide +kernel, by decide +kernel⟩
theorem ok_standing (T : Tx K mg) : CalM CX0 P w K mg base 1 (He.ma K (He.ga K "Keeper") "standing") (sp_standing K) := by
  refine calm_of0 T.F_Keeper_standing (fun _ _ _ _ _ _ us hl => match us, hl with | [_], _ => rfl) sc_standing (fun vs H Q E h => ?_) (fun cdv A outer s H vs Q E hr h => ?_)
  · obtain ⟨k, d, C, st, rfl, _⟩ := h
    rfl
  · obtain ⟨k, d, C, st, rfl, hK, kk⟩ := h
    refine ⟨_, pss_one (ps_ret (pe_tup (pa_cons (pe_fld (pv 0) (by rfl)) (pa_cons (pe_fld (pv 0) (by rfl)) (pa_cons (pe_fld (pv 0) (by rfl)) pa_nil))))), ?_⟩
    obtain ⟨dx, la, ra, ap, hk, hap, hd, hl, hra⟩ := id hK
    refine ⟨_, rfl, k, _, dx, _, _, rfl, hk, T.cl_Keeper, T.at_Keeper_apart, rfl, _, rfl, k, _, dx, _, _, rfl, hk, T.cl_Keeper, T.at_Keeper_since, rfl, _, rfl, k, _, dx, _, _, rfl, hk, T.cl_Keeper, T.at_Keeper_cuts, rfl, by show 3 ≤ sizeLine; decide, fun t nt => ?_⟩
    exact kk t _ (same_new nt) ⟨ap, upd_same, hap.ext (ext_same (same_new nt))⟩
theorem pairs_keysF {H : Hp} : ∀ {F : List (BK.Pair × BK.Row)} {bs : List Addr}, IsKeys H (FD F) bs → PairsAt H bs (F.map (·.1))
  | [], bs, h => by
    cases h
    exact PairsAt.nil
  | p :: l, bs, h => by
    cases h with
    | cons h1 h2 =>
      obtain ⟨a1, a2⟩ := pairs_keysF h2
      refine ⟨by rw [List.map_cons, List.length_cons, List.length_cons, a1], fun i q hq => ?_⟩
      cases i with
      | zero => cases hq; exact ⟨_, rfl, h1⟩
      | succ i => exact a2 i q hq
theorem rv_non (r : Option Nat) : decide (rv r = V.non) = r.isNone := by
  cases r with
  | none => rfl
  | some n => exact decide_eq_false (fun z => by cases z)
/-- what more_rounds tells -/
def mv : Option Int → V
  | none => .non
  | some i => .int i
theorem maxL_eq {l : List Nat} {m : Int} (h1 : m ∈ l.map fun x : Nat => (x : Int)) (h2 : ∀ y ∈ l.map fun x : Nat => (x : Int), y ≤ m) : m = (BK.maxL l : Int) := by
  obtain ⟨x, hx, rfl⟩ := List.mem_map.mp h1
  obtain ⟨_, h3, h4⟩ := BK.foldl_max l 0
  have h5 := h3 x hx
  show (x : Int) = ((l.foldl max 0 : Nat) : Int)
  rcases h4 with h4 | h4
  · omega
  · have := h2 _ (List.mem_map.mpr ⟨_, h4, rfl⟩)
    omega
def sp_more_rounds (K : PySem.W.Frag) : Sp := fun vs H Q _ => ∃ (k d : Addr) (C : BK.Cfg) (st : BK.Now), vs = [.ref k] ∧ Kp K H k d C st ∧ Fam C ∧ BK.Fit C st ∧ Tabs (T3 K) H ∧ ∀ H', Ex (T3 K) H H' → Q (mv (BK.moreI C st)) H'
abbrev NMR : List PySem.Str := ["self", "later", "pair", "rank"]
theorem sc_more_rounds : FnScope NMR ["self"] (defScope (inClass (top 41) 3)) := ⟨rfl, rfl, rfl, by decide +kernel, rfl, by decide +kernel, by decide +kernel⟩
theorem ok_more_rounds (T : Tx K mg) (B : Tb K mg base) : CalM CX0 P w K mg base 6 (He.ma K (He.ga K "Keeper") "more_rounds") (sp_more_rounds K) := by
  refine calm_of0 T.F_Keeper_more_rounds (fun _ _ _ _ _ _ us hl => match us, hl with | [_], _ => rfl) sc_more_rounds (fun vs H Q E h => ?_) (fun cdv A outer s H vs Q E hr h => ?_)
  · obtain ⟨k, d, C, st, rfl, _⟩ := h
    rfl
  · obtain ⟨k, d, C, st, rfl, hK, hF, hfit, hT, kk⟩ := h
    have hu := hr.units
    have hu1 : (A.deeper (envOfC "Keeper.more_rounds" (defScope (inClass (top 41) 3)) s.heap.objs.size (He.ma K (He.ga K "Keeper") "more_rounds") cdv)).units + 1 < cLine := by omega
    refine ⟨_, pss_cons (ps_if (pt_cmp (pc_isN (pe_fld (pv 0) (by rfl)))) (pss_one (ps_ret (pe_un un_neg pe_int))) pss_nil)
      (pss_cons (ps_setLc (i := 1) (own := [("pair", 2)]) (g := gName 2) (by rfl) sc_more_rounds.nd rfl rfl (by rfl) (pi_list (pe_callTy (call_list_dT rfl) (by rfl) T.n_list (by decide +kernel) (pa_cons (pe_c (ok_pair_rows T B) hr (by rfl) (pa_cons (pe_fld (pv 0) (by rfl)) (pa_cons (pe_fld (pv 0) (by rfl)) (pa_cons (pe_fld (pv 0) (by rfl)) (pa_cons (pe_fld (pv 0) (by rfl)) pa_nil))))) pa_nil)))
          (blkOk_by (N := NMR) (sc := defScope (inClass (top 41) 3)) (by decide +kernel)) (fun _ _ _ _ _ => pg_name (i := 2) sc_more_rounds.nd rfl (Or.inl rfl)) (fun _ _ _ _ _ => pts_nil) (fun _ _ _ _ _ => pe_dget hu1 (show PE _ _ (tFld K (tVar 0) "ranks") from pe_fld (pv 0) (by rfl)) (pv 2) (fun _ _ => rfl)))
      (pss_cons (ps_if (pt_val (pe_callB (cr_any rfl) (by rfl) T.n_any (by decide +kernel) (pa_cons (pe_lc (own := [("rank", 3)]) (g := gName 3) (by rfl) sc_more_rounds.nd (pi_list (pv 1)) (blkOk_by (N := NMR) (sc := defScope (inClass (top 41) 3)) (by decide +kernel)) (fun _ _ _ _ _ => pg_name (i := 3) sc_more_rounds.nd rfl (Or.inl rfl)) (fun _ _ _ _ _ => pts_nil) (fun _ _ _ _ _ => pe_cmp (pc_isN (pv 3)))) pa_nil))) (pss_one (ps_ret pe_non)) pss_nil)
      (pss_one (ps_ret (pe_callBK (ck_maxdf rfl) (by rfl) T.n_max (by decide +kernel) (pa_cons (pe_lc (own := [("rank", 3)]) (g := gName 3) (by rfl) sc_more_rounds.nd (pi_list (pv 1)) (blkOk_by (N := NMR) (sc := defScope (inClass (top 41) 3)) (by decide +kernel)) (fun _ _ _ _ _ => pg_name (i := 3) sc_more_rounds.nd rfl (Or.inl rfl)) (fun _ _ _ _ _ => pts_nil) (fun _ _ _ _ _ => pe_op op_add (pv 3) pe_int)) pa_nil) (pk_cons pe_int pk_nil)))))), ?_⟩
    obtain ⟨dx, la, ra, ap, hk, hap, hd, hl, hra⟩ := id hK
    obtain ⟨o, h, n⟩ := st
    refine ⟨_, rfl, k, _, dx, _, _, rfl, hk, T.cl_Keeper, T.at_Keeper_apart, rfl, _, rfl, ?_⟩
    cases o with
    | none =>
      have hap : ap = .non := hap
      subst hap
      exact iteT' rfl ⟨1, rfl, kk H (Ex.refl hT)⟩
    | some p =>
      obtain ⟨q, rfl, hq⟩ := hap
      have hp := hfit.2 p rfl
      have hn : (p, h) ∈ C.nodes := BK.mem_nodes.mpr ⟨hp, hfit.1⟩
      have hfl := found_len hF.ok hn
      refine iteF' rfl ?_
      refine ⟨_, rfl, k, _, dx, _, _, rfl, hk, T.cl_Keeper, T.at_Keeper_device, rfl, _, rfl, k, _, dx, _, _, rfl, hk, T.cl_Keeper, T.at_Keeper_lots, rfl, _, rfl, k, _, dx, _, _, rfl, hk, T.cl_Keeper, T.at_Keeper_apart, rfl, _, rfl, k, _, dx, _, _, rfl, hk, T.cl_Keeper, T.at_Keeper_since, rfl, ?_⟩
      refine ⟨d, la, q, p, h, C, rfl, hd, hl, hF.ok, Nat.le_trans hF.l31 (by decide), hF.short, hq, hn, hT, fun fd H1 eX1 hfd _ => ?_⟩
      refine ⟨fd, _, rfl, .inl hfd, fun l bs nl hbs => ?_⟩
      have sm2 : Same H1 (upd H1 l (.lst (bs.map V.ref))) := same_new nl
      have hbs2 := (pairs_keysF hbs).ext (ext_same sm2)
      have hl2 : upd H1 l (.lst (bs.map V.ref)) l = some (.lst (bs.map V.ref)) := upd_same
      have e2 : ExtN H (upd H1 l (.lst (bs.map V.ref))) := eX1.ext.trans (ext_same sm2)
      have T2 := eX1.tabs.ext sm2
      generalize upd H1 l (.lst (bs.map V.ref)) = H2 at sm2 hbs2 hl2 e2 T2
      have hk2 := e2 _ _ hk (fun ps z => by cases z)
      have hra2 := e2 _ _ hra (fun ps z => by cases z)
      have hbl : (bs.map V.ref).length = (BK.found C p h).length := by rw [List.length_map, hbs2.1, List.length_map]
      refine ⟨l, rfl, ⟨_, SqL.of hl2⟩, fun D nD => ?_⟩
      refine lc_it (n := (bs.map V.ref).length) (walk_list (K := K) (a := l) (xs := bs.map V.ref)) (fun i H' => Same H2 H' ∧ H' D = some (.lst (((BK.found C p h).take i).map fun x => rv (BK.rank C x.1)))) ⟨same_new nD, by rw [upd_same]; rfl⟩ (fun i H' _ q => SqL.of (q.1 _ _ hl2)) ?_ ?_
      · rintro i v H3 H4 hi ⟨sm3, hD⟩ ⟨rfl, hv⟩
        rw [hbl] at hi
        have hx0 : (BK.found C p h)[i]? = some (BK.found C p h)[i] := List.getElem?_eq_getElem hi
        generalize (BK.found C p h)[i] = x at hx0
        obtain ⟨b, hb1, hb2⟩ := hbs2.2 i x.1 (by rw [List.getElem?_map, hx0]; rfl)
        rw [List.getElem?_map, hb1] at hv
        obtain rfl := Option.some.inj hv
        have hxp := (BK.found_sound hF.ok hn (List.mem_of_getElem? hx0)).2.1
        refine ⟨rfl, tYes_in ?_⟩
        refine ⟨_, rfl, k, _, dx, _, _, rfl, sm3 _ _ hk2, T.cl_Keeper, T.at_Keeper_ranks, rfl, _, rfl, ra, _, rfl, (tab_get (pairs_nodup hF.ok.n2 hF.ok.n5) (fun p => rv (BK.rank C p)) hxp) ▸ DGet.t (k := kp x.1) (sm3 _ _ hra2) (pair_tup (hb2.same (ext_same sm3))), _, hD, by rw [List.length_map, List.length_take, sizeLine_eq]; omega, fun b o e => ?_, ?_⟩
        · rw [upd_ne (ne_of_none e nD)]
          exact sm3 b o e
        · rw [upd_same, take_succ hx0, List.map_append]
          rfl
      · rintro H3 ⟨sm3, hD⟩
        rw [hbl, List.take_length] at hD
        have hDl : ((BK.found C p h).map fun x => rv (BK.rank C x.1)).length = (BK.found C p h).length := List.length_map _
        refine ⟨_, rfl, D, rfl, ⟨_, SqL.of hD⟩, fun D2 nD2 => ?_⟩
        refine lc_it (n := ((BK.found C p h).map fun x => rv (BK.rank C x.1)).length) (walk_list (K := K) (a := D)) (fun i H' => Same H3 H' ∧ H' D2 = some (.lst (((BK.found C p h).take i).map fun x => V.bl (BK.rank C x.1).isNone))) ⟨same_new nD2, by rw [upd_same]; rfl⟩ (fun i H' _ q => SqL.of (q.1 _ _ hD)) ?_ ?_
        · rintro i v H4 H5 hi ⟨sm4, hD2⟩ ⟨rfl, hv⟩
          rw [hDl] at hi
          have hx0 : (BK.found C p h)[i]? = some (BK.found C p h)[i] := List.getElem?_eq_getElem hi
          generalize (BK.found C p h)[i] = x at hx0
          rw [List.getElem?_map, hx0] at hv
          obtain rfl := Option.some.inj hv
          refine ⟨rfl, tYes_in ?_⟩
          refine ⟨_, rfl, _, hD2, by rw [List.length_map, List.length_take, sizeLine_eq]; omega, fun b o e => ?_, ?_⟩
          · rw [upd_ne (ne_of_none e nD2)]
            exact sm4 b o e
          · rw [upd_same, take_succ hx0, List.map_append, rv_non]
            rfl
        · rintro H4 ⟨sm4, hD2⟩
          rw [hDl, List.take_length] at hD2
          refine ⟨D2, (BK.found C p h).map fun x => (BK.rank C x.1).isNone, rfl, SqL.of (by rw [hD2, List.map_map]; rfl), _, rfl, ?_⟩
          have eb : (((BK.found C p h).map fun x => (BK.rank C x.1).isNone).any id) = (BK.later C p h).any (·.isNone) := by
            unfold BK.later
            rw [List.any_map, List.any_map]
            rfl
          rw [eb]
          have eX4 : Ex (T3 K) H H4 := ⟨e2.trans (ext_same (same_trans sm3 sm4)), T2.ext (same_trans sm3 sm4)⟩
          cases hany : (BK.later C p h).any (·.isNone) with
          | true =>
            refine iteT' rfl ?_
            have := kk H4 eX4
            have em : BK.moreI C (some p, h, n) = none := by
              show (BK.due C p h).map (fun m => (m : Int)) = none
              unfold BK.due
              rw [if_pos hany]
              rfl
            rw [em] at this
            exact this
          | false =>
            refine iteF' rfl ?_
            have em : BK.moreI C (some p, h, n) = some (BK.maxL ((BK.later C p h).map fun r => r.getD 0 + 1) : Int) := by
              show (BK.due C p h).map (fun m => (m : Int)) = _
              unfold BK.due
              rw [if_neg (by rw [hany]; decide)]
              rfl
            have hD4 := sm4 _ _ hD
            have hall : ∀ x ∈ BK.found C p h, ∃ r, BK.rank C x.1 = some r := fun x hx => by
              cases e : BK.rank C x.1 with
              | some r => exact ⟨r, rfl⟩
              | none =>
                have : (BK.later C p h).any (·.isNone) = true := List.any_eq_true.mpr ⟨none, List.mem_map.mpr ⟨x, hx, e⟩, rfl⟩
                rw [hany] at this
                cases this
            refine ⟨_, rfl, D, rfl, ⟨_, SqL.of hD4⟩, fun D3 nD3 => ?_⟩
            refine lc_it (n := ((BK.found C p h).map fun x => rv (BK.rank C x.1)).length) (walk_list (K := K) (a := D)) (fun i H' => Same H4 H' ∧ H' D3 = some (.lst (((BK.found C p h).take i).map fun x => V.int (((BK.rank C x.1).getD 0 + 1 : Nat) : Int)))) ⟨same_new nD3, by rw [upd_same]; rfl⟩ (fun i H' _ q => SqL.of (q.1 _ _ hD4)) ?_ ?_
            · rintro i v H5 H6 hi ⟨sm5, hD3⟩ ⟨rfl, hv⟩
              rw [hDl] at hi
              have hx0 : (BK.found C p h)[i]? = some (BK.found C p h)[i] := List.getElem?_eq_getElem hi
              generalize (BK.found C p h)[i] = x at hx0
              rw [List.getElem?_map, hx0] at hv
              obtain rfl := Option.some.inj hv
              obtain ⟨r, hr⟩ := hall x (List.mem_of_getElem? hx0)
              refine ⟨rfl, tYes_in ?_⟩
              refine ⟨_, rfl, (r : Int), _, by show rv (BK.rank C x.1) = _; rw [hr]; rfl, rfl, _, hD3, by rw [List.length_map, List.length_take, sizeLine_eq]; omega, fun b o e => ?_, ?_⟩
              · rw [upd_ne (ne_of_none e nD3)]
                exact sm5 b o e
              · rw [upd_same, take_succ hx0, List.map_append]
                show _ = some (HO.lst (_ ++ [V.int (((BK.rank C x.1).getD 0 + 1 : Nat) : Int)]))
                rw [hr]
                rfl
            · rintro H5 ⟨sm5, hD3⟩
              rw [hDl, List.take_length] at hD3
              have eX5 := eX4.trans (Ex.same eX4.tabs sm5)
              have fin := kk H5 eX5
              rw [em] at fin
              refine ⟨D3, ((BK.later C p h).map fun r => r.getD 0 + 1).map fun x : Nat => (x : Int), 0, rfl, rfl, SqL.of ?_, fun e => ?_, fun m hm hle => ?_⟩
              · rw [hD3]
                unfold BK.later
                rw [List.map_map, List.map_map, List.map_map]
                rfl
              · have e2 : (BK.later C p h).map (fun r => r.getD 0 + 1) = [] := List.map_eq_nil_iff.mp e
                rw [e2] at fin
                exact fin
              · rw [maxL_eq hm hle]
                exact fin
end
end BW

set_option Elab.async false
set_option linter.all false
set_option maxRecDepth 100000
set_option maxHeartbeats 1000000
/-! Keeper.next_row -/
namespace BW
open PySem PySem.Spec PyProof.Rows L2 SX
open LamX (Tabs ExtN CodeO)
section
variable {X : Cx} {k j : Nat} {f C : Addr} {m : Str} {sp : Sp} {o : Expr} {ta : TE} {apos pos : Pos}
/-- o.m() of an own class -/
theorem pe_mc0 {pl : Sem Bool} (c : CalM CX0 X.prog X.w X.K X.mg X.base k f sp) (cl : Cls X.K C) (hm : Meth X.K C m f) (hr : Room j X.A) (he : PE X o ta) (hk : k ≤ j := by decide)
    (ht : eval (.Call (.Attribute o m apos) [] [] pos) X.env = (do
      let ov ← eval o X.env
      standAt apos.atName
      let (f, first) ← holding [ov] (getMethod ov m pl)
      callWith pos f first (backTo pos (starEach [] X.env)) (backToKw pos (keywordEach [] X.env))) := by rfl) : PE X (.Call (.Attribute o m apos) [] [] pos) (tMeth C m sp [] E0 ta tNil) := by
  obtain ⟨fd, ps, F, b⟩ := c.ex
  exact pe_meth0 he cl hm F (hr.mono hk) b .nil pass0 ht
end
section
variable {P : Program} {w : World} {K : PySem.W.Frag} {mg : PySem.Str → Option Value} {base : Heap}
theorem wanted_eq (d r : Option Nat) : decide (rv r = (match d with | none => V.non | some m => V.int ((m : Int) - 1))) = BK.wanted d r := by
  cases d with
  | none =>
    cases r with
    | none => exact decide_eq_true rfl
    | some r => exact decide_eq_false (fun z => by cases z)
  | some m =>
    cases r with
    | none => exact decide_eq_false (fun z => by cases z)
    | some r =>
      show decide (V.int (r : Int) = V.int ((m : Int) - 1)) = decide (r + 1 = m)
      rw [Bool.eq_iff_iff, decide_eq_true_eq, decide_eq_true_eq]
      constructor
      · intro h
        have := V.int.inj h
        omega
      · intro h
        congr 1
        omega
theorem fd_get {F : List (BK.Pair × BK.Row)} {x : BK.Pair × BK.Row} (nd : (F.map (·.1)).Nodup) (h : x ∈ F) : valV (FD F) (kp x.1) = some (.str (S x.2)) := by
  unfold FD
  rw [valV_pairs (fun x : BK.Pair × BK.Row => V.str (S x.2)) (fun x => x.1), find_nodup (fun x : BK.Pair × BK.Row => x.1) nd h]
  rfl
def wantV : Option Nat → V
  | none => .non
  | some m => .int ((m : Int) - 1)
theorem wanted_v (d r : Option Nat) : decide (rv r = wantV d) = BK.wanted d r := by
  rw [← wanted_eq]
  cases d <;> rfl
theorem scal_w (d r : Option Nat) : scal (rv r) (wantV d) = true := by
  cases d <;> cases r <;> rfl
def sp_next_row (K : PySem.W.Frag) : Sp := fun vs H Q _ => ∃ (k d : Addr) (C : BK.Cfg) (st : BK.Now), vs = [.ref k] ∧ Kp K H k d C st ∧ Fam C ∧ BK.Fit C st ∧ Tabs (T3 K) H ∧ ∀ H', Ex (T3 K) H H' → Q (toldV (BK.toldI C st)) H'
abbrev NNR : List PySem.Str := ["self", "rows", "more", "wanted", "pair"]
theorem sc_next_row : FnScope NNR ["self"] (defScope (inClass (top 41) 4)) := ⟨rfl, rfl, rfl, by decide +kernel, rfl, by decide +kernel, by decide +kernel⟩
theorem ok_next_row (T : Tx K mg) (B : Tb K mg base) : CalM CX0 P w K mg base 7 (He.ma K (He.ga K "Keeper") "next_row") (sp_next_row K) := by
  refine calm_of0 T.F_Keeper_next_row (fun _ _ _ _ _ _ us hl => match us, hl with | [_], _ => rfl) sc_next_row (fun vs H Q E h => ?_) (fun cdv A outer s H vs Q E hr h => ?_)
  · obtain ⟨k, d, C, st, rfl, _⟩ := h
    rfl
  · obtain ⟨k, d, C, st, rfl, hK, hF, hfit, hT, kk⟩ := h
    have hu := hr.units
    have hu1 : (A.deeper (envOfC "Keeper.next_row" (defScope (inClass (top 41) 4)) s.heap.objs.size (He.ma K (He.ga K "Keeper") "next_row") cdv)).units + 1 < cLine := by omega
    refine ⟨_, pss_cons (ps_if (pt_cmp (pc_isN (pe_fld (pv 0) (by rfl)))) (pss_one (ps_ret pe_non)) pss_nil)
      (pss_cons (ps_set (i := 1) sc_next_row.nd rfl (Or.inr rfl) (pe_c (ok_pair_rows T B) hr (by rfl) (pa_cons (pe_fld (pv 0) (by rfl)) (pa_cons (pe_fld (pv 0) (by rfl)) (pa_cons (pe_fld (pv 0) (by rfl)) (pa_cons (pe_fld (pv 0) (by rfl)) pa_nil))))))
      (pss_cons (ps_set (i := 2) sc_next_row.nd rfl (Or.inl rfl) (pe_mc0 (ok_more_rounds T B) T.cl_Keeper T.me_more_rounds hr (pv 0)))
      (C8.pss_cut (ps_set (i := 3) sc_next_row.nd rfl (Or.inr rfl) (pe_ifExp (pt_cmp (pc_isN (pv 2))) pe_non (pe_op op_sub (pv 2) pe_int)))
      (pss_one (ps_ret (pe_c (ok_first_of T B) hr (by rfl) (pa_cons (pe_lock (pe_lc (own := [("pair", 4)]) (g := gName 4) (by rfl) sc_next_row.nd (pi_keys (pv 1)) (blkOk_by (N := NNR) (sc := defScope (inClass (top 41) 4)) (by decide +kernel)) (fun _ _ _ _ _ => pg_name (i := 4) sc_next_row.nd rfl (Or.inl rfl))
          (fun _ _ _ _ _ => pts_one (pt_cmpR op_eq (pe_dget hu1 (show PE _ _ (tFld K (tVar 0) "ranks") from pe_fld (pv 0) (by rfl)) (pv 4) (fun _ _ => rfl)) (pv 3) (nomark _))) (fun _ _ _ _ _ => pe_dget hu1 (pv 1) (pv 4) (fun _ _ => rfl)))) pa_nil))))))), ?_⟩
    obtain ⟨dx, la, ra, ap, hk, hap, hd, hl, hra⟩ := id hK
    obtain ⟨o, h, n⟩ := st
    refine ⟨_, rfl, k, _, dx, _, _, rfl, hk, T.cl_Keeper, T.at_Keeper_apart, rfl, _, rfl, ?_⟩
    cases o with
    | none =>
      have hap : ap = .non := hap
      subst hap
      exact iteT' rfl (kk H (Ex.refl hT))
    | some p =>
      obtain ⟨q, rfl, hq⟩ := hap
      have hp := hfit.2 p rfl
      have hn : (p, h) ∈ C.nodes := BK.mem_nodes.mpr ⟨hp, hfit.1⟩
      have hfl := found_len hF.ok hn
      refine iteF' rfl ?_
      refine ⟨_, rfl, k, _, dx, _, _, rfl, hk, T.cl_Keeper, T.at_Keeper_device, rfl, _, rfl, k, _, dx, _, _, rfl, hk, T.cl_Keeper, T.at_Keeper_lots, rfl, _, rfl, k, _, dx, _, _, rfl, hk, T.cl_Keeper, T.at_Keeper_apart, rfl, _, rfl, k, _, dx, _, _, rfl, hk, T.cl_Keeper, T.at_Keeper_since, rfl, ?_⟩
      refine ⟨d, la, q, p, h, C, rfl, hd, hl, hF.ok, Nat.le_trans hF.l31 (by decide), hF.short, hq, hn, hT, fun fd H1 eX1 hfd _ => ?_⟩
      have hK1 := hK.ext eX1.ext
      refine ⟨_, rfl, k, dx, _, rfl, eX1.ext _ _ hk (fun ps z => by cases z), rfl, k, d, C, (some p, h, n), rfl, hK1, hF, hfit, eX1.tabs, fun H2 eX2 => ?_⟩
      have eX12 := eX1.trans eX2
      have hfd2 := eX2.ext _ _ hfd (fun ps z => by cases z)
      have hk2 := eX12.ext _ _ hk (fun ps z => by cases z)
      have hra2 := eX12.ext _ _ hra (fun ps z => by cases z)
      refine ⟨fun σ' H' => σ' = [some (.ref k), some (.ref fd), some (mv (BK.moreI C (some p, h, n))), some (wantV (BK.due C p h)), none] ∧ H' = H2, ?_, ?_⟩
      · refine ⟨_, rfl, _, rfl, ?_⟩
        have em : BK.moreI C (some p, h, n) = (BK.due C p h).map fun m => (m : Int) := rfl
        rw [em]
        cases BK.due C p h with
        | none => exact iteT' rfl ⟨rfl, rfl⟩
        | some m => exact iteF' rfl ⟨_, rfl, _, _, rfl, rfl, rfl, rfl⟩
      · rintro σ' H' ⟨rfl, rfl⟩
        refine ⟨fd, _, hfd2, trivial, fun od => ?_⟩
        refine ⟨_, rfl, fd, od, rfl, .inr ⟨_, upd_same, fun D nD => ?_⟩⟩
        have nDf : D ≠ fd := fun z => by rw [z, upd_same] at nD; cases nD
        have nD2 : H' D = none := by rw [upd_ne nDf] at nD; exact nD
        have hnk : k ≠ fd := ne_of hk2 hfd2 (fun z => by cases z)
        have hfl2 : (FD (BK.found C p h)).length = (BK.found C p h).length := List.length_map _
        have nrf : ra ≠ fd := fun z => by
          rw [z, hfd2] at hra2
          have h2 := HO.dT.inj (Option.some.inj hra2)
          unfold FD at h2
          cases hx : BK.pairs C.n with
          | nil => rw [hx] at hp; cases hp
          | cons x l =>
            rw [hx] at h2
            cases hy : BK.found C p h with
            | nil => rw [hy] at h2; cases h2
            | cons y m =>
              rw [hy, List.map_cons, List.map_cons] at h2
              have h4 := congrArg Prod.snd (List.cons.inj h2).1
              cases hr : BK.rank C x with
              | none => rw [hr] at h4; cases h4
              | some r => rw [hr] at h4; cases h4
        refine lc_it (n := (BK.found C p h).length) (hfl2 ▸ walk_keysT) (fun i H3 => Same (upd H' fd (.frz od (.dT (FD (BK.found C p h))))) H3 ∧ H3 D = some (.lst ((((BK.found C p h).take i).filter fun x => BK.wanted (BK.due C p h) (BK.rank C x.1)).map fun x => V.str (S x.2)))) ⟨same_new nD, by rw [upd_same]; rfl⟩ (fun i H' _ q => q.1 _ _ upd_same) ?_ ?_
        · rintro i v H3 H4 hi ⟨sm3, hD⟩ ⟨rfl, kx, vx, q2, hkv, rfl, hq2⟩
          have hx0 : (BK.found C p h)[i]? = some (BK.found C p h)[i] := List.getElem?_eq_getElem hi
          generalize (BK.found C p h)[i] = x at hx0
          unfold FD at hkv
          rw [List.getElem?_map, hx0] at hkv
          obtain ⟨rfl, rfl⟩ := Prod.mk.inj (Option.some.inj hkv).symm
          have hxm := List.mem_of_getElem? hx0
          have hxp := (BK.found_sound hF.ok hn hxm).2.1
          have hkz := sm3 _ _ (by rw [upd_ne hnk]; exact hk2)
          have hraz : RankD H4 ra C := sm3 _ _ (by rw [upd_ne nrf]; exact hra2)
          refine ⟨rfl, ?_⟩
          refine ⟨_, rfl, k, _, dx, _, _, rfl, hkz, T.cl_Keeper, T.at_Keeper_ranks, rfl, _, rfl, ra, _, rfl, (tab_get (pairs_nodup hF.ok.n2 hF.ok.n5) (fun p => rv (BK.rank C p)) hxp) ▸ DGet.t (k := kp x.1) hraz hq2, _, rfl, scal_w _ _, _, rfl, ?_⟩
          rw [wanted_v]
          have hlen : ((((BK.found C p h).take i).filter fun x => BK.wanted (BK.due C p h) (BK.rank C x.1)).map fun x => V.str (S x.2)).length ≤ 10 := by
            rw [List.length_map]
            refine Nat.le_trans (List.length_filter_le _ _) (Nat.le_trans (List.length_take_le' _ _) hfl)
          cases hw : BK.wanted (BK.due C p h) (BK.rank C x.1) with
          | false =>
            refine iteF' rfl ⟨sm3, ?_⟩
            rw [take_succ hx0, List.filter_append, List.filter_cons, if_neg (by rw [hw]; decide), List.filter_nil, List.append_nil]
            exact hD
          | true =>
            refine iteT' rfl ⟨_, rfl, _, rfl, fd, _, rfl, .inr ⟨_, kp x.1, q2, .inr ⟨od, sm3 _ _ upd_same⟩, rfl, hq2, (fd_get (BK.found_nodup hF.ok hn) hxm).symm⟩, _, hD, by rw [sizeLine_eq]; omega, fun b o e => ?_, ?_⟩
            · rw [upd_ne (ne_of_none e nD)]
              exact sm3 b o e
            · rw [upd_same, take_succ hx0, List.filter_append, List.filter_cons, if_pos hw, List.filter_nil, List.map_append]
              rfl
        · rintro H3 ⟨sm3, hD⟩
          rw [List.take_length] at hD
          refine ⟨sm3 _ _ upd_same, ?_⟩
          have sm6 := lock_same hfd2 sm3
          have hD6 : upd H3 fd (.dT (FD (BK.found C p h))) D = some (.lst (((BK.found C p h).filter fun x => BK.wanted (BK.due C p h) (BK.rank C x.1)).map fun x => V.str (S x.2))) := by rw [upd_ne nDf]; exact hD
          generalize upd H3 fd (.dT (FD (BK.found C p h))) = H6 at sm6 hD6
          have eX6 := eX12.trans (Ex.same eX12.tabs sm6)
          refine ⟨D, BK.kept C p h, rfl, ?_, fun r hr => ?_, eX6.tabs, fun H7 eX7 => kk H7 (eX6.trans eX7)⟩
          · show H6 D = _
            rw [hD6]
            unfold BK.kept
            rw [List.map_map]
            rfl
          · obtain ⟨x, hx, rfl⟩ := List.mem_map.mp hr
            have := (BK.found_sound hF.ok hn (List.mem_filter.mp hx).1).2.2
            omega
end
end BW

set_option Elab.async false
set_option linter.all false
set_option maxRecDepth 100000
set_option maxHeartbeats 1000000
/-! _law_box, _law_take, _law_pick -/
namespace BW
open PySem PySem.Spec PyProof.Rows L2 SX
open LamX (Tabs ExtN CodeO)
section
variable {P : Program} {w : World} {K : PySem.W.Frag} {mg : PySem.Str → Option Value} {base : Heap}
def Scr (K : PySem.W.Frag) (H : Hp) (a : Addr) (ns : List Int) : Prop := SqL K H a (ns.map V.int)
theorem sql_ext {H H' : Hp} {a : Addr} {xs : List V} (x : SqL K H a xs) (e : ExtN H H') : SqL K H' a xs := by
  rcases x with (h | ⟨o, h⟩) | h
  · exact .inl (.inl (e _ _ h (fun ps z => by cases z)))
  · exact .inl (.inr ⟨o, e _ _ h (fun ps z => by cases z)⟩)
  · exact .inr h
def BoxL (H : Hp) (b : Addr) : Prop := ∃ x y : Int, H b = some (.lst [.int x, .int y])
theorem BoxL.ext {H H' : Hp} {b : Addr} (x : BoxL H b) (e : ExtN H H') : BoxL H' b := by
  obtain ⟨i, j, h⟩ := x
  exact ⟨i, j, e _ _ h (fun ps z => by cases z)⟩
def sp_box (K : PySem.W.Frag) : Sp := fun vs H Q _ => ∃ (sa : Addr) (ns : List Int) (k : Nat), vs = [.ref sa, .int k] ∧ Scr K H sa ns ∧ ∀ b H', Same H H' → H b = none → BoxL H' b → Q (.ref b) H'
abbrev NBX : List PySem.Str := ["_law_script", "_law_k", "_law_cell", "_law_great"]
theorem sc_box : FnScope NBX ["_law_script", "_law_k"] (defScope (top 43)) := ⟨rfl, rfl, rfl, by decide +kernel, rfl, by decide +kernel, by decide +kernel⟩
theorem ok_box (T : Tx K mg) : Cal CX0 P w K mg base 1 "_law_box" (sp_box K) := by
  refine cal_of0 T.F__law_box T.g__law_box (fun _ _ _ _ _ _ us hl => match us, hl with | [_, _], _ => rfl) sc_box (fun vs H Q E h => ?_) (fun cdv A outer s H vs Q E hr h => ?_)
  · obtain ⟨sa, ns, k, rfl, _⟩ := h
    rfl
  · obtain ⟨sa, ns, k, rfl, hs, kk⟩ := h
    refine ⟨_, pss_cons (ps_set (i := 2) sc_box.nd rfl (Or.inl rfl) (pe_op op_add (pe_op op_mul pe_int (pv 1)) pe_int))
      (C8.pss_cut (ps_if (pt_cmpR op_lt (pv 1) (pe_callB call_len (by rfl) T.n_len boot_len (pa_cons (pv 0) pa_nil)) (nomark _))
          (pss_one (ps_set (i := 2) sc_box.nd rfl (Or.inl rfl) (pe_callB call_abs (by rfl) T.n_abs (by decide +kernel) (pa_cons (pe_callTy call_int1 (by rfl) T.n_int (by decide +kernel) (pa_cons (pe_ix ix_list (pv 0) (pv 1) (fun _ _ => rfl)) pa_nil)) pa_nil))))
          (pss_one (ps_if (pt_cmpR op_gt (pe_callB call_len (by rfl) T.n_len boot_len (pa_cons (pv 0) pa_nil)) pe_int (nomark _))
            (pss_one (ps_set (i := 2) sc_box.nd rfl (Or.inl rfl) (pe_op op_add (pv 2) (pe_op op_mul (pe_op op_mod (pe_callTy call_int1 (by rfl) T.n_int (by decide +kernel) (pa_cons (pe_callB call_abs (by rfl) T.n_abs (by decide +kernel) (pa_cons (pe_callTy call_int1 (by rfl) T.n_int (by decide +kernel) (pa_cons (pe_ix ix_list (pv 0) (pe_op op_mod (pe_callTy call_int1 (by rfl) T.n_int (by decide +kernel) (pa_cons (pv 1) pa_nil)) (pe_callB call_len (by rfl) T.n_len boot_len (pa_cons (pv 0) pa_nil))) (fun _ _ => rfl)) pa_nil)) pa_nil)) pa_nil)) pe_int) pe_int)))) pss_nil)))
      (C8.pss_cut (ps_set (i := 3) sc_box.nd rfl (Or.inl rfl) (pe_ifExp (pt_cmpR op_ge (pv 2) (pe_op op_pow pe_int pe_int) (nomark _)) (pv 2) pe_int))
      (pss_one (ps_ret (pe_lst (pa_cons (pv 3) (pa_cons (pe_op op_add (pe_op op_mod (pe_callTy call_int1 (by rfl) T.n_int (by decide +kernel) (pa_cons (pe_op op_add (pe_op op_mul (pe_op op_mod (pe_callTy call_int1 (by rfl) T.n_int (by decide +kernel) (pa_cons (pv 2) pa_nil)) pe_int) pe_int) (pe_op op_mul pe_int (pv 1))) pa_nil)) pe_int) pe_int) pa_nil))))))), ?_⟩
    have hl : (ns.map V.int).length = ns.length := List.length_map _
    have at_ : ∀ j, j < ns.length → ∃ i : Int, atI (ns.map V.int) (j : Int) = some (.int i) := fun j hj => ⟨ns[j], atI_nat (by rw [List.getElem?_map, List.getElem?_eq_getElem hj]; rfl)⟩
    refine ⟨_, rfl, _, _, rfl, rfl, .inl ⟨by decide, by decide⟩, _, _, rfl, rfl, ?_⟩
    refine ⟨fun σ' H' => ∃ c : Int, σ' = [some (.ref sa), some (.int (k : Nat)), some (.int c), none] ∧ H' = H, ?_, ?_⟩
    · refine ⟨_, rfl, _, rfl, _, _, rfl, .inl ⟨_, hs, rfl⟩, _, _, rfl, rfl, _, rfl, ?_⟩
      rw [hl]
      by_cases h1 : k < ns.length
      · refine iteT' (by simpa using h1) ?_
        obtain ⟨i, hi⟩ := at_ k h1
        exact ⟨_, rfl, _, rfl, sa, _, _, _, rfl, rfl, hs, hi, .inl ⟨_, rfl, _, rfl, _, rfl, rfl⟩⟩
      · refine iteF' (by simpa using h1) ?_
        refine ⟨_, rfl, _, _, rfl, .inl ⟨_, hs, rfl⟩, _, _, rfl, rfl, _, rfl, ?_⟩
        rw [hl]
        by_cases h2 : 0 < ns.length
        · refine iteT' (by simpa using h2) ?_
          obtain ⟨i, hi⟩ := at_ (k % ns.length) (Nat.mod_lt _ h2)
          refine ⟨_, rfl, _, rfl, _, rfl, .inl ⟨_, rfl, _, rfl, _, _, rfl, .inl ⟨_, hs, rfl⟩, _, _, rfl, rfl, by rw [hl]; omega, sa, _, _, _, rfl, rfl, hs, ?_, .inl ⟨i, rfl, _, rfl, .inl ⟨_, rfl, _, _, rfl, rfl, (by show (0 : Int) < 2147483579; decide), _, _, rfl, rfl, .inr ⟨by decide, by decide⟩, _, _, rfl, rfl, _, rfl, rfl⟩⟩⟩⟩
          rw [hl]
          exact hi
        · exact iteF' (by simpa using h2) ⟨_, rfl, rfl⟩
    · rintro σ' H' ⟨c, rfl, rfl⟩
      refine ⟨fun σ' H2 => ∃ g : Int, σ' = [some (.ref sa), some (.int (k : Nat)), some (.int c), some (.int g)] ∧ H2 = H', ?_, ?_⟩
      · refine ⟨_, rfl, _, _, rfl, rfl, ⟨by decide, by decide, by decide⟩, _, _, rfl, rfl, _, rfl, ?_⟩
        by_cases h : (decide (c ≥ (10 : Int) ^ (18 : Int).toNat)) = true
        · exact iteT' h ⟨_, rfl, _, rfl, rfl⟩
        · exact iteF' (by simpa using h) ⟨_, rfl, rfl⟩
      · rintro σ' H2 ⟨g, rfl, rfl⟩
        refine ⟨_, rfl, _, rfl, .inl ⟨_, rfl, _, _, rfl, rfl, (by show (0 : Int) < 2147483579; decide), _, _, rfl, rfl, .inr ⟨by decide, by decide⟩, _, rfl, _, _, rfl, rfl, .inl ⟨by decide, by decide⟩, _, _, rfl, rfl, .inl ⟨_, rfl, _, _, rfl, rfl, (by show (0 : Int) < 2147483579; decide), _, _, rfl, rfl, by show 2 ≤ sizeLine; decide, fun b nb => ?_⟩⟩⟩
        exact kk b _ (same_new nb) nb ⟨_, _, upd_same⟩
theorem BtRefl {x : Addr} (H : Hp) : But x H H := fun _ _ _ e => e
def sp_take : Sp := fun vs H Q _ => ∃ (b : Addr) (m : Nat), vs = [.ref b, .int m] ∧ BoxL H b ∧ 0 < m ∧ m < 1000 ∧ ∀ (r : Nat) H', But b H H' → BoxL H' b → r < m → Q (.int r) H'
abbrev NTK : List PySem.Str := ["_law_box_here", "_law_many", "_law_digit", "_law_raw"]
theorem sc_take : FnScope NTK ["_law_box_here", "_law_many"] (defScope (top 44)) := ⟨rfl, rfl, rfl, by decide +kernel, rfl, by decide +kernel, by decide +kernel⟩
theorem mod_nat (x : Int) {m : Nat} (h : 0 < m) : ∃ r : Nat, x % (m : Int) = (r : Int) ∧ r < m := by
  have h1 := Int.emod_nonneg x (show (m : Int) ≠ 0 by omega)
  have h2 := Int.emod_lt_of_pos x (show (0 : Int) < m by omega)
  exact ⟨(x % (m : Int)).toNat, by omega, by omega⟩
theorem ok_take (T : Tx K mg) : Cal CX0 P w K mg base 1 "_law_take" sp_take := by
  refine cal_of0 T.F__law_take T.g__law_take (fun _ _ _ _ _ _ us hl => match us, hl with | [_, _], _ => rfl) sc_take (fun vs H Q E h => ?_) (fun cdv A outer s H vs Q E hr h => ?_)
  · obtain ⟨b, m, rfl, _⟩ := h
    rfl
  · obtain ⟨b, m, rfl, ⟨x, y, hb⟩, m0, m1, kk⟩ := h
    refine ⟨_, pss_cons (ps_if (pt_cmpR op_gt (pe_ix ix_list (pv 0) pe_int (fun _ _ => rfl)) pe_int (nomark _))
        (pss_cons (ps_set (i := 2) sc_take.nd rfl (Or.inl rfl) (pe_op op_mod (pe_callTy call_int1 (by rfl) T.n_int (by decide +kernel) (pa_cons (pe_ix ix_list (pv 0) pe_int (fun _ _ => rfl)) pa_nil)) (pv 1)))
        (pss_cons (ps_asg (pe_op op_fdiv (pe_ix ix_list (pv 0) pe_int (fun _ _ => rfl)) (pv 1)) (pg_sub (pv 0) pe_int set_list))
        (pss_one (ps_ret (pv 2))))) pss_nil)
      (pss_cons (ps_set (i := 3) sc_take.nd rfl (Or.inl rfl) (pe_op op_mod (pe_callTy call_int1 (by rfl) T.n_int (by decide +kernel) (pa_cons (pe_op op_add (pe_op op_mul (pe_ix ix_list (pv 0) pe_int (fun _ _ => rfl)) pe_int) pe_int) pa_nil)) pe_int))
      (pss_cons (ps_asg (pe_op op_add (pe_op op_mod (pe_callTy call_int1 (by rfl) T.n_int (by decide +kernel) (pa_cons (pe_op op_add (pe_op op_mul (pv 3) pe_int) pe_int) pa_nil)) pe_int) pe_int) (pg_sub (pv 0) pe_int set_list))
      (pss_one (ps_ret (pe_op op_mod (pe_callTy call_int1 (by rfl) T.n_int (by decide +kernel) (pa_cons (pe_op op_fdiv (pe_op op_add (pe_op op_mul (pv 3) pe_int) (pe_ix ix_list (pv 0) pe_int (fun _ _ => rfl))) pe_int) pa_nil)) (pv 1)))))), ?_⟩
    have a0 : ∀ {x y : Int}, atI [V.int x, V.int y] (0 : Int) = some (.int x) := fun {x y} => atI_nat (j := 0) rfl
    have a1 : ∀ {x y : Int}, atI [V.int x, V.int y] (1 : Int) = some (.int y) := fun {x y} => atI_nat (j := 1) rfl
    have bt : ∀ {H' : Hp} {o : HO}, But b H H' → But b H (upd H' b o) := fun b => b.upd
    refine ⟨_, rfl, b, _, _, _, rfl, rfl, SqL.of hb, a0, _, _, rfl, rfl, _, rfl, ?_⟩
    by_cases h : 0 < x
    · refine iteT' (by simpa using h) ?_
      obtain ⟨r, hr1, hr2⟩ := mod_nat x m0
      refine ⟨_, rfl, b, _, _, _, rfl, rfl, SqL.of hb, a0, .inl ⟨_, rfl, _, rfl, _, _, rfl, rfl, (by show (0 : Int) < (m : Int); omega), ?_⟩⟩
      refine ⟨_, rfl, b, _, _, _, rfl, rfl, SqL.of hb, a0, _, rfl, _, _, rfl, rfl, ⟨by omega, by omega⟩, _, rfl, b, _, _, 0, rfl, rfl, hb, rfl, ?_⟩
      refine ⟨_, rfl, ?_⟩
      have fin := kk r (upd H b (.lst [.int (x / (m : Int)), .int y])) (BtRefl _ |>.upd) ⟨_, _, upd_same⟩ hr2
      rw [← hr1] at fin
      exact fin
    · refine iteF' (by simpa using h) ?_
      refine ⟨_, rfl, b, _, _, _, rfl, rfl, SqL.of hb, a1, _, _, rfl, rfl, .inr ⟨by decide, by decide⟩, _, _, rfl, rfl, .inl ⟨_, rfl, _, _, rfl, rfl, (by show (0 : Int) < 2147483563; decide), ?_⟩⟩
      have hraw := Int.emod_nonneg (y * 40014 + 53) (show (2147483563 : Int) ≠ 0 by decide)
      have hraw2 := Int.emod_lt_of_pos (y * 40014 + 53) (show (0 : Int) < 2147483563 by decide)
      refine ⟨_, rfl, _, _, rfl, rfl, .inr ⟨by decide, by decide⟩, _, _, rfl, rfl, .inl ⟨_, rfl, _, _, rfl, rfl, (by show (0 : Int) < 2147483579; decide), _, _, rfl, rfl, _, rfl, b, _, _, 1, rfl, rfl, hb, rfl, ?_⟩⟩
      refine ⟨_, rfl, _, _, rfl, rfl, .inr ⟨by decide, by decide⟩, _, rfl, b, _, _, _, rfl, rfl, SqL.of upd_same, a1, _, _, rfl, rfl, _, _, rfl, rfl, ⟨by decide, by decide⟩, .inl ⟨_, rfl, _, rfl, _, _, rfl, rfl, (by show (0 : Int) < (m : Int); omega), ?_⟩⟩
      obtain ⟨r, hr1, hr2⟩ := mod_nat ((((y * 40014 + 53) % 2147483563) * 2147483629 + ((((y * 40014 + 53) % 2147483563) * 40692 + 29) % 2147483579 + 1)) / 8191) m0
      have fin := kk r (upd H b (.lst [.int x, .int (((((y * 40014 + 53) % 2147483563) * 40692 + 29) % 2147483579 + 1))])) (BtRefl _ |>.upd) ⟨_, _, upd_same⟩ hr2
      rw [← hr1] at fin
      exact fin
def sp_pick : Sp := fun vs H Q _ => ∃ (b : Addr) (v : V), vs = [.ref b, v] ∧ BoxL H b ∧ ((∃ a xs, v = .ref a ∧ a ≠ b ∧ H a = some (.lst xs) ∧ 0 < xs.length ∧ xs.length < 1000 ∧ ∀ x H', x ∈ xs → But b H H' → BoxL H' b → Q x H') ∨
  ∃ l : List Nat, v = .str (S l) ∧ 0 < l.length ∧ l.length < 1000 ∧ ∀ c H', c ∈ l → But b H H' → BoxL H' b → Q (.str (S [c])) H')
theorem sc_pick : FnScope ["_law_box_here", "_law_some"] ["_law_box_here", "_law_some"] (defScope (top 45)) := ⟨rfl, rfl, rfl, by decide +kernel, rfl, by decide +kernel, by decide +kernel⟩
theorem ok_pick (T : Tx K mg) : Cal CX0 P w K mg base 2 "_law_pick" sp_pick := by
  refine cal_of0 T.F__law_pick T.g__law_pick (fun _ _ _ _ _ _ us hl => match us, hl with | [_, _], _ => rfl) sc_pick (fun vs H Q E h => ?_) (fun cdv A outer s H vs Q E hr h => ?_)
  · obtain ⟨b, v, rfl, _⟩ := h
    rfl
  · obtain ⟨b, v, rfl, hb, k⟩ := h
    refine ⟨_, pss_one (ps_ret (pe_ix ix_seq (pv 1) (pe_c (ok_take T) hr (by rfl) (pa_cons (pv 0) (pa_cons (pe_callB call_len (by rfl) T.n_len boot_len (pa_cons (pv 1) pa_nil)) pa_nil))) (fun _ _ => rfl))), ?_⟩
    rcases k with ⟨a, xs, rfl, hab, ha, h0, h1, k⟩ | ⟨l, rfl, h0, h1, k⟩
    · refine ⟨_, rfl, _, rfl, _, rfl, _, xs.length, rfl, .inl ⟨_, SqL.of ha, rfl⟩, b, xs.length, rfl, hb, h0, h1, fun r H' bt hb' hr => .inl ⟨a, xs, r, xs[r], rfl, rfl, SqL.of (bt _ _ hab ha), atI_nat (List.getElem?_eq_getElem hr), k _ H' (List.getElem_mem hr) bt hb'⟩⟩
    · refine ⟨_, rfl, _, rfl, _, rfl, _, l.length, rfl, ⟨by show l.length ≤ sizeLine; rw [sizeLine_eq]; omega, rfl⟩, b, l.length, rfl, hb, h0, h1, fun r H' bt hb' hr => .inr (.inr ⟨S l, r, l[r], rfl, rfl, by show l.length ≤ sizeLine; rw [sizeLine_eq]; omega, atI_nat (List.getElem?_eq_getElem hr), k _ H' (List.getElem_mem hr) bt hb'⟩)⟩
end
end BW

set_option Elab.async false
set_option linter.all false
set_option maxRecDepth 100000
set_option maxHeartbeats 1000000
/-! _law_falling, _law_table, _law_named -/
namespace BW
open PySem PySem.Spec PyProof.Rows L2 SX
open LamX (Tabs ExtN CodeO)
section
variable {P : Program} {w : World} {K : PySem.W.Frag} {mg : PySem.Str → Option Value} {base : Heap}
/-- a table of m states at a -/
def TabAt (H : Hp) (a : Addr) (m : Nat) : Prop := ∃ row : List Nat, H a = some (.lst (Num row)) ∧ row.length = m ∧ ∀ x ∈ row, x < m
theorem TabAt.ext {H H' : Hp} {a : Addr} {m : Nat} (x : TabAt H a m) (e : ExtN H H') : TabAt H' a m := by
  obtain ⟨row, h1, h2⟩ := x
  exact ⟨row, e _ _ h1 (fun ps z => by cases z), h2⟩
def sp_falling : Sp := fun vs H Q _ => ∃ (b : Addr) (m : Nat), vs = [.ref b, .int m] ∧ BoxL H b ∧ 0 < m ∧ m < 100 ∧ ∀ a H', But b H H' → BoxL H' b → H a = none → TabAt H' a m → Q (.ref a) H'
abbrev NFL : List PySem.Str := ["_law_box_here", "_law_many", "_law_s"]
theorem sc_falling : FnScope NFL ["_law_box_here", "_law_many"] (defScope (top 46)) := ⟨rfl, rfl, rfl, by decide +kernel, rfl, by decide +kernel, by decide +kernel⟩
/-- the loop's word: what was drawn so far -/
def Drawn (b D : Addr) (m : Nat) (H1 : Hp) (i : Nat) (H' : Hp) : Prop := But b H1 H' ∧ BoxL H' b ∧ ∃ row : List Nat, H' D = some (.lst (Num row)) ∧ row.length = i ∧ ∀ x ∈ row, x < m
theorem Drawn.start {b D : Addr} {m : Nat} {H1 : Hp} (hb : BoxL H1 b) (nD : H1 D = none) : Drawn b D m H1 0 (upd H1 D (.lst [])) := ⟨But.of (same_new nD), hb.ext (ext_same (same_new nD)), [], upd_same, rfl, by simp⟩
theorem Drawn.put {b D : Addr} {m : Nat} {H1 H2 H3 : Hp} {i r : Nat} (nD : H1 D = none) (d : Drawn b D m H1 i H2) (hi : i < 100) (bt : But b H2 H3) (hb : BoxL H3 b) (hDb : D ≠ b) (hr : r < m) : ∃ acc, H3 D = some (.lst acc) ∧ acc.length < sizeLine ∧ Drawn b D m H1 (i + 1) (upd H3 D (.lst (acc ++ [V.int (r : Int)]))) := by
  obtain ⟨b1, hb1, row, h1, h2, h3⟩ := d
  obtain ⟨x, y, hxy⟩ := hb
  have hD3 := bt _ _ hDb h1
  refine ⟨_, hD3, by unfold Num; rw [List.length_map, h2, sizeLine_eq]; omega, fun c o hc e => ?_, ⟨x, y, by rw [upd_ne (Ne.symm hDb)]; exact hxy⟩, row ++ [r], ?_, ?_, fun z hz => ?_⟩
  · rw [upd_ne (ne_of_none e nD)]
    exact bt _ _ hc (b1 c o hc e)
  · rw [upd_same]
    unfold Num
    rw [List.map_append]
    rfl
  · rw [List.length_append, h2]; rfl
  · rcases List.mem_append.mp hz with h | h
    · exact h3 z h
    · rw [List.mem_singleton.mp h]; exact hr
theorem ok_falling (T : Tx K mg) : Cal CX0 P w K mg base 3 "_law_falling" sp_falling := by
  refine cal_of0 T.F__law_falling T.g__law_falling (fun _ _ _ _ _ _ us hl => match us, hl with | [_, _], _ => rfl) sc_falling (fun vs H Q E h => ?_) (fun cdv A outer s H vs Q E hr h => ?_)
  · obtain ⟨b, m, rfl, _⟩ := h
    rfl
  · obtain ⟨b, m, rfl, hb, m0, m1, k⟩ := h
    refine ⟨_, pss_one (ps_ret (pe_lc (own := [("_law_s", 2)]) (g := gName 2) (by rfl) sc_falling.nd (pi_range1 (by rfl) T.n_range (pa_cons (pv 1) pa_nil)) (blkOk_by (N := NFL) (sc := defScope (top 46)) (by decide +kernel)) (fun _ _ _ _ _ => pg_name (i := 2) sc_falling.nd rfl (Or.inl rfl)) (fun _ _ _ _ _ => pts_nil)
      (fun _ _ _ _ _ => pe_c (ok_pick T) hr (by rfl) (pa_cons (pv 0) (pa_cons (pe_lst (pa_cons (pv 2) (pa_cons (pe_callB (call_max2 rfl) (by rfl) T.n_max (by decide +kernel) (pa_cons pe_int (pa_cons (pe_op op_sub (pv 2) pe_int) pa_nil))) (pa_cons (pe_callB (call_max2 rfl) (by rfl) T.n_max (by decide +kernel) (pa_cons pe_int (pa_cons (pe_op op_sub (pv 2) pe_int) pa_nil))) (pa_cons (pe_c (ok_take T) hr (by rfl) (pa_cons (pv 0) (pa_cons (pe_op op_add (pv 2) pe_int) pa_nil))) pa_nil))))) pa_nil))))), ?_⟩
    refine ⟨_, rfl, m, rfl, by omega, by omega, fun D nD => ?_⟩
    have hDb : D ≠ b := fun z => by
      obtain ⟨x, y, h⟩ := hb
      rw [z, h] at nD
      cases nD
    refine lc_it (n := (m : Int).toNat) (walk_range (lo := 0)) (Drawn b D m H) (Drawn.start hb nD) (fun _ _ _ _ => trivial) ?_ ?_
    · rintro i v H1 H2 hi dr ⟨rfl, rfl⟩
      have hi : i < m := by simpa using hi
      have hbx := dr.2.1
      refine ⟨rfl, tYes_in ?_⟩
      refine ⟨_, rfl, _, rfl, _, rfl, _, _, rfl, rfl, _, _, rfl, _, rfl, _, _, rfl, rfl, _, _, rfl, _, rfl, _, rfl, _, _, rfl, rfl, b, i + 1, by simp, hbx, by omega, by omega, fun r H3 bt hb3 hr3 => ?_⟩
      refine ⟨by show 4 ≤ sizeLine; decide, fun l nl => ?_⟩
      have nbl : b ≠ l := fun z => by obtain ⟨x, y, h⟩ := hb3; rw [z, nl] at h; cases h
      refine ⟨b, _, rfl, hb3.ext (ext_same (same_new nl)), .inl ⟨l, _, rfl, Ne.symm nbl, upd_same, (by show 0 < 4; decide), (by show 4 < 1000; decide), fun x H4 hx bt4 hb4 => ?_⟩⟩
      have hx' : ∃ y : Nat, x = .int (y : Int) ∧ y < m := by
        rcases List.mem_cons.mp hx with e | hx
        · exact ⟨i, by rw [e]; show V.int (0 + (i : Int)) = V.int (i : Int); rw [Int.zero_add], hi⟩
        rcases List.mem_cons.mp hx with e | hx
        · exact ⟨i - 1, by rw [e]; congr 1; split <;> omega, by omega⟩
        rcases List.mem_cons.mp hx with e | hx
        · exact ⟨i - 1, by rw [e]; congr 1; split <;> omega, by omega⟩
        · rw [List.mem_singleton.mp hx]
          exact ⟨r, rfl, by omega⟩
      obtain ⟨y, rfl, hy⟩ := hx'
      exact dr.put nD (by omega) (((bt.trans (But.of (same_new nl))).trans bt4)) hb4 hDb hy
    · rintro H1 ⟨b1, hb1, row, h1, h2, h3⟩
      exact k D H1 b1 hb1 nD ⟨row, h1, by simpa using h2, h3⟩
def sp_table : Sp := sp_falling
theorem sc_table : FnScope ["_law_box_here", "_law_many", "_law_style", "_law_s"] ["_law_box_here", "_law_many"] (defScope (top 47)) := ⟨rfl, rfl, rfl, by decide +kernel, rfl, by decide +kernel, by decide +kernel⟩
abbrev NTB : List PySem.Str := ["_law_box_here", "_law_many", "_law_style", "_law_s"]
theorem ok_table (T : Tx K mg) : Cal CX0 P w K mg base 4 "_law_table" sp_falling := by
  refine cal_of0 T.F__law_table T.g__law_table (fun _ _ _ _ _ _ us hl => match us, hl with | [_, _], _ => rfl) sc_table (fun vs H Q E h => ?_) (fun cdv A outer s H vs Q E hr h => ?_)
  · obtain ⟨b, m, rfl, _⟩ := h
    rfl
  · obtain ⟨b, m, rfl, hb, m0, m1, k⟩ := h
    refine ⟨_, pss_cons (ps_set (i := 2) sc_table.nd rfl (Or.inl rfl) (pe_c (ok_take T) hr (by rfl) (pa_cons (pv 0) (pa_cons pe_int pa_nil))))
      (pss_cons (ps_if (pt_cmpR op_lt (pv 2) pe_int (nomark _)) (pss_one (ps_ret (pe_c (ok_falling T) hr (by rfl) (pa_cons (pv 0) (pa_cons (pv 1) pa_nil))))) pss_nil)
      (pss_cons (ps_if (pt_cmpR op_eq (pv 2) pe_int (nomark _)) (pss_one (ps_ret (pe_lc (own := [("_law_s", 3)]) (g := gName 3) (by rfl) sc_table.nd (pi_range1 (by rfl) T.n_range (pa_cons (pv 1) pa_nil)) (blkOk_by (N := NTB) (sc := defScope (top 47)) (by decide +kernel)) (fun _ _ _ _ _ => pg_name (i := 3) sc_table.nd rfl (Or.inl rfl)) (fun _ _ _ _ _ => pts_nil)
          (fun _ _ _ _ _ => pe_op op_mod (pe_callTy call_int1 (by rfl) T.n_int (by decide +kernel) (pa_cons (pe_op op_add (pv 3) pe_int) pa_nil)) (pv 1))))) pss_nil)
      (pss_cons (ps_if (pt_cmpR op_lt (pv 2) pe_int (nomark _)) (pss_one (ps_ret (pe_lc (own := [("_law_s", 3)]) (g := gName 3) (by rfl) sc_table.nd (pi_range1 (by rfl) T.n_range (pa_cons (pv 1) pa_nil)) (blkOk_by (N := NTB) (sc := defScope (top 47)) (by decide +kernel)) (fun _ _ _ _ _ => pg_name (i := 3) sc_table.nd rfl (Or.inl rfl)) (fun _ _ _ _ _ => pts_nil)
          (fun _ _ _ _ _ => pe_c (ok_pick T) hr (by rfl) (pa_cons (pv 0) (pa_cons (pe_lst (pa_cons (pv 3) (pa_cons (pv 3) (pa_cons (pe_c (ok_take T) hr (by rfl) (pa_cons (pv 0) (pa_cons (pv 1) pa_nil))) pa_nil)))) pa_nil)))))) pss_nil)
      (pss_one (ps_ret (pe_lc (own := [("_law_s", 3)]) (g := gName 3) (by rfl) sc_table.nd (pi_range1 (by rfl) T.n_range (pa_cons (pv 1) pa_nil)) (blkOk_by (N := NTB) (sc := defScope (top 47)) (by decide +kernel)) (fun _ _ _ _ _ => pg_name (i := 3) sc_table.nd rfl (Or.inl rfl)) (fun _ _ _ _ _ => pts_nil)
          (fun _ _ _ _ _ => pe_c (ok_take T) hr (by rfl) (pa_cons (pv 0) (pa_cons (pv 1) pa_nil))))))))), ?_⟩
    refine ⟨_, rfl, b, 7, rfl, hb, by decide, by decide, fun st H1 bt1 hb1 hst => ?_⟩
    have hDb : ∀ {D : Addr}, H1 D = none → D ≠ b := fun n z => by
      obtain ⟨x, y, h⟩ := hb1
      rw [z, h] at n
      cases n
    have nD0 : ∀ {D : Addr}, H1 D = none → H D = none := fun {D} n => by
      cases e : H D with
      | none => rfl
      | some o => rw [bt1 _ _ (hDb n) e] at n; cases n
    refine ⟨_, rfl, _, _, rfl, rfl, _, rfl, ?_⟩
    by_cases h1 : st < 3
    · refine iteT' (by simp; omega) ?_
      refine ⟨_, rfl, _, rfl, b, m, rfl, hb1, m0, m1, fun a H2 bt2 hb2 na ht => k a H2 (bt1.trans bt2) hb2 (nD0 na) ht⟩
    · refine iteF' (by simp; omega) ?_
      refine ⟨_, rfl, rfl, _, rfl, ?_⟩
      by_cases h2 : st = 3
      · refine iteT' (by simp; omega) ?_
        refine ⟨_, rfl, m, rfl, by omega, by omega, fun D nD => ?_⟩
        refine lc_it (n := (m : Int).toNat) (walk_range (lo := 0)) (Drawn b D m H1) (Drawn.start hb1 nD) (fun _ _ _ _ => trivial) ?_ ?_
        · rintro i v H2 H3 hi dr ⟨rfl, rfl⟩
          have hi : i < m := by simpa using hi
          refine ⟨rfl, tYes_in ?_⟩
          obtain ⟨r, hr1, hr2⟩ := mod_nat (0 + (i : Int) + 1) m0
          refine ⟨_, rfl, _, _, rfl, rfl, .inl ⟨_, rfl, _, rfl, _, _, rfl, rfl, (by show (0 : Int) < (m : Int); omega), ?_⟩⟩
          have := dr.put nD (by omega) (BtRefl _) dr.2.1 (hDb nD) hr2
          rw [← hr1] at this
          exact this
        · rintro H2 ⟨b2, hb2, row, g1, g2, g3⟩
          exact k D H2 (bt1.trans b2) hb2 (nD0 nD) ⟨row, g1, by simpa using g2, g3⟩
      · refine iteF' (by simp; omega) ?_
        refine ⟨_, rfl, _, _, rfl, rfl, _, rfl, ?_⟩
        by_cases h3 : st < 6
        · refine iteT' (by simp; omega) ?_
          refine ⟨_, rfl, m, rfl, by omega, by omega, fun D nD => ?_⟩
          refine lc_it (n := (m : Int).toNat) (walk_range (lo := 0)) (Drawn b D m H1) (Drawn.start hb1 nD) (fun _ _ _ _ => trivial) ?_ ?_
          · rintro i v H2 H3 hi dr ⟨rfl, rfl⟩
            have hi : i < m := by simpa using hi
            refine ⟨rfl, tYes_in ?_⟩
            refine ⟨_, rfl, _, rfl, _, rfl, _, rfl, _, rfl, b, m, rfl, dr.2.1, m0, by omega, fun r H4 bt hb4 hr4 => ?_⟩
            refine ⟨by show 3 ≤ sizeLine; decide, fun l nl => ?_⟩
            have nbl : b ≠ l := fun z => by obtain ⟨x, y, h⟩ := hb4; rw [z, nl] at h; cases h
            refine ⟨b, _, rfl, hb4.ext (ext_same (same_new nl)), .inl ⟨l, _, rfl, Ne.symm nbl, upd_same, (by show 0 < 3; decide), (by show 3 < 1000; decide), fun x H5 hx bt5 hb5 => ?_⟩⟩
            have hx' : ∃ y : Nat, x = .int (y : Int) ∧ y < m := by
              rcases List.mem_cons.mp hx with e | hx
              · exact ⟨i, by rw [e]; show V.int (0 + (i : Int)) = V.int (i : Int); rw [Int.zero_add], hi⟩
              rcases List.mem_cons.mp hx with e | hx
              · exact ⟨i, by rw [e]; show V.int (0 + (i : Int)) = V.int (i : Int); rw [Int.zero_add], hi⟩
              · rw [List.mem_singleton.mp hx]
                exact ⟨r, rfl, hr4⟩
            obtain ⟨y, rfl, hy⟩ := hx'
            exact dr.put nD (by omega) ((bt.trans (But.of (same_new nl))).trans bt5) hb5 (hDb nD) hy
          · rintro H2 ⟨b2, hb2, row, g1, g2, g3⟩
            exact k D H2 (bt1.trans b2) hb2 (nD0 nD) ⟨row, g1, by simpa using g2, g3⟩
        · refine iteF' (by simp; omega) ?_
          refine ⟨_, rfl, m, rfl, by omega, by omega, fun D nD => ?_⟩
          refine lc_it (n := (m : Int).toNat) (walk_range (lo := 0)) (Drawn b D m H1) (Drawn.start hb1 nD) (fun _ _ _ _ => trivial) ?_ ?_
          · rintro i v H2 H3 hi dr ⟨rfl, rfl⟩
            have hi : i < m := by simpa using hi
            refine ⟨rfl, tYes_in ?_⟩
            exact ⟨_, rfl, _, rfl, b, m, rfl, dr.2.1, m0, by omega, fun r H4 bt hb4 hr4 => dr.put nD (by omega) bt hb4 (hDb nD) hr4⟩
          · rintro H2 ⟨b2, hb2, row, g1, g2, g3⟩
            exact k D H2 (bt1.trans b2) hb2 (nD0 nD) ⟨row, g1, by simpa using g2, g3⟩
end
end BW

set_option Elab.async false
set_option linter.all false
set_option maxRecDepth 100000
set_option maxHeartbeats 1000000
/-! _law_named -/
namespace BW
open PySem PySem.Spec PyProof.Rows L2 SX
open LamX (Tabs ExtN CodeO)
section
variable {P : Program} {w : World} {K : PySem.W.Frag} {mg : PySem.Str → Option Value} {base : Heap}
abbrev NNM : List PySem.Str := ["_law_table_here", "_law_turn", "_law_back", "_law_many", "_law_name", "_law_s"]
theorem sc_named : FnScope NNM ["_law_table_here", "_law_turn", "_law_back"] (defScope (top 48)) := ⟨rfl, rfl, rfl, by decide +kernel, rfl, by decide +kernel, by decide +kernel⟩
def nameOf (m t bk : Nat) : List Nat := (List.range m).map fun s => if bk = 0 then (t + s) % m else (t + m - 1 - s) % m
theorem name_all {m t bk : Nat} (h1 : 1 ≤ m) (h5 : m ≤ 5) (h4 : t ≤ 4) {s : Nat} (hs : s < m) : s ∈ nameOf m t bk := by
  have key : ∀ m ∈ [1, 2, 3, 4, 5], ∀ t ∈ [0, 1, 2, 3, 4], ∀ s ∈ [0, 1, 2, 3, 4], s < m → s ∈ ((List.range m).map fun s => (t + s) % m) ∧ s ∈ ((List.range m).map fun s => (t + m - 1 - s) % m) := by decide +kernel
  have h := key m (by simp; omega) t (by simp; omega) s (by simp; omega) hs
  unfold nameOf
  by_cases e : bk = 0
  · simp only [e, if_true]; exact h.1
  · simp only [e, if_false]; exact h.2
theorem name_lt {m t bk : Nat} (h1 : 1 ≤ m) {x : Nat} (hx : x ∈ nameOf m t bk) : x < m := by
  unfold nameOf at hx
  obtain ⟨s, _, rfl⟩ := List.mem_map.mp hx
  split <;> exact Nat.mod_lt _ h1
theorem name_len {m t bk : Nat} : (nameOf m t bk).length = m := by unfold nameOf; rw [List.length_map, List.length_range]
theorem first_at : ∀ {l : List Nat} {x : Nat}, x ∈ l → ∃ j : Nat, l[j]? = some x ∧ ∀ (i : Nat) (z : Nat), i < j → l[i]? = some z → z ≠ x
  | y :: l, x, h => by
    by_cases e : y = x
    · exact ⟨0, by rw [e]; rfl, fun i z hi => by omega⟩
    · rcases List.mem_cons.mp h with q | q
      · exact absurd q.symm e
      · obtain ⟨j, h1, h2⟩ := first_at q
        refine ⟨j + 1, h1, fun i z hi hz => ?_⟩
        cases i with
        | zero => cases hz; exact e
        | succ i => exact h2 i z (by omega) hz
def DrawnS (D : Addr) (m : Nat) (H1 : Hp) (i : Nat) (H' : Hp) : Prop := Same H1 H' ∧ ∃ row : List Nat, H' D = some (.lst (Num row)) ∧ row.length = i ∧ ∀ x ∈ row, x < m
theorem DrawnS.start {D : Addr} {m : Nat} {H1 : Hp} (nD : H1 D = none) : DrawnS D m H1 0 (upd H1 D (.lst [])) := ⟨same_new nD, [], upd_same, rfl, by simp⟩
theorem DrawnS.put {D : Addr} {m : Nat} {H1 H2 : Hp} {i r : Nat} (nD : H1 D = none) (d : DrawnS D m H1 i H2) (hi : i < 100) (hr : r < m) : ∃ acc, H2 D = some (.lst acc) ∧ acc.length < sizeLine ∧ DrawnS D m H1 (i + 1) (upd H2 D (.lst (acc ++ [V.int (r : Int)]))) := by
  obtain ⟨b1, row, h1, h2, h3⟩ := d
  refine ⟨_, h1, by unfold Num; rw [List.length_map, h2, sizeLine_eq]; omega, fun c o e => ?_, row ++ [r], ?_, ?_, fun z hz => ?_⟩
  · rw [upd_ne (ne_of_none e nD)]
    exact b1 c o e
  · rw [upd_same]
    unfold Num
    rw [List.map_append]
    rfl
  · rw [List.length_append, h2]; rfl
  · rcases List.mem_append.mp hz with h | h
    · exact h3 z h
    · rw [List.mem_singleton.mp h]; exact hr
theorem num_at2 {l : List Nat} {j x : Nat} (h : l[j]? = some x) : atI (Num l) (j : Int) = some (V.int (x : Int)) := atI_nat (by unfold Num; rw [List.getElem?_map, h]; rfl)
theorem num_flat (l : List Nat) : (Num l).all flatV = true := by
  unfold Num
  rw [List.all_map, List.all_eq_true]
  intro x _
  rfl
def sp_named : Sp := fun vs H Q _ => ∃ (a : Addr) (m t bk : Nat), vs = [.ref a, .int t, .int bk] ∧ TabAt H a m ∧ 1 ≤ m ∧ m ≤ 5 ∧ t ≤ 4 ∧ ∀ a' H', Same H H' → H a' = none → TabAt H' a' m → Q (.ref a') H'
theorem ok_named (T : Tx K mg) : Cal CX0 P w K mg base 1 "_law_named" sp_named := by
  refine cal_of0 T.F__law_named T.g__law_named (fun _ _ _ _ _ _ us hl => match us, hl with | [_, _, _], _ => rfl) sc_named (fun vs H Q E h => ?_) (fun cdv A outer s H vs Q E hr h => ?_)
  · obtain ⟨a, m, t, bk, rfl, _⟩ := h
    rfl
  · obtain ⟨a, m, t, bk, rfl, ⟨row, ha, hl, hrow⟩, m1, m5, t4, k⟩ := h
    refine ⟨_, pss_cons (ps_set (i := 3) sc_named.nd rfl (Or.inr rfl) (pe_callB call_len (by rfl) T.n_len boot_len (pa_cons (pv 0) pa_nil)))
      (pss_cons (ps_set (i := 4) sc_named.nd rfl (Or.inr rfl) (pe_lc (own := [("_law_s", 5)]) (g := gName 5) (by rfl) sc_named.nd (pi_range1 (by rfl) T.n_range (pa_cons (pv 3) pa_nil)) (blkOk_by (N := NNM) (sc := defScope (top 48)) (by decide +kernel)) (fun _ _ _ _ _ => pg_name (i := 5) sc_named.nd rfl (Or.inl rfl)) (fun _ _ _ _ _ => pts_nil)
          (fun _ _ _ _ _ => pe_ifExp (pt_cmpR op_eq (pv 2) pe_int (nomark _)) (pe_op op_mod (pe_callTy call_int1 (by rfl) T.n_int (by decide +kernel) (pa_cons (pe_op op_add (pv 1) (pv 5)) pa_nil)) (pv 3))
            (pe_op op_mod (pe_callTy call_int1 (by rfl) T.n_int (by decide +kernel) (pa_cons (pe_op op_sub (pe_op op_sub (pe_op op_add (pv 1) (pv 3)) pe_int) (pv 5)) pa_nil)) (pv 3)))))
      (pss_one (ps_ret (pe_lc (own := [("_law_s", 5)]) (g := gName 5) (by rfl) sc_named.nd (pi_range1 (by rfl) T.n_range (pa_cons (pv 3) pa_nil)) (blkOk_by (N := NNM) (sc := defScope (top 48)) (by decide +kernel)) (fun _ _ _ _ _ => pg_name (i := 5) sc_named.nd rfl (Or.inl rfl)) (fun _ _ _ _ _ => pts_nil)
          (fun _ _ _ _ _ => pe_ix (r := rIxL K) ix_list (pv 4) (pe_ix (r := rIxL K) ix_list (pv 0) (show PE _ _ (tBM K "list" (rIndex K) (tVar 4) (tCons (tVar 5) tNil)) from pe_bm PySem.F.plainAttrs_list PySem.F.slot_list_index PySem.F.type_list_index mt_index (pv 4) (pa_cons (pv 5) pa_nil)) (fun _ _ => rfl)) (fun _ _ => rfl)))))), ?_⟩
    have hnl : (Num row).length = m := by unfold Num; rw [List.length_map, hl]
    refine ⟨_, rfl, _, m, rfl, .inl ⟨_, SqL.of ha, hnl.symm⟩, ?_⟩
    refine ⟨_, rfl, m, rfl, by omega, by omega, fun D nD => ?_⟩
    refine lc_it (n := (m : Int).toNat) (walk_range (lo := 0)) (fun i H' => Same H H' ∧ H' D = some (.lst (Num ((nameOf m t bk).take i)))) ⟨same_new nD, by rw [upd_same]; rfl⟩ (fun _ _ _ _ => trivial) ?_ ?_
    · rintro i v H1 H2 hi ⟨sm, hD⟩ ⟨rfl, rfl⟩
      have hi : i < m := by simpa using hi
      have hni : (nameOf m t bk)[i]? = some (if bk = 0 then (t + i) % m else (t + m - 1 - i) % m) := by
        unfold nameOf
        rw [List.getElem?_map, List.getElem?_range hi]
        rfl
      have fin : ∀ x : Int, x = ((if bk = 0 then (t + i) % m else (t + m - 1 - i) % m : Nat) : Int) → ∃ acc, H2 D = some (.lst acc) ∧ acc.length < sizeLine ∧ (Same H (upd H2 D (.lst (acc ++ [V.int x]))) ∧ upd H2 D (.lst (acc ++ [V.int x])) D = some (.lst (Num ((nameOf m t bk).take (i + 1))))) := fun x hx => by
        refine ⟨_, hD, by unfold Num; rw [List.length_map, List.length_take, name_len, sizeLine_eq]; omega, fun c o e => ?_, ?_⟩
        · rw [upd_ne (ne_of_none e nD)]
          exact sm c o e
        · rw [upd_same, take_succ hni, hx]
          unfold Num
          rw [List.map_append]
          rfl
      refine ⟨rfl, tYes_in ?_⟩
      refine ⟨_, rfl, rfl, _, rfl, ?_⟩
      by_cases hb : bk = 0
      · refine iteT' (by rw [hb]; rfl) ?_
        refine ⟨_, rfl, _, rfl, _, _, rfl, rfl, .inl ⟨_, rfl, _, rfl, _, _, rfl, rfl, (by show (0 : Int) < (m : Int); omega), fin _ ?_⟩⟩
        rw [if_pos hb]
        show ((t : Int) + (0 + (i : Int))) % (m : Int) = _
        rw [Int.zero_add]
        exact_mod_cast rfl
      · refine iteF' (decide_eq_false fun z => hb (by have := V.int.inj z; omega)) ?_
        refine ⟨_, rfl, _, rfl, _, _, rfl, rfl, _, _, rfl, rfl, _, rfl, _, _, rfl, rfl, .inl ⟨_, rfl, _, rfl, _, _, rfl, rfl, (by show (0 : Int) < (m : Int); omega), fin _ ?_⟩⟩
        rw [if_neg hb]
        show ((t : Int) + (m : Int) - 1 - (0 + (i : Int))) % (m : Int) = _
        have : (t : Int) + (m : Int) - 1 - (0 + (i : Int)) = ((t + m - 1 - i : Nat) : Int) := by omega
        rw [this]
        exact_mod_cast rfl
    · rintro H1 ⟨sm1, hD⟩
      have e : (nameOf m t bk).take (m : Int).toNat = nameOf m t bk := by
        refine List.take_of_length_le ?_
        rw [name_len]
        simp
      rw [e] at hD
      refine ⟨_, rfl, m, rfl, by omega, by omega, fun D2 nD2 => ?_⟩
      refine lc_it (n := (m : Int).toNat) (walk_range (lo := 0)) (DrawnS D2 m H1) (DrawnS.start nD2) (fun _ _ _ _ => trivial) ?_ ?_
      · rintro i v H2 H3 hi dr ⟨rfl, rfl⟩
        have hi : i < m := by simpa using hi
        have hDn := dr.1 _ _ hD
        have han := dr.1 _ _ (sm1 _ _ ha)
        obtain ⟨j, hj1, hj2⟩ := first_at (name_all (bk := bk) m1 m5 t4 hi)
        have hjm : j < m := by
          have := (List.getElem?_eq_some_iff.mp hj1).1
          rw [name_len] at this
          exact this
        have hr0 : row[j]? = some (row[j]'(by omega)) := List.getElem?_eq_getElem (by omega)
        generalize row[j]'(by omega) = x at hr0
        have hxm := hrow x (List.mem_of_getElem? hr0)
        have hn0 : (nameOf m t bk)[x]? = some ((nameOf m t bk)[x]'(by rw [name_len]; exact hxm)) := List.getElem?_eq_getElem (by rw [name_len]; exact hxm)
        generalize (nameOf m t bk)[x]'(by rw [name_len]; exact hxm) = y at hn0
        refine ⟨rfl, tYes_in ?_⟩
        refine ⟨_, rfl, _, rfl, _, rfl, .inl ⟨rfl, _, SqL.of hDn⟩, _, rfl, ?_⟩
        refine ⟨D, _, _, j, .int (i : Int), rfl, rfl, SqL.of hDn, rfl, num_flat _, by unfold Num; rw [List.getElem?_map, hj1]; rfl, ?_, fun q z hq hz => ?_, ?_⟩
        · show ((i : Int) == 0 + (i : Int)) = true
          simp
        · unfold Num at hz
          rw [List.getElem?_map] at hz
          cases hz2 : (nameOf m t bk)[q]? with
          | none => rw [hz2] at hz; cases hz
          | some z' =>
            rw [hz2] at hz
            obtain rfl := Option.some.inj hz
            have := hj2 q z' hq hz2
            show ((z' : Int) == 0 + (i : Int)) = false
            rw [beq_eq_false_iff_ne]
            omega
        · refine ⟨a, _, _, _, rfl, rfl, SqL.of han, num_at2 hr0, D, _, _, _, rfl, rfl, SqL.of hDn, num_at2 hn0, dr.put nD2 (by omega) (name_lt m1 (List.mem_of_getElem? hn0))⟩
      · rintro H2 ⟨sm2, row2, g1, g2, g3⟩
        exact k D2 H2 (same_trans sm1 sm2) (none_same sm1 nD2) ⟨row2, g1, by simpa using g2, g3⟩
end
end BW

set_option Elab.async false
set_option linter.all false
set_option maxRecDepth 100000
set_option maxHeartbeats 1000000
/-! _law_tables -/
namespace BW
open PySem PySem.Spec PyProof.Rows L2 SX
open LamX (Tabs ExtN CodeO)
/-- a list of n tables of m states, none of them the box or the list -/
def TsAt (H : Hp) (b D : Addr) (m n : Nat) : Prop := ∃ as : List Addr, H D = some (.lst (as.map V.ref)) ∧ as.length = n ∧ D ∉ as ∧ b ∉ as ∧ ∀ a ∈ as, TabAt H a m
theorem TsAt.but {H H' : Hp} {b D : Addr} {m n : Nat} (x : TsAt H b D m n) (bt : But b H H') (hDb : D ≠ b) : TsAt H' b D m n := by
  obtain ⟨as, h1, h2, h3, h4, h5⟩ := x
  refine ⟨as, bt _ _ hDb h1, h2, h3, h4, fun a ha => ?_⟩
  obtain ⟨row, g1, g2⟩ := h5 a ha
  exact ⟨row, bt _ _ (fun z => h4 (z ▸ ha)) g1, g2⟩
theorem TsAt.put {H : Hp} {b D a : Addr} {m n : Nat} (x : TsAt H b D m n) (ha : TabAt H a m) (hab : a ≠ b) (haD : a ≠ D) : ∃ acc, H D = some (.lst acc) ∧ acc.length = n ∧ TsAt (upd H D (.lst (acc ++ [V.ref a]))) b D m (n + 1) := by
  obtain ⟨as, h1, h2, h3, h4, h5⟩ := x
  refine ⟨_, h1, by rw [List.length_map, h2], as ++ [a], by rw [upd_same, List.map_append]; rfl, by rw [List.length_append, h2]; rfl, fun h => ?_, fun h => ?_, fun c hc => ?_⟩
  · rcases List.mem_append.mp h with h | h
    · exact h3 h
    · exact haD (List.mem_singleton.mp h).symm
  · rcases List.mem_append.mp h with h | h
    · exact h4 h
    · exact hab (List.mem_singleton.mp h).symm
  · have nc : c ≠ D := fun z => by
      rcases List.mem_append.mp hc with h | h
      · exact h3 (z ▸ h)
      · exact haD (by rw [← List.mem_singleton.mp h]; exact z)
    have : TabAt H c m := by
      rcases List.mem_append.mp hc with h | h
      · exact h5 c h
      · rw [List.mem_singleton.mp h]; exact ha
    obtain ⟨row, g1, g2⟩ := this
    exact ⟨row, by rw [upd_ne nc]; exact g1, g2⟩
theorem TsAt.set {H : Hp} {b D a : Addr} {m n j : Nat} (x : TsAt H b D m n) (ha : TabAt H a m) (hab : a ≠ b) (haD : a ≠ D) (hj : j < n) : ∃ xs, H D = some (.lst xs) ∧ xs.length = n ∧ TsAt (upd H D (.lst (xs.set j (V.ref a)))) b D m n := by
  obtain ⟨as, h1, h2, h3, h4, h5⟩ := x
  have hm : ∀ {c}, c ∈ as.set j a → c ∈ as ∨ c = a := fun {c} h => List.mem_or_eq_of_mem_set h
  refine ⟨_, h1, by rw [List.length_map, h2], as.set j a, by rw [upd_same, List.map_set], by rw [List.length_set, h2], fun h => ?_, fun h => ?_, fun c hc => ?_⟩
  · rcases hm h with h | h
    · exact h3 h
    · exact haD h.symm
  · rcases hm h with h | h
    · exact h4 h
    · exact hab h.symm
  · have nc : c ≠ D := fun z => by
      rcases hm hc with h | h
      · exact h3 (z ▸ h)
      · exact haD (by rw [← h]; exact z)
    have : TabAt H c m := by
      rcases hm hc with h | h
      · exact h5 c h
      · rw [h]; exact ha
    obtain ⟨row, g1, g2⟩ := this
    exact ⟨row, by rw [upd_ne nc]; exact g1, g2⟩
theorem TsAt.tabs {H : Hp} {b D : Addr} {m n : Nat} (x : TsAt H b D m n) : ∃ tabs, TabL H D tabs ∧ tabs.length = n ∧ ∀ t ∈ tabs, t.length = m ∧ ∀ x ∈ t, x < m := by
  obtain ⟨as, h1, h2, _, _, h5⟩ := x
  have key : ∀ (as : List Addr), (∀ a ∈ as, TabAt H a m) → ∃ tabs : List (List Nat), tabs.length = as.length ∧ (∀ (i : Nat) (row : List Nat), tabs[i]? = some row → ∃ a, as[i]? = some a ∧ H a = some (.lst (Num row))) ∧ ∀ t ∈ tabs, t.length = m ∧ ∀ x ∈ t, x < m := by
    intro as
    induction as with
    | nil => exact fun _ => ⟨[], rfl, fun i row h => by simp at h, by simp⟩
    | cons a as ih =>
      intro h
      obtain ⟨tabs, g1, g2, g3⟩ := ih fun c hc => h c (List.mem_cons_of_mem _ hc)
      obtain ⟨row, r1, r2, r3⟩ := h a List.mem_cons_self
      refine ⟨row :: tabs, by rw [List.length_cons, List.length_cons, g1], fun i r hr => ?_, fun t ht => ?_⟩
      · cases i with
        | zero => cases hr; exact ⟨a, rfl, r1⟩
        | succ i => exact g2 i r hr
      · rcases List.mem_cons.mp ht with e | ht
        · rw [e]; exact ⟨r2, r3⟩
        · exact g3 t ht
  obtain ⟨tabs, g1, g2, g3⟩ := key as h5
  exact ⟨tabs, ⟨as, h1, by rw [g1], g2⟩, by rw [g1, h2], g3⟩
theorem TsAt.same {H H' : Hp} {b D : Addr} {m n : Nat} (x : TsAt H b D m n) (s : Same H H') : TsAt H' b D m n := by
  obtain ⟨as, h1, h2, h3, h4, h5⟩ := x
  exact ⟨as, s _ _ h1, h2, h3, h4, fun a ha => (h5 a ha).ext (ext_same s)⟩
theorem box_ne {H : Hp} {a b : Addr} (hb : BoxL H b) (n : H a = none) : a ≠ b := fun z => by
  obtain ⟨x, y, h⟩ := hb
  rw [z, h] at n
  cases n
theorem ixN_nat {n j : Nat} (h : j < n) : ixN n (j : Int) = some j := by
  unfold ixN
  rw [if_pos (by omega), if_pos (by omega)]
  simp
theorem mem_num {l : List Nat} {x : V} (h : x ∈ Num l) : ∃ m : Nat, x = .int (m : Int) ∧ m ∈ l := by
  obtain ⟨m, hm, rfl⟩ := List.mem_map.mp h
  exact ⟨m, rfl, hm⟩
theorem but_none {b a : Addr} {H H' : Hp} (bt : But b H H') (hb : BoxL H' b) (n : H' a = none) : H a = none := by
  cases e : H a with
  | none => rfl
  | some o => rw [bt _ _ (box_ne hb n) e] at n; cases n
section
variable {P : Program} {w : World} {K : PySem.W.Frag} {mg : PySem.Str → Option Value} {base : Heap}
abbrev NTS : List PySem.Str := ["_law_box_here", "_law_sizes", "_law_kinds", "_law_many", "_law_mode", "_law_turn", "_law_found", "_law_k", "_law_table_here", "_law_at"]
theorem sc_tables : FnScope NTS ["_law_box_here", "_law_sizes", "_law_kinds"] (defScope (top 49)) := ⟨rfl, rfl, rfl, by decide +kernel, rfl, by decide +kernel, by decide +kernel⟩
def sp_tables : Sp := fun vs H Q _ => ∃ (b sz kd : Addr) (sizes kinds : List Nat), vs = [.ref b, .ref sz, .ref kd] ∧ BoxL H b ∧ sz ≠ b ∧ kd ≠ b ∧ H sz = some (.lst (Num sizes)) ∧ H kd = some (.lst (Num kinds)) ∧ 0 < sizes.length ∧ sizes.length < 100 ∧ 0 < kinds.length ∧ kinds.length < 100 ∧ (∀ x ∈ sizes, 2 ≤ x ∧ x ≤ 5) ∧ (∀ x ∈ kinds, 1 ≤ x ∧ x ≤ 2) ∧
  ∀ D m n H', But b H H' → BoxL H' b → H D = none → TsAt H' b D m n → 2 ≤ m → m ≤ 5 → 1 ≤ n → n ≤ 2 → Q (.ref D) H'
theorem ok_tables (T : Tx K mg) : Cal CX0 P w K mg base 5 "_law_tables" sp_tables := by
  refine cal_of0 T.F__law_tables T.g__law_tables (fun _ _ _ _ _ _ us hl => match us, hl with | [_, _, _], _ => rfl) sc_tables (fun vs H Q E h => ?_) (fun cdv A outer s H vs Q E hr h => ?_)
  · obtain ⟨b, sz, kd, sizes, kinds, rfl, _⟩ := h
    rfl
  · obtain ⟨b, sz, kd, sizes, kinds, rfl, hb, hszb, hkdb, hsz, hkd, s0, s1, k0, k1, hs, hk, kk⟩ := h
    refine ⟨_, pss_cons (ps_asg (pe_tup (pa_cons (pe_c (ok_pick T) hr (by rfl) (pa_cons (pv 0) (pa_cons (pv 1) pa_nil))) (pa_cons (pe_c (ok_take T) hr (by rfl) (pa_cons (pv 0) (pa_cons pe_int pa_nil))) (pa_cons (pe_c (ok_take T) hr (by rfl) (pa_cons (pv 0) (pa_cons pe_int pa_nil))) pa_nil))))
        (pg_tup rfl (pgs_cons (pg_name (i := 3) sc_tables.nd rfl (Or.inr rfl)) (pgs_cons (pg_name (i := 4) sc_tables.nd rfl (Or.inr rfl)) (pgs_cons (pg_name (i := 5) sc_tables.nd rfl (Or.inr rfl)) pgs_nil)))))
      (pss_cons (ps_setLc (i := 6) (own := [("_law_k", 7)]) (g := gName 7) (by rfl) sc_tables.nd rfl rfl (by rfl) (pi_range1 (by rfl) T.n_range (pa_cons (pe_c (ok_pick T) hr (by rfl) (pa_cons (pv 0) (pa_cons (pv 2) pa_nil))) pa_nil)) (blkOk_by (N := NTS) (sc := defScope (top 49)) (by decide +kernel)) (fun _ _ _ _ _ => pg_name (i := 7) sc_tables.nd rfl (Or.inl rfl)) (fun _ _ _ _ _ => pts_nil)
          (fun _ _ _ _ _ => pe_ifExp (pt_cmpR op_lt (pv 4) pe_int (nomark _)) (pe_c (ok_falling T) hr (by rfl) (pa_cons (pv 0) (pa_cons (pv 3) pa_nil))) (pe_c (ok_table T) hr (by rfl) (pa_cons (pv 0) (pa_cons (pv 3) pa_nil)))))
      (C8.pss_cut (ps_if (pt_cmpR op_eq (pv 4) pe_int (nomark _)) (pss_one (ps_setLc (i := 6) (own := [("_law_table_here", 8)]) (g := gName 8) (by rfl) sc_tables.nd rfl rfl (by rfl) (pi_list (pv 6)) (blkOk_by (N := NTS) (sc := defScope (top 49)) (by decide +kernel)) (fun _ _ _ _ _ => pg_name (i := 8) sc_tables.nd rfl (Or.inl rfl)) (fun _ _ _ _ _ => pts_nil)
          (fun _ _ _ _ _ => pe_c (ok_named T) hr (by rfl) (pa_cons (pv 8) (pa_cons (pv 5) (pa_cons (pe_op op_mod (pe_callTy call_int1 (by rfl) T.n_int (by decide +kernel) (pa_cons (pv 5) pa_nil)) pe_int) pa_nil)))))) pss_nil)
      (C8.pss_cut (ps_if (pt_cmpR op_eq (pv 4) pe_int (nomark _)) (pss_cons (ps_set (i := 9) sc_tables.nd rfl (Or.inl rfl) (pe_c (ok_take T) hr (by rfl) (pa_cons (pv 0) (pa_cons (pe_callB call_len (by rfl) T.n_len boot_len (pa_cons (pv 6) pa_nil)) pa_nil))))
          (pss_one (ps_asg (pe_c (ok_named T) hr (by rfl) (pa_cons (pe_ix ix_list (pv 6) (pv 9) (fun _ _ => rfl)) (pa_cons (pv 5) (pa_cons (pe_c (ok_take T) hr (by rfl) (pa_cons (pv 0) (pa_cons pe_int pa_nil))) pa_nil)))) (pg_sub (pv 6) (pv 9) set_list)))) pss_nil)
      (pss_one (ps_ret (pv 6)))))), ?_⟩
    refine ⟨_, rfl, _, rfl, b, _, rfl, hb, .inl ⟨sz, _, rfl, hszb, hsz, by unfold Num; rw [List.length_map]; exact s0, by unfold Num; rw [List.length_map]; omega, fun x H1 hx bt1 hb1 => ?_⟩⟩
    obtain ⟨m, rfl, hm⟩ := mem_num hx
    obtain ⟨m2, m5⟩ := hs m hm
    refine ⟨_, rfl, b, 4, rfl, hb1, by decide, by decide, fun mode H2 bt2 hb2 hmode => ?_⟩
    refine ⟨_, rfl, b, 5, rfl, hb2, by decide, by decide, fun turn H3 bt3 hb3 hturn => ?_⟩
    refine ⟨by show 3 ≤ sizeLine; decide, fun t nt => ?_⟩
    have bt4 : But b H (upd H3 t (.tup [V.int (m : Int), V.int (mode : Int), V.int (turn : Int)])) := ((bt1.trans bt2).trans bt3).trans (But.of (same_new nt))
    have hb4 : BoxL (upd H3 t (.tup [V.int (m : Int), V.int (mode : Int), V.int (turn : Int)])) b := hb3.ext (ext_same (same_new nt))
    refine ⟨t, _, rfl, SqT.of upd_same, rfl, _, _, rfl, _, _, rfl, _, _, rfl, rfl, ?_⟩
    generalize upd H3 t (.tup [V.int (m : Int), V.int (mode : Int), V.int (turn : Int)]) = H4 at bt4 hb4
    refine ⟨_, rfl, _, rfl, b, _, rfl, hb4, .inl ⟨kd, _, rfl, hkdb, bt4 _ _ hkdb hkd, by unfold Num; rw [List.length_map]; exact k0, by unfold Num; rw [List.length_map]; omega, fun y H5 hy bt5 hb5 => ?_⟩⟩
    obtain ⟨n, rfl, hn⟩ := mem_num hy
    obtain ⟨n1, n2⟩ := hk n hn
    have bt05 := bt4.trans bt5
    refine ⟨n, rfl, by omega, by omega, fun D nD => ?_⟩
    have hDb := box_ne hb5 nD
    refine lc_it (n := (n : Int).toNat) (walk_range (lo := 0)) (fun i H' => But b H5 H' ∧ BoxL H' b ∧ TsAt H' b D m i) ⟨But.of (same_new nD), hb5.ext (ext_same (same_new nD)), [], upd_same, rfl, by simp, by simp, by simp⟩ (fun _ _ _ _ => trivial) ?_ ?_
    · rintro i v H6 H7 hi ⟨bt6, hb6, hT⟩ ⟨rfl, rfl⟩
      have hi : i < n := by simpa using hi
      have fin : ∀ a H8, But b H7 H8 → BoxL H8 b → H7 a = none → TabAt H8 a m → ∃ acc, H8 D = some (.lst acc) ∧ acc.length < sizeLine ∧ (But b H5 (upd H8 D (.lst (acc ++ [V.ref a]))) ∧ BoxL (upd H8 D (.lst (acc ++ [V.ref a]))) b ∧ TsAt (upd H8 D (.lst (acc ++ [V.ref a]))) b D m (i + 1)) := fun a H8 bt8 hb8 na ha => by
        have haD : a ≠ D := fun z => by
          obtain ⟨as, h1, _⟩ := hT
          rw [z, h1] at na
          cases na
        obtain ⟨acc, q1, q2, q3⟩ := (hT.but bt8 hDb).put ha (box_ne hb6 na) haD
        obtain ⟨x, y, hxy⟩ := hb8
        refine ⟨acc, q1, by rw [q2, sizeLine_eq]; omega, fun c o hc e => ?_, ⟨x, y, by rw [upd_ne (Ne.symm hDb)]; exact hxy⟩, q3⟩
        rw [upd_ne (ne_of_none e nD)]
        exact bt8 _ _ hc (bt6 c o hc e)
      refine ⟨rfl, tYes_in ?_⟩
      refine ⟨_, rfl, _, _, rfl, rfl, _, rfl, ?_⟩
      by_cases h : mode < 2
      · exact iteT' (by simp; omega) ⟨_, rfl, _, rfl, b, m, rfl, hb6, by omega, by omega, fin⟩
      · exact iteF' (by simp; omega) ⟨_, rfl, _, rfl, b, m, rfl, hb6, by omega, by omega, fin⟩
    · rintro H6 ⟨bt6, hb6, hT⟩
      have hT : TsAt H6 b D m n := by simpa using hT
      have nD0 := but_none bt05 hb5 nD
      refine ⟨fun σ' H' => ∃ (D' : Addr) (x7 x8 : Option V), σ' = [some (.ref b), some (.ref sz), some (.ref kd), some (.int (m : Nat)), some (.int (mode : Nat)), some (.int (turn : Nat)), some (.ref D'), x7, x8, none] ∧ But b H H' ∧ BoxL H' b ∧ H D' = none ∧ TsAt H' b D' m n, ?_, ?_⟩
      · refine ⟨_, rfl, rfl, _, rfl, ?_⟩
        by_cases h : mode = 1
        · refine iteT' (by rw [h]; rfl) ?_
          obtain ⟨as, hD, hal, hDn, hbn, has⟩ := id hT
          have hml : (as.map V.ref).length = n := by rw [List.length_map, hal]
          refine ⟨_, rfl, D, rfl, ⟨_, SqL.of hD⟩, fun D2 nD2 => ?_⟩
          have hD2b := box_ne hb6 nD2
          refine lc_it (n := (as.map V.ref).length) (walk_list (K := K) (a := D) (xs := as.map V.ref)) (fun i H' => Same H6 H' ∧ TsAt H' b D2 m i) ⟨same_new nD2, [], upd_same, rfl, by simp, by simp, by simp⟩ (fun i H' _ q => SqL.of (q.1 _ _ hD)) ?_ ?_
          · rintro i v H7 H8 hi ⟨sm7, hT7⟩ ⟨rfl, hv⟩
            rw [hml] at hi
            have ha0 : as[i]? = some (as[i]'(by omega)) := List.getElem?_eq_getElem (by omega)
            generalize as[i]'(by omega) = a at ha0
            rw [List.getElem?_map, ha0] at hv
            obtain rfl := Option.some.inj hv
            refine ⟨rfl, tYes_in ?_⟩
            refine ⟨_, rfl, _, rfl, _, rfl, .inl ⟨_, rfl, _, _, rfl, rfl, (by show (0 : Int) < 2; decide), a, m, turn, turn % 2, rfl, (has a (List.mem_of_getElem? ha0)).ext (ext_same sm7), by omega, m5, by omega, fun a' H9 sm9 na' ht9 => ?_⟩⟩
            have haD : a' ≠ D2 := fun z => by
              obtain ⟨as', h1, _⟩ := hT7
              rw [z, h1] at na'
              cases na'
            obtain ⟨acc, q1, q2, q3⟩ := (hT7.same sm9).put ht9 (box_ne (hb6.ext (ext_same sm7)) na') haD
            refine ⟨acc, q1, by rw [q2, sizeLine_eq]; omega, fun c o e => ?_, q3⟩
            rw [upd_ne (ne_of_none e nD2)]
            exact sm9 _ _ (sm7 c o e)
          · rintro H7 ⟨sm7, hT7⟩
            rw [hml] at hT7
            exact ⟨D2, _, _, rfl, (bt05.trans bt6).trans (But.of sm7), hb6.ext (ext_same sm7), but_none (bt05.trans bt6) hb6 nD2, hT7⟩
        · exact iteF' (decide_eq_false fun z => h (by have := V.int.inj z; omega)) ⟨D, _, _, rfl, bt05.trans bt6, hb6, nD0, hT⟩
      · rintro σ' H7 ⟨D', x7, x8, rfl, bt7, hb7, nD', hT7⟩
        refine ⟨fun σ' H' => ∃ (x7 x8 x9 : Option V), σ' = [some (.ref b), some (.ref sz), some (.ref kd), some (.int (m : Nat)), some (.int (mode : Nat)), some (.int (turn : Nat)), some (.ref D'), x7, x8, x9] ∧ But b H H' ∧ BoxL H' b ∧ TsAt H' b D' m n, ?_, ?_⟩
        · refine ⟨_, rfl, rfl, _, rfl, ?_⟩
          by_cases h : mode = 2
          · refine iteT' (by rw [h]; rfl) ?_
            obtain ⟨as, hD, hal, hDn, hbn, has⟩ := id hT7
            have hml : (as.map V.ref).length = n := by rw [List.length_map, hal]
            have hD'b : D' ≠ b := fun z => by
              obtain ⟨x, y, hx⟩ := hb
              rw [z, hx] at nD'
              cases nD'
            refine ⟨_, rfl, _, rfl, _, n, rfl, .inl ⟨_, SqL.of hD, hml.symm⟩, b, n, rfl, hb7, by omega, by omega, fun at' H8 bt8 hb8 hat => ?_⟩
            have hT8 := hT7.but bt8 hD'b
            have ha0 : as[at']? = some (as[at']'(by omega)) := List.getElem?_eq_getElem (by omega)
            generalize as[at']'(by omega) = a at ha0
            have ham := List.mem_of_getElem? ha0
            refine ⟨_, rfl, _, rfl, D', _, _, _, rfl, rfl, SqL.of (bt8 _ _ hD'b hD), atI_nat (v := .ref a) (by rw [List.getElem?_map, ha0]; rfl), _, rfl, _, rfl, b, 2, rfl, hb8, by decide, by decide, fun bk H9 bt9 hb9 hbk => ?_⟩
            have htab : TabAt H9 a m := by
              obtain ⟨row, g1, g2⟩ := has a ham
              have nab : a ≠ b := fun z => hbn (z ▸ ham)
              exact ⟨row, bt9 _ _ nab (bt8 _ _ nab g1), g2⟩
            refine ⟨a, m, turn, bk, rfl, htab, by omega, m5, by omega, fun a' H10 sm10 na' ht10 => ?_⟩
            have hT9 := hT8.but bt9 hD'b
            have haD : a' ≠ D' := fun z => by
              obtain ⟨as', h1, _⟩ := hT9
              rw [z, h1] at na'
              cases na'
            obtain ⟨xs, q1, q2, q3⟩ := (hT9.same sm10).set ht10 (box_ne hb9 na') haD hat
            obtain ⟨x, y, hxy⟩ := hb9.ext (ext_same sm10)
            refine ⟨_, rfl, _, rfl, D', xs, _, at', rfl, rfl, q1, ixN_nat (by rw [q2]; exact hat), _, _, _, rfl, fun c o hc e => ?_, ⟨x, y, by rw [upd_ne (Ne.symm hD'b)]; exact hxy⟩, q3⟩
            rw [upd_ne (ne_of_none e nD')]
            exact sm10 _ _ (bt9 _ _ hc (bt8 _ _ hc (bt7 c o hc e)))
          · exact iteF' (decide_eq_false fun z => h (by have := V.int.inj z; omega)) ⟨_, _, _, rfl, bt7, hb7, hT7⟩
        · rintro σ' H8 ⟨x7, x8, x9, rfl, bt8, hb8, hT8⟩
          exact ⟨_, rfl, kk D' m n H8 bt8 hb8 nD' hT8 m2 m5 n1 n2⟩
end
end BW

set_option Elab.async false
set_option linter.all false
set_option maxRecDepth 100000
set_option maxHeartbeats 1000000
/-! _law_lots -/
namespace BW
open PySem PySem.Spec PyProof.Rows L2 SX
open LamX (Tabs ExtN CodeO)
def lotsUp (l : List Nat) : List (List Nat) := l.foldl (fun acc c => acc ++ acc.map fun r => r ++ [c]) [[]]
theorem lotsUp_snoc (l : List Nat) (c : Nat) : lotsUp (l ++ [c]) = lotsUp l ++ (lotsUp l).map fun r => r ++ [c] := by
  unfold lotsUp
  rw [List.foldl_append]
  rfl
instance (sig l : List Nat) : Decidable (LotOk sig l) := by unfold LotOk; infer_instance
theorem lots_fact {k : Nat} (h1 : 1 ≤ k) (h3 : k ≤ 3) : (∀ r ∈ (lotsUp (BK.abc.take k)).filter (fun r => decide (r ≠ [])), LotOk (BK.abc.take k) r) ∧ 0 < ((lotsUp (BK.abc.take k)).filter fun r => decide (r ≠ [])).length ∧ ((lotsUp (BK.abc.take k)).filter fun r => decide (r ≠ [])).length < 60 := by
  have c : k = 1 ∨ k = 2 ∨ k = 3 := by omega
  rcases c with e | e | e <;> rw [e] <;> decide +kernel
theorem lots_len {k i : Nat} (h3 : k ≤ 3) : (lotsUp ((BK.abc.take k).take i)).length ≤ 8 ∧ ∀ r ∈ lotsUp ((BK.abc.take k).take i), r.length ≤ 3 := by
  rw [List.take_take]
  have : min i k ≤ 3 := by omega
  generalize min i k = j at this
  have c : j = 0 ∨ j = 1 ∨ j = 2 ∨ j = 3 := by omega
  rcases c with e | e | e | e <;> rw [e] <;> decide +kernel
theorem str_S (y : Str) : S y.cps.toList = y := by
  cases y
  simp [S]
section
variable {P : Program} {w : World} {K : PySem.W.Frag} {mg : PySem.Str → Option Value} {base : Heap}
abbrev NLO : List PySem.Str := ["_law_signals", "_law_found", "_law_signal", "_law_lot"]
theorem sc_lots : FnScope NLO ["_law_signals"] (defScope (top 50)) := ⟨rfl, rfl, rfl, by decide +kernel, rfl, by decide +kernel, by decide +kernel⟩
def sp_lots : Sp := fun vs H Q _ => ∃ k : Nat, vs = [.str (S (BK.abc.take k))] ∧ 1 ≤ k ∧ k ≤ 3 ∧ ∀ a l H', Same H H' → H a = none → TxtsL H' a l → (∀ r ∈ l, LotOk (BK.abc.take k) r) → 0 < l.length → l.length < 60 → Q (.ref a) H'
theorem ok_lots (T : Tx K mg) : Cal CX0 P w K mg base 1 "_law_lots" sp_lots := by
  refine cal_of0 T.F__law_lots T.g__law_lots (fun _ _ _ _ _ _ us hl => match us, hl with | [_], _ => rfl) sc_lots (fun vs H Q E h => ?_) (fun cdv A outer s H vs Q E hr h => ?_)
  · obtain ⟨k, rfl, _⟩ := h
    rfl
  · obtain ⟨k, rfl, k1, k3, kk⟩ := h
    refine ⟨_, pss_cons (ps_set (i := 1) sc_lots.nd rfl (Or.inl rfl) (pe_lst (pa_cons pe_str pa_nil)))
      (pss_cons (ps_for PassesOwn.never rfl (pi_str (pv 0)) (pg_name (i := 2) sc_lots.nd rfl (Or.inr rfl))
        (pss_one (ps_set (i := 1) sc_lots.nd rfl (Or.inl rfl) (pe_op op_cat (pv 1) (pe_lc (own := [("_law_lot", 3)]) (g := gName 3) (by rfl) sc_lots.nd (pi_list (pv 1)) (blkOk_by (N := NLO) (sc := defScope (top 50)) (by decide +kernel)) (fun _ _ _ _ _ => pg_name (i := 3) sc_lots.nd rfl (Or.inl rfl)) (fun _ _ _ _ _ => pts_nil)
          (fun _ _ _ _ _ => pe_op op_add_str (pv 3) (pv 2)))))))
      (pss_one (ps_ret (pe_callB cr_sortedS (by rfl) T.n_sorted (by decide +kernel) (pa_cons (pe_lc (own := [("_law_lot", 3)]) (g := gName 3) (by rfl) sc_lots.nd (pi_list (pv 1)) (blkOk_by (N := NLO) (sc := defScope (top 50)) (by decide +kernel)) (fun _ _ _ _ _ => pg_name (i := 3) sc_lots.nd rfl (Or.inl rfl))
          (fun _ _ _ _ _ => pts_one (pt_cmpR op_ne (pv 3) pe_str (nomark _))) (fun _ _ _ _ _ => pv 3)) pa_nil))))), ?_⟩
    refine ⟨by show 1 ≤ sizeLine; decide, fun f nf => ?_⟩
    refine ⟨_, rfl, S (BK.abc.take k), rfl, ?_⟩
    refine for_it (walk_S (z := BK.abc.take k)) (fun i σ H' => ∃ (a : Addr) (x2 : Option V), σ = [some (.str (S (BK.abc.take k))), some (.ref a), x2, none] ∧ Same H H' ∧ TxtsL H' a (lotsUp ((BK.abc.take k).take i))) ⟨f, none, rfl, same_new nf, upd_same⟩ (fun _ _ _ _ _ => trivial) ?_ ?_
    · rintro i v σ H1 H2 hi ⟨a, x2, rfl, sm, ha⟩ ⟨rfl, c, hc, rfl⟩
      obtain ⟨hl8, hr3⟩ := lots_len (i := i) k3
      have hll : ((lotsUp ((BK.abc.take k).take i)).map fun r => V.str (S r)).length = (lotsUp ((BK.abc.take k).take i)).length := List.length_map _
      refine ⟨_, rfl, _, rfl, a, rfl, ⟨_, SqL.of ha⟩, fun D nD => ?_⟩
      have haD : a ≠ D := ne_of_none ha nD
      refine lc_it (n := ((lotsUp ((BK.abc.take k).take i)).map fun r => V.str (S r)).length) (walk_list (K := K) (a := a)) (fun j H' => Same H2 H' ∧ TxtsL H' D (((lotsUp ((BK.abc.take k).take i)).take j).map fun r => r ++ [c])) ⟨same_new nD, by unfold TxtsL; rw [upd_same]; rfl⟩ (fun j H' _ q => SqL.of (q.1 _ _ ha)) ?_ ?_
      · rintro j v H3 H4 hj ⟨sm3, hD⟩ ⟨rfl, hv⟩
        rw [hll] at hj
        have hr0 : (lotsUp ((BK.abc.take k).take i))[j]? = some (lotsUp ((BK.abc.take k).take i))[j] := List.getElem?_eq_getElem hj
        generalize (lotsUp ((BK.abc.take k).take i))[j] = r at hr0
        rw [List.getElem?_map, hr0] at hv
        obtain rfl := Option.some.inj hv
        have hrl := hr3 r (List.mem_of_getElem? hr0)
        refine ⟨rfl, tYes_in ?_⟩
        refine ⟨_, rfl, _, rfl, S r, S [c], rfl, rfl, by show r.length + 1 ≤ sizeLine; rw [sizeLine_eq]; omega, _, hD, by rw [List.length_map, List.length_map, List.length_take, sizeLine_eq]; omega, fun b o e => ?_, ?_⟩
        · rw [upd_ne (ne_of_none e nD)]
          exact sm3 b o e
        · unfold TxtsL
          rw [upd_same, S_cat, take_succ hr0, List.map_append, List.map_append]
          rfl
      · rintro H3 ⟨sm3, hD⟩
        rw [hll, List.take_length] at hD
        refine ⟨a, D, _, _, rfl, rfl, sm3 _ _ ha, hD, by rw [hll, List.length_map, List.length_map, sizeLine_eq]; omega, fun f2 nf2 => ?_⟩
        refine ⟨f2, _, rfl, same_trans sm (same_trans sm3 (same_new nf2)), ?_⟩
        unfold TxtsL
        rw [upd_same, take_succ hc, lotsUp_snoc, List.map_append]
    · rintro σ H1 ⟨a, x2, rfl, sm, ha⟩
      rw [List.take_length] at ha
      obtain ⟨f1, f2, f3⟩ := lots_fact k1 k3
      obtain ⟨hl8, _⟩ := lots_len (i := k) k3
      rw [show (BK.abc.take k).take k = BK.abc.take k from by rw [List.take_take, Nat.min_self]] at hl8
      have hll : ((lotsUp (BK.abc.take k)).map fun r => V.str (S r)).length = (lotsUp (BK.abc.take k)).length := List.length_map _
      refine ⟨_, rfl, a, rfl, ⟨_, SqL.of ha⟩, fun D nD => ?_⟩
      refine lc_it (n := ((lotsUp (BK.abc.take k)).map fun r => V.str (S r)).length) (walk_list (K := K) (a := a)) (fun j H' => Same H1 H' ∧ TxtsL H' D (((lotsUp (BK.abc.take k)).take j).filter fun r => decide (r ≠ []))) ⟨same_new nD, by unfold TxtsL; rw [upd_same]; rfl⟩ (fun j H' _ q => SqL.of (q.1 _ _ ha)) ?_ ?_
      · rintro j v H3 H4 hj ⟨sm3, hD⟩ ⟨rfl, hv⟩
        rw [hll] at hj
        have hr0 : (lotsUp (BK.abc.take k))[j]? = some (lotsUp (BK.abc.take k))[j] := List.getElem?_eq_getElem hj
        generalize (lotsUp (BK.abc.take k))[j] = r at hr0
        rw [List.getElem?_map, hr0] at hv
        obtain rfl := Option.some.inj hv
        refine ⟨rfl, ?_⟩
        refine ⟨_, rfl, rfl, _, rfl, ?_⟩
        have ed : (!decide (V.str (S r) = V.str "")) = decide (r ≠ []) := by
          rw [Bool.eq_iff_iff, Bool.not_eq_true', decide_eq_false_iff_not, decide_eq_true_eq]
          exact ⟨fun h e => h (by rw [e]; rfl), fun h e => h (S_inj (V.str.inj e))⟩
        by_cases hne : r = []
        · refine iteF' (ed.trans (by simp [hne])) ⟨sm3, ?_⟩
          rw [take_succ hr0, List.filter_append, List.filter_cons, if_neg (by simp [hne]), List.filter_nil, List.append_nil]
          exact hD
        · refine iteT' (ed.trans (by simp [hne])) ⟨_, rfl, _, hD, ?_, fun b o e => ?_, ?_⟩
          · rw [List.length_map, sizeLine_eq]
            have := List.length_filter_le (fun r => decide (r ≠ [])) ((lotsUp (BK.abc.take k)).take j)
            rw [List.length_take] at this
            omega
          · rw [upd_ne (ne_of_none e nD)]
            exact sm3 b o e
          · unfold TxtsL
            rw [upd_same, take_succ hr0, List.filter_append, List.filter_cons, if_pos (by simp [hne]), List.filter_nil, List.map_append]
            rfl
      · rintro H3 ⟨sm3, hD⟩
        rw [hll, List.take_length] at hD
        refine ⟨D, ((lotsUp (BK.abc.take k)).filter fun r => decide (r ≠ [])).map S, rfl, SqL.of (by rw [List.map_map]; exact hD), by rw [List.length_map]; omega, fun ys p hp _ np => ?_⟩
        have hlen : (ys.map fun y : Str => y.cps.toList).length = ((lotsUp (BK.abc.take k)).filter fun r => decide (r ≠ [])).length := by
          rw [List.length_map, hp.length_eq, List.length_map]
        refine kk p (ys.map fun y => y.cps.toList) _ (same_trans sm (same_trans sm3 (same_new np))) (none_same (same_trans sm sm3) np) ?_ (fun r hr => ?_) (by rw [hlen]; exact f2) (by rw [hlen]; exact f3)
        · unfold TxtsL
          rw [upd_same, List.map_map]
          have e : (fun y : Str => V.str y) = (fun r : List Nat => V.str (S r)) ∘ fun y : Str => y.cps.toList := by
            funext y
            show V.str y = V.str (S y.cps.toList)
            rw [str_S]
          exact congrArg (fun g => some (HO.lst (ys.map g))) e
        · obtain ⟨y, hy, rfl⟩ := List.mem_map.mp hr
          obtain ⟨r, hr2, rfl⟩ := List.mem_map.mp (hp.mem_iff.mp hy)
          exact f1 r hr2
abbrev NFM : List PySem.Str := ["_law_box_here", "_law_signals", "_law_found", "_law_turn", "_law_lot"]
theorem sc_family : FnScope NFM ["_law_box_here", "_law_signals"] (defScope (top 51)) := ⟨rfl, rfl, rfl, by decide +kernel, rfl, by decide +kernel, by decide +kernel⟩
def sp_family : Sp := fun vs H Q _ => ∃ (b : Addr) (k : Nat), vs = [.ref b, .str (S (BK.abc.take k))] ∧ BoxL H b ∧ 1 ≤ k ∧ k ≤ 3 ∧ ∀ a l H', But b H H' → BoxL H' b → H a = none → TxtsL H' a l → (∀ r ∈ l, LotOk (BK.abc.take k) r) → l.Nodup → 1 ≤ l.length → l.length ≤ 3 → Q (.ref a) H'
theorem lot_full {k : Nat} (h1 : 1 ≤ k) (h3 : k ≤ 3) : LotOk (BK.abc.take k) (BK.abc.take k) := by
  have c : k = 1 ∨ k = 2 ∨ k = 3 := by omega
  rcases c with e | e | e <;> rw [e] <;> decide +kernel
theorem in_txts (l : List (List Nat)) (r : List Nat) : inV (.str (S r)) (l.map fun r => V.str (S r)) = l.contains r := by
  unfold inV
  rw [List.any_map, Bool.eq_iff_iff, List.any_eq_true, List.contains_iff_mem]
  constructor
  · rintro ⟨x, hx, e⟩
    have e : (S x == S r) = true := e
    rw [S_beq, beq_iff_eq] at e
    exact e ▸ hx
  · intro h
    refine ⟨r, h, ?_⟩
    show (S r == S r) = true
    rw [S_beq]
    exact beq_self_eq_true r
theorem txts_flat (l : List (List Nat)) : (l.map fun r => V.str (S r)).all flatV = true := by
  rw [List.all_map, List.all_eq_true]
  intro x _
  rfl
theorem ok_family (T : Tx K mg) : Cal CX0 P w K mg base 3 "_law_family" sp_family := by
  refine cal_of0 T.F__law_family T.g__law_family (fun _ _ _ _ _ _ us hl => match us, hl with | [_, _], _ => rfl) sc_family (fun vs H Q E h => ?_) (fun cdv A outer s H vs Q E hr h => ?_)
  · obtain ⟨b, k, rfl, _⟩ := h
    rfl
  · obtain ⟨b, k, rfl, hb, k1, k3, kk⟩ := h
    refine ⟨_, C8.pss_cut (ps_set (i := 2) sc_family.nd rfl (Or.inl rfl) (pe_ifExp (pt_cmpR op_lt (pe_c (ok_take T) hr (by rfl) (pa_cons (pv 0) (pa_cons pe_int pa_nil))) pe_int (nomark _)) (pe_lst (pa_cons (pv 1) pa_nil))
        (pe_lst (pa_cons (pe_c (ok_pick T) hr (by rfl) (pa_cons (pv 0) (pa_cons (pe_c (ok_lots T) hr (by rfl) (pa_cons (pv 1) pa_nil)) pa_nil))) pa_nil))))
      (pss_cons (ps_for PassesOwn.never rfl (pi_range1 (by rfl) T.n_range (pa_cons (pe_c (ok_pick T) hr (by rfl) (pa_cons (pv 0) (pa_cons (pe_lst (pa_cons pe_int (pa_cons pe_int (pa_cons pe_int (pa_cons pe_int pa_nil))))) pa_nil))) pa_nil)) (pg_name (i := 3) sc_family.nd rfl (Or.inl rfl))
        (pss_cons (ps_set (i := 4) sc_family.nd rfl (Or.inl rfl) (pe_c (ok_pick T) hr (by rfl) (pa_cons (pv 0) (pa_cons (pe_c (ok_lots T) hr (by rfl) (pa_cons (pv 1) pa_nil)) pa_nil))))
        (pss_one (ps_set (i := 2) sc_family.nd rfl (Or.inl rfl) (pe_op op_cat (pv 2) (pe_ifExp (pt_cmpR op_notIn_seq (pv 4) (pv 2) rfl) (pe_lst (pa_cons (pv 4) pa_nil)) (pe_lst pa_nil)))))))
      (pss_one (ps_ret (pe_revL (pv 2))))), ?_⟩
    have pickLot : ∀ (H1 : Hp) (la : Addr) (l : List (List Nat)) (H2 : Hp), But b H H1 → BoxL H1 b → Same H1 H2 → H1 la = none → TxtsL H2 la l → (∀ r ∈ l, LotOk (BK.abc.take k) r) → 0 < l.length → l.length < 60 → ∀ {Q' : VK}, (∀ (r : List Nat) H3, LotOk (BK.abc.take k) r → But b H H3 → But b H1 H3 → BoxL H3 b → Q' (.str (S r)) H3) → sp_pick [.ref b, .ref la] H2 Q' E0 := by
      intro H1 la l H2 bt1 hb1 sm2 nla hla hall h0 h60 Q' q
      refine ⟨b, _, rfl, hb1.ext (ext_same sm2), .inl ⟨la, _, rfl, box_ne hb1 nla, hla, by rw [List.length_map]; exact h0, by rw [List.length_map]; omega, fun x H3 hx bt3 hb3 => ?_⟩⟩
      obtain ⟨r, hr, rfl⟩ := List.mem_map.mp hx
      exact q r H3 (hall r hr) ((bt1.trans (But.of sm2)).trans bt3) ((But.of sm2).trans bt3) hb3
    refine ⟨fun σ' H' => ∃ (a : Addr) (l : List (List Nat)), σ' = [some (.ref b), some (.str (S (BK.abc.take k))), some (.ref a), none, none] ∧ But b H H' ∧ BoxL H' b ∧ H a = none ∧ TxtsL H' a l ∧ (∀ r ∈ l, LotOk (BK.abc.take k) r) ∧ l.Nodup ∧ l.length = 1, ?_, ?_⟩
    · refine ⟨_, rfl, b, 5, rfl, hb, by decide, by decide, fun r H1 bt1 hb1 hr => ⟨_, _, rfl, rfl, _, rfl, ?_⟩⟩
      by_cases h : r < 3
      · refine iteT' (by simp; omega) ⟨_, rfl, by show 1 ≤ sizeLine; decide, fun a na => ?_⟩
        exact ⟨a, [BK.abc.take k], rfl, bt1.trans (But.of (same_new na)), hb1.ext (ext_same (same_new na)), but_none bt1 hb1 na, upd_same, fun r hr => by rw [List.mem_singleton.mp hr]; exact lot_full k1 k3, by simp, rfl⟩
      · refine iteF' (by simp; omega) ⟨_, rfl, _, rfl, k, rfl, k1, k3, fun la l H2 sm2 nla hla hall h0 h60 => ?_⟩
        refine pickLot H1 la l H2 bt1 hb1 sm2 nla hla hall h0 h60 fun r H3 hr3 bt3 _ hb3 => ⟨by show 1 ≤ sizeLine; decide, fun a na => ?_⟩
        exact ⟨a, [r], rfl, bt3.trans (But.of (same_new na)), hb3.ext (ext_same (same_new na)), but_none bt3 hb3 na, upd_same, fun r' hr => by rw [List.mem_singleton.mp hr]; exact hr3, by simp, rfl⟩
    · rintro σ' H1 ⟨a, l, rfl, bt1, hb1, na0, ha, hall, hnd, hl1⟩
      refine ⟨_, rfl, by show 4 ≤ sizeLine; decide, fun l4 nl4 => ?_⟩
      have bt2 := bt1.trans (But.of (x := b) (same_new (o := .lst [.int 0, .int 0, .int 1, .int 2]) nl4))
      have ha2 : TxtsL (upd H1 l4 (.lst [.int 0, .int 0, .int 1, .int 2])) a l := same_new nl4 _ _ ha
      refine ⟨b, _, rfl, hb1.ext (ext_same (same_new nl4)), .inl ⟨l4, _, rfl, box_ne hb1 nl4, upd_same, (by show 0 < 4; decide), (by show 4 < 1000; decide), fun x H2 hx bt3 hb2 => ?_⟩⟩
      have hab : a ≠ b := box_ne hb na0
      have ha3 := bt3 _ _ hab ha2
      have bt4 := bt2.trans bt3
      have hx' : ∃ n : Nat, x = .int (n : Int) ∧ n ≤ 2 := by
        rcases List.mem_cons.mp hx with e | hx
        · exact ⟨0, e, by omega⟩
        rcases List.mem_cons.mp hx with e | hx
        · exact ⟨0, e, by omega⟩
        rcases List.mem_cons.mp hx with e | hx
        · exact ⟨1, e, by omega⟩
        · exact ⟨2, List.mem_singleton.mp hx, by omega⟩
      obtain ⟨n, rfl, hn⟩ := hx'
      refine ⟨n, rfl, by omega, by omega, ?_⟩
      refine for_it (n := (n : Int).toNat) (walk_range (lo := 0)) (fun i σ H' => ∃ (a : Addr) (l : List (List Nat)) (x3 x4 : Option V), σ = [some (.ref b), some (.str (S (BK.abc.take k))), some (.ref a), x3, x4] ∧ But b H H' ∧ BoxL H' b ∧ H a = none ∧ TxtsL H' a l ∧ (∀ r ∈ l, LotOk (BK.abc.take k) r) ∧ l.Nodup ∧ 1 ≤ l.length ∧ l.length ≤ 1 + i) ⟨a, l, none, none, rfl, bt4, hb2, na0, ha3, hall, hnd, by omega, by omega⟩ (fun _ _ _ _ _ => trivial) ?_ ?_
      · rintro i v σ H3 H4 hi ⟨a, l, x3, x4, rfl, bt, hbx, na, ha, hall, hnd, hl1, hl2⟩ ⟨rfl, rfl⟩
        have hi : i < n := by simpa using hi
        have hab : a ≠ b := box_ne hb na
        refine ⟨_, rfl, _, rfl, k, rfl, k1, k3, fun la l' H5 sm5 nla hla hall' h0 h60 => ?_⟩
        refine pickLot H4 la l' H5 bt hbx sm5 nla hla hall' h0 h60 fun r H6 hr6 bt6 bt46 hb6 => ?_
        have ha6 := bt46 _ _ hab ha
        refine ⟨_, rfl, _, rfl, _, rfl, a, _, rfl, .inl (SqL.of ha6), rfl, txts_flat l, _, rfl, ?_⟩
        rw [in_txts]
        have hml : (l.map fun r => V.str (S r)).length = l.length := List.length_map _
        cases hc : l.contains r with
        | false =>
          refine iteT' rfl ⟨_, rfl, by show 1 ≤ sizeLine; decide, fun t nt => ?_⟩
          have hat : a ≠ t := ne_of_none ha6 nt
          refine ⟨a, t, _, _, rfl, rfl, by rw [upd_ne hat]; exact ha6, upd_same, by rw [hml, sizeLine_eq]; show l.length + 1 ≤ _; omega, fun p np => ?_⟩
          have sm7 := same_trans (same_new (o := .lst [V.str (S r)]) nt) (same_new (o := .lst (l.map (fun r => V.str (S r)) ++ [V.str (S r)])) np)
          have hbp : BoxL (upd H6 t (.lst [V.str (S r)])) b := hb6.ext (ext_same (same_new nt))
          refine ⟨p, l ++ [r], _, _, rfl, bt6.trans (But.of sm7), hb6.ext (ext_same sm7), but_none (bt6.trans (But.of (same_new nt))) hbp np, ?_, fun r' hr' => ?_, ?_, ?_, ?_⟩
          · unfold TxtsL
            rw [upd_same, List.map_append]
            rfl
          · rcases List.mem_append.mp hr' with h | h
            · exact hall r' h
            · rw [List.mem_singleton.mp h]; exact hr6
          · refine List.nodup_append.mpr ⟨hnd, by simp, fun x hx y hy e => ?_⟩
            rw [List.mem_singleton.mp hy] at e
            have := List.contains_iff_mem.mpr (e ▸ hx)
            rw [hc] at this
            cases this
          · rw [List.length_append]; omega
          · rw [List.length_append]
            show l.length + 1 ≤ _
            omega
        | true =>
          refine iteF' rfl ⟨by show 0 ≤ sizeLine; decide, fun t nt => ?_⟩
          have hat : a ≠ t := ne_of_none ha6 nt
          refine ⟨a, t, _, _, rfl, rfl, by rw [upd_ne hat]; exact ha6, upd_same, by rw [hml, sizeLine_eq]; show l.length + 0 ≤ _; omega, fun p np => ?_⟩
          have sm7 := same_trans (same_new (o := .lst []) nt) (same_new (o := .lst (l.map (fun r => V.str (S r)) ++ [])) np)
          have hbp : BoxL (upd H6 t (.lst [])) b := hb6.ext (ext_same (same_new nt))
          refine ⟨p, l, _, _, rfl, bt6.trans (But.of sm7), hb6.ext (ext_same sm7), but_none (bt6.trans (But.of (same_new nt))) hbp np, ?_, hall, hnd, hl1, by omega⟩
          unfold TxtsL
          rw [upd_same, List.append_nil]
      · rintro σ H3 ⟨a, l, x3, x4, rfl, bt, hbx, na, ha, hall, hnd, hl1, hl2⟩
        refine ⟨_, rfl, a, _, rfl, SqL.of ha, fun p np => ?_⟩
        have hn2 : (n : Int).toNat = n := by simp
        rw [hn2] at hl2
        refine kk p l.reverse _ (bt.trans (But.of (same_new np))) (hbx.ext (ext_same (same_new np))) (but_none bt hbx np) ?_ (fun r hr => hall r (List.mem_reverse.mp hr)) (by unfold List.Nodup at *; rw [List.pairwise_reverse]; exact hnd.imp fun h => Ne.symm h) (by rw [List.length_reverse]; exact hl1) (by rw [List.length_reverse]; omega)
        unfold TxtsL
        rw [upd_same, List.map_reverse]
end
end BW

set_option Elab.async false
set_option linter.all false
set_option maxRecDepth 100000
set_option maxHeartbeats 1000000
/-! _law_full, _law_more, _law_next, _law_pairs -/
namespace BW
open PySem PySem.Spec PyProof.Rows L2 SX
open LamX (Tabs ExtN CodeO)
theorem strOk_S {l : List Nat} (h : ∀ c ∈ l, c < 128) : (PyData.str (S l)).canLay0 = true := by
  show (l.toArray.all fun c => decide (c < 0x110000)) = true
  rw [Array.all_eq_true_iff_forall_mem]
  intro c hc
  have := h c (by simpa using hc)
  exact decide_eq_true (by omega)
theorem canLay_all : ∀ {ds : List PyData}, (∀ d ∈ ds, d.canLay0 = true) → PyData.canLayAll0 ds = true
  | [], _ => rfl
  | d :: ds, h => by
    show (d.canLay0 && PyData.canLayAll0 ds) = true
    rw [h d List.mem_cons_self, canLay_all fun x hx => h x (List.mem_cons_of_mem _ hx)]
    rfl
theorem depth_all {k : Nat} : ∀ {ds : List PyData}, (∀ d ∈ ds, d.depth ≤ k) → PyData.depthAll ds ≤ k
  | [], _ => Nat.zero_le _
  | d :: ds, h => by
    show max d.depth (PyData.depthAll ds) ≤ k
    exact Nat.max_le.mpr ⟨h d List.mem_cons_self, depth_all fun x hx => h x (List.mem_cons_of_mem _ hx)⟩
theorem shaped_list {ds : List PyData} {k : Nat} (h1 : ∀ d ∈ ds, d.canLay0 = true) (h2 : ∀ d ∈ ds, d.depth ≤ k) (hk : k < 64) : SeqAt.shaped (.list ds) = true := by
  unfold SeqAt.shaped
  rw [Bool.and_eq_true]
  refine ⟨canLay_all h1, decide_eq_true ?_⟩
  show PyData.depthAll ds + 1 ≤ 64
  have := depth_all h2
  omega
theorem eqv_nil (ds : List PyData) : PyData.eqv (.list ds) (.list []) = ds.isEmpty := by
  cases ds <;> rfl
theorem dp_texts {K : PySem.W.Frag} {H : Hp} : ∀ l : List (List Nat), DpAll K H (l.map fun r => V.str (S r)) (l.map fun r => PyData.str (S r))
  | [] => .nil
  | r :: l => .cons (.str _) (dp_texts l)
section
variable {P : Program} {w : World} {K : PySem.W.Frag} {mg : PySem.Str → Option Value} {base : Heap}
abbrev NFU : List PySem.Str := ["_law_lots_here", "_law_heard", "_law_lot", "_law_sign"]
theorem sc_full : FnScope NFU ["_law_lots_here", "_law_heard"] (defScope (top 52)) := ⟨rfl, rfl, rfl, by decide +kernel, rfl, by decide +kernel, by decide +kernel⟩
def sp_full : Sp := fun vs H Q _ => ∃ (a : Addr) (lots : List (List Nat)) (h : List Nat), vs = [.ref a, .str (S h)] ∧ TxtsL H a lots ∧ (∀ r ∈ lots, r.length ≤ 1000 ∧ ∀ c ∈ r, c < 128) ∧ ∀ H', Same H H' → Q (.bl (lots.any fun l => l.all fun c => h.contains c)) H'
theorem ok_full (T : Tx K mg) : Cal CX0 P w K mg base 1 "_law_full" sp_full := by
  refine cal_of0 T.F__law_full T.g__law_full (fun _ _ _ _ _ _ us hl => match us, hl with | [_, _], _ => rfl) sc_full (fun vs H Q E h => ?_) (fun cdv A outer s H vs Q E hr h => ?_)
  · obtain ⟨a, lots, h, rfl, _⟩ := h
    rfl
  · obtain ⟨a, lots, h, rfl, ha, hl, k⟩ := h
    have hu := hr.units
    refine ⟨_, pss_cons (ps_for PassesOwn.never rfl (pi_list (pv 0)) (pg_name (i := 2) sc_full.nd rfl (Or.inl rfl))
        (pss_one (ps_if (pt_cmpR (op_eqD hu) (pe_lc (own := [("_law_sign", 3)]) (g := gName 3) (by rfl) sc_full.nd (pi_str (pv 2)) (blkOk_by (N := NFU) (sc := defScope (top 52)) (by decide +kernel)) (fun _ _ _ _ _ => pg_name (i := 3) sc_full.nd rfl (Or.inl rfl))
          (fun _ _ _ _ _ => pts_one (pt_cmpR op_notIn_sign (pv 3) (pv 1) rfl)) (fun _ _ _ _ _ => pv 3)) (pe_lst pa_nil) rfl) (pss_one (ps_ret pe_bl)) pss_nil)))
      (pss_one (ps_ret pe_bl)), ?_⟩
    have hll : (lots.map fun r => V.str (S r)).length = lots.length := List.length_map _
    refine ⟨_, rfl, a, rfl, ⟨_, SqL.of ha⟩, ?_⟩
    refine for_it (n := (lots.map fun r => V.str (S r)).length) (walk_list (K := K) (a := a)) (fun i σ H' => ∃ x2 : Option V, σ = [some (.ref a), some (.str (S h)), x2, none] ∧ Same H H' ∧ (lots.take i).any (fun l => l.all fun c => h.contains c) = false) ⟨none, rfl, same_refl H, rfl⟩ (fun i σ H' _ ⟨_, _, sm, _⟩ => SqL.of (sm _ _ ha)) ?_ ?_
    · rintro i v σ H1 H2 hi ⟨x2, rfl, sm, hno⟩ ⟨rfl, hv⟩
      rw [hll] at hi
      have hr0 : lots[i]? = some lots[i] := List.getElem?_eq_getElem hi
      generalize lots[i] = r at hr0
      rw [List.getElem?_map, hr0] at hv
      obtain rfl := Option.some.inj hv
      obtain ⟨hrl, hrc⟩ := hl r (List.mem_of_getElem? hr0)
      refine ⟨_, rfl, S r, rfl, fun D nD => ?_⟩
      refine lc_it (walk_S (z := r)) (fun j H' => Same H2 H' ∧ TxtsL H' D (((r.take j).filter fun c => !h.contains c).map fun c => [c])) ⟨same_new nD, by unfold TxtsL; rw [upd_same]; rfl⟩ (fun _ _ _ _ => trivial) ?_ ?_
      · rintro j v H3 H4 hj ⟨sm3, hD⟩ ⟨rfl, c, hc, rfl⟩
        refine ⟨rfl, ?_⟩
        refine ⟨_, rfl, _, rfl, c, _, rfl, rfl, _, rfl, ?_⟩
        have ec : (!decide (c ∈ (S h).cps.toList)) = !h.contains c := by
          rw [mem_S]
          congr 1
          rw [Bool.eq_iff_iff, decide_eq_true_eq, List.contains_iff_mem]
        by_cases hb : (!h.contains c) = true
        · refine iteT' (ec.trans hb) ⟨_, rfl, _, hD, ?_, fun b o e => ?_, ?_⟩
          · rw [List.length_map, List.length_map, sizeLine_eq]
            have := List.length_filter_le (fun c => !h.contains c) (r.take j)
            rw [List.length_take] at this
            omega
          · rw [upd_ne (ne_of_none e nD)]
            exact sm3 b o e
          · unfold TxtsL
            rw [upd_same, take_succ hc, List.filter_append, List.filter_cons, if_pos hb, List.filter_nil, List.map_append, List.map_append]
            rfl
        · refine iteF' (by rw [ec]; simpa using hb) ⟨sm3, ?_⟩
          rw [take_succ hc, List.filter_append, List.filter_cons, if_neg hb, List.filter_nil, List.append_nil]
          exact hD
      · rintro H3 ⟨sm3, hD⟩
        rw [List.take_length] at hD
        refine ⟨by show 0 ≤ sizeLine; decide, fun t nt => ?_⟩
        have hD4 := same_new (o := .lst []) nt _ _ hD
        have sm4 := same_trans sm (same_trans sm3 (same_new (o := .lst []) nt))
        refine ⟨.list (((r.filter fun c => !h.contains c).map fun c => [c]).map fun r => .str (S r)), .list [], .lst (SqL.of hD4) (dp_texts _), .lst (SqL.of upd_same) .nil, shaped_list (k := 0) (fun d hd => ?_) (fun d hd => ?_) (by decide), by decide, _, rfl, ?_⟩
        · obtain ⟨x, hx, rfl⟩ := List.mem_map.mp hd
          obtain ⟨c, hc, rfl⟩ := List.mem_map.mp hx
          exact strOk_S fun c' hc' => by rw [List.mem_singleton.mp hc']; exact hrc c (List.mem_filter.mp hc).1
        · obtain ⟨x, _, rfl⟩ := List.mem_map.mp hd
          exact Nat.le_refl _
        · rw [eqv_nil]
          have ee : (((r.filter fun c => !h.contains c).map fun c => [c]).map fun r => PyData.str (S r)).isEmpty = r.all fun c => h.contains c := by
            rw [Bool.eq_iff_iff, List.isEmpty_iff, List.map_eq_nil_iff, List.map_eq_nil_iff, List.filter_eq_nil_iff, List.all_eq_true]
            constructor
            · intro q c hc
              have := q c hc
              simpa using this
            · intro q c hc
              have := q c hc
              simpa using this
          rw [ee]
          cases hb : r.all fun c => h.contains c with
          | true =>
            refine iteT' rfl ?_
            have := k _ sm4
            have e1 : (lots.any fun l => l.all fun c => h.contains c) = true := List.any_eq_true.mpr ⟨r, List.mem_of_getElem? hr0, hb⟩
            rw [e1] at this
            exact this
          | false =>
            refine iteF' rfl ⟨_, rfl, sm4, ?_⟩
            rw [take_succ hr0, List.any_append, hno, List.any_cons, hb]
            rfl
    · rintro σ H1 ⟨x2, rfl, sm, hno⟩
      rw [hll, List.take_length] at hno
      have := k H1 sm
      rw [hno] at this
      exact this
end
end BW

set_option Elab.async false
set_option linter.all false
set_option maxRecDepth 100000
set_option maxHeartbeats 1000000
/-! _law_more, _law_next -/
namespace BW
open PySem PySem.Spec PyProof.Rows L2 SX
open LamX (Tabs ExtN CodeO)
section
variable {P : Program} {w : World} {K : PySem.W.Frag} {mg : PySem.Str → Option Value} {base : Heap}
abbrev NMO : List PySem.Str := ["_law_heard", "_law_signal", "_law_sign"]
theorem sc_more : FnScope NMO ["_law_heard", "_law_signal"] (defScope (top 53)) := ⟨rfl, rfl, rfl, by decide +kernel, rfl, by decide +kernel, by decide +kernel⟩
def sp_more : Sp := fun vs H Q _ => ∃ (h : List Nat) (c : Nat), vs = [.str (S h), .str (S [c])] ∧ ∀ H', Same H H' → Q (.str (S (BK.more h c))) H'
theorem ok_more (T : Tx K mg) : Cal CX0 P w K mg base 1 "_law_more" sp_more := by
  refine cal_of0 T.F__law_more T.g__law_more (fun _ _ _ _ _ _ us hl => match us, hl with | [_, _], _ => rfl) sc_more (fun vs H Q E h => ?_) (fun cdv A outer s H vs Q E hr h => ?_)
  · obtain ⟨h, c, rfl, _⟩ := h
    rfl
  · obtain ⟨h, c0, rfl, k⟩ := h
    refine ⟨_, pss_one (ps_ret (pe_join pe_str (pe_lc (own := [("_law_sign", 2)]) (g := gName 2) (by rfl) sc_more.nd (pi_str pe_str) (blkOk_by (N := NMO) (sc := defScope (top 53)) (by decide +kernel)) (fun _ _ _ _ _ => pg_name (i := 2) sc_more.nd rfl (Or.inl rfl))
        (fun _ _ _ _ _ => pts_one (PW.pt (pw_or (pt_cmpR op_in_sign (pv 2) (pv 0) rfl) (pw_or1 (pt_cmpR op_eq (pv 2) (pv 1) (nomark _)))))) (fun _ _ _ _ _ => pv 2)))), ?_⟩
    refine ⟨⟨_, rfl⟩, S BK.abc, rfl, fun D nD => ?_⟩
    refine lc_it (walk_S (z := BK.abc)) (fun i H' => Same H H' ∧ H' D = some (.lst (((BK.abc.take i).filter fun x => h.contains x || x == c0).map fun c => V.str (S [c])))) ⟨same_new nD, upd_same⟩ (fun _ _ _ _ => trivial) ?_ ?_
    · rintro i v H1 H2 hi ⟨sm, hD⟩ ⟨rfl, c, hc, rfl⟩
      have hl : (((BK.abc.take i).filter fun x => h.contains x || x == c0).map fun c => V.str (S [c])).length ≤ 5 := by
        rw [List.length_map]
        exact Nat.le_trans (List.length_filter_le _ _) (Nat.le_trans (List.length_take_le' _ _) (by decide))
      have ec : (decide (c ∈ (S h).cps.toList)) = h.contains c := by
        rw [mem_S, Bool.eq_iff_iff, decide_eq_true_eq, List.contains_iff_mem]
      have ee : (decide (V.str (S [c]) = V.str (S [c0]))) = (c == c0) := by
        rw [Bool.eq_iff_iff, decide_eq_true_eq, beq_iff_eq]
        exact ⟨fun z => by have := S_inj (V.str.inj z); simpa using this, fun z => by rw [z]⟩
      have yes : (h.contains c || c == c0) = true → ∃ acc, H2 D = some (.lst acc) ∧ acc.length < sizeLine ∧ (Same H (upd H2 D (.lst (acc ++ [V.str (S [c])]))) ∧ upd H2 D (.lst (acc ++ [V.str (S [c])])) D = some (.lst (((BK.abc.take (i + 1)).filter fun x => h.contains x || x == c0).map fun c => V.str (S [c])))) := fun hb => by
        refine ⟨_, hD, by rw [sizeLine_eq]; omega, fun b o e => ?_, ?_⟩
        · rw [upd_ne (ne_of_none e nD)]
          exact sm b o e
        · rw [upd_same, take_succ hc, List.filter_append, List.filter_cons, if_pos hb, List.filter_nil, List.map_append]
          rfl
      refine ⟨rfl, _, rfl, _, rfl, c, S h, rfl, rfl, _, rfl, ?_⟩
      rw [ec]
      cases hh : h.contains c with
      | true =>
        refine iteT' rfl (iteT' rfl ⟨_, rfl, yes (by rw [hh]; rfl)⟩)
      | false =>
        refine iteF' rfl ⟨_, rfl, _, rfl, rfl, _, rfl, ?_⟩
        rw [ee]
        cases hq : (c == c0) with
        | true => exact iteT' rfl ⟨_, rfl, yes (by rw [hh, hq]; rfl)⟩
        | false =>
          refine iteF' rfl ⟨sm, ?_⟩
          rw [take_succ hc, List.filter_append, List.filter_cons, if_neg (by rw [hh, hq]; decide), List.filter_nil, List.append_nil]
          exact hD
    · rintro H1 ⟨sm, hD⟩
      rw [List.take_length] at hD
      refine ⟨S [], D, (BK.abc.filter fun x => h.contains x || x == c0).map fun c => S [c], rfl, rfl, .inl (SqL.of (by rw [hD, List.map_map]; rfl)), ?_, ?_⟩
      · rw [sum_sings]
        have := List.length_filter_le (fun x => h.contains x || x == c0) BK.abc
        have h5 : BK.abc.length = 5 := rfl
        show _ + _ * 0 ≤ _
        omega
      · rw [join_sings]
        exact k H1 sm
abbrev NNX : List PySem.Str := ["_law_tables_here", "_law_pair", "_law_signal", "_law_table_here", "_law_one", "_law_other"]
theorem sc_next : FnScope NNX ["_law_tables_here", "_law_pair", "_law_signal"] (defScope (top 54)) := ⟨rfl, rfl, rfl, by decide +kernel, rfl, by decide +kernel, by decide +kernel⟩
def sp_next : Sp := fun vs H Q _ => ∃ (t q : Addr) (p : Nat × Nat) (j : Nat) (C : BK.Cfg), vs = [.ref t, .ref q, .str (S [97 + j])] ∧ TabL H t C.tabs ∧ PairAt H q p ∧ C.Ok ∧ p.1 < C.n ∧ p.2 < C.n ∧ j < C.tabs.length ∧ ∀ H' v, Same H H' → PairV H' v (C.step p (97 + j)) → Q v H'
theorem ok_next (T : Tx K mg) : Cal CX0 P w K mg base 1 "_law_next" sp_next := by
  refine cal_of0 T.F__law_next T.g__law_next (fun _ _ _ _ _ _ us hl => match us, hl with | [_, _, _], _ => rfl) sc_next (fun vs H Q E h => ?_) (fun cdv A outer s H vs Q E hr h => ?_)
  · obtain ⟨t, q, p, j, C, rfl, _⟩ := h
    rfl
  · obtain ⟨t, q, p, j, C, rfl, hT, hq, ok, hp1, hp2, hj, k⟩ := h
    refine ⟨_, pss_cons (ps_set (i := 3) sc_next.nd rfl (Or.inl rfl) (pe_ix ix_list (pv 0) (pe_m1 PySem.F.slot_str_index PySem.F.type_str_index mt_sindex pe_str (pv 2)) (fun _ _ => rfl)))
      (pss_cons (ps_par (i := 4) (j := 5) rfl sc_next.nd rfl rfl (by decide) rfl rfl (pa_cons (pe_ix ix_list (pv 3) (pe_ix ix_tup (pv 1) pe_int (fun _ _ => rfl)) (fun _ _ => rfl)) (pa_cons (pe_ix ix_list (pv 3) (pe_ix ix_tup (pv 1) pe_int (fun _ _ => rfl)) (fun _ _ => rfl)) pa_nil)) (by rfl))
      (pss_one (ps_ret (pe_ifExp (pt_cmpR op_eq (pv 4) (pv 5) (nomark _)) pe_non (pe_tup (pa_cons (pe_callB (call_min2 rfl) (by rfl) T.n_min (by decide +kernel) (pa_cons (pv 4) (pa_cons (pv 5) pa_nil))) (pa_cons (pe_callB (call_max2 rfl) (by rfl) T.n_max (by decide +kernel) (pa_cons (pv 4) (pa_cons (pv 5) pa_nil))) pa_nil))))))), ?_⟩
    obtain ⟨as, e5, e6, e7⟩ := hT
    have k3 := ok.k3
    have hrow : C.tabs[j]? = some C.tabs[j] := List.getElem?_eq_getElem hj
    obtain ⟨a, ha, hta⟩ := e7 j _ hrow
    have hlen : (C.tabs[j]).length = C.n := ok.len _ (List.getElem_mem hj)
    have at1 : ∀ i, i < C.n → (Num C.tabs[j])[i]? = some (V.int ((C.at (97 + j) i : Nat) : Int)) := fun i hi => by
      have hi' : i < (C.tabs[j]).length := by omega
      rw [num_at (x := (C.tabs[j])[i]) (List.getElem?_eq_getElem hi')]
      unfold BK.Cfg.at
      rw [show 97 + j - 97 = j by omega]
      simp [List.getD_eq_getElem?_getD, hrow, List.getElem?_eq_getElem hi']
    have habc : (BK.abc.take 5)[j]? = some (97 + j) := by
      have c : j = 0 ∨ j = 1 ∨ j = 2 := by omega
      rcases c with e | e | e <;> rw [e] <;> rfl
    refine ⟨_, rfl, ⟨_, rfl⟩, _, rfl, _, _, j, [], rfl, rfl, idx_sig (k := 5) (by decide) habc, t, _, _, _, rfl, rfl, SqL.of e5, atI_nat (v := .ref a) (by rw [List.getElem?_map, ha]; rfl), ?_⟩
    refine ⟨_, rfl, _, rfl, q, _, _, _, rfl, rfl, SqT.of hq, atI_nat (j := 0) rfl, a, _, _, _, rfl, rfl, SqL.of hta, atI_nat (at1 p.1 hp1), ?_⟩
    refine ⟨_, rfl, _, rfl, q, _, _, _, rfl, rfl, SqT.of hq, atI_nat (j := 1) rfl, a, _, _, _, rfl, rfl, SqL.of hta, atI_nat (at1 p.2 hp2), ?_⟩
    refine ⟨_, _, rfl, _, rfl, _, rfl, rfl, _, rfl, ?_⟩
    have hs : C.step p (97 + j) = BK.pairOf (C.at (97 + j) p.1) (C.at (97 + j) p.2) := rfl
    generalize C.at (97 + j) p.1 = x at hs
    generalize C.at (97 + j) p.2 = y at hs
    by_cases h1 : x = y
    · subst h1
      refine iteT' (by simp) (k H .non (same_refl H) ?_)
      rw [hs]
      unfold BK.pairOf
      rw [if_pos rfl]
      rfl
    · refine iteF' (decide_eq_false fun z => h1 (by have := V.int.inj z; omega)) ?_
      refine ⟨_, rfl, _, rfl, _, _, rfl, _, rfl, _, rfl, _, _, rfl, by show 2 ≤ sizeLine; decide, fun r nr => ?_⟩
      refine k _ _ (same_new nr) ?_
      rw [hs]
      unfold BK.pairOf
      rw [if_neg h1]
      by_cases h2 : x < y
      · rw [if_pos h2]
        refine ⟨r, rfl, ?_⟩
        unfold PairAt
        rw [upd_same]
        have c1 : ¬ ((y : Int) < (x : Int)) := by omega
        have c2 : (y : Int) > (x : Int) := by omega
        rw [if_neg c1, if_pos c2]
      · rw [if_neg h2]
        refine ⟨r, rfl, ?_⟩
        unfold PairAt
        rw [upd_same]
        have c1 : (y : Int) < (x : Int) := by omega
        have c2 : ¬ ((y : Int) > (x : Int)) := by omega
        rw [if_pos c1, if_neg c2]
end
end BW

set_option Elab.async false
set_option linter.all false
set_option maxRecDepth 100000
set_option maxHeartbeats 1000000
/-! _law_pairs -/
namespace BW
open PySem PySem.Spec PyProof.Rows L2 SX
open LamX (Tabs ExtN CodeO)
section
variable {P : Program} {w : World} {K : PySem.W.Frag} {mg : PySem.Str → Option Value} {base : Heap}
abbrev NLP : List PySem.Str := ["_law_many", "_law_found", "_law_i", "_law_j"]
theorem sc_lpairs : FnScope NLP ["_law_many"] (defScope (top 55)) := ⟨rfl, rfl, rfl, by decide +kernel, rfl, by decide +kernel, by decide +kernel⟩
def sp_lpairs : Sp := fun vs H Q _ => ∃ n : Nat, vs = [.int n] ∧ n ≤ 5 ∧ ∀ a H', Same H H' → H a = none → PairsL H' a (BK.pairs n) → Q (.ref a) H'
theorem PairsAt.app {H : Hp} {qs rs : List Addr} {l m : List (Nat × Nat)} (x : PairsAt H qs l) (y : PairsAt H rs m) : PairsAt H (qs ++ rs) (l ++ m) := by
  obtain ⟨h1, h2⟩ := x
  obtain ⟨h3, h4⟩ := y
  refine ⟨by rw [List.length_append, List.length_append, h1, h3], fun i p hp => ?_⟩
  by_cases hi : i < l.length
  · rw [List.getElem?_append_left hi] at hp
    obtain ⟨q, q1, q2⟩ := h2 i p hp
    exact ⟨q, by rw [List.getElem?_append_left (by omega)]; exact q1, q2⟩
  · rw [List.getElem?_append_right (by omega)] at hp
    obtain ⟨q, q1, q2⟩ := h4 _ p hp
    exact ⟨q, by rw [List.getElem?_append_right (by omega), h1]; exact q1, q2⟩
def upTo (n i : Nat) : List (Nat × Nat) := (List.range i).flatMap fun i => (List.range (n - (i + 1))).map fun j => (i, i + 1 + j)
theorem upTo_len (n i : Nat) (h : n ≤ 5) (hi : i ≤ 5) : (upTo n i).length ≤ 25 := by
  unfold upTo
  rw [List.length_flatMap]
  have : ∀ (l : List Nat), ((l.map fun i => ((List.range (n - (i + 1))).map fun j => (i, i + 1 + j)).length).sum) ≤ 5 * l.length := by
    intro l
    induction l with
    | nil => simp
    | cons x l ih =>
      rw [List.map_cons, List.sum_cons, List.length_cons, List.length_map, List.length_range]
      omega
  have h3 := this (List.range i)
  rw [List.length_range] at h3
  omega
theorem ok_lpairs (T : Tx K mg) : Cal CX0 P w K mg base 1 "_law_pairs" sp_lpairs := by
  refine cal_of0 T.F__law_pairs T.g__law_pairs (fun _ _ _ _ _ _ us hl => match us, hl with | [_], _ => rfl) sc_lpairs (fun vs H Q E h => ?_) (fun cdv A outer s H vs Q E hr h => ?_)
  · obtain ⟨n, rfl, _⟩ := h
    rfl
  · obtain ⟨n, rfl, hn, k⟩ := h
    refine ⟨_, pss_cons (ps_set (i := 1) sc_lpairs.nd rfl (Or.inl rfl) (pe_lst pa_nil))
      (pss_cons (ps_for PassesOwn.never rfl (pi_range1 (by rfl) T.n_range (pa_cons (pv 0) pa_nil)) (pg_name (i := 2) sc_lpairs.nd rfl (Or.inr rfl))
        (pss_one (ps_set (i := 1) sc_lpairs.nd rfl (Or.inl rfl) (pe_op op_cat (pv 1) (pe_lc (own := [("_law_j", 3)]) (g := gName 3) (by rfl) sc_lpairs.nd (pi_range2 (by rfl) T.n_range (pa_cons (pe_op op_add (pv 2) pe_int) (pa_cons (pv 0) pa_nil))) (blkOk_by (N := NLP) (sc := defScope (top 55)) (by decide +kernel)) (fun _ _ _ _ _ => pg_name (i := 3) sc_lpairs.nd rfl (Or.inl rfl)) (fun _ _ _ _ _ => pts_nil)
          (fun _ _ _ _ _ => pe_tup (pa_cons (pv 2) (pa_cons (pv 3) pa_nil))))))))
      (pss_one (ps_ret (pv 1)))), ?_⟩
    refine ⟨by show 0 ≤ sizeLine; decide, fun f nf => ?_⟩
    refine ⟨_, rfl, n, rfl, by omega, by omega, ?_⟩
    refine for_it (n := (n : Int).toNat) (walk_range (lo := 0)) (fun i σ H' => ∃ (a : Addr) (x2 : Option V), σ = [some (.int (n : Nat)), some (.ref a), x2, none] ∧ Same H H' ∧ H a = none ∧ PairsL H' a (upTo n i)) ⟨f, none, rfl, same_new nf, nf, [], upd_same, PairsAt.nil⟩ (fun _ _ _ _ _ => trivial) ?_ ?_
    · rintro i v σ H1 H2 hi ⟨a, x2, rfl, sm, na, qs, ha, hqs⟩ ⟨rfl, rfl⟩
      have hi : i < n := by simpa using hi
      refine ⟨_, rfl, _, rfl, _, _, rfl, rfl, _, rfl, _, _, rfl, by omega, fun D nD => ?_⟩
      have haD : a ≠ D := ne_of_none ha nD
      refine lc_it (n := ((n : Int) - (0 + (i : Int) + 1)).toNat) (walk_range (lo := 0 + (i : Int) + 1)) (fun j H' => Same H2 H' ∧ PairsL H' D ((List.range j).map fun j => (i, i + 1 + j))) ⟨same_new nD, [], upd_same, PairsAt.nil⟩ (fun _ _ _ _ => trivial) ?_ ?_
      · rintro j v H3 H4 hj ⟨sm3, rs, hD, hP⟩ ⟨rfl, rfl⟩
        refine ⟨rfl, tYes_in ?_⟩
        refine ⟨_, rfl, _, rfl, by show 2 ≤ sizeLine; decide, fun q nq => ?_⟩
        have nDq : D ≠ q := ne_of_none hD nq
        have hrl : rs.length = j := by rw [hP.1, List.length_map, List.length_range]
        refine ⟨_, by rw [upd_ne nDq]; exact hD, by rw [List.length_map, hrl, sizeLine_eq]; omega, fun b o e => ?_, rs ++ [q], ?_, ?_⟩
        · rw [upd_ne (ne_of_none e nD), upd_ne (ne_of_none (sm3 b o e) nq)]
          exact sm3 b o e
        · rw [upd_same, List.map_append]
          rfl
        · rw [List.range_succ, List.map_append]
          have hp : PairAt (upd H4 q (.tup [V.int (0 + (i : Int)), V.int (0 + (i : Int) + 1 + (j : Int))])) q (i, i + 1 + j) := by
            unfold PairAt
            rw [upd_same]
            have a1 : (0 : Int) + (i : Int) = ((i : Nat) : Int) := by omega
            have a2 : (i : Int) + 1 + (j : Int) = ((i + 1 + j : Nat) : Int) := by omega
            rw [a1, a2]
          exact ((hP.ext (ext_same (same_new nq))).snoc hp).write (a := D) (o := .lst (rs.map V.ref)) (by rw [upd_ne nDq]; exact hD) fun xs z => by cases z
      · rintro H3 ⟨sm3, rs, hD, hP⟩
        have e : ((n : Int) - (0 + (i : Int) + 1)).toNat = n - (i + 1) := by omega
        rw [e] at hP
        have ha3 := sm3 _ _ ha
        have hql : qs.length ≤ 25 := by rw [hqs.1]; exact upTo_len n i hn (by omega)
        have hrl : rs.length ≤ 5 := by rw [hP.1, List.length_map, List.length_range]; omega
        refine ⟨a, D, _, _, rfl, rfl, ha3, hD, by rw [List.length_map, List.length_map, sizeLine_eq]; omega, fun f2 nf2 => ?_⟩
        have sm4 := same_trans sm3 (same_new (o := .lst (qs.map V.ref ++ rs.map V.ref)) nf2)
        refine ⟨f2, _, rfl, same_trans sm sm4, none_same (same_trans sm sm3) nf2, qs ++ rs, ?_, ?_⟩
        · rw [upd_same, List.map_append]
        · have : upTo n (i + 1) = upTo n i ++ (List.range (n - (i + 1))).map fun j => (i, i + 1 + j) := by
            unfold upTo
            rw [List.range_succ, List.flatMap_append]
            simp
          rw [this]
          exact (hqs.ext (ext_same sm4)).app (hP.ext (ext_same (same_new nf2)))
    · rintro σ H1 ⟨a, x2, rfl, sm, na, hP⟩
      have e : (n : Int).toNat = n := by simp
      rw [e] at hP
      exact ⟨_, rfl, k a H1 sm na hP⟩
end
end BW

set_option Elab.async false
set_option linter.all false
set_option maxRecDepth 100000
set_option maxHeartbeats 1000000
/-! xs == []; the state of the layered walk -/
namespace BW
open PySem PySem.Spec PyProof.Rows L2 SX
open LamX (Tabs ExtN CodeO)
section
variable {X : Cx}
def rEqNil (K : PySem.W.Frag) : R2 := fun x y H Q => ∃ a b xs, x = .ref a ∧ y = .ref b ∧ SqL K H a xs ∧ SqL K H b [] ∧ Q (.bl xs.isEmpty) H
theorem op_eqNil (hu : X.A.units + 64 < cLine) : OpR X (compareOp .Eq) (rEqNil X.K) := by
  intro pins s σ H x y v u Q I rx ry h
  obtain ⟨a, b, xs, rfl, rfl, ha, hb, q⟩ := h
  cases rx
  cases ry
  obtain ⟨its, r1, p1, _⟩ := I.list ha
  obtain ⟨its2, r2, p2, _⟩ := I.list hb
  cases r2
  have hl := r1.length
  cases xs with
  | nil =>
    cases r1
    exact SeqAt.eq_listAt (e := fun _ => true) p1.isList p2.isList rfl (by omega) (fun i h1 h2 => absurd h1 (by simp)) ⟨.bl true, H, I, rfl, q⟩
  | cons x xs =>
    refine SeqAt.eq_list_lengthsAt p1.isList p2.isList ?_ (by omega) ⟨.bl false, H, I, rfl, q⟩
    rw [List.size_toArray, ← hl]
    simp
end
/-! ### the state of the layered walk; rw: with rows (_law_rows), else without (_law_steps) -/
def itemV (rw : Bool) (q : Addr) (x : BK.Node × BK.Row) : List V := if rw = true then [.ref q, .str (S x.1.2), .str (S x.2)] else [.ref q, .str (S x.1.2)]
def Item (rw : Bool) (H : Hp) (t : Addr) (x : BK.Node × BK.Row) : Prop := ∃ q, H t = some (.tup (itemV rw q x)) ∧ PairAt H q x.1.1
def LayL (rw : Bool) (H : Hp) (a : Addr) (L : List (BK.Node × BK.Row)) : Prop := ∃ ts : List Addr, H a = some (.lst (ts.map V.ref)) ∧ ts.length = L.length ∧ ∀ (j : Nat) (x : BK.Node × BK.Row), L[j]? = some x → ∃ t, ts[j]? = some t ∧ Item rw H t x
def FndOf (rw : Bool) (kvs : List (Pk × V)) (F : List (BK.Pair × BK.Row)) : Prop := kvs.map (·.1) = F.map (fun x => kp x.1) ∧ (rw = true → kvs = FD F)
/-- tuples stay -/
def KT' (H H' : Hp) : Prop := ∀ b xs, H b = some (.tup xs) → H' b = some (.tup xs)
theorem PairAt.kt {H H' : Hp} {q : Addr} {p : Nat × Nat} (x : PairAt H q p) (k : KT' H H') : PairAt H' q p := k _ _ x
theorem Item.kt {rw : Bool} {H H' : Hp} {t : Addr} {x : BK.Node × BK.Row} (i : Item rw H t x) (k : KT' H H') : Item rw H' t x := by
  obtain ⟨q, h1, h2⟩ := i
  exact ⟨q, k _ _ h1, h2.kt k⟩
theorem kt_same {H H' : Hp} (s : Same H H') : KT' H H' := fun b xs e => s _ _ e
theorem LayL.same {rw : Bool} {H H' : Hp} {a : Addr} {L : List (BK.Node × BK.Row)} (x : LayL rw H a L) (s : Same H H') : LayL rw H' a L := by
  obtain ⟨ts, h1, h2, h3⟩ := x
  refine ⟨ts, s _ _ h1, h2, fun j y hy => ?_⟩
  obtain ⟨t, g1, g2⟩ := h3 j y hy
  exact ⟨t, g1, g2.kt (kt_same s)⟩
theorem fnd_has {rw : Bool} {kvs : List (Pk × V)} {F : List (BK.Pair × BK.Row)} (h : FndOf rw kvs F) (q : Nat × Nat) : (valV kvs (kp q)).isSome = BK.hasKey F q := by
  rw [← valV_any]
  have e : (kvs.any fun kv => decide (kv.1 = kp q)) = (kvs.map (·.1)).any fun k => decide (k = kp q) := by rw [List.any_map]; rfl
  rw [e, h.1, List.any_map]
  show (F.any fun x => decide (kp x.1 = kp q)) = F.any fun x => decide (x.1 = q)
  congr 1
  funext x
  rw [Bool.eq_iff_iff, decide_eq_true_eq, decide_eq_true_eq]
  exact ⟨fun z => kp_inj z, fun z => by rw [z]⟩
structure WR (rw : Bool) (P : Program) (w : World) (md fd af : Addr) (i0 : Nat) (H1 : Hp) (b : BK.B) (H : Hp) : Prop where
  keep : ∀ c o, c ≠ md → c ≠ fd → c ≠ af → H1 c = some o → H c = some o
  met : NDict P w H md (b.W.map fun x => (x.1, V.bl true))
  fnd : ∃ kvs, H fd = some (.dT kvs) ∧ FndOf rw kvs b.F
  aft : LayL rw H af (b.W.drop i0)
section
variable {rw : Bool} {P : Program} {w : World} {md fd af : Addr} {i0 : Nat} {H1 H : Hp} {b : BK.B}
theorem WR.same {H' : Hp} (x : WR rw P w md fd af i0 H1 b H) (s : Same H H') : WR rw P w md fd af i0 H1 b H' := by
  obtain ⟨kvs, h1, h2⟩ := x.fnd
  exact ⟨fun c o n1 n2 n3 e => s _ _ (x.keep c o n1 n2 n3 e), x.met.same (ext_same s), ⟨kvs, s _ _ h1, h2⟩, x.aft.same s⟩
/-- a new pair found -/
theorem WR.foundPut {kvs : List (Pk × V)} {q : Nat × Nat} {r : List Nat} {v : V} (x : WR rw P w md fd af i0 H1 b H) (hk : H fd = some (.dT kvs)) (hv : rw = true → v = .str (S r)) :
    WR rw P w md fd af i0 H1 { b with F := b.F ++ [(q, r)] } (upd H fd (.dT (kvs ++ [(kp q, v)]))) ∧ KT' H (upd H fd (.dT (kvs ++ [(kp q, v)]))) := by
  obtain ⟨kvs', h1, h2, h3⟩ := x.fnd
  rw [hk] at h1
  obtain rfl := HO.dT.inj (Option.some.inj h1)
  have kt : KT' H (upd H fd (.dT (kvs ++ [(kp q, v)]))) := fun c xs e => by rw [upd_ne (ne_of e hk (fun z => by cases z))]; exact e
  obtain ⟨ts, t1, t2, t3⟩ := x.aft
  obtain ⟨nk', m1, m2, m3, m4⟩ := x.met
  refine ⟨⟨fun c o n1 n2 n3 e => by rw [upd_ne n2]; exact x.keep c o n1 n2 n3 e, ⟨nk', m1, m2, by rw [upd_ne (ne_of m3 hk (fun z => by unfold NDO at z; cases z))]; exact m3, fun y hy => ?_⟩, ⟨_, upd_same, ?_, fun e => ?_⟩, ts, by rw [upd_ne (ne_of t1 hk (fun z => by cases z))]; exact t1, t2, fun j y hy => ?_⟩, kt⟩
  · obtain ⟨qq, n1, n2⟩ := m4 y hy
    exact ⟨qq, kt _ _ n1, kt _ _ n2⟩
  · rw [List.map_append, List.map_append, h2]
    rfl
  · rw [h3 e, hv e, fd_snoc]
  · obtain ⟨t, g1, g2⟩ := t3 j y hy
    exact ⟨t, g1, g2.kt kt⟩
/-- a new node waits -/
theorem WR.waitPut {H10 : Hp} {k : Node} {r : List Nat} {t4 qa : Addr} (x : WR rw P w md fd af i0 H1 b H) (hi : i0 ≤ b.W.length) (D10 : NDict P w H10 md ((b.W.map fun x => (x.1, V.bl true)) ++ [(k, V.bl true)])) (k10 : ∀ c o, H c = some o → c ≠ md → H10 c = some o)
    (nt4 : H10 t4 = none) (hq : PairAt H qa k.1) :
    ∃ acc, H10 af = some (.lst acc) ∧ acc.length = b.W.length - i0 ∧ upd H10 t4 (.tup (itemV rw qa (k, r))) af = some (.lst acc) ∧ WR rw P w md fd af i0 H1 { b with W := b.W ++ [(k, r)] } (upd (upd H10 t4 (.tup (itemV rw qa (k, r)))) af (.lst (acc ++ [V.ref t4]))) ∧ KT' H (upd (upd H10 t4 (.tup (itemV rw qa (k, r)))) af (.lst (acc ++ [V.ref t4]))) := by
  obtain ⟨kvs, f1, f2⟩ := x.fnd
  obtain ⟨ts, t1, t2, t3⟩ := x.aft
  obtain ⟨nk', m1, m2, m3, m4⟩ := x.met
  obtain ⟨nk2, d1, d2, d3, d4⟩ := D10
  have ndm : ∀ {c : Addr} {o : HO}, H c = some o → (∀ p, o ≠ .ext p) → c ≠ md := fun e n => ne_of e m3 (fun z => by unfold NDO at z; exact n _ z)
  have t10 : H10 af = some (.lst (ts.map V.ref)) := k10 _ _ t1 (ndm t1 fun p z => by cases z)
  have f10 : H10 fd = some (.dT kvs) := k10 _ _ f1 (ndm f1 fun p z => by cases z)
  have ha4 : af ≠ t4 := ne_of_none t10 nt4
  have up : ∀ {c : Addr} {o : HO}, H10 c = some o → c ≠ af → upd (upd H10 t4 (.tup (itemV rw qa (k, r)))) af (.lst (ts.map V.ref ++ [V.ref t4])) c = some o := fun {c o} e n => by
    rw [upd_ne n, upd_ne (ne_of_none e nt4)]
    exact e
  have kt10 : KT' H10 (upd (upd H10 t4 (.tup (itemV rw qa (k, r)))) af (.lst (ts.map V.ref ++ [V.ref t4]))) := fun c xs e => up e (ne_of e t10 (fun z => by cases z))
  have kt : KT' H (upd (upd H10 t4 (.tup (itemV rw qa (k, r)))) af (.lst (ts.map V.ref ++ [V.ref t4]))) := fun c xs e => kt10 _ _ (k10 _ _ e (ndm e fun p z => by cases z))
  have hdl : (b.W.drop i0).length = b.W.length - i0 := List.length_drop
  refine ⟨ts.map V.ref, t10, by rw [List.length_map, t2, hdl], by rw [upd_ne ha4]; exact t10, ⟨fun c o n1 n2 n3 e => up (k10 _ _ (x.keep c o n1 n2 n3 e) n1) n3, ⟨nk2, ?_, d2, up d3 (ne_of d3 t10 (fun z => by unfold NDO at z; cases z)), fun y hy => ?_⟩, ⟨kvs, up f10 (ne_of f10 t10 (fun z => by cases z)), f2⟩, ts ++ [t4], ?_, ?_, fun j y hy => ?_⟩, kt⟩
  · rw [List.map_append]
    exact d1
  · obtain ⟨qq, n1, n2⟩ := d4 y hy
    exact ⟨qq, kt10 _ _ n1, kt10 _ _ n2⟩
  · rw [upd_same, List.map_append]
    rfl
  · show _ = ((b.W ++ [(k, r)]).drop i0).length
    rw [List.length_append, t2, hdl, List.length_drop, List.length_append]
    show _ + 1 = b.W.length + 1 - i0
    omega
  · have hy : ((b.W ++ [(k, r)]).drop i0)[j]? = some y := hy
    rw [List.drop_append_of_le_length hi] at hy
    by_cases hj : j < (b.W.drop i0).length
    · rw [List.getElem?_append_left hj] at hy
      obtain ⟨t, g1, g2⟩ := t3 j y hy
      exact ⟨t, by rw [List.getElem?_append_left (by omega)]; exact g1, g2.kt kt⟩
    · rw [List.getElem?_append_right (by omega)] at hy
      have hj0 : j - (b.W.drop i0).length = 0 := by
        have := (List.getElem?_eq_some_iff.mp hy).1
        simp only [List.length_singleton] at this
        omega
      rw [hj0] at hy
      cases hy
      refine ⟨t4, by rw [List.getElem?_append_right (by omega), t2, hj0]; rfl, qa, ?_, hq.kt kt⟩
      rw [upd_ne (Ne.symm ha4), upd_same]
end
theorem met_has (W : List (BK.Node × BK.Row)) (q : Node) : (valV (W.map fun x => (x.1, V.bl true)) q).isSome = BK.hasKey W q := by
  rw [valV_nodes (fun _ : BK.Node × BK.Row => V.bl true) (fun x => x.1)]
  rw [Option.isSome_map, find_some]
  rfl
theorem fold_visit_ext (C : BK.Cfg) : ∀ (l : List (BK.Node × BK.Row)) (b : BK.B), BK.Ext b (l.foldl (fun b nd => BK.visit C nd b) b)
  | [], b => .refl b
  | x :: l, b => (BK.visit_ext C x b).trans (fold_visit_ext C l _)
end BW

set_option Elab.async false
set_option linter.all false
set_option maxRecDepth 100000
set_option maxHeartbeats 1000000
/-! _law_rows -/
namespace BW
open PySem PySem.Spec PyProof.Rows L2 SX
open LamX (Tabs ExtN CodeO)
section
variable {P : Program} {w : World} {K : PySem.W.Frag} {mg : PySem.Str → Option Value} {base : Heap}
abbrev NRO : List PySem.Str := ["_law_tables_here", "_law_lots_here", "_law_pair", "_law_heard", "_law_met", "_law_layer", "_law_found", "_law_turn", "_law_after", "_law_here", "_law_lot", "_law_row", "_law_signal", "_law_there", "_law_more_here"]
theorem sc_rows : FnScope NRO ["_law_tables_here", "_law_lots_here", "_law_pair", "_law_heard"] (defScope (top 59)) := ⟨rfl, rfl, rfl, by decide +kernel, rfl, by decide +kernel, by decide +kernel⟩
def sp_rows : Sp := fun vs H Q _ => ∃ (t la q : Addr) (p : Nat × Nat) (h : List Nat) (C : BK.Cfg), vs = [.ref t, .ref la, .ref q, .str (S h)] ∧ TabL H t C.tabs ∧ TxtsL H la C.lots ∧ Fam C ∧ PairAt H q p ∧ (p, h) ∈ C.nodes ∧ ∀ fd H', Same H H' → H' fd = some (.dT (FD (BK.found C p h))) → H fd = none → Q (.ref fd) H'
theorem ok_rows (T : Tx K mg) : Cal CX0 P w K mg base 2 "_law_rows" sp_rows := by
  refine cal_of0 T.F__law_rows T.g__law_rows (fun _ _ _ _ _ _ us hl => match us, hl with | [_, _, _, _], _ => rfl) sc_rows (fun vs H Q E h => ?_) (fun cdv A outer s H vs Q E hr h => ?_)
  · obtain ⟨t, la, q, p, h, C, rfl, _⟩ := h
    rfl
  · obtain ⟨t, la, q, p, h, C, rfl, hT, hla, hF, hq, hn, k⟩ := h
    have hu := hr.units
    have hu1 : (A.deeper (envOfC "_law_rows" (defScope (top 59)) s.heap.objs.size (He.ga K "_law_rows") cdv)).units + 1 < cLine := by omega
    refine ⟨_, pss_cons (ps_par3 (i := 4) (j := 5) (l := 6) rfl sc_rows.nd rfl rfl rfl (by decide) (by decide) (by decide) rfl rfl rfl (pa_cons (pe_ndisp hu (pe_tup (pa_cons (pv 2) (pa_cons (pv 3) pa_nil))) pe_bl) (pa_cons (pe_lst (pa_cons (pe_tup (pa_cons (pv 2) (pa_cons (pv 3) (pa_cons pe_str pa_nil)))) pa_nil)) (pa_cons pe_dnewT pa_nil))) (by rfl))
      (pss_cons (ps_for PassesOwn.never rfl (pi_range1 (by rfl) T.n_range (pa_cons pe_int pa_nil)) (pg_name (i := 7) sc_rows.nd rfl (Or.inl rfl))
        (pss_cons (ps_set (i := 8) sc_rows.nd rfl (Or.inl rfl) (pe_lst pa_nil))
        (pss_cons (ps_for PassesOwn.never rfl (pi_list (pv 5)) (pg_tup rfl (pgs_cons (pg_name (i := 9) sc_rows.nd rfl (Or.inl rfl)) (pgs_cons (pg_name (i := 10) sc_rows.nd rfl (Or.inl rfl)) (pgs_cons (pg_name (i := 11) sc_rows.nd rfl (Or.inl rfl)) pgs_nil))))
          (pss_one (ps_for PassesOwn.never rfl (pi_str (pe_slice sl_str pe_str po_none (po_some (pe_callB call_len (by rfl) T.n_len boot_len (pa_cons (pv 0) pa_nil))))) (pg_name (i := 12) sc_rows.nd rfl (Or.inl rfl))
            (pss_cons (ps_par (i := 13) (j := 14) rfl sc_rows.nd rfl rfl (by decide) rfl rfl (pa_cons (pe_c (ok_next T) hr (by rfl) (pa_cons (pv 0) (pa_cons (pv 9) (pa_cons (pv 12) pa_nil)))) (pa_cons (pe_c (ok_more T) hr (by rfl) (pa_cons (pv 10) (pa_cons (pv 12) pa_nil))) pa_nil)) (by rfl))
            (pss_one (ps_if (PW.pt (pw_and (pt_cmp (pc_notN (pv 13))) (pw_and1 (pt_val (pe_c (ok_full T) hr (by rfl) (pa_cons (pv 1) (pa_cons (pv 14) pa_nil)))))))
              (pss_one (ps_expr (pe_psetd hu1 (pv 6) (pv 13) (pe_op op_add_str (pv 11) (pv 12)) ⟨rfl, rfl, rfl, rfl⟩)))
              (pss_one (ps_if (PW.pt (pw_and (pt_cmp (pc_notN (pv 13))) (pw_and1 (pt_cmp (pc_nnotin hu (pe_tup (pa_cons (pv 13) (pa_cons (pv 14) pa_nil))) (pv 4))))))
                (pss_cons (ps_nput hu (pv 4) (pe_tup (pa_cons (pv 13) (pa_cons (pv 14) pa_nil))) pe_bl)
                (pss_one (ps_expr (pe_bm PySem.F.plainAttrs_list PySem.F.slot_list_append PySem.F.type_list_append mt_append (pv 8) (pa_cons (pe_tup (pa_cons (pv 13) (pa_cons (pv 14) (pa_cons (pe_op op_add_str (pv 11) (pv 12)) pa_nil)))) pa_nil)))))
                pss_nil)))))))
          )
        (pss_cons (ps_set (i := 5) sc_rows.nd rfl (Or.inl rfl) (pv 8))
        (pss_one (ps_if (pt_cmpR (op_eqNil hu) (pv 5) (pe_lst pa_nil) rfl) (pss_one ps_break) pss_nil))))))
      (pss_one (ps_ret (pv 6)))), ?_⟩
    have ok := hF.ok
    intro md nmd hsys
    refine ⟨_, rfl, _, rfl, by show 2 ≤ sizeLine; decide, fun t0 nt0 => ?_⟩
    have mt0 : md ≠ t0 := fun z => by rw [← z, upd_same] at nt0; cases nt0
    have nt0' : H t0 = none := by rw [upd_ne (Ne.symm mt0)] at nt0; exact nt0
    have qm : q ≠ md := ne_of_none hq nmd
    have qt0 : q ≠ t0 := ne_of_none hq nt0'
    refine ⟨t0, (p, h), rfl, by rw [upd_ne mt0, upd_same], ⟨q, upd_same, by unfold PairAt; rw [upd_ne qt0, upd_ne qm]; exact hq⟩, fun H3 D3 k3 z3 => ?_⟩
    have sm3 : Same H H3 := fun c o e => k3 c o (by rw [upd_ne (ne_of_none e nt0'), upd_ne (ne_of_none e nmd)]; exact e) (ne_of_none e nmd)
    refine ⟨_, rfl, _, rfl, by show 3 ≤ sizeLine; decide, fun t1 nt1 => ⟨by show 1 ≤ sizeLine; decide, fun ly nly => fun fd nfd => ⟨_, _, _, rfl, ?_⟩⟩⟩
    have sm4 : Same H3 (upd H3 t1 (.tup [.ref q, .str (S h), .str ""])) := same_new nt1
    have sm5 : Same (upd H3 t1 (.tup [.ref q, .str (S h), .str ""])) (upd (upd H3 t1 (.tup [.ref q, .str (S h), .str ""])) ly (.lst [.ref t1])) := same_new nly
    have sm6 : Same (upd (upd H3 t1 (.tup [.ref q, .str (S h), .str ""])) ly (.lst [.ref t1])) (upd (upd (upd H3 t1 (.tup [.ref q, .str (S h), .str ""])) ly (.lst [.ref t1])) fd (.dT [])) := same_new nfd
    have smA := same_trans (same_trans sm4 sm5) sm6
    have hL0 : LayL true (upd (upd (upd H3 t1 (.tup [.ref q, .str (S h), .str ""])) ly (.lst [.ref t1])) fd (.dT [])) ly [((p, h), [])] := by
      refine ⟨[t1], sm6 _ _ upd_same, rfl, fun j x hx => ?_⟩
      cases j with
      | zero =>
        cases hx
        exact ⟨t1, rfl, q, sm6 _ _ (sm5 _ _ upd_same), (hq.same (ext_same (same_trans sm3 smA)))⟩
      | succ j => simp at hx
    have hM0 : NDict P w (upd (upd (upd H3 t1 (.tup [.ref q, .str (S h), .str ""])) ly (.lst [.ref t1])) fd (.dT [])) md ((BK.start p h).W.map fun x => (x.1, V.bl true)) := D3.same (ext_same smA)
    have hf0 : upd (upd (upd H3 t1 (.tup [.ref q, .str (S h), .str ""])) ly (.lst [.ref t1])) fd (.dT []) fd = some (.dT []) := upd_same
    have nfd0 : H fd = none := none_same (same_trans sm3 (same_trans sm4 sm5)) nfd
    have smH := same_trans sm3 smA
    generalize upd (upd (upd H3 t1 (.tup [.ref q, .str (S h), .str ""])) ly (.lst [.ref t1])) fd (.dT []) = H5 at hL0 hM0 hf0 smH
    clear sm4 sm5 sm6 smA
    refine ⟨80, rfl, by decide, by decide, ?_⟩
    refine for_it (n := (80 : Int).toNat) (walk_range (lo := 0)) (fun i σ H' => ∃ (ly : Addr) (i0 : Nat) (b : BK.B) (x7 x8 x9 x10 x11 x12 x13 x14 : Option V), σ = [some (.ref t), some (.ref la), some (.ref q), some (.str (S h)), some (.ref md), some (.ref ly), some (.ref fd), x7, x8, x9, x10, x11, x12, x13, x14] ∧ i ≤ i0 ∧ Same H H' ∧ LayL true H' ly (b.W.drop i0) ∧ NDict P w H' md (b.W.map fun x => (x.1, V.bl true)) ∧ H' fd = some (.dT (FD b.F)) ∧ BK.run C (100 - i0) i0 b = BK.bfs C p h ∧ BK.Good C (p, h) i0 b ∧ i0 < b.W.length)
      ⟨ly, 0, BK.start p h, none, none, none, none, none, none, none, none, rfl, Nat.le_refl _, smH, hL0, hM0, hf0, rfl, BK.good_start hn, (by show 0 < 1; decide)⟩ (fun _ _ _ _ _ => trivial) ?_ ?_
    · rintro i v σ H1 H2 hi ⟨ly, i0, b, x7, x8, x9, x10, x11, x12, x13, x14, rfl, hii, smH, hL, hM, hf, hrun, hg, hiW⟩ ⟨rfl, rfl⟩
      refine ⟨by show 0 ≤ sizeLine; decide, fun af naf => ?_⟩
      have smaf : Same H2 (upd H2 af (.lst [])) := same_new naf
      have nafH : H af = none := none_same smH naf
      have hLaf : LayL true (upd H2 af (.lst [])) ly (b.W.drop i0) := hL.same smaf
      have R0 : WR true P w md fd af b.W.length H2 b (upd H2 af (.lst [])) := ⟨fun c o _ _ _ e => smaf c o e, hM.same (ext_same smaf), ⟨_, smaf _ _ hf, by unfold FndOf FD; rw [List.map_map]; exact ⟨rfl, fun _ => rfl⟩⟩, [], upd_same, by simp, fun j x hx => by simp at hx⟩
      obtain ⟨ts, hts, htl, htat⟩ := id hLaf
      have hml : (ts.map V.ref).length = (b.W.drop i0).length := by rw [List.length_map, htl]
      have hdl : (b.W.drop i0).length = b.W.length - i0 := List.length_drop
      -- what stands in the whole turn
      have nlm : ∀ {H' : Hp}, WR true P w md fd af b.W.length H2 b H' → True := fun _ => trivial
      have hlyl : ∀ {c : Addr} {xs : List V}, H2 c = some (.lst xs) → c ≠ md ∧ c ≠ fd ∧ c ≠ af := fun {c xs} e => by
        obtain ⟨nk', m1, m2, m3, m4⟩ := hM
        exact ⟨ne_of e m3 (fun z => by unfold NDO at z; cases z), ne_of e hf (fun z => by cases z), ne_of_none e naf⟩
      have htup : ∀ {c : Addr} {xs : List V}, H2 c = some (.tup xs) → c ≠ md ∧ c ≠ fd ∧ c ≠ af := fun {c xs} e => by
        obtain ⟨nk', m1, m2, m3, m4⟩ := hM
        exact ⟨ne_of e m3 (fun z => by unfold NDO at z; cases z), ne_of e hf (fun z => by cases z), ne_of_none e naf⟩
      obtain ⟨ts', hts', htl', htat'⟩ := id hL
      have ets : ts' = ts := by
        have h1 := smaf _ _ hts'
        rw [hts] at h1
        have h2 := HO.lst.inj (Option.some.inj h1)
        exact (List.map_inj_right (fun _ _ e => V.ref.inj e)).mp h2.symm
      subst ets
      have keepH : ∀ {b' : BK.B} {H' : Hp}, WR true P w md fd af b.W.length H2 b' H' → Same H H' := fun {b' H'} R c o e => R.keep c o (ne_of_none e nmd) (ne_of_none e nfd0) (ne_of_none e nafH) (smH _ _ e)
      have keepL : ∀ {b' : BK.B} {H' : Hp}, WR true P w md fd af b.W.length H2 b' H' → H' ly = some (.lst (ts'.map V.ref)) := fun {b' H'} R => by
        obtain ⟨n1, n2, n3⟩ := hlyl hts'
        exact R.keep _ _ n1 n2 n3 hts'
      have keepT : ∀ {b' : BK.B} {H' : Hp}, WR true P w md fd af b.W.length H2 b' H' → KT' H2 H' := fun {b' H'} R c xs e => by
        obtain ⟨n1, n2, n3⟩ := htup e
        exact R.keep _ _ n1 n2 n3 e
      refine ⟨_, rfl, ly, rfl, ⟨_, SqL.of hts⟩, ?_⟩
      refine for_it (n := (ts'.map V.ref).length) (walk_list (K := K) (a := ly) (xs := ts'.map V.ref)) (fun j σ H' => ∃ x9 x10 x11 x12 x13 x14 : Option V, σ = [some (.ref t), some (.ref la), some (.ref q), some (.str (S h)), some (.ref md), some (.ref ly), some (.ref fd), some (.int (0 + (i : Int))), some (.ref af), x9, x10, x11, x12, x13, x14] ∧ WR true P w md fd af b.W.length H2 (((b.W.drop i0).take j).foldl (fun b nd => BK.visit C nd b) b) H' ∧ BK.Good C (p, h) (i0 + j) (((b.W.drop i0).take j).foldl (fun b nd => BK.visit C nd b) b))
        ⟨x9, x10, x11, x12, x13, x14, rfl, R0, hg⟩ (fun j σ H' _ ⟨_, _, _, _, _, _, _, R, _⟩ => SqL.of (keepL R)) ?_ ?_
      · rintro j v σ H3 H4 hj ⟨x9, x10, x11, x12, x13, x14, rfl, R, g⟩ ⟨rfl, hv⟩
        rw [hml] at hj
        have hnd0 : (b.W.drop i0)[j]? = some (b.W.drop i0)[j] := List.getElem?_eq_getElem hj
        generalize (b.W.drop i0)[j] = nd at hnd0
        obtain ⟨t', ht', hit⟩ := htat' j nd hnd0
        rw [List.getElem?_map, ht'] at hv
        obtain rfl := Option.some.inj hv
        have hbW : b.W[i0 + j]? = some nd := by rw [List.getElem?_drop] at hnd0; exact hnd0
        have hnd : (((b.W.drop i0).take j).foldl (fun b nd => BK.visit C nd b) b).W[i0 + j]? = some nd := (fold_visit_ext C _ b).at hbW
        have hvis : ((b.W.drop i0).take (j + 1)).foldl (fun b nd => BK.visit C nd b) b = BK.visit C nd (((b.W.drop i0).take j).foldl (fun b nd => BK.visit C nd b) b) := by
          rw [take_succ hnd0, List.foldl_append]
          rfl
        have hWl : b.W.length ≤ (((b.W.drop i0).take j).foldl (fun b nd => BK.visit C nd b) b).W.length := (fold_visit_ext C _ b).len
        rw [hvis]
        generalize ((b.W.drop i0).take j).foldl (fun b nd => BK.visit C nd b) b = bj at R g hnd hWl
        obtain ⟨qn, hq1, hq2⟩ := hit.kt (keepT R)
        have hq1 : H4 t' = some (.tup [.ref qn, .str (S nd.1.2), .str (S nd.2)]) := hq1
        refine ⟨t', _, rfl, SqT.of hq1, rfl, _, _, rfl, _, _, rfl, _, _, rfl, rfl, ?_⟩
        have hmem : nd ∈ bj.W := List.mem_of_getElem? hnd
        obtain ⟨hpn, hhn⟩ := BK.mem_nodes.mp (g.inw nd hmem)
        obtain ⟨hp1, hp2⟩ := BK.mem_pairs.mp hpn
        have hi40 := BK.good_len ok g
        have hltW := (List.getElem?_eq_some_iff.mp hnd).1
        have hrl : nd.2.length ≤ 40 := Nat.le_trans (g.lw _ nd hnd) (by omega)
        have hkl : C.tabs.length ≤ 5 := by have := ok.k3; omega
        have htabs : ∀ {H' : Hp}, Same H H' → TabL H' t C.tabs := fun s => hT.same s
        obtain ⟨as, ta1, ta2, ta3⟩ := id (htabs (keepH R))
        refine ⟨_, rfl, _, C.tabs.length, rfl, .inl ⟨_, SqL.of ta1, by rw [List.length_map, ta2]⟩, _, rfl, _, rfl, by show 5 ≤ sizeLine; decide, S C.sig, by rw [cut_abc hkl]; rfl, ?_⟩
        refine for_it (walk_S (z := C.sig)) (fun m σ H' => ∃ x12 x13 x14 : Option V, σ = [some (.ref t), some (.ref la), some (.ref q), some (.str (S h)), some (.ref md), some (.ref ly), some (.ref fd), some (.int (0 + (i : Int))), some (.ref af), some (.ref qn), some (.str (S nd.1.2)), some (.str (S nd.2)), x12, x13, x14] ∧ WR true P w md fd af b.W.length H2 ((C.sig.take m).foldl (BK.sig1 C nd) bj) H' ∧ PairAt H' qn nd.1.1) ⟨x12, x13, x14, rfl, R, hq2⟩ (fun _ _ _ _ _ => trivial) ?_ ?_
        · rintro m v σ H5 H6 hm ⟨x12, x13, x14, rfl, R5, hq5⟩ ⟨rfl, c, hc, rfl⟩
          obtain ⟨hcn, hjt⟩ := sig_at hc
          have hcs : c ∈ C.sig := List.mem_of_getElem? hc
          have hG1 : BK.Good C (p, h) (i0 + j + 1) ((C.sig.take m).foldl (BK.sig1 C nd) bj) := (BK.fold_good ok (g.lw _ nd hnd) (C.sig.take m) bj hmem hltW (fun x hx => List.mem_of_mem_take hx) (g.mono (Nat.le_succ _))).1
          have hWl1 : bj.W.length ≤ ((C.sig.take m).foldl (BK.sig1 C nd) bj).W.length := (BK.fold_ext C nd _ bj).len
          have hb1 : (C.sig.take (m + 1)).foldl (BK.sig1 C nd) bj = BK.sig1 C nd ((C.sig.take m).foldl (BK.sig1 C nd) bj) c := by
            rw [take_succ hc, List.foldl_append]
            rfl
          rw [hb1]
          generalize (C.sig.take m).foldl (BK.sig1 C nd) bj = b1 at R5 hG1 hWl1
          refine ⟨_, rfl, _, rfl, _, rfl, t, qn, nd.1.1, m, C, (by rw [hcn]; rfl), htabs (keepH R5), hq5, ok, Nat.lt_trans hp1 hp2, hp2, hjt, fun H7 v sm7 pv7 => ?_⟩
          rw [← hcn] at pv7
          refine ⟨_, rfl, _, rfl, nd.1.2, c, rfl, fun H8 sm8 => ⟨_, _, rfl, ?_⟩⟩
          have sm68 := same_trans sm7 sm8
          have R8 := R5.same sm68
          have hq8 := hq5.same (ext_same sm68)
          have pv8 := pv7.ext (ext_same sm8)
          have hs1 : BK.sig1 C nd b1 c = match C.step nd.1.1 c with
            | none => b1
            | some q' => if C.full (BK.more nd.1.2 c) = true then (if BK.hasKey b1.F q' = true then b1 else { b1 with F := b1.F ++ [(q', nd.2 ++ [c])] })
              else if BK.hasKey b1.W (q', BK.more nd.1.2 c) = true then b1 else { b1 with W := b1.W ++ [((q', BK.more nd.1.2 c), nd.2 ++ [c])] } := rfl
          have hrow : (S nd.2).length + (S [c]).length ≤ sizeLine := by
            rw [S_len, S_len, sizeLine_eq]
            show nd.2.length + 1 ≤ _
            omega
          refine ⟨_, rfl, _, rfl, ?_⟩
          cases hst : C.step nd.1.1 c with
          | none =>
            rw [hst] at pv8
            have ev : v = .non := pv8
            subst ev
            refine iteF' rfl (iteF' rfl ⟨_, rfl, _, rfl, iteF' rfl (iteF' rfl ⟨_, _, _, rfl, ?_, hq8⟩)⟩)
            rw [hs1, hst]
            exact R8
          | some q' =>
            rw [hst] at pv8
            obtain ⟨qa, rfl, hqa⟩ := pv8
            refine iteT' rfl ⟨_, rfl, _, rfl, la, C.lots, BK.more nd.1.2 c, rfl, keepH R8 _ _ hla, fun r hr => ⟨hF.short r hr, fun x hx => ?_⟩, fun H9 sm9 => ⟨_, rfl, ?_⟩⟩
            · have h1 := (hF.lots r hr).1
              rw [h1] at hx
              have := sig_abc (List.mem_filter.mp hx).1
              have h2 : ∀ x ∈ BK.abc, x < 128 := by decide
              exact h2 x this
            have R9 := R8.same sm9
            have hq9 := hq8.same (ext_same sm9)
            have hqa9 := hqa.same (ext_same sm9)
            show (if C.full (BK.more nd.1.2 c) = true then _ else _)
            cases hfull : C.full (BK.more nd.1.2 c) with
            | true =>
              refine iteT' rfl ?_
              obtain ⟨kvs, f1, f2⟩ := id R9.fnd
              have hfl := f_len ok hG1
              have hkl2 : kvs.length = b1.F.length := by
                have := congrArg List.length f2.1
                rw [List.length_map, List.length_map] at this
                exact this
              refine ⟨_, rfl, fd, rfl, .inr ⟨_, .inl f1⟩, _, rfl, _, rfl, _, rfl, _, _, rfl, rfl, hrow, kvs, qa, q', rfl, f1, hqa9, by rw [sizeLine_eq]; omega, fun v' hv' => ?_, fun hnone => ?_⟩
              · have hk : BK.hasKey b1.F q' = true := by rw [← fnd_has f2, hv']; rfl
                refine ⟨_, _, _, rfl, ?_, hq9⟩
                rw [hs1, hst]
                show WR true P w md fd af b.W.length H2 (if C.full (BK.more nd.1.2 c) = true then _ else _) H9
                rw [if_pos hfull, if_pos hk]
                exact R9
              · have hk : ¬ BK.hasKey b1.F q' = true := by rw [← fnd_has f2, hnone]; decide
                rw [putK_new hnone, S_cat]
                obtain ⟨R10, kt10⟩ := R9.foundPut (q := q') (r := nd.2 ++ [c]) (v := .str (S (nd.2 ++ [c]))) f1 (fun _ => rfl)
                refine ⟨_, _, _, rfl, ?_, hq9.kt kt10⟩
                rw [hs1, hst]
                show WR true P w md fd af b.W.length H2 (if C.full (BK.more nd.1.2 c) = true then _ else _) _
                rw [if_pos hfull, if_neg hk]
                exact R10
            | false =>
              refine iteF' rfl ⟨_, rfl, _, rfl, iteT' rfl ?_⟩
              refine ⟨_, rfl, _, rfl, by show 2 ≤ sizeLine; decide, fun t2 nt2 => ?_⟩
              have sm10 := same_new (o := .tup [V.ref qa, V.str (S (BK.more nd.1.2 c))]) nt2
              have R10 := R9.same sm10
              have hq10 := hq9.same (ext_same sm10)
              have hqa10 := hqa9.same (ext_same sm10)
              have hn10 : NodeAt (upd H9 t2 (.tup [V.ref qa, V.str (S (BK.more nd.1.2 c))])) t2 (q', BK.more nd.1.2 c) := ⟨qa, upd_same, hqa10⟩
              generalize upd H9 t2 (.tup [V.ref qa, V.str (S (BK.more nd.1.2 c))]) = H10 at R10 hq10 hqa10 hn10
              refine ⟨_, rfl, md, t2, _, (q', BK.more nd.1.2 c), rfl, rfl, R10.met, hn10, _, rfl, ?_⟩
              rw [met_has]
              cases hk : BK.hasKey b1.W (q', BK.more nd.1.2 c) with
              | true =>
                refine iteF' rfl ⟨_, _, _, rfl, ?_, hq10⟩
                rw [hs1, hst]
                show WR true P w md fd af b.W.length H2 (if C.full (BK.more nd.1.2 c) = true then _ else _) _
                rw [if_neg (by rw [hfull]; decide), if_pos hk]
                exact R10
              | false =>
                refine iteT' rfl ?_
                have hvn : valV (b1.W.map fun x => (x.1, V.bl true)) (q', BK.more nd.1.2 c) = none := valV_none (by rw [met_has]; exact hk)
                have hwl := BK.good_len ok hG1
                refine ⟨_, rfl, _, rfl, _, rfl, by show 2 ≤ sizeLine; decide, fun t3 nt3 => ?_⟩
                have sm11 := same_new (o := .tup [V.ref qa, V.str (S (BK.more nd.1.2 c))]) nt3
                have R11 := R10.same sm11
                have hq11 := hq10.same (ext_same sm11)
                have hqa11 := hqa10.same (ext_same sm11)
                have hn11 : NodeAt (upd H10 t3 (.tup [V.ref qa, V.str (S (BK.more nd.1.2 c))])) t3 (q', BK.more nd.1.2 c) := ⟨qa, upd_same, hqa11⟩
                generalize upd H10 t3 (.tup [V.ref qa, V.str (S (BK.more nd.1.2 c))]) = H11 at R11 hq11 hqa11 hn11
                refine ⟨md, t3, _, (q', BK.more nd.1.2 c), rfl, rfl, R11.met, hn11, hvn, by rw [List.length_map]; omega, fun H12 D12 k12 z12 => ?_⟩
                obtain ⟨us, u1, u2, u3⟩ := id R11.aft
                have nam : af ≠ md := by
                  obtain ⟨nk', m1, m2, m3, m4⟩ := R11.met
                  exact ne_of u1 m3 (fun z => by unfold NDO at z; cases z)
                have h12 := k12 _ _ u1 nam
                refine ⟨_, rfl, .inl ⟨rfl, _, SqL.of h12⟩, _, rfl, _, rfl, _, rfl, _, rfl, _, _, rfl, rfl, hrow, by show 3 ≤ sizeLine; decide, fun t4 nt4 => ?_⟩
                rw [S_cat]
                obtain ⟨acc, q1, q2, q3, R12, kt12⟩ := R11.waitPut (r := nd.2 ++ [c]) (qa := qa) (by omega) D12 k12 nt4 hqa11
                refine ⟨af, acc, _, rfl, rfl, q3, by rw [q2, sizeLine_eq]; omega, _, _, _, rfl, ?_, hq11.kt kt12⟩
                rw [hs1, hst]
                show WR true P w md fd af b.W.length H2 (if C.full (BK.more nd.1.2 c) = true then _ else _) _
                rw [if_neg (by rw [hfull]; decide), if_neg (by rw [hk]; decide)]
                exact R12
        · rintro σ H5 ⟨x12, x13, x14, rfl, R5, _⟩
          rw [List.take_length] at R5
          exact ⟨_, _, _, _, _, _, rfl, R5, (BK.visit_good ok hnd g).1⟩
      · rintro σ H3 ⟨x9, x10, x11, x12, x13, x14, rfl, R, g⟩
        rw [hml, List.take_length] at R g
        have hlay : ∀ (j : Nat) (x : BK.Node × BK.Row), (b.W.drop i0)[j]? = some x → b.W[i0 + j]? = some x := fun j x hx => by rw [List.getElem?_drop] at hx; exact hx
        have hrl := BK.run_layer C (b.W.drop i0) i0 b hlay
        have hW40 := BK.good_len ok hg
        have hadd := BK.run_add C (b.W.drop i0).length (100 - b.W.length) i0 b (by rw [hdl]; omega)
        rw [← hrl, hdl, show b.W.length - i0 + (100 - b.W.length) = 100 - i0 by omega, show i0 + (b.W.length - i0) = b.W.length by omega, hrun] at hadd
        rw [hdl, show i0 + (b.W.length - i0) = b.W.length by omega] at g
        have hWl : b.W.length ≤ ((b.W.drop i0).foldl (fun b nd => BK.visit C nd b) b).W.length := (fold_visit_ext C _ b).len
        generalize (b.W.drop i0).foldl (fun b nd => BK.visit C nd b) b = b2 at R g hadd hWl
        obtain ⟨us, u1, u2, u3⟩ := id R.aft
        refine ⟨_, rfl, _, rfl, by show 0 ≤ sizeLine; decide, fun e ne => ?_⟩
        have sme := same_new (o := .lst []) ne
        have R2 := R.same sme
        refine ⟨af, e, _, rfl, rfl, SqL.of (sme _ _ u1), SqL.of upd_same, _, rfl, ?_⟩
        have hul : us.length = b2.W.length - b.W.length := by rw [u2, List.length_drop]
        obtain ⟨kvs, f1, f2, f3⟩ := R2.fnd
        have f3 := f3 rfl
        subst f3
        cases hemp : (us.map V.ref).isEmpty with
        | true =>
          refine iteT' rfl ?_
          have hus : us = [] := by
            rw [List.isEmpty_iff, List.map_eq_nil_iff] at hemp
            exact hemp
          rw [hus] at hul
          have hd := BK.run_done C (100 - b.W.length) b.W.length b2 (by simp at hul; omega)
          rw [hd] at hadd
          refine ⟨_, rfl, k fd _ (keepH R2) ?_ nfd0⟩
          unfold BK.found
          rw [hadd]
          exact f1
        | false =>
          have hlt : b.W.length < b2.W.length := by
            cases us with
            | nil => cases hemp
            | cons u us => rw [List.length_cons] at hul; omega
          refine iteF' rfl ⟨af, b.W.length, b2, _, _, _, _, _, _, _, _, rfl, by omega, keepH R2, R2.aft, R2.met, f1, hadd.symm, g, hlt⟩
    · rintro σ H1 ⟨ly, i0, b, x7, x8, x9, x10, x11, x12, x13, x14, rfl, hii, smH, hL, hM, hf, hrun, hg, hiW⟩
      have := BK.good_len ok hg
      have h80 : (80 : Int).toNat = 80 := rfl
      omega
end
end BW

set_option Elab.async false
set_option linter.all false
set_option maxRecDepth 100000
set_option maxHeartbeats 1000000
/-! _law_steps -/
namespace BW
open PySem PySem.Spec PyProof.Rows L2 SX
open LamX (Tabs ExtN CodeO)
section
variable {P : Program} {w : World} {K : PySem.W.Frag} {mg : PySem.Str → Option Value} {base : Heap}
abbrev NSS : List PySem.Str := ["_law_tables_here", "_law_lots_here", "_law_pair", "_law_pace", "_law_met", "_law_layer", "_law_found", "_law_turn", "_law_after", "_law_here", "_law_heard", "_law_signal", "_law_there", "_law_lot"]
theorem sc_steps : FnScope NSS ["_law_tables_here", "_law_lots_here", "_law_pair", "_law_pace"] (defScope (top 56)) := ⟨rfl, rfl, rfl, by decide +kernel, rfl, by decide +kernel, by decide +kernel⟩
def sp_steps : Sp := fun vs H Q _ => ∃ (t la q : Addr) (p : Nat × Nat) (C : BK.Cfg), vs = [.ref t, .ref la, .ref q, .int 60] ∧ TabL H t C.tabs ∧ TxtsL H la C.lots ∧ Fam C ∧ PairAt H q p ∧ p ∈ BK.pairs C.n ∧ ∀ fd H' kvs, Same H H' → H' fd = some (.dT kvs) → kvs.map (·.1) = (BK.found C p []).map (fun x => kp x.1) → H fd = none → Q (.ref fd) H'
theorem ok_steps (T : Tx K mg) : Cal CX0 P w K mg base 2 "_law_steps" sp_steps := by
  refine cal_of0 T.F__law_steps T.g__law_steps (fun _ _ _ _ _ _ us hl => match us, hl with | [_, _, _, _], _ => rfl) sc_steps (fun vs H Q E h => ?_) (fun cdv A outer s H vs Q E hr h => ?_)
  · obtain ⟨t, la, q, p, C, rfl, _⟩ := h
    rfl
  · obtain ⟨t, la, q, p, C, rfl, hT, hla, hF, hq, hp, k⟩ := h
    have hn : (p, ([] : List Nat)) ∈ C.nodes := BK.mem_nodes.mpr ⟨hp, BK.nil_hear C⟩
    have hu := hr.units
    have hu1 : (A.deeper (envOfC "_law_steps" (defScope (top 56)) s.heap.objs.size (He.ga K "_law_steps") cdv)).units + 1 < cLine := by omega
    refine ⟨_, pss_cons (ps_par3 (i := 4) (j := 5) (l := 6) rfl sc_steps.nd rfl rfl rfl (by decide) (by decide) (by decide) rfl rfl rfl (pa_cons (pe_ndisp hu (pe_tup (pa_cons (pv 2) (pa_cons pe_str pa_nil))) pe_bl) (pa_cons (pe_lst (pa_cons (pe_tup (pa_cons (pv 2) (pa_cons pe_str pa_nil))) pa_nil)) (pa_cons pe_dnewT pa_nil))) (by rfl))
      (pss_cons (ps_for PassesOwn.never rfl (pi_range1 (by rfl) T.n_range (pa_cons (pv 3) pa_nil)) (pg_name (i := 7) sc_steps.nd rfl (Or.inl rfl))
        (pss_cons (ps_set (i := 8) sc_steps.nd rfl (Or.inl rfl) (pe_lst pa_nil))
        (pss_cons (ps_for PassesOwn.never rfl (pi_list (pv 5)) (pg_tup rfl (pgs_cons (pg_name (i := 9) sc_steps.nd rfl (Or.inl rfl)) (pgs_cons (pg_name (i := 10) sc_steps.nd rfl (Or.inl rfl)) pgs_nil)))
          (pss_one (ps_for PassesOwn.never rfl (pi_str (pe_slice sl_str pe_str po_none (po_some (pe_callB call_len (by rfl) T.n_len boot_len (pa_cons (pv 0) pa_nil))))) (pg_name (i := 11) sc_steps.nd rfl (Or.inl rfl))
            (pss_cons (ps_par (i := 12) (j := 13) rfl sc_steps.nd rfl rfl (by decide) rfl rfl (pa_cons (pe_c (ok_next T) hr (by rfl) (pa_cons (pv 0) (pa_cons (pv 9) (pa_cons (pv 11) pa_nil)))) (pa_cons (pe_c (ok_more T) hr (by rfl) (pa_cons (pv 10) (pa_cons (pv 11) pa_nil))) pa_nil)) (by rfl))
            (pss_one (ps_if (PW.pt (pw_and (pt_cmp (pc_notN (pv 12))) (pw_and1 (pt_val (pe_c (ok_full T) hr (by rfl) (pa_cons (pv 1) (pa_cons (pv 13) pa_nil)))))))
              (pss_one (ps_expr (pe_psetd hu1 (pv 6) (pv 12) (pe_op op_add (pv 7) pe_int) ⟨rfl, rfl, rfl, rfl⟩)))
              (pss_one (ps_if (PW.pt (pw_and (pt_cmp (pc_notN (pv 12))) (pw_and1 (pt_cmp (pc_nnotin hu (pe_tup (pa_cons (pv 12) (pa_cons (pv 13) pa_nil))) (pv 4))))))
                (pss_cons (ps_nput hu (pv 4) (pe_tup (pa_cons (pv 12) (pa_cons (pv 13) pa_nil))) pe_bl)
                (pss_one (ps_expr (pe_bm PySem.F.plainAttrs_list PySem.F.slot_list_append PySem.F.type_list_append mt_append (pv 8) (pa_cons (pe_tup (pa_cons (pv 12) (pa_cons (pv 13) pa_nil))) pa_nil)))))
                pss_nil)))))))
          )
        (pss_cons (ps_set (i := 5) sc_steps.nd rfl (Or.inl rfl) (pv 8))
        (pss_one (ps_if (pt_cmpR (op_eqNil hu) (pv 5) (pe_lst pa_nil) rfl) (pss_one ps_break) pss_nil))))))
      (pss_one (ps_ret (pv 6)))), ?_⟩
    have ok := hF.ok
    intro md nmd hsys
    refine ⟨_, rfl, by show 2 ≤ sizeLine; decide, fun t0 nt0 => ?_⟩
    have mt0 : md ≠ t0 := fun z => by rw [← z, upd_same] at nt0; cases nt0
    have nt0' : H t0 = none := by rw [upd_ne (Ne.symm mt0)] at nt0; exact nt0
    have qm : q ≠ md := ne_of_none hq nmd
    have qt0 : q ≠ t0 := ne_of_none hq nt0'
    refine ⟨t0, (p, []), rfl, by rw [upd_ne mt0, upd_same], ⟨q, upd_same, by unfold PairAt; rw [upd_ne qt0, upd_ne qm]; exact hq⟩, fun H3 D3 k3 z3 => ?_⟩
    have sm3 : Same H H3 := fun c o e => k3 c o (by rw [upd_ne (ne_of_none e nt0'), upd_ne (ne_of_none e nmd)]; exact e) (ne_of_none e nmd)
    refine ⟨_, rfl, by show 2 ≤ sizeLine; decide, fun t1 nt1 => ⟨by show 1 ≤ sizeLine; decide, fun ly nly => fun fd nfd => ⟨_, _, _, rfl, ?_⟩⟩⟩
    have sm4 : Same H3 (upd H3 t1 (.tup [.ref q, .str ""])) := same_new nt1
    have sm5 : Same (upd H3 t1 (.tup [.ref q, .str ""])) (upd (upd H3 t1 (.tup [.ref q, .str ""])) ly (.lst [.ref t1])) := same_new nly
    have sm6 : Same (upd (upd H3 t1 (.tup [.ref q, .str ""])) ly (.lst [.ref t1])) (upd (upd (upd H3 t1 (.tup [.ref q, .str ""])) ly (.lst [.ref t1])) fd (.dT [])) := same_new nfd
    have smA := same_trans (same_trans sm4 sm5) sm6
    have hL0 : LayL false (upd (upd (upd H3 t1 (.tup [.ref q, .str ""])) ly (.lst [.ref t1])) fd (.dT [])) ly [((p, []), [])] := by
      refine ⟨[t1], sm6 _ _ upd_same, rfl, fun j x hx => ?_⟩
      cases j with
      | zero =>
        cases hx
        exact ⟨t1, rfl, q, sm6 _ _ (sm5 _ _ upd_same), (hq.same (ext_same (same_trans sm3 smA)))⟩
      | succ j => simp at hx
    have hM0 : NDict P w (upd (upd (upd H3 t1 (.tup [.ref q, .str ""])) ly (.lst [.ref t1])) fd (.dT [])) md ((BK.start p []).W.map fun x => (x.1, V.bl true)) := D3.same (ext_same smA)
    have hf0 : upd (upd (upd H3 t1 (.tup [.ref q, .str ""])) ly (.lst [.ref t1])) fd (.dT []) fd = some (.dT []) := upd_same
    have nfd0 : H fd = none := none_same (same_trans sm3 (same_trans sm4 sm5)) nfd
    have smH := same_trans sm3 smA
    generalize upd (upd (upd H3 t1 (.tup [.ref q, .str ""])) ly (.lst [.ref t1])) fd (.dT []) = H5 at hL0 hM0 hf0 smH
    clear sm4 sm5 sm6 smA
    refine ⟨_, rfl, 60, rfl, by decide, by decide, ?_⟩
    refine for_it (n := (60 : Int).toNat) (walk_range (lo := 0)) (fun i σ H' => ∃ (ly : Addr) (i0 : Nat) (b : BK.B) (x7 x8 x9 x10 x11 x12 x13 : Option V), σ = [some (.ref t), some (.ref la), some (.ref q), some (.int 60), some (.ref md), some (.ref ly), some (.ref fd), x7, x8, x9, x10, x11, x12, x13] ∧ i ≤ i0 ∧ Same H H' ∧ LayL false H' ly (b.W.drop i0) ∧ NDict P w H' md (b.W.map fun x => (x.1, V.bl true)) ∧ (∃ kvs, H' fd = some (.dT kvs) ∧ FndOf false kvs b.F) ∧ BK.run C (100 - i0) i0 b = BK.bfs C p [] ∧ BK.Good C (p, []) i0 b ∧ i0 < b.W.length)
      ⟨ly, 0, BK.start p [], none, none, none, none, none, none, none, rfl, Nat.le_refl _, smH, hL0, hM0, ⟨_, hf0, ⟨rfl, fun z => by cases z⟩⟩, rfl, BK.good_start hn, (by show 0 < 1; decide)⟩ (fun _ _ _ _ _ => trivial) ?_ ?_
    · rintro i v σ H1 H2 hi ⟨ly, i0, b, x7, x8, x9, x10, x11, x12, x13, rfl, hii, smH, hL, hM, ⟨kv0, hf, hff⟩, hrun, hg, hiW⟩ ⟨rfl, rfl⟩
      refine ⟨by show 0 ≤ sizeLine; decide, fun af naf => ?_⟩
      have smaf : Same H2 (upd H2 af (.lst [])) := same_new naf
      have nafH : H af = none := none_same smH naf
      have hLaf : LayL false (upd H2 af (.lst [])) ly (b.W.drop i0) := hL.same smaf
      have R0 : WR false P w md fd af b.W.length H2 b (upd H2 af (.lst [])) := ⟨fun c o _ _ _ e => smaf c o e, hM.same (ext_same smaf), ⟨_, smaf _ _ hf, hff⟩, [], upd_same, by simp, fun j x hx => by simp at hx⟩
      obtain ⟨ts, hts, htl, htat⟩ := id hLaf
      have hml : (ts.map V.ref).length = (b.W.drop i0).length := by rw [List.length_map, htl]
      have hdl : (b.W.drop i0).length = b.W.length - i0 := List.length_drop
      -- what stands in the whole turn
      have nlm : ∀ {H' : Hp}, WR false P w md fd af b.W.length H2 b H' → True := fun _ => trivial
      have hlyl : ∀ {c : Addr} {xs : List V}, H2 c = some (.lst xs) → c ≠ md ∧ c ≠ fd ∧ c ≠ af := fun {c xs} e => by
        obtain ⟨nk', m1, m2, m3, m4⟩ := hM
        exact ⟨ne_of e m3 (fun z => by unfold NDO at z; cases z), ne_of e hf (fun z => by cases z), ne_of_none e naf⟩
      have htup : ∀ {c : Addr} {xs : List V}, H2 c = some (.tup xs) → c ≠ md ∧ c ≠ fd ∧ c ≠ af := fun {c xs} e => by
        obtain ⟨nk', m1, m2, m3, m4⟩ := hM
        exact ⟨ne_of e m3 (fun z => by unfold NDO at z; cases z), ne_of e hf (fun z => by cases z), ne_of_none e naf⟩
      obtain ⟨ts', hts', htl', htat'⟩ := id hL
      have ets : ts' = ts := by
        have h1 := smaf _ _ hts'
        rw [hts] at h1
        have h2 := HO.lst.inj (Option.some.inj h1)
        exact (List.map_inj_right (fun _ _ e => V.ref.inj e)).mp h2.symm
      subst ets
      have keepH : ∀ {b' : BK.B} {H' : Hp}, WR false P w md fd af b.W.length H2 b' H' → Same H H' := fun {b' H'} R c o e => R.keep c o (ne_of_none e nmd) (ne_of_none e nfd0) (ne_of_none e nafH) (smH _ _ e)
      have keepL : ∀ {b' : BK.B} {H' : Hp}, WR false P w md fd af b.W.length H2 b' H' → H' ly = some (.lst (ts'.map V.ref)) := fun {b' H'} R => by
        obtain ⟨n1, n2, n3⟩ := hlyl hts'
        exact R.keep _ _ n1 n2 n3 hts'
      have keepT : ∀ {b' : BK.B} {H' : Hp}, WR false P w md fd af b.W.length H2 b' H' → KT' H2 H' := fun {b' H'} R c xs e => by
        obtain ⟨n1, n2, n3⟩ := htup e
        exact R.keep _ _ n1 n2 n3 e
      refine ⟨_, rfl, ly, rfl, ⟨_, SqL.of hts⟩, ?_⟩
      refine for_it (n := (ts'.map V.ref).length) (walk_list (K := K) (a := ly) (xs := ts'.map V.ref)) (fun j σ H' => ∃ x9 x10 x11 x12 x13 : Option V, σ = [some (.ref t), some (.ref la), some (.ref q), some (.int 60), some (.ref md), some (.ref ly), some (.ref fd), some (.int (0 + (i : Int))), some (.ref af), x9, x10, x11, x12, x13] ∧ WR false P w md fd af b.W.length H2 (((b.W.drop i0).take j).foldl (fun b nd => BK.visit C nd b) b) H' ∧ BK.Good C (p, []) (i0 + j) (((b.W.drop i0).take j).foldl (fun b nd => BK.visit C nd b) b))
        ⟨x9, x10, x11, x12, x13, rfl, R0, hg⟩ (fun j σ H' _ ⟨_, _, _, _, _, _, R, _⟩ => SqL.of (keepL R)) ?_ ?_
      · rintro j v σ H3 H4 hj ⟨x9, x10, x11, x12, x13, rfl, R, g⟩ ⟨rfl, hv⟩
        rw [hml] at hj
        have hnd0 : (b.W.drop i0)[j]? = some (b.W.drop i0)[j] := List.getElem?_eq_getElem hj
        generalize (b.W.drop i0)[j] = nd at hnd0
        obtain ⟨t', ht', hit⟩ := htat' j nd hnd0
        rw [List.getElem?_map, ht'] at hv
        obtain rfl := Option.some.inj hv
        have hbW : b.W[i0 + j]? = some nd := by rw [List.getElem?_drop] at hnd0; exact hnd0
        have hnd : (((b.W.drop i0).take j).foldl (fun b nd => BK.visit C nd b) b).W[i0 + j]? = some nd := (fold_visit_ext C _ b).at hbW
        have hvis : ((b.W.drop i0).take (j + 1)).foldl (fun b nd => BK.visit C nd b) b = BK.visit C nd (((b.W.drop i0).take j).foldl (fun b nd => BK.visit C nd b) b) := by
          rw [take_succ hnd0, List.foldl_append]
          rfl
        have hWl : b.W.length ≤ (((b.W.drop i0).take j).foldl (fun b nd => BK.visit C nd b) b).W.length := (fold_visit_ext C _ b).len
        rw [hvis]
        generalize ((b.W.drop i0).take j).foldl (fun b nd => BK.visit C nd b) b = bj at R g hnd hWl
        obtain ⟨qn, hq1, hq2⟩ := hit.kt (keepT R)
        have hq1 : H4 t' = some (.tup [.ref qn, .str (S nd.1.2)]) := hq1
        refine ⟨t', _, rfl, SqT.of hq1, rfl, _, _, rfl, _, _, rfl, rfl, ?_⟩
        have hmem : nd ∈ bj.W := List.mem_of_getElem? hnd
        obtain ⟨hpn, hhn⟩ := BK.mem_nodes.mp (g.inw nd hmem)
        obtain ⟨hp1, hp2⟩ := BK.mem_pairs.mp hpn
        have hi40 := BK.good_len ok g
        have hltW := (List.getElem?_eq_some_iff.mp hnd).1
        have hrl : nd.2.length ≤ 40 := Nat.le_trans (g.lw _ nd hnd) (by omega)
        have hkl : C.tabs.length ≤ 5 := by have := ok.k3; omega
        have htabs : ∀ {H' : Hp}, Same H H' → TabL H' t C.tabs := fun s => hT.same s
        obtain ⟨as, ta1, ta2, ta3⟩ := id (htabs (keepH R))
        refine ⟨_, rfl, _, C.tabs.length, rfl, .inl ⟨_, SqL.of ta1, by rw [List.length_map, ta2]⟩, _, rfl, _, rfl, by show 5 ≤ sizeLine; decide, S C.sig, by rw [cut_abc hkl]; rfl, ?_⟩
        refine for_it (walk_S (z := C.sig)) (fun m σ H' => ∃ x11 x12 x13 : Option V, σ = [some (.ref t), some (.ref la), some (.ref q), some (.int 60), some (.ref md), some (.ref ly), some (.ref fd), some (.int (0 + (i : Int))), some (.ref af), some (.ref qn), some (.str (S nd.1.2)), x11, x12, x13] ∧ WR false P w md fd af b.W.length H2 ((C.sig.take m).foldl (BK.sig1 C nd) bj) H' ∧ PairAt H' qn nd.1.1) ⟨x11, x12, x13, rfl, R, hq2⟩ (fun _ _ _ _ _ => trivial) ?_ ?_
        · rintro m v σ H5 H6 hm ⟨x11, x12, x13, rfl, R5, hq5⟩ ⟨rfl, c, hc, rfl⟩
          obtain ⟨hcn, hjt⟩ := sig_at hc
          have hcs : c ∈ C.sig := List.mem_of_getElem? hc
          have hG1 : BK.Good C (p, []) (i0 + j + 1) ((C.sig.take m).foldl (BK.sig1 C nd) bj) := (BK.fold_good ok (g.lw _ nd hnd) (C.sig.take m) bj hmem hltW (fun x hx => List.mem_of_mem_take hx) (g.mono (Nat.le_succ _))).1
          have hWl1 : bj.W.length ≤ ((C.sig.take m).foldl (BK.sig1 C nd) bj).W.length := (BK.fold_ext C nd _ bj).len
          have hb1 : (C.sig.take (m + 1)).foldl (BK.sig1 C nd) bj = BK.sig1 C nd ((C.sig.take m).foldl (BK.sig1 C nd) bj) c := by
            rw [take_succ hc, List.foldl_append]
            rfl
          rw [hb1]
          generalize (C.sig.take m).foldl (BK.sig1 C nd) bj = b1 at R5 hG1 hWl1
          refine ⟨_, rfl, _, rfl, _, rfl, t, qn, nd.1.1, m, C, (by rw [hcn]; rfl), htabs (keepH R5), hq5, ok, Nat.lt_trans hp1 hp2, hp2, hjt, fun H7 v sm7 pv7 => ?_⟩
          rw [← hcn] at pv7
          refine ⟨_, rfl, _, rfl, nd.1.2, c, rfl, fun H8 sm8 => ⟨_, _, rfl, ?_⟩⟩
          have sm68 := same_trans sm7 sm8
          have R8 := R5.same sm68
          have hq8 := hq5.same (ext_same sm68)
          have pv8 := pv7.ext (ext_same sm8)
          have hs1 : BK.sig1 C nd b1 c = match C.step nd.1.1 c with
            | none => b1
            | some q' => if C.full (BK.more nd.1.2 c) = true then (if BK.hasKey b1.F q' = true then b1 else { b1 with F := b1.F ++ [(q', nd.2 ++ [c])] })
              else if BK.hasKey b1.W (q', BK.more nd.1.2 c) = true then b1 else { b1 with W := b1.W ++ [((q', BK.more nd.1.2 c), nd.2 ++ [c])] } := rfl
          have hrow : (S nd.2).length + (S [c]).length ≤ sizeLine := by
            rw [S_len, S_len, sizeLine_eq]
            show nd.2.length + 1 ≤ _
            omega
          refine ⟨_, rfl, _, rfl, ?_⟩
          cases hst : C.step nd.1.1 c with
          | none =>
            rw [hst] at pv8
            have ev : v = .non := pv8
            subst ev
            refine iteF' rfl (iteF' rfl ⟨_, rfl, _, rfl, iteF' rfl (iteF' rfl ⟨_, _, _, rfl, ?_, hq8⟩)⟩)
            rw [hs1, hst]
            exact R8
          | some q' =>
            rw [hst] at pv8
            obtain ⟨qa, rfl, hqa⟩ := pv8
            refine iteT' rfl ⟨_, rfl, _, rfl, la, C.lots, BK.more nd.1.2 c, rfl, keepH R8 _ _ hla, fun r hr => ⟨hF.short r hr, fun x hx => ?_⟩, fun H9 sm9 => ⟨_, rfl, ?_⟩⟩
            · have h1 := (hF.lots r hr).1
              rw [h1] at hx
              have := sig_abc (List.mem_filter.mp hx).1
              have h2 : ∀ x ∈ BK.abc, x < 128 := by decide
              exact h2 x this
            have R9 := R8.same sm9
            have hq9 := hq8.same (ext_same sm9)
            have hqa9 := hqa.same (ext_same sm9)
            show (if C.full (BK.more nd.1.2 c) = true then _ else _)
            cases hfull : C.full (BK.more nd.1.2 c) with
            | true =>
              refine iteT' rfl ?_
              obtain ⟨kvs, f1, f2⟩ := id R9.fnd
              have hfl := f_len ok hG1
              have hkl2 : kvs.length = b1.F.length := by
                have := congrArg List.length f2.1
                rw [List.length_map, List.length_map] at this
                exact this
              refine ⟨_, rfl, fd, rfl, .inr ⟨_, .inl f1⟩, _, rfl, _, rfl, _, _, rfl, rfl, kvs, qa, q', rfl, f1, hqa9, by rw [sizeLine_eq]; omega, fun v' hv' => ?_, fun hnone => ?_⟩
              · have hk : BK.hasKey b1.F q' = true := by rw [← fnd_has f2, hv']; rfl
                refine ⟨_, _, _, rfl, ?_, hq9⟩
                rw [hs1, hst]
                show WR false P w md fd af b.W.length H2 (if C.full (BK.more nd.1.2 c) = true then _ else _) H9
                rw [if_pos hfull, if_pos hk]
                exact R9
              · have hk : ¬ BK.hasKey b1.F q' = true := by rw [← fnd_has f2, hnone]; decide
                rw [putK_new hnone]
                obtain ⟨R10, kt10⟩ := R9.foundPut (q := q') (r := nd.2 ++ [c]) (v := .int (0 + (i : Int) + 1)) f1 (fun z => by cases z)
                refine ⟨_, _, _, rfl, ?_, hq9.kt kt10⟩
                rw [hs1, hst]
                show WR false P w md fd af b.W.length H2 (if C.full (BK.more nd.1.2 c) = true then _ else _) _
                rw [if_pos hfull, if_neg hk]
                exact R10
            | false =>
              refine iteF' rfl ⟨_, rfl, _, rfl, iteT' rfl ?_⟩
              refine ⟨_, rfl, _, rfl, by show 2 ≤ sizeLine; decide, fun t2 nt2 => ?_⟩
              have sm10 := same_new (o := .tup [V.ref qa, V.str (S (BK.more nd.1.2 c))]) nt2
              have R10 := R9.same sm10
              have hq10 := hq9.same (ext_same sm10)
              have hqa10 := hqa9.same (ext_same sm10)
              have hn10 : NodeAt (upd H9 t2 (.tup [V.ref qa, V.str (S (BK.more nd.1.2 c))])) t2 (q', BK.more nd.1.2 c) := ⟨qa, upd_same, hqa10⟩
              generalize upd H9 t2 (.tup [V.ref qa, V.str (S (BK.more nd.1.2 c))]) = H10 at R10 hq10 hqa10 hn10
              refine ⟨_, rfl, md, t2, _, (q', BK.more nd.1.2 c), rfl, rfl, R10.met, hn10, _, rfl, ?_⟩
              rw [met_has]
              cases hk : BK.hasKey b1.W (q', BK.more nd.1.2 c) with
              | true =>
                refine iteF' rfl ⟨_, _, _, rfl, ?_, hq10⟩
                rw [hs1, hst]
                show WR false P w md fd af b.W.length H2 (if C.full (BK.more nd.1.2 c) = true then _ else _) _
                rw [if_neg (by rw [hfull]; decide), if_pos hk]
                exact R10
              | false =>
                refine iteT' rfl ?_
                have hvn : valV (b1.W.map fun x => (x.1, V.bl true)) (q', BK.more nd.1.2 c) = none := valV_none (by rw [met_has]; exact hk)
                have hwl := BK.good_len ok hG1
                refine ⟨_, rfl, _, rfl, _, rfl, by show 2 ≤ sizeLine; decide, fun t3 nt3 => ?_⟩
                have sm11 := same_new (o := .tup [V.ref qa, V.str (S (BK.more nd.1.2 c))]) nt3
                have R11 := R10.same sm11
                have hq11 := hq10.same (ext_same sm11)
                have hqa11 := hqa10.same (ext_same sm11)
                have hn11 : NodeAt (upd H10 t3 (.tup [V.ref qa, V.str (S (BK.more nd.1.2 c))])) t3 (q', BK.more nd.1.2 c) := ⟨qa, upd_same, hqa11⟩
                generalize upd H10 t3 (.tup [V.ref qa, V.str (S (BK.more nd.1.2 c))]) = H11 at R11 hq11 hqa11 hn11
                refine ⟨md, t3, _, (q', BK.more nd.1.2 c), rfl, rfl, R11.met, hn11, hvn, by rw [List.length_map]; omega, fun H12 D12 k12 z12 => ?_⟩
                obtain ⟨us, u1, u2, u3⟩ := id R11.aft
                have nam : af ≠ md := by
                  obtain ⟨nk', m1, m2, m3, m4⟩ := R11.met
                  exact ne_of u1 m3 (fun z => by unfold NDO at z; cases z)
                have h12 := k12 _ _ u1 nam
                refine ⟨_, rfl, .inl ⟨rfl, _, SqL.of h12⟩, _, rfl, _, rfl, by show 2 ≤ sizeLine; decide, fun t4 nt4 => ?_⟩
                obtain ⟨acc, q1, q2, q3, R12, kt12⟩ := R11.waitPut (r := nd.2 ++ [c]) (qa := qa) (by omega) D12 k12 nt4 hqa11
                refine ⟨af, acc, _, rfl, rfl, q3, by rw [q2, sizeLine_eq]; omega, _, _, _, rfl, ?_, hq11.kt kt12⟩
                rw [hs1, hst]
                show WR false P w md fd af b.W.length H2 (if C.full (BK.more nd.1.2 c) = true then _ else _) _
                rw [if_neg (by rw [hfull]; decide), if_neg (by rw [hk]; decide)]
                exact R12
        · rintro σ H5 ⟨x11, x12, x13, rfl, R5, _⟩
          rw [List.take_length] at R5
          exact ⟨_, _, _, _, _, rfl, R5, (BK.visit_good ok hnd g).1⟩
      · rintro σ H3 ⟨x9, x10, x11, x12, x13, rfl, R, g⟩
        rw [hml, List.take_length] at R g
        have hlay : ∀ (j : Nat) (x : BK.Node × BK.Row), (b.W.drop i0)[j]? = some x → b.W[i0 + j]? = some x := fun j x hx => by rw [List.getElem?_drop] at hx; exact hx
        have hrl := BK.run_layer C (b.W.drop i0) i0 b hlay
        have hW40 := BK.good_len ok hg
        have hadd := BK.run_add C (b.W.drop i0).length (100 - b.W.length) i0 b (by rw [hdl]; omega)
        rw [← hrl, hdl, show b.W.length - i0 + (100 - b.W.length) = 100 - i0 by omega, show i0 + (b.W.length - i0) = b.W.length by omega, hrun] at hadd
        rw [hdl, show i0 + (b.W.length - i0) = b.W.length by omega] at g
        have hWl : b.W.length ≤ ((b.W.drop i0).foldl (fun b nd => BK.visit C nd b) b).W.length := (fold_visit_ext C _ b).len
        generalize (b.W.drop i0).foldl (fun b nd => BK.visit C nd b) b = b2 at R g hadd hWl
        obtain ⟨us, u1, u2, u3⟩ := id R.aft
        refine ⟨_, rfl, _, rfl, by show 0 ≤ sizeLine; decide, fun e ne => ?_⟩
        have sme := same_new (o := .lst []) ne
        have R2 := R.same sme
        refine ⟨af, e, _, rfl, rfl, SqL.of (sme _ _ u1), SqL.of upd_same, _, rfl, ?_⟩
        have hul : us.length = b2.W.length - b.W.length := by rw [u2, List.length_drop]
        obtain ⟨kvs, f1, f2⟩ := R2.fnd
        cases hemp : (us.map V.ref).isEmpty with
        | true =>
          refine iteT' rfl ?_
          have hus : us = [] := by
            rw [List.isEmpty_iff, List.map_eq_nil_iff] at hemp
            exact hemp
          rw [hus] at hul
          have hd := BK.run_done C (100 - b.W.length) b.W.length b2 (by simp at hul; omega)
          rw [hd] at hadd
          refine ⟨_, rfl, k fd _ kvs (keepH R2) f1 ?_ nfd0⟩
          unfold BK.found
          rw [hadd]
          exact f2.1
        | false =>
          have hlt : b.W.length < b2.W.length := by
            cases us with
            | nil => cases hemp
            | cons u us => rw [List.length_cons] at hul; omega
          refine iteF' rfl ⟨af, b.W.length, b2, _, _, _, _, _, _, _, rfl, by omega, keepH R2, R2.aft, R2.met, ⟨kvs, f1, f2⟩, hadd.symm, g, hlt⟩
    · rintro σ H1 ⟨ly, i0, b, x7, x8, x9, x10, x11, x12, x13, rfl, hii, smH, hL, hM, hf, hrun, hg, hiW⟩
      have := BK.good_len ok hg
      have h60 : (60 : Int).toNat = 60 := rfl
      omega
end
end BW

set_option Elab.async false
set_option linter.all false
set_option maxRecDepth 100000
set_option maxHeartbeats 1000000
/-! _law_web -/
namespace BW
open PySem PySem.Spec PyProof.Rows L2 SX
open LamX (Tabs ExtN CodeO)
section
variable {P : Program} {w : World} {K : PySem.W.Frag} {mg : PySem.Str → Option Value} {base : Heap}
/-- the web of the law: only the keys of the inner dicts count -/
def WebK (H : Hp) (a : Addr) (C : BK.Cfg) : Prop := ∃ fs : Nat × Nat → Addr, H a = some (.dT ((BK.pairs C.n).map fun p => (kp p, V.ref (fs p)))) ∧ ∀ p ∈ BK.pairs C.n, ∃ kvs, H (fs p) = some (.dT kvs) ∧ kvs.map (·.1) = (BK.found C p []).map (fun x => kp x.1)
abbrev NWB : List PySem.Str := ["_law_tables_here", "_law_lots_here", "_law_pairs_here", "_law_pace", "_law_found", "_law_pair"]
theorem sc_web : FnScope NWB ["_law_tables_here", "_law_lots_here", "_law_pairs_here", "_law_pace"] (defScope (top 57)) := ⟨rfl, rfl, rfl, by decide +kernel, rfl, by decide +kernel, by decide +kernel⟩
def sp_web : Sp := fun vs H Q _ => ∃ (t la pa : Addr) (C : BK.Cfg), vs = [.ref t, .ref la, .ref pa, .int 60] ∧ TabL H t C.tabs ∧ TxtsL H la C.lots ∧ Fam C ∧ PairsL H pa (BK.pairs C.n) ∧ ∀ a H', Same H H' → WebK H' a C → Q (.ref a) H'
theorem ok_web (T : Tx K mg) : Cal CX0 P w K mg base 3 "_law_web" sp_web := by
  refine cal_of0 T.F__law_web T.g__law_web (fun _ _ _ _ _ _ us hl => match us, hl with | [_, _, _, _], _ => rfl) sc_web (fun vs H Q E h => ?_) (fun cdv A outer s H vs Q E hr h => ?_)
  · obtain ⟨t, la, pa, C, rfl, _⟩ := h
    rfl
  · obtain ⟨t, la, pa, C, rfl, hT, hla, hF, ⟨qs, hpa, hqs⟩, k⟩ := h
    have hu := hr.units
    have hu1 : (A.deeper (envOfC "_law_web" (defScope (top 57)) s.heap.objs.size (He.ga K "_law_web") cdv)).units + 1 < cLine := by omega
    refine ⟨_, pss_cons (ps_set (i := 4) sc_web.nd rfl (Or.inl rfl) pe_dnewT)
      (pss_cons (ps_for PassesOwn.never rfl (pi_list (pv 2)) (pg_name (i := 5) sc_web.nd rfl (Or.inl rfl))
        (pss_one (ps_dput hu1 (pv 4) (pv 5) (pe_c (ok_steps T) hr (by rfl) (pa_cons (pv 0) (pa_cons (pv 1) (pa_cons (pv 5) (pa_cons (pv 3) pa_nil))))) (by rfl))))
      (pss_one (ps_ret (pv 4)))), ?_⟩
    intro D nD
    have sm0 := same_new (o := .dT []) nD
    have hpl := pairs_len hF.ok.n2 hF.ok.n5
    have hml : (qs.map V.ref).length = (BK.pairs C.n).length := by rw [List.length_map, hqs.1]
    refine ⟨_, rfl, pa, rfl, ⟨_, SqL.of (sm0 _ _ hpa)⟩, ?_⟩
    refine for_it (n := (qs.map V.ref).length) (walk_list (K := K) (a := pa) (xs := qs.map V.ref)) (fun i σ H' => ∃ x5 : Option V, σ = [some (.ref t), some (.ref la), some (.ref pa), some (.int 60), some (.ref D), x5] ∧ Same H H' ∧ ∃ fs : Nat × Nat → Addr, H' D = some (.dT (((BK.pairs C.n).take i).map fun p => (kp p, V.ref (fs p)))) ∧ ∀ p ∈ (BK.pairs C.n).take i, fs p ≠ D ∧ ∃ kvs, H' (fs p) = some (.dT kvs) ∧ kvs.map (·.1) = (BK.found C p []).map (fun x => kp x.1))
      ⟨none, rfl, sm0, fun _ => D, upd_same, by simp⟩ (fun i σ H' _ ⟨_, _, sm, _⟩ => SqL.of (sm _ _ hpa)) ?_ ?_
    · rintro i v σ H1 H2 hi ⟨x5, rfl, sm, fs, hD, hfs⟩ ⟨rfl, hv⟩
      rw [hml] at hi
      have hp0 : (BK.pairs C.n)[i]? = some (BK.pairs C.n)[i] := List.getElem?_eq_getElem hi
      generalize (BK.pairs C.n)[i] = p at hp0
      obtain ⟨q, hq, hqp⟩ := hqs.2 i p hp0
      rw [List.getElem?_map, hq] at hv
      obtain rfl := Option.some.inj hv
      have hpm : p ∈ BK.pairs C.n := List.mem_of_getElem? hp0
      refine ⟨_, rfl, _, rfl, _, rfl, _, rfl, t, la, q, p, C, rfl, hT.same sm, sm _ _ hla, hF, hqp.same (ext_same sm), hpm, fun fd H3 kvs sm3 hfd hkv nfd => ?_⟩
      have hD3 := sm3 _ _ hD
      have fdD : fd ≠ D := fun z => by rw [z, hD] at nfd; cases nfd
      have hpn : p ∉ (BK.pairs C.n).take i := fun hm => by
        obtain ⟨j, hj⟩ := List.mem_iff_getElem?.mp hm
        rw [List.getElem?_take] at hj
        split at hj
        · rename_i hji
          exact nodup_lt (pairs_nodup hF.ok.n2 hF.ok.n5) hji hj hp0
        · cases hj
      have hvn : valV (((BK.pairs C.n).take i).map fun p => (kp p, V.ref (fs p))) (kp p) = none := by
        rw [valV_pairs (fun p => V.ref (fs p)) (fun p => p), Option.map_eq_none_iff, List.find?_eq_none]
        intro x hx e
        rw [decide_eq_true_eq] at e
        exact hpn (by rw [← e]; exact hx)
      have hlen : (((BK.pairs C.n).take i).map fun p => (kp p, V.ref (fs p))).length ≤ 10 := by
        rw [List.length_map]
        exact Nat.le_trans (List.length_take_le' _ _) hpl
      have hif : ∀ x ∈ (BK.pairs C.n).take i, (if x = p then fd else fs x) = fs x := fun x hx => if_neg fun (e : x = p) => hpn (by rw [← e]; exact hx)
      have hip : (if p = p then fd else fs p) = fd := if_pos rfl
      have sm13 := same_trans sm sm3
      refine ⟨_, rfl, _, rfl, D, _, rfl, DPut.t (k := kp p) hD3 (pair_tup (hqp.same (ext_same sm13))) (by rw [sizeLine_eq]; omega), _, rfl, fun b o e => ?_, fun x => if x = p then fd else fs x, ?_, fun x hx => ?_⟩
      · rw [upd_ne (ne_of_none e nD)]
        exact sm13 b o e
      · rw [upd_same, putK_new hvn, take_succ hp0, List.map_append]
        congr 2
        congr 1
        · refine List.map_congr_left fun x hx => ?_
          show _ = (kp x, V.ref (if x = p then fd else fs x))
          rw [hif x hx]
        · show _ = [(kp p, V.ref (if p = p then fd else fs p))]
          rw [hip]
      · rw [take_succ hp0] at hx
        show (if x = p then fd else fs x) ≠ D ∧ ∃ kvs, upd H3 D _ (if x = p then fd else fs x) = some (.dT kvs) ∧ _
        by_cases e : x = p
        · rw [e, hip]
          exact ⟨fdD, kvs, by rw [upd_ne fdD]; exact hfd, hkv⟩
        · have hx' : x ∈ (BK.pairs C.n).take i := by
            rcases List.mem_append.mp hx with h | h
            · exact h
            · exact absurd (List.mem_singleton.mp h) e
          obtain ⟨n1, kv2, n2, n3⟩ := hfs x hx'
          rw [hif x hx']
          exact ⟨n1, kv2, by rw [upd_ne n1]; exact sm3 _ _ n2, n3⟩
    · rintro σ H1 ⟨x5, rfl, sm, fs, hD, hfs⟩
      rw [hml, List.take_length] at hD hfs
      exact ⟨_, rfl, k D H1 sm ⟨fs, hD, fun p hp => (hfs p hp).2⟩⟩
end
end BW

set_option Elab.async false
set_option linter.all false
set_option maxRecDepth 100000
set_option maxHeartbeats 1000000
/-! _law_ranks -/
namespace BW
open PySem PySem.Spec PyProof.Rows L2 SX
open LamX (Tabs ExtN CodeO)
def pd (p : Nat × Nat) : PyData := .tuple [.int (p.1 : Int), .int (p.2 : Int)]
theorem dp_pair {K : PySem.W.Frag} {H : Hp} {q : Addr} {p : Nat × Nat} (h : PairAt H q p) : Dp K H (.ref q) (pd p) := .tup (SqT.of h) (.cons (.int _) (.cons (.int _) .nil))
theorem dp_pairs {K : PySem.W.Frag} {H : Hp} : ∀ {l : List (Nat × Nat)} {qs : List Addr}, PairsAt H qs l → DpAll K H (qs.map V.ref) (l.map pd)
  | [], [], _ => .nil
  | [], _ :: _, h => by cases h.1
  | _ :: _, [], h => by cases h.1
  | p :: l, q :: qs, h => by
    obtain ⟨h1, h2⟩ := h
    obtain ⟨q', e1, e2⟩ := h2 0 p rfl
    cases e1
    refine .cons (dp_pair e2) (dp_pairs ⟨by simpa using h1, fun i x hx => ?_⟩)
    obtain ⟨q2, g1, g2⟩ := h2 (i + 1) x hx
    exact ⟨q2, g1, g2⟩
theorem pd_shaped (p : Nat × Nat) : SeqAt.shaped (pd p) = true := rfl
theorem pds_shaped (l : List (Nat × Nat)) : SeqAt.shaped (.list (l.map pd)) = true := shaped_list (k := 1) (fun d hd => by
  obtain ⟨p, _, rfl⟩ := List.mem_map.mp hd
  rfl) (fun d hd => by
  obtain ⟨p, _, rfl⟩ := List.mem_map.mp hd
  exact Nat.le_refl _) (by decide)
theorem pd_eqv (a b : Nat × Nat) : PyData.eqv (pd a) (pd b) = decide (a = b) := by
  show (((a.1 : Int) == (b.1 : Int)) && (((a.2 : Int) == (b.2 : Int)) && true)) = _
  rw [Bool.eq_iff_iff, Bool.and_true, Bool.and_eq_true, beq_iff_eq, beq_iff_eq, decide_eq_true_eq]
  constructor
  · rintro ⟨h1, h2⟩
    exact Prod.ext (by omega) (by omega)
  · intro h
    rw [h]
    exact ⟨rfl, rfl⟩
theorem pd_in (l : List (Nat × Nat)) (p : Nat × Nat) : ((l.map pd).any fun z => PyData.eqv z (pd p)) = l.contains p := by
  rw [List.any_map, Bool.eq_iff_iff, List.any_eq_true, List.contains_iff_mem]
  constructor
  · rintro ⟨x, hx, e⟩
    have e : PyData.eqv (pd x) (pd p) = true := e
    rw [pd_eqv, decide_eq_true_eq] at e
    exact e ▸ hx
  · intro h
    exact ⟨p, h, by show PyData.eqv (pd p) (pd p) = true; rw [pd_eqv]; simp⟩
theorem keys_at {H : Hp} : ∀ {kvs : List (Pk × V)} {l : List (Nat × Nat)} {bs : List Addr}, IsKeys H kvs bs → kvs.map (·.1) = l.map kp → PairsAt H bs l
  | [], [], bs, h, _ => by
    cases h
    exact PairsAt.nil
  | [], _ :: _, _, _, e => by cases e
  | _ :: _, [], _, _, e => by cases e
  | x :: kvs, p :: l, bs, h, e => by
    cases h with
    | cons h1 h2 =>
      rw [List.map_cons, List.map_cons] at e
      obtain ⟨e1, e2⟩ := List.cons.inj e
      obtain ⟨a1, a2⟩ := keys_at h2 e2
      refine ⟨by rw [List.length_cons, List.length_cons, a1], fun i q hq => ?_⟩
      cases i with
      | zero =>
        cases hq
        rw [e1] at h1
        exact ⟨_, rfl, h1⟩
      | succ i => exact a2 i q hq
section
variable {P : Program} {w : World} {K : PySem.W.Frag} {mg : PySem.Str → Option Value} {base : Heap}
abbrev NLR : List PySem.Str := ["_law_pairs_here", "_law_steps_here", "_law_alive", "_law_found", "_law_turn", "_law_pair", "_law_there"]
theorem sc_lranks : FnScope NLR ["_law_pairs_here", "_law_steps_here"] (defScope (top 58)) := ⟨rfl, rfl, rfl, by decide +kernel, rfl, by decide +kernel, by decide +kernel⟩
def rListT : List V → Hp → VK → Prop := fun xs H Q => ∃ d kvs, xs = [V.ref d] ∧ Rd H d (.dT kvs) ∧ ∀ p bs, H p = none → IsKeys H kvs bs → Q (.ref p) (upd H p (.lst (bs.map V.ref)))
def sp_lranks : Sp := fun vs H Q _ => ∃ (pa wa : Addr) (C : BK.Cfg), vs = [.ref pa, .ref wa] ∧ PairsL H pa (BK.pairs C.n) ∧ WebK H wa C ∧ C.Ok ∧ ∀ a H', Same H H' → RankD H' a C → Q (.ref a) H'
def scLR : Scope := { kind := ScopeKind.function, names := [(".0", NameKind.local), ("_law_pair", NameKind.local), ("list", NameKind.globalImplicit), ("_law_alive", NameKind.cell), ("_law_steps_here", NameKind.cell)], isGenerator := false, isCoroutine := false }
theorem ok_lranks (T : Tx K mg) : Cal CX0 P w K mg base 1 "_law_ranks" sp_lranks := by
  refine cal_of0 T.F__law_ranks T.g__law_ranks (fun _ _ _ _ _ _ us hl => match us, hl with | [_, _], _ => rfl) sc_lranks (fun vs H Q E h => ?_) (fun cdv A outer s H vs Q E hr h => ?_)
  · obtain ⟨pa, wa, C, rfl, _⟩ := h
    rfl
  · obtain ⟨pa, wa, C, rfl, ⟨qs, hpa, hqs⟩, ⟨fs, hwa, hfs⟩, ok, k⟩ := h
    have hu := hr.units
    have hu65 : (A.deeper (envOfC "_law_ranks" (defScope (top 58)) s.heap.objs.size (He.ga K "_law_ranks") cdv)).units + 65 < cLine := by have := hr.un; omega
    have hu1 : (A.deeper (envOfC "_law_ranks" (defScope (top 58)) s.heap.objs.size (He.ga K "_law_ranks") cdv)).units + 1 < cLine := by omega
    refine ⟨_, pss_cons (ps_asg (pe_tup (pa_cons (pe_callTy call_list_of (by rfl) T.n_list (by decide +kernel) (pa_cons (pv 0) pa_nil)) (pa_cons pe_dnewT pa_nil))) (pg_tup rfl (pgs_cons (pg_name (i := 2) sc_lranks.nd rfl (Or.inr rfl)) (pgs_cons (pg_name (i := 3) sc_lranks.nd rfl (Or.inl rfl)) pgs_nil))))
      (pss_cons (ps_for PassesOwn.never rfl (pi_range1 (by rfl) T.n_range (pa_cons (pe_op op_add (pe_callB call_len (by rfl) T.n_len boot_len (pa_cons (pv 0) pa_nil)) pe_int) pa_nil)) (pg_name (i := 4) sc_lranks.nd rfl (Or.inl rfl))
        (pss_cons (ps_for PassesOwn.never rfl (pi_list (pv 2)) (pg_name (i := 5) sc_lranks.nd rfl (Or.inl rfl)) (pss_one (ps_dput hu1 (pv 3) (pv 5) (pv 4) (by rfl))))
        (pss_one (ps_set (i := 2) sc_lranks.nd rfl (Or.inr rfl) (pe_lc (own := [("_law_pair", 5)]) (g := gName 5) (by rfl) sc_lranks.nd (pi_list (pv 0)) (blkOk_by (N := NLR) (sc := defScope (top 58)) (by decide +kernel)) (fun _ _ _ _ _ => pg_name (i := 5) sc_lranks.nd rfl (Or.inl rfl))
          (fun _ _ _ _ _ => pts_one (pt_cmpR (r := rNeD K) (op_neD hu) (pe_lc (wi := iList K (tCB rListT (tCons (tDGet (tVar 1) (tVar 5)) tNil))) (own := [("_law_there", 6)]) (g := gName 6) (by rfl) sc_lranks.nd (pi_list (pe_callTy (T := "list") (r := rListT) (call_list_dT rfl) (by rfl) T.n_list (by decide +kernel) (pa_cons (pe_dget hu1 (pv 1) (pv 5) (fun _ _ => rfl)) pa_nil)))
              (blkOk_by (N := NLR) (sc := scLR) (by decide +kernel)) (fun _ _ _ _ _ => pg_name (i := 6) sc_lranks.nd rfl (Or.inl rfl)) (fun _ _ _ _ _ => pts_one (pt_cmpR (r := rInD K) (op_inD hu65) (pv 6) (pv 2) rfl)) (fun _ _ _ _ _ => pv 6)) (pe_lst pa_nil) rfl))
          (fun _ _ _ _ _ => pv 5)))))
      ) (pss_cons (ps_for PassesOwn.never rfl (pi_list (pv 2)) (pg_name (i := 5) sc_lranks.nd rfl (Or.inl rfl)) (pss_one (ps_dput hu1 (pv 3) (pv 5) pe_non (by rfl))))
      (pss_one (ps_ret (pv 3))))), ?_⟩
    have h2 := ok.n2
    have h5 := ok.n5
    have hpl := pairs_len h2 h5
    have hml : (qs.map V.ref).length = (BK.pairs C.n).length := by rw [List.length_map, hqs.1]
    have hT0 := rankTab_len h2 h5
    refine ⟨_, rfl, pa, _, rfl, .inl (SqL.of hpa), fun al nal => fun fd nfd => ⟨by show 2 ≤ sizeLine; decide, fun tp ntp => ?_⟩⟩
    have sm1 : Same H (upd H al (.lst (qs.map V.ref))) := same_new nal
    have nfd0 := none_same sm1 nfd
    have sm2 : Same (upd H al (.lst (qs.map V.ref))) (upd (upd H al (.lst (qs.map V.ref))) fd (.dT [])) := same_new nfd
    have sm3 : Same (upd (upd H al (.lst (qs.map V.ref))) fd (.dT [])) (upd (upd (upd H al (.lst (qs.map V.ref))) fd (.dT [])) tp (.tup [V.ref al, V.ref fd])) := same_new ntp
    have smA := same_trans sm1 (same_trans sm2 sm3)
    have hal : PairsL (upd (upd (upd H al (.lst (qs.map V.ref))) fd (.dT [])) tp (.tup [V.ref al, V.ref fd])) al (BK.alive C 0) := ⟨qs, sm3 _ _ (sm2 _ _ upd_same), hqs.ext (ext_same smA)⟩
    have hfd : upd (upd (upd H al (.lst (qs.map V.ref))) fd (.dT [])) tp (.tup [V.ref al, V.ref fd]) fd = some (.dT (rankTab C 0)) := sm3 _ _ upd_same
    refine ⟨tp, _, rfl, SqT.of upd_same, rfl, _, _, rfl, _, _, rfl, rfl, ?_⟩
    generalize upd (upd (upd H al (.lst (qs.map V.ref))) fd (.dT [])) tp (.tup [V.ref al, V.ref fd]) = H4 at smA hal hfd
    clear sm2 sm3
    refine ⟨_, rfl, _, (BK.pairs C.n).length, rfl, .inl ⟨_, SqL.of (smA _ _ hpa), hml.symm⟩, _, _, rfl, rfl, ((BK.pairs C.n).length : Int) + 1, rfl, by omega, by omega, ?_⟩
    refine for_it (n := (((BK.pairs C.n).length : Int) + 1).toNat) (walk_range (lo := 0)) (fun i σ H' => ∃ (al : Addr) (x4 x5 : Option V), σ = [some (.ref pa), some (.ref wa), some (.ref al), some (.ref fd), x4, x5, none] ∧ Same H H' ∧ PairsL H' al (BK.alive C i) ∧ H' fd = some (.dT (rankTab C i))) ⟨al, none, none, rfl, smA, hal, hfd⟩ (fun _ _ _ _ _ => trivial) ?_ ?_
    · rintro i v σ H1 H2 hi ⟨al, x4, x5, rfl, sm, ⟨as, ha, hP⟩, hD⟩ ⟨rfl, rfl⟩
      have hi : i < (BK.pairs C.n).length + 1 := by omega
      have hale := alive_len h2 h5 i
      have haml : (as.map V.ref).length = (BK.alive C i).length := by rw [List.length_map, hP.1]
      have haf : al ≠ fd := ne_of ha hD (fun z => by cases z)
      refine ⟨_, rfl, al, rfl, ⟨_, SqL.of ha⟩, ?_⟩
      refine for_it (n := (as.map V.ref).length) (walk_list (K := K) (a := al) (xs := as.map V.ref)) (fun j σ H' => ∃ x5 : Option V, σ = [some (.ref pa), some (.ref wa), some (.ref al), some (.ref fd), some (.int (0 + (i : Int))), x5, none] ∧ Same H H' ∧ H' al = some (.lst (as.map V.ref)) ∧ PairsAt H' as (BK.alive C i) ∧ H' fd = some (.dT (putAll (rankTab C i) ((BK.alive C i).take j) (.int (i : Int))))) ⟨x5, rfl, sm, ha, hP, hD⟩ (fun j σ H' _ ⟨_, _, _, ha, _⟩ => SqL.of ha) ?_ ?_
      · rintro j v σ H3 H4 hj ⟨x5, rfl, sm3, ha3, hP3, hD3⟩ ⟨rfl, hv⟩
        rw [haml] at hj
        have hp0 : (BK.alive C i)[j]? = some (BK.alive C i)[j] := List.getElem?_eq_getElem hj
        generalize (BK.alive C i)[j] = p at hp0
        obtain ⟨q, hq, hqp⟩ := hP3.2 j p hp0
        rw [List.getElem?_map, hq] at hv
        obtain rfl := Option.some.inj hv
        have hlen : (putAll (rankTab C i) ((BK.alive C i).take j) (.int (i : Int))).length < sizeLine := by
          have h3 := putAll_len (.int (i : Int)) ((BK.alive C i).take j) (rankTab C i)
          have h4 := hT0 i
          have h7 : ((BK.alive C i).take j).length ≤ (BK.alive C i).length := List.length_take_le' _ _
          rw [sizeLine_eq]
          omega
        refine ⟨_, rfl, _, rfl, _, rfl, fd, _, rfl, DPut.t (k := kp p) hD3 (pair_tup hqp) hlen, _, rfl, fun b o e => ?_, ?_, hP3.write hD3 (fun xs z => by cases z), ?_⟩
        · rw [upd_ne (ne_of_none e nfd0)]
          exact sm3 b o e
        · rw [upd_ne haf]; exact ha3
        · rw [upd_same, take_succ hp0, putAll_snoc, Int.zero_add]
      · rintro σ H3 ⟨x5, rfl, sm3, ha3, hP3, hD3⟩
        rw [haml, List.take_length] at hD3
        have hD3 : H3 fd = some (.dT (rankTab C (i + 1))) := hD3
        have hpa3 := sm3 _ _ hpa
        have hwa3 := sm3 _ _ hwa
        have hqs3 := hqs.ext (ext_same sm3)
        refine ⟨_, rfl, pa, rfl, ⟨_, SqL.of hpa3⟩, fun D nD => ?_⟩
        refine lc_it (n := (qs.map V.ref).length) (walk_list (K := K) (a := pa) (xs := qs.map V.ref)) (fun m H' => Same H3 H' ∧ ∃ ls : List Addr, H' D = some (.lst (ls.map V.ref)) ∧ PairsAt H' ls (((BK.pairs C.n).take m).filter fun p => (BK.edges C p).any fun q => (BK.alive C i).contains q)) ⟨same_new nD, [], by rw [upd_same]; rfl, by simpa using PairsAt.nil⟩ (fun m H' _ q => SqL.of (q.1 _ _ hpa3)) ?_ ?_
        · rintro m v H5 H6 hm ⟨sm5, ls, hLs, hPs⟩ ⟨rfl, hv⟩
          rw [hml] at hm
          have hp0 : (BK.pairs C.n)[m]? = some (BK.pairs C.n)[m] := List.getElem?_eq_getElem hm
          generalize (BK.pairs C.n)[m] = p at hp0
          obtain ⟨q, hq, hqp⟩ := hqs3.2 m p hp0
          rw [List.getElem?_map, hq] at hv
          obtain rfl := Option.some.inj hv
          have hpm : p ∈ BK.pairs C.n := List.mem_of_getElem? hp0
          have hqp5 := hqp.same (ext_same sm5)
          obtain ⟨kvs, hfs1, hfs2⟩ := hfs p hpm
          have hfl := found_len ok (BK.mem_nodes.mpr ⟨hpm, BK.nil_hear C⟩)
          have ha5 := sm5 _ _ ha3
          have hP5 := hP3.ext (ext_same sm5)
          refine ⟨rfl, ?_⟩
          refine ⟨_, rfl, _, rfl, wa, _, rfl, (tab_get (pairs_nodup h2 h5) (fun p => V.ref (fs p)) hpm) ▸ DGet.t (k := kp p) (sm5 _ _ hwa3) (pair_tup hqp5), fs p, kvs, rfl, .inl (sm5 _ _ (sm3 _ _ hfs1)), fun l bs nl hbs => ?_⟩
          have hkeys : PairsAt H6 bs (BK.edges C p) := keys_at hbs (by rw [hfs2]; unfold BK.edges; rw [List.map_map]; rfl)
          have sm6 := same_new (o := .lst (bs.map V.ref)) nl
          have hl6 : upd H6 l (.lst (bs.map V.ref)) l = some (.lst (bs.map V.ref)) := upd_same
          have hkeys6 := hkeys.ext (ext_same sm6)
          have hel : (BK.edges C p).length ≤ 10 := by unfold BK.edges; rw [List.length_map]; exact hfl
          have sm56 := same_trans sm5 sm6
          generalize upd H6 l (.lst (bs.map V.ref)) = H7 at sm6 hl6 hkeys6 sm56
          have hbl : (bs.map V.ref).length = (BK.edges C p).length := by rw [List.length_map, hkeys6.1]
          refine ⟨l, rfl, ⟨_, SqL.of hl6⟩, fun D2 nD2 => ?_⟩
          refine lc_it (n := (bs.map V.ref).length) (walk_list (K := K) (a := l) (xs := bs.map V.ref)) (fun r H' => Same H7 H' ∧ ∃ rs : List Addr, H' D2 = some (.lst (rs.map V.ref)) ∧ PairsAt H' rs (((BK.edges C p).take r).filter fun q => (BK.alive C i).contains q)) ⟨same_new nD2, [], by rw [upd_same]; rfl, by simpa using PairsAt.nil⟩ (fun r H' _ q => SqL.of (q.1 _ _ hl6)) ?_ ?_
          · rintro r v H8 H9 hr9 ⟨sm8, rs, hRs, hPr⟩ ⟨rfl, hv⟩
            rw [hbl] at hr9
            have hx0 : (BK.edges C p)[r]? = some (BK.edges C p)[r] := List.getElem?_eq_getElem hr9
            generalize (BK.edges C p)[r] = x at hx0
            obtain ⟨qx, hqx1, hqx2⟩ := hkeys6.2 r x hx0
            rw [List.getElem?_map, hqx1] at hv
            obtain rfl := Option.some.inj hv
            have hqx9 := hqx2.same (ext_same sm8)
            have sm9 := same_trans sm56 sm8
            refine ⟨rfl, ?_⟩
            refine ⟨_, rfl, _, rfl, pd x, (BK.alive C i).map pd, dp_pair hqx9, .lst (SqL.of (sm9 _ _ ha3)) (dp_pairs (hP3.ext (ext_same sm9))), pd_shaped x, pds_shaped _, _, rfl, ?_⟩
            rw [pd_in]
            cases hb : (BK.alive C i).contains x with
            | false =>
              refine iteF' rfl ⟨sm8, rs, hRs, ?_⟩
              rw [take_succ hx0, List.filter_append, List.filter_cons, if_neg (by rw [hb]; decide), List.filter_nil, List.append_nil]
              exact hPr
            | true =>
              have hrl : rs.length ≤ 10 := by
                rw [hPr.1]
                exact Nat.le_trans (List.length_filter_le _ _) (Nat.le_trans (List.length_take_le' _ _) hel)
              refine iteT' rfl ⟨_, rfl, _, hRs, by rw [List.length_map, sizeLine_eq]; omega, fun b o e => ?_, rs ++ [qx], ?_, ?_⟩
              · rw [upd_ne (ne_of_none e nD2)]
                exact sm8 b o e
              · rw [upd_same, List.map_append]
                rfl
              · rw [take_succ hx0, List.filter_append, List.filter_cons, if_pos hb, List.filter_nil]
                exact (hPr.snoc hqx9).write hRs (fun xs z => by cases z)
          · rintro H8 ⟨sm8, rs, hRs, hPr⟩
            rw [hbl, List.take_length] at hPr
            refine ⟨by show 0 ≤ sizeLine; decide, fun e ne => ?_⟩
            have sme := same_new (o := .lst []) ne
            have smF := same_trans sm6 (same_trans sm8 sme)
            have hRs9 := sme _ _ hRs
            have hPr9 := hPr.ext (ext_same sme)
            refine ⟨.list (((BK.edges C p).filter fun q => (BK.alive C i).contains q).map pd), .list [], .lst (SqL.of hRs9) (dp_pairs hPr9), .lst (SqL.of upd_same) .nil, pds_shaped _, by decide, _, rfl, ?_⟩
            rw [eqv_nil]
            have ee : (!(((BK.edges C p).filter fun q => (BK.alive C i).contains q).map pd).isEmpty) = (BK.edges C p).any fun q => (BK.alive C i).contains q := by
              rw [Bool.eq_iff_iff, Bool.not_eq_true', List.any_eq_true]
              constructor
              · intro hne
                cases hc : (BK.edges C p).filter fun q => (BK.alive C i).contains q with
                | nil => rw [hc] at hne; cases hne
                | cons x l =>
                  have : x ∈ (BK.edges C p).filter fun q => (BK.alive C i).contains q := by rw [hc]; exact List.mem_cons_self
                  exact ⟨x, (List.mem_filter.mp this).1, (List.mem_filter.mp this).2⟩
              · rintro ⟨x, hx1, hx2⟩
                cases hc : (BK.edges C p).filter fun q => (BK.alive C i).contains q with
                | nil =>
                  have : x ∈ (BK.edges C p).filter fun q => (BK.alive C i).contains q := List.mem_filter.mpr ⟨hx1, hx2⟩
                  rw [hc] at this
                  cases this
                | cons x l => rfl
            rw [ee]
            generalize upd H8 e (.lst []) = H9 at smF hRs9 hPr9
            have hqp9 := hqp5.same (ext_same smF)
            have hLs9 := smF _ _ hLs
            have hPs9 := hPs.ext (ext_same smF)
            have sm59 := same_trans sm5 smF
            cases hb : (BK.edges C p).any fun q => (BK.alive C i).contains q with
            | false =>
              refine iteF' rfl ⟨sm59, ls, hLs9, ?_⟩
              rw [take_succ hp0, List.filter_append, List.filter_cons, if_neg (by rw [hb]; decide), List.filter_nil, List.append_nil]
              exact hPs9
            | true =>
              have hll : ls.length ≤ 10 := by
                rw [hPs.1]
                exact Nat.le_trans (List.length_filter_le _ _) (Nat.le_trans (List.length_take_le' _ _) hpl)
              refine iteT' rfl ⟨_, rfl, _, hLs9, by rw [List.length_map, sizeLine_eq]; omega, fun b o e => ?_, ls ++ [q], ?_, ?_⟩
              · rw [upd_ne (ne_of_none e nD)]
                exact sm59 b o e
              · rw [upd_same, List.map_append]
                rfl
              · rw [take_succ hp0, List.filter_append, List.filter_cons, if_pos hb, List.filter_nil]
                exact (hPs9.snoc hqp9).write hLs9 (fun xs z => by cases z)
        · rintro H5 ⟨sm5, ls, hLs, hPs⟩
          rw [hml, List.take_length] at hPs
          exact ⟨D, _, _, rfl, same_trans sm3 sm5, ⟨ls, hLs, hPs⟩, sm5 _ _ hD3⟩
    · rintro σ H1 ⟨al, x4, x5, rfl, sm, ⟨as, ha, hP⟩, hD⟩
      have hN : (((BK.pairs C.n).length : Int) + 1).toNat = (BK.pairs C.n).length + 1 := by omega
      rw [hN] at hP hD
      have hst : BK.alive C ((BK.pairs C.n).length + 1) = BK.alive C (BK.pairs C.n).length := BK.alive_big C
      rw [hst] at hP
      have hale := alive_len h2 h5 (BK.pairs C.n).length
      have haml : (as.map V.ref).length = (BK.alive C (BK.pairs C.n).length).length := by rw [List.length_map, hP.1]
      have haf : al ≠ fd := ne_of ha hD (fun z => by cases z)
      refine ⟨_, rfl, al, rfl, ⟨_, SqL.of ha⟩, ?_⟩
      refine for_it (n := (as.map V.ref).length) (walk_list (K := K) (a := al) (xs := as.map V.ref)) (fun j σ H' => ∃ x5 : Option V, σ = [some (.ref pa), some (.ref wa), some (.ref al), some (.ref fd), x4, x5, none] ∧ Same H H' ∧ H' al = some (.lst (as.map V.ref)) ∧ PairsAt H' as (BK.alive C (BK.pairs C.n).length) ∧ H' fd = some (.dT (putAll (rankTab C ((BK.pairs C.n).length + 1)) ((BK.alive C (BK.pairs C.n).length).take j) .non))) ⟨x5, rfl, sm, ha, hP, hD⟩ (fun j σ H' _ ⟨_, _, _, ha, _⟩ => SqL.of ha) ?_ ?_
      · rintro j v σ H3 H4 hj ⟨x5, rfl, sm3, ha3, hP3, hD3⟩ ⟨rfl, hv⟩
        rw [haml] at hj
        have hp0 : (BK.alive C (BK.pairs C.n).length)[j]? = some (BK.alive C (BK.pairs C.n).length)[j] := List.getElem?_eq_getElem hj
        generalize (BK.alive C (BK.pairs C.n).length)[j] = p at hp0
        obtain ⟨q, hq, hqp⟩ := hP3.2 j p hp0
        rw [List.getElem?_map, hq] at hv
        obtain rfl := Option.some.inj hv
        have hlen : (putAll (rankTab C ((BK.pairs C.n).length + 1)) ((BK.alive C (BK.pairs C.n).length).take j) .non).length < sizeLine := by
          have h3 := putAll_len .non ((BK.alive C (BK.pairs C.n).length).take j) (rankTab C ((BK.pairs C.n).length + 1))
          have h4 := hT0 ((BK.pairs C.n).length + 1)
          have h7 : ((BK.alive C (BK.pairs C.n).length).take j).length ≤ (BK.alive C (BK.pairs C.n).length).length := List.length_take_le' _ _
          rw [sizeLine_eq]
          omega
        refine ⟨_, rfl, _, rfl, fd, _, rfl, DPut.t (k := kp p) hD3 (pair_tup hqp) hlen, _, rfl, fun b o e => ?_, ?_, hP3.write hD3 (fun xs z => by cases z), ?_⟩
        · rw [upd_ne (ne_of_none e nfd0)]
          exact sm3 b o e
        · rw [upd_ne haf]; exact ha3
        · rw [upd_same, take_succ hp0, putAll_snoc]
      · rintro σ H3 ⟨x5, rfl, sm3, ha3, hP3, hD3⟩
        rw [haml, List.take_length, rankTab_end (pairs_nodup h2 h5) hst] at hD3
        exact ⟨_, rfl, k fd H3 sm3 hD3⟩
end
end BW

set_option Elab.async false
set_option linter.all false
set_option maxRecDepth 100000
set_option maxHeartbeats 1000000
/-! _law_walk -/
namespace BW
open PySem PySem.Spec PyProof.Rows L2 SX
open LamX (Tabs ExtN CodeO)
section
variable {P : Program} {w : World} {K : PySem.W.Frag} {mg : PySem.Str → Option Value} {base : Heap}
theorem fam_ascii {C : BK.Cfg} (hF : Fam C) : ∀ r ∈ C.lots, r.length ≤ 1000 ∧ ∀ c ∈ r, c < 128 := fun r hr => ⟨hF.short r hr, fun x hx => by
  have h1 := (hF.lots r hr).1
  rw [h1] at hx
  have := sig_abc (List.mem_filter.mp hx).1
  have h2 : ∀ x ∈ BK.abc, x < 128 := by decide
  exact h2 x this⟩
abbrev NWK : List PySem.Str := ["_law_tables_here", "_law_lots_here", "_law_now", "_law_row", "_law_pair", "_law_heard", "_law_cuts", "_law_signal"]
theorem sc_walk : FnScope NWK ["_law_tables_here", "_law_lots_here", "_law_now", "_law_row"] (defScope (top 61)) := ⟨rfl, rfl, rfl, by decide +kernel, rfl, by decide +kernel, by decide +kernel⟩
def sp_walk : Sp := fun vs H Q _ => ∃ (t la now : Addr) (r : List Nat) (C : BK.Cfg) (st : BK.Now), vs = [.ref t, .ref la, .ref now, .str (S r)] ∧ TabL H t C.tabs ∧ TxtsL H la C.lots ∧ NowT H now st ∧ Fam C ∧ BK.Fit C st ∧ (∀ c ∈ r, c ∈ C.sig) ∧ ∀ a H', Same H H' → H a = none → NowT H' a (BK.hear C st r) → Q (.ref a) H'
theorem ok_walk (T : Tx K mg) : Cal CX0 P w K mg base 2 "_law_walk" sp_walk := by
  refine cal_of0 T.F__law_walk T.g__law_walk (fun _ _ _ _ _ _ us hl => match us, hl with | [_, _, _, _], _ => rfl) sc_walk (fun vs H Q E h => ?_) (fun cdv A outer s H vs Q E hr h => ?_)
  · obtain ⟨t, la, now, r, C, st, rfl, _⟩ := h
    rfl
  · obtain ⟨t, la, now, r, C, st, rfl, hT, hla, ⟨ap, hnow, hap⟩, hF, hfit, hr1, k⟩ := h
    refine ⟨_, pss_cons (ps_asg (pv 2) (pg_tup rfl (pgs_cons (pg_name (i := 4) sc_walk.nd rfl (Or.inl rfl)) (pgs_cons (pg_name (i := 5) sc_walk.nd rfl (Or.inl rfl)) (pgs_cons (pg_name (i := 6) sc_walk.nd rfl (Or.inl rfl)) pgs_nil)))))
      (pss_cons (ps_for PassesOwn.never rfl (pi_str (pv 3)) (pg_name (i := 7) sc_walk.nd rfl (Or.inl rfl))
        (C8.pss_cut (ps_set (i := 4) sc_walk.nd rfl (Or.inl rfl) (pe_ifExp (pt_cmp (pc_isN (pv 4))) pe_non (pe_c (ok_next T) hr (by rfl) (pa_cons (pv 0) (pa_cons (pv 4) (pa_cons (pv 7) pa_nil))))))
        (pss_cons (ps_set (i := 5) sc_walk.nd rfl (Or.inl rfl) (pe_c (ok_more T) hr (by rfl) (pa_cons (pv 5) (pa_cons (pv 7) pa_nil))))
        (pss_one (ps_if (pt_val (pe_c (ok_full T) hr (by rfl) (pa_cons (pv 1) (pa_cons (pv 5) pa_nil)))) (pss_one (ps_par (i := 5) (j := 6) rfl sc_walk.nd rfl rfl (by decide) rfl rfl (pa_cons pe_str (pa_cons (pe_op op_add (pv 6) pe_int) pa_nil)) (by rfl))) pss_nil)))))
      (pss_one (ps_ret (pe_tup (pa_cons (pv 4) (pa_cons (pv 5) (pa_cons (pv 6) pa_nil))))))), ?_⟩
    refine ⟨_, rfl, now, _, rfl, SqT.of hnow, rfl, _, _, rfl, _, _, rfl, _, _, rfl, rfl, ?_⟩
    refine ⟨_, rfl, S r, rfl, ?_⟩
    refine for_it (walk_S (z := r)) (fun i σ H' => ∃ (v : V) (x7 : Option V), σ = [some (.ref t), some (.ref la), some (.ref now), some (.str (S r)), some v, some (.str (S (BK.hear C st (r.take i)).2.1)), some (.int ((BK.hear C st (r.take i)).2.2 : Int)), x7] ∧ Same H H' ∧ PairV H' v (BK.hear C st (r.take i)).1 ∧ BK.Fit C (BK.hear C st (r.take i))) ⟨ap, none, rfl, same_refl H, hap, hfit⟩ (fun _ _ _ _ _ => trivial) ?_ ?_
    · rintro i v σ H1 H2 hi ⟨u, x7, rfl, sm, hu, ff⟩ ⟨rfl, c, hc, rfl⟩
      have hcs : c ∈ C.sig := hr1 c (List.mem_of_getElem? hc)
      have e : BK.hear C st (r.take (i + 1)) = BK.hear1 C (BK.hear C st (r.take i)) c := by
        unfold BK.hear
        rw [take_succ hc, List.foldl_append]
        rfl
      have ff2 : BK.Fit C (BK.hear C st (r.take (i + 1))) := by
        rw [e]
        exact BK.hear1_fit hF.ok hcs ff
      rw [e] at ff2 ⊢
      generalize BK.hear C st (r.take i) = st1 at hu ff e ff2
      obtain ⟨o, hh, n⟩ := st1
      rw [hear1_eq] at ff2 ⊢
      refine ⟨fun σ' H' => ∃ v : V, σ' = [some (.ref t), some (.ref la), some (.ref now), some (.str (S r)), some v, some (.str (S hh)), some (.int (n : Int)), some (.str (S [c]))] ∧ Same H H' ∧ PairV H' v (stepO C c o), ?_, ?_⟩
      · refine ⟨_, rfl, _, rfl, ?_⟩
        cases o with
        | none =>
          have hu : u = .non := hu
          subst hu
          exact iteT' rfl ⟨_, rfl, sm, rfl⟩
        | some p =>
          obtain ⟨q, rfl, hq⟩ := hu
          refine iteF' rfl ?_
          obtain ⟨hp1, hp2⟩ := BK.mem_pairs.mp (ff.2 p rfl)
          obtain ⟨j, hj⟩ := List.mem_iff_getElem?.mp hcs
          obtain ⟨hcn, hjt⟩ := sig_at hj
          refine ⟨_, rfl, _, rfl, _, rfl, t, q, p, j, C, (by rw [hcn]; rfl), hT.same sm, hq, hF.ok, Nat.lt_trans hp1 hp2, hp2, hjt, fun H4 v sm4 pv4 => ⟨v, rfl, same_trans sm sm4, ?_⟩⟩
          rw [← hcn] at pv4
          exact pv4
      · rintro σ' H3 ⟨v, rfl, sm3, hv⟩
        refine ⟨_, rfl, _, rfl, hh, c, rfl, fun H4 sm4 => ?_⟩
        refine ⟨_, rfl, _, rfl, la, C.lots, BK.more hh c, rfl, sm4 _ _ (sm3 _ _ hla), fam_ascii hF, fun H5 sm5 => ⟨_, rfl, ?_⟩⟩
        have sm35 := same_trans sm4 sm5
        have hv5 := hv.ext (ext_same sm35)
        have sm5' := same_trans sm3 sm35
        cases hfull : C.full (BK.more hh c) with
        | false =>
          rw [hfull] at ff2
          exact iteF' hfull ⟨v, _, rfl, sm5', hv5, ff2⟩
        | true =>
          rw [hfull] at ff2
          exact iteT' hfull ⟨_, rfl, _, _, rfl, rfl, _, _, rfl, v, _, rfl, sm5', hv5, ff2⟩
    · rintro σ H1 ⟨u, x7, rfl, sm, hu, ff⟩
      rw [List.take_length] at hu
      refine ⟨_, rfl, _, rfl, _, rfl, by show 3 ≤ sizeLine; decide, fun a na => ?_⟩
      refine k a _ (same_trans sm (same_new na)) (none_same sm na) ⟨u, ?_, hu.ext (ext_same (same_new na))⟩
      rw [upd_same, List.take_length]
end
end BW

set_option Elab.async false
set_option linter.all false
set_option maxRecDepth 100000
set_option maxHeartbeats 1000000
/-! _law_due -/
namespace BW
open PySem PySem.Spec PyProof.Rows L2 SX
open LamX (Tabs ExtN CodeO)
open NdefX (NScope NF ncx envF startF slotAt nscope_by)
section
variable {P : Program} {w : World} {K : PySem.W.Frag} {mg : PySem.Str → Option Value} {base : Heap}
theorem go_gName {i : Nat} {v : V} {σ : L2.St} {H : Hp} {R : L2.St → Hp → Prop} (h : R (σ.set i (some v)) H) : gName i v σ H R := h
theorem go_seq {a b : TS} {D : Ends} {σ : L2.St} {H : Hp} (h : a { D with nx := b D } σ H) : tSeq a b D σ H := h
theorem go_asg {t : TE} {g : TG} {D : Ends} {σ : L2.St} {H : Hp} (h : t σ H fun x H1 => g x σ H1 D.nx) : tAsg t g D σ H := h
/-- the rows found, some of them, by what is asked of each -/
theorem keptL {Q : VK} {H : Hp} {fd : Addr} {F : List (BK.Pair × BK.Row)} {tt : TT} {te : TE} {a0 a1 a2 a3 a5 a6 a7 : Option V} (sel : BK.Pair × BK.Row → Bool) (out : BK.Pair × BK.Row → V) (hfd : H fd = some (.dT (FD F))) (hl : F.length ≤ 10)
    (ht : ∀ x ∈ F, ∀ (b : Addr) (H2 : Hp) (R : Bool → Hp → Prop), Same H H2 → PairAt H2 b x.1 → R (sel x) H2 → tt [a0, a1, a2, a3, some (.ref fd), a5, a6, some (.ref b)] H2 R)
    (he : ∀ x ∈ F, sel x = true → ∀ (b : Addr) (H2 : Hp) (R : VK), Same H H2 → PairAt H2 b x.1 → R (out x) H2 → te [a0, a1, a2, a3, some (.ref fd), a5, a6, some (.ref b)] H2 R)
    (k : ∀ D H', Same H H' → H D = none → H' D = some (.lst ((F.filter sel).map out)) → Q (.ref D) H') :
    tLc (iList K (tCB rListT (tCons (tVar 4) tNil))) (gName 7) tt te [7] [a0, a1, a2, a3, some (.ref fd), a5, a6, a7] H Q := by
  refine ⟨_, rfl, fd, _, rfl, .inl hfd, fun l bs nl hbs => ?_⟩
  have sm2 : Same H (upd H l (.lst (bs.map V.ref))) := same_new nl
  have hbs2 := (pairs_keysF hbs).ext (ext_same sm2)
  have hl2 : upd H l (.lst (bs.map V.ref)) l = some (.lst (bs.map V.ref)) := upd_same
  generalize upd H l (.lst (bs.map V.ref)) = H2 at sm2 hbs2 hl2
  have hbl : (bs.map V.ref).length = F.length := by rw [List.length_map, hbs2.1, List.length_map]
  refine ⟨l, rfl, ⟨_, SqL.of hl2⟩, fun D nD => ?_⟩
  refine lc_it (n := (bs.map V.ref).length) (walk_list (K := K) (a := l) (xs := bs.map V.ref)) (fun i H' => Same H2 H' ∧ H' D = some (.lst (((F.take i).filter sel).map out))) ⟨same_new nD, by rw [upd_same]; rfl⟩ (fun i H' _ q => SqL.of (q.1 _ _ hl2)) ?_ ?_
  · rintro i v H3 H4 hi ⟨sm3, hD⟩ ⟨rfl, hv⟩
    rw [hbl] at hi
    have hx0 : F[i]? = some F[i] := List.getElem?_eq_getElem hi
    generalize F[i] = x at hx0
    obtain ⟨b, hb1, hb2⟩ := hbs2.2 i x.1 (by rw [List.getElem?_map, hx0]; rfl)
    rw [List.getElem?_map, hb1] at hv
    obtain rfl := Option.some.inj hv
    have hxm := List.mem_of_getElem? hx0
    have hb3 := hb2.same (ext_same sm3)
    refine ⟨rfl, ht x hxm b H4 _ (same_trans sm2 sm3) hb3 ?_⟩
    cases hs : sel x with
    | false =>
      refine iteF' rfl ⟨sm3, ?_⟩
      rw [take_succ hx0, List.filter_append, List.filter_cons, if_neg (by rw [hs]; decide), List.filter_nil, List.append_nil]
      exact hD
    | true =>
      refine iteT' rfl (he x hxm hs b H4 _ (same_trans sm2 sm3) hb3 ⟨_, hD, ?_, fun c o e => ?_, ?_⟩)
      · rw [List.length_map, sizeLine_eq]
        have h1 := List.length_filter_le sel (F.take i)
        have h2 : (F.take i).length ≤ F.length := List.length_take_le' _ _
        omega
      · rw [upd_ne (ne_of_none e nD)]
        exact sm3 c o e
      · rw [upd_same, take_succ hx0, List.filter_append, List.filter_cons, if_pos hs, List.filter_nil, List.map_append]
        rfl
  · rintro H3 ⟨sm3, hD⟩
    rw [hbl, List.take_length] at hD
    exact k D H3 (same_trans sm2 sm3) (none_same sm2 nD) hD
def stAt (l : List Stmt) (i : Nat) : Stmt := l.getD i (.Pass ⟨0, 0, 0, 0⟩)
def ifBody1 : Stmt → List Stmt
  | .If _ b _ _ => b
  | _ => []
def tup2 : Expr → Expr
  | .Tuple [_, b] _ _ => b
  | e => e
def lamD1 : Arguments × Expr × Scope := lamKw (tup2 (retOf (ifBody1 (stAt (defBody (top 60)) 3))))
def lamD2 : Arguments × Expr × Scope := lamKw (ifThen (tup2 (retOf [stAt (defBody (top 60)) 6])))
theorem sc_lamD1 : NScope ["_law_row"] ["_law_row"] [] lamD1.2.2 := nscope_by (by decide +kernel)
theorem sc_lamD2 : NScope ["_law_row"] ["_law_row"] [] lamD2.2.2 := nscope_by (by decide +kernel)
/-- rows found are texts of signals -/
theorem found_text {C : BK.Cfg} (ok : C.Ok) {p : BK.Pair} {h : BK.Row} (hn : (p, h) ∈ C.nodes) {x : BK.Pair × BK.Row} (hx : x ∈ BK.found C p h) : ∀ c ∈ x.2, c < 128 := fun c hc => by
  have h1 := BK.leads_sig (BK.found_sound ok hn hx).1 c hc
  have h2 := BK.mem_sig h1
  omega
theorem neNil_rows {H : Hp} {D e : Addr} {rows : List (List Nat)} (hD : H D = some (.lst (rows.map fun r => V.str (S r)))) (he : H e = some (.lst [])) (ht : ∀ r ∈ rows, ∀ c ∈ r, c < 128) {Q : VK} (q : Q (.bl (!rows.isEmpty)) H) : rNeD K (.ref D) (.ref e) H Q := by
  refine ⟨.list (rows.map fun r => PyData.str (S r)), .list [], .lst (SqL.of hD) (dp_texts rows), .lst (SqL.of he) .nil, shaped_list (k := 0) (fun d hd => ?_) (fun d hd => ?_) (by decide), by decide, ?_⟩
  · obtain ⟨r, hr, rfl⟩ := List.mem_map.mp hd
    exact strOk_S (ht r hr)
  · obtain ⟨r, hr, rfl⟩ := List.mem_map.mp hd
    exact Nat.le_refl _
  · rw [eqv_nil]
    cases rows with
    | nil => exact q
    | cons r l => exact q
abbrev NDU : List PySem.Str := ["_law_tables_here", "_law_lots_here", "_law_ranks_here", "_law_now", "_law_rows_here", "_law_kept", "_law_best", "_law_pair"]
theorem sc_due : FnScope NDU ["_law_tables_here", "_law_lots_here", "_law_ranks_here", "_law_now"] (defScope (top 60)) := ⟨rfl, rfl, rfl, by decide +kernel, rfl, by decide +kernel, by decide +kernel⟩
/-- what is due and what is told, as a pair -/
def DueT (H : Hp) (a : Addr) (C : BK.Cfg) (st : BK.Now) : Prop := H a = some (.tup [mv (BK.moreI C st), toldV (BK.toldI C st)])
def sp_due (K : PySem.W.Frag) : Sp := fun vs H Q _ => ∃ (t la ra now : Addr) (C : BK.Cfg) (st : BK.Now), vs = [.ref t, .ref la, .ref ra, .ref now] ∧ TabL H t C.tabs ∧ TxtsL H la C.lots ∧ RankD H ra C ∧ NowT H now st ∧ Fam C ∧ BK.Fit C st ∧ Tabs (T3 K) H ∧ ∀ a H', Ex (T3 K) H H' → DueT H' a C st → Q (.ref a) H'
theorem ok_due (T : Tx K mg) (B : Tb K mg base) : Cal CX0 P w K mg base 3 "_law_due" (sp_due K) := by
  refine cal_ofL T.F__law_due T.g__law_due (fun _ _ _ _ _ _ us hl => match us, hl with | [_, _, _, _], _ => rfl) sc_due (fun vs H Q E h => ?_) (fun A outer s H vs Q E hr h => ?_)
  · obtain ⟨t, la, ra, now, C, st, rfl, _⟩ := h
    rfl
  · obtain ⟨t, la, ra, now, C, st, rfl, hT, hla, hra, ⟨ap, hnow, hap⟩, hF, hfit, hTb, k⟩ := h
    have hu := hr.units
    have hu1 : (A.deeper (envOfC "_law_due" (defScope (top 60)) s.heap.objs.size (He.ga K "_law_due") (.ref (He.codeOf K ("_law_due", none))))).units + 1 < cLine := by omega
    refine ⟨_, pss_cons (ps_if (pt_cmp (pc_isN (pe_ix ix_tup (pv 3) pe_int (fun _ _ => rfl)))) (pss_one (ps_ret (pe_tup (pa_cons (pe_op op_sub pe_int pe_int) (pa_cons pe_non pa_nil))))) pss_nil)
      (pss_cons (ps_set (i := 4) sc_due.nd rfl (Or.inr rfl) (pe_c (ok_rows T) hr (by rfl) (pa_cons (pv 0) (pa_cons (pv 1) (pa_cons (pe_ix ix_tup (pv 3) pe_int (fun _ _ => rfl)) (pa_cons (pe_ix ix_tup (pv 3) pe_int (fun _ _ => rfl)) pa_nil))))))
      (pss_cons (ps_setLc (i := 5) (own := [("_law_pair", 7)]) (g := gName 7) (by rfl) sc_due.nd rfl rfl (by rfl) (pi_list (pe_callTy (call_list_dT rfl) (by rfl) T.n_list (by decide +kernel) (pa_cons (pv 4) pa_nil))) (blkOk_by (N := NDU) (sc := defScope (top 60)) (by decide +kernel)) (fun _ _ _ _ _ => pg_name (i := 7) sc_due.nd rfl (Or.inl rfl))
          (fun _ _ _ _ _ => pts_one (pt_cmp (pc_isN (pe_dget hu1 (pv 2) (pv 7) (fun _ _ => rfl))))) (fun _ _ _ _ _ => pe_dget hu1 (pv 4) (pv 7) (fun _ _ => rfl)))
      (pss_cons (ps_if (pt_cmpR (op_neD hu) (pv 5) (pe_lst pa_nil) rfl) (pss_one (ps_ret (pe_tup (pa_cons pe_non (pa_cons (pe_callBK (ck_minkey rfl hr) (by rfl) T.n_min (by decide +kernel) (pa_cons (pv 5) pa_nil) (pk_cons (pe_lambda (T := T3 K) (tb_3 B) rfl t3_m3 (t3_u3 B) rfl rfl) pk_nil)) pa_nil))))) pss_nil)
      (pss_cons (ps_set (i := 6) sc_due.nd rfl (Or.inr rfl) (pe_callB (cr_max rfl) (by rfl) T.n_max (by decide +kernel) (pa_cons (pe_op op_cat (pe_lst (pa_cons pe_int pa_nil)) (pe_lc (own := [("_law_pair", 7)]) (g := gName 7) (by rfl) sc_due.nd (pi_list (pe_callTy (call_list_dT rfl) (by rfl) T.n_list (by decide +kernel) (pa_cons (pv 4) pa_nil))) (blkOk_by (N := NDU) (sc := defScope (top 60)) (by decide +kernel)) (fun _ _ _ _ _ => pg_name (i := 7) sc_due.nd rfl (Or.inl rfl))
          (fun _ _ _ _ _ => pts_nil) (fun _ _ _ _ _ => pe_op op_add (pe_dget hu1 (pv 2) (pv 7) (fun _ _ => rfl)) pe_int))) pa_nil)))
      (pss_cons (ps_setLc (i := 5) (own := [("_law_pair", 7)]) (g := gName 7) (by rfl) sc_due.nd rfl rfl (by rfl) (pi_list (pe_callTy (call_list_dT rfl) (by rfl) T.n_list (by decide +kernel) (pa_cons (pv 4) pa_nil))) (blkOk_by (N := NDU) (sc := defScope (top 60)) (by decide +kernel)) (fun _ _ _ _ _ => pg_name (i := 7) sc_due.nd rfl (Or.inl rfl))
          (fun _ _ _ _ _ => pts_one (pt_cmpR op_eq (pe_dget hu1 (pv 2) (pv 7) (fun _ _ => rfl)) (pe_op op_sub (pv 6) pe_int) rfl)) (fun _ _ _ _ _ => pe_dget hu1 (pv 4) (pv 7) (fun _ _ => rfl)))
      (pss_one (ps_ret (pe_tup (pa_cons (pv 6) (pa_cons (pe_ifExp (pt_cmpR (op_neD hu) (pv 5) (pe_lst pa_nil) rfl) (pe_callBK (ck_minkey rfl hr) (by rfl) T.n_min (by decide +kernel) (pa_cons (pv 5) pa_nil) (pk_cons (pe_lambda (T := T3 K) (tb_3 B) rfl t3_m3 (t3_u3 B) rfl rfl) pk_nil)) pe_non) pa_nil)))))))))), ?_⟩
    obtain ⟨o, h, n⟩ := st
    refine ⟨_, rfl, now, _, _, _, rfl, rfl, SqT.of hnow, atI_nat (j := 0) rfl, _, rfl, ?_⟩
    cases o with
    | none =>
      have hap : ap = .non := hap
      subst hap
      refine iteT' rfl ⟨_, _, rfl, rfl, by show 2 ≤ sizeLine; decide, fun a na => k a _ (Ex.same hTb (same_new na)) ?_⟩
      unfold DueT
      rw [upd_same]
      rfl
    | some p =>
      obtain ⟨q, rfl, hq⟩ := hap
      have hp := hfit.2 p rfl
      have hn : (p, h) ∈ C.nodes := BK.mem_nodes.mpr ⟨hp, hfit.1⟩
      have hfl := found_len hF.ok hn
      have em : BK.moreI C (some p, h, n) = (BK.due C p h).map fun m => (m : Int) := rfl
      have et : BK.toldI C (some p, h, n) = BK.told C p h := rfl
      refine iteF' rfl ⟨_, rfl, _, rfl, _, rfl, now, _, _, _, rfl, rfl, SqT.of hnow, atI_nat (j := 0) rfl, _, rfl, now, _, _, _, rfl, rfl, SqT.of hnow, atI_nat (j := 1) rfl, ?_⟩
      refine ⟨t, la, q, p, h, C, rfl, hT, hla, hF, hq, hn, fun fd H1 sm1 hfd nfd => ?_⟩
      have rank_at : ∀ x ∈ BK.found C p h, ∀ (b : Addr) (H2 : Hp), Same H1 H2 → PairAt H2 b x.1 → H2 ra = some (.dT ((BK.pairs C.n).map fun p => (kp p, rv (BK.rank C p)))) ∧ valV ((BK.pairs C.n).map fun p => (kp p, rv (BK.rank C p))) (kp x.1) = some (rv (BK.rank C x.1)) := fun x hx b H2 sm hb =>
        ⟨sm _ _ (sm1 _ _ hra), tab_get (pairs_nodup hF.ok.n2 hF.ok.n5) (fun p => rv (BK.rank C p)) (BK.found_sound hF.ok hn hx).2.1⟩
      have hTb1 : Ex (T3 K) H H1 := Ex.same hTb sm1
      refine go_gName ?_
      dsimp only
      refine go_seq (go_asg ?_)
      refine keptL (K := K) (fun x => (BK.rank C x.1).isNone) (fun x => V.str (S x.2)) hfd hfl (fun x hx b H2 R sm hb hR => ?_) (fun x hx hs b H2 R sm hb hR => ?_) fun D H2 sm2 nD hD => ?_
      · obtain ⟨h1, h2⟩ := rank_at x hx b H2 sm hb
        refine ⟨_, rfl, _, rfl, ra, _, rfl, h2 ▸ DGet.t (k := kp x.1) h1 (pair_tup hb), _, rfl, ?_⟩
        rw [rv_non]
        exact hR
      · exact ⟨_, rfl, _, rfl, fd, _, rfl, (fd_get (BK.found_nodup hF.ok hn) hx) ▸ DGet.t (k := kp x.1) (sm _ _ hfd) (pair_tup hb), hR⟩
      have eX2 := hTb1.trans (Ex.same hTb1.tabs sm2)
      have rows_of : ∀ (sel : BK.Pair × BK.Row → Bool), ((BK.found C p h).filter sel).map (fun x => V.str (S x.2)) = (((BK.found C p h).filter sel).map (·.2)).map fun r => V.str (S r) := fun sel => by
        rw [List.map_map]
        rfl
      have rows_txt : ∀ (sel : BK.Pair × BK.Row → Bool), ∀ r ∈ ((BK.found C p h).filter sel).map (·.2), ∀ c ∈ r, c < 128 := fun sel r hr => by
        obtain ⟨x, hx, rfl⟩ := List.mem_map.mp hr
        exact found_text hF.ok hn (List.mem_filter.mp hx).1
      have rows_short : ∀ (sel : BK.Pair × BK.Row → Bool), ∀ r ∈ ((BK.found C p h).filter sel).map (·.2), r.length ≤ 1000 := fun sel r hr => by
        obtain ⟨x, hx, rfl⟩ := List.mem_map.mp hr
        have := (BK.found_sound hF.ok hn (List.mem_filter.mp hx).1).2.2
        omega
      rw [rows_of] at hD
      refine ⟨_, rfl, by show 0 ≤ sizeLine; decide, fun e ne => ?_⟩
      have sme := same_new (o := .lst []) ne
      have hD2 := sme _ _ hD
      have eX3 := eX2.trans (Ex.same eX2.tabs sme)
      refine neNil_rows (K := K) hD2 upd_same (rows_txt _) ⟨_, rfl, ?_⟩
      generalize upd H2 e (.lst []) = H3 at sme hD2 eX3
      have sm13 := same_trans sm2 sme
      cases hr1 : ((BK.found C p h).filter fun x => (BK.rank C x.1).isNone).map (·.2) with
      | cons r0 l0 =>
        have hmem : r0 ∈ ((BK.found C p h).filter fun x => (BK.rank C x.1).isNone).map (·.2) := by rw [hr1]; exact List.mem_cons_self
        obtain ⟨x, hx, hxr⟩ := List.mem_map.mp hmem
        have hx2 := List.mem_filter.mp hx
        have hd : BK.due C p h = none := BK.due_none.mpr ⟨x, hx2.1, Option.isNone_iff_eq_none.mp hx2.2⟩
        have hk : BK.kept C p h = r0 :: l0 := by
          rw [← hr1]
          unfold BK.kept
          rw [hd]
          congr 1
          refine List.filter_congr fun y _ => ?_
          cases BK.rank C y.1 <;> rfl
        have hto : ∃ b, BK.firstOf (r0 :: l0) = some b := ⟨_, rfl⟩
        obtain ⟨b, hb⟩ := hto
        refine iteT' rfl ⟨_, rfl, eX3.tabs, fun f F H4 e4 t4 nf hf hco hq2 hs hcl => ?_⟩
        have hcl := hcl (by rfl)
        obtain ⟨nm, ql, pr, bd, sc, cl, c⟩ := F
        have hs : sc = lamD1.2.2 := hs
        have hq2 : ql = lamQ "_law_due" := hq2
        subst hs hq2
        refine ⟨D, f, _, _, _, r0 :: l0, b, rfl, rfl, (by rw [← hr1]; exact e4 _ _ hD2 (fun ps z => by cases z)), ⟨hf, hco, hcl, ["_law_row"], "_law_row", _, sc_lamD1, fun q cl pm cv ctv us hl => match us, hl with | [_], _ => rfl, fun A outer s H hr => pe_tup (pa_cons (pe_callB (r := rLen K) call_len (by rfl) T.n_len boot_len (pa_cons (pv 0) pa_nil)) (pa_cons (pv 0) pa_nil)), fun r H Q hr h => ?_⟩, (fun r hr => rows_short _ r (by rw [hr1]; exact hr)), hb, fun H5 sm5 => ?_⟩
        · exact ⟨_, rfl, _, _, rfl, ⟨by show r.length ≤ sizeLine; rw [sizeLine_eq]; omega, rfl⟩, _, rfl, by show 2 ≤ sizeLine; decide, h⟩
        · refine ⟨by show 2 ≤ sizeLine; decide, fun a na => ?_⟩
          have eX4 := eX3.trans (Ex.mk e4 t4)
          have eX5 := eX4.trans (Ex.same eX4.tabs sm5)
          refine k a _ (eX5.trans (Ex.same eX5.tabs (same_new na))) ?_
          unfold DueT
          rw [upd_same, em, et, hd]
          unfold BK.told
          rw [hk, hb]
          rfl
      | nil =>
        have hall : ∀ x ∈ BK.found C p h, ∃ r, BK.rank C x.1 = some r := fun x hx => by
          cases e : BK.rank C x.1 with
          | some r => exact ⟨r, rfl⟩
          | none =>
            have : x.2 ∈ ((BK.found C p h).filter fun x => (BK.rank C x.1).isNone).map (·.2) := List.mem_map.mpr ⟨x, List.mem_filter.mpr ⟨hx, by rw [e]; rfl⟩, rfl⟩
            rw [hr1] at this
            cases this
        have hany : (BK.later C p h).any (·.isNone) = false := by
          rw [List.any_eq_false]
          intro r hr
          obtain ⟨x, hx, rfl⟩ := List.mem_map.mp hr
          obtain ⟨r, hr⟩ := hall x hx
          rw [hr]
          exact Bool.false_ne_true
        have hd : BK.due C p h = some (BK.maxL ((BK.later C p h).map fun r => r.getD 0 + 1)) := by
          unfold BK.due
          rw [if_neg (by rw [hany]; decide)]
        refine iteF' rfl ⟨by show 1 ≤ sizeLine; decide, fun z nz => ?_⟩
        have smz := same_new (o := .lst [V.int 0]) nz
        have hz : upd H3 z (.lst [V.int 0]) z = some (.lst [V.int 0]) := upd_same
        generalize upd H3 z (.lst [V.int 0]) = H4 at smz hz
        have sm14 := same_trans sm13 smz
        refine keptL (K := K) (fun _ => true) (fun x => V.int (((BK.rank C x.1).getD 0 + 1 : Nat) : Int)) (sm14 _ _ hfd) hfl (fun x hx b H5 R sm hb hR => hR) (fun x hx hs b H5 R sm hb hR => ?_) fun D3 H5 sm5 nD3 hD3 => ?_
        · obtain ⟨h1, h2⟩ := rank_at x hx b H5 (same_trans sm14 sm) hb
          obtain ⟨r, hr⟩ := hall x hx
          have hR : R (V.int (((BK.rank C x.1).getD 0 + 1 : Nat) : Int)) H5 := hR
          refine ⟨_, rfl, _, rfl, ra, _, rfl, h2 ▸ DGet.t (k := kp x.1) h1 (pair_tup hb), (r : Int), _, by show rv (BK.rank C x.1) = _; rw [hr]; rfl, rfl, ?_⟩
          rw [hr] at hR
          exact hR
        have sm15 := same_trans sm14 sm5
        rw [List.filter_eq_self.mpr (fun _ _ => rfl)] at hD3
        refine ⟨z, D3, _, _, rfl, rfl, sm5 _ _ hz, hD3, by rw [List.length_map, sizeLine_eq]; show 1 + _ ≤ _; omega, fun c nc => ?_⟩
        have smc := same_new (o := .lst ([V.int 0] ++ (BK.found C p h).map fun x => V.int (((BK.rank C x.1).getD 0 + 1 : Nat) : Int))) nc
        have hc : upd H5 c (.lst ([V.int 0] ++ (BK.found C p h).map fun x => V.int (((BK.rank C x.1).getD 0 + 1 : Nat) : Int))) c = _ := upd_same
        generalize upd H5 c (.lst ([V.int 0] ++ (BK.found C p h).map fun x => V.int (((BK.rank C x.1).getD 0 + 1 : Nat) : Int))) = H6 at smc hc
        have sm16 := same_trans sm15 smc
        refine ⟨c, (0 :: (BK.later C p h).map fun r => r.getD 0 + 1).map fun x : Nat => (x : Int), rfl, SqL.of ?_, Nat.succ_pos _, fun m hm hle => ?_⟩
        · rw [hc]
          unfold BK.later
          rw [List.map_cons, List.map_map, List.map_map, List.map_cons, List.map_map]
          rfl
        have hm2 : m = ((BK.maxL ((BK.later C p h).map fun r => r.getD 0 + 1) : Nat) : Int) := (maxL_eq hm hle).trans (congrArg (fun x : Nat => (x : Int)) (show BK.maxL (0 :: (BK.later C p h).map fun r => r.getD 0 + 1) = BK.maxL ((BK.later C p h).map fun r => r.getD 0 + 1) from rfl))
        subst hm2
        generalize BK.maxL ((BK.later C p h).map fun r => r.getD 0 + 1) = M at hd
        refine go_gName ?_
        dsimp only
        refine go_seq (go_asg ?_)
        refine keptL (K := K) (fun x => BK.wanted (BK.due C p h) (BK.rank C x.1)) (fun x => V.str (S x.2)) (sm16 _ _ hfd) hfl (fun x hx b H7 R sm hb hR => ?_) (fun x hx hs b H7 R sm hb hR => ?_) fun D7 H7 sm7 nD7 hD7 => ?_
        · obtain ⟨h1, h2⟩ := rank_at x hx b H7 (same_trans sm16 sm) hb
          refine ⟨_, rfl, _, rfl, ra, _, rfl, h2 ▸ DGet.t (k := kp x.1) h1 (pair_tup hb), _, rfl, _, _, rfl, rfl, scal_w (some M) _, _, rfl, ?_⟩
          show R (decide (rv (BK.rank C x.1) = wantV (some M))) H7
          rw [wanted_v, ← hd]
          exact hR
        · exact ⟨_, rfl, _, rfl, fd, _, rfl, (fd_get (BK.found_nodup hF.ok hn) hx) ▸ DGet.t (k := kp x.1) (sm _ _ (sm16 _ _ hfd)) (pair_tup hb), hR⟩
        have eX7 := eX2.trans (Ex.same eX2.tabs (same_trans (same_trans sme smz) (same_trans sm5 (same_trans smc sm7))))
        rw [rows_of] at hD7
        refine ⟨_, rfl, _, rfl, by show 0 ≤ sizeLine; decide, fun e8 ne8 => ?_⟩
        have sm8 := same_new (o := .lst []) ne8
        have hD8 := sm8 _ _ hD7
        have eX8 := eX7.trans (Ex.same eX7.tabs sm8)
        refine neNil_rows (K := K) hD8 upd_same (rows_txt _) ⟨_, rfl, ?_⟩
        generalize upd H7 e8 (.lst []) = H8 at hD8 eX8
        have hk : BK.kept C p h = ((BK.found C p h).filter fun x => BK.wanted (BK.due C p h) (BK.rank C x.1)).map (·.2) := rfl
        rw [← hk] at hD8 ⊢
        have rs := rows_short fun x => BK.wanted (BK.due C p h) (BK.rank C x.1)
        rw [← hk] at rs
        cases hb : BK.firstOf (BK.kept C p h) with
        | none =>
          have e0 := BK.firstOf_none.mp hb
          rw [e0]
          refine iteF' rfl ⟨by show 2 ≤ sizeLine; decide, fun a na => k a _ (eX8.trans (Ex.same eX8.tabs (same_new na))) ?_⟩
          unfold DueT
          rw [upd_same, em, et, hd]
          unfold BK.told
          rw [hb]
          rfl
        | some b =>
          have hne : (!(BK.kept C p h).isEmpty) = true := by
            cases hk2 : BK.kept C p h with
            | nil => rw [hk2] at hb; cases hb
            | cons _ _ => rfl
          refine iteT' hne ⟨_, rfl, eX8.tabs, fun f F H9 e9 t9 nf hf hco hq2 hs hcl => ?_⟩
          have hcl := hcl (by rfl)
          obtain ⟨nm, ql, pr, bd, sc, cl, c⟩ := F
          have hs : sc = lamD2.2.2 := hs
          have hq2 : ql = lamQ "_law_due" := hq2
          subst hs hq2
          refine ⟨D7, f, _, _, _, BK.kept C p h, b, rfl, rfl, e9 _ _ hD8 (fun ps z => by cases z), ⟨hf, hco, hcl, ["_law_row"], "_law_row", _, sc_lamD2, fun q cl pm cv ctv us hl => match us, hl with | [_], _ => rfl, fun A outer s H hr => pe_tup (pa_cons (pe_callB (r := rLen K) call_len (by rfl) T.n_len boot_len (pa_cons (pv 0) pa_nil)) (pa_cons (pv 0) pa_nil)), fun r H Q hr h => ?_⟩, rs, hb, fun H10 sm10 => ?_⟩
          · exact ⟨_, rfl, _, _, rfl, ⟨by show r.length ≤ sizeLine; rw [sizeLine_eq]; omega, rfl⟩, _, rfl, by show 2 ≤ sizeLine; decide, h⟩
          · refine ⟨by show 2 ≤ sizeLine; decide, fun a na => ?_⟩
            have eX9 := eX8.trans (Ex.mk e9 t9)
            have eX10 := eX9.trans (Ex.same eX9.tabs sm10)
            refine k a _ (eX10.trans (Ex.same eX10.tabs (same_new na))) ?_
            unfold DueT
            rw [upd_same, em, et, hd]
            unfold BK.told
            rw [hb]
            rfl
end
end BW

set_option Elab.async false
set_option linter.all false
set_option maxRecDepth 100000
set_option maxHeartbeats 1000000
/-! several except clauses with names; isinstance of a caught exception that has a dict -/
namespace BW
open PySem PySem.Spec PyProof.Rows L2 SX
section
variable {X : Cx} {pins : List (Addr × Obj)} {σ : L2.St} {H : Hp} {B : Heap} {sI s : Shared} {a : Addr} {cls : Value} {d : Option Addr}
/-- the exception at a came to a try of X; sI: the state without it -/
structure Came (X : Cx) (pins : List (Addr × Obj)) (σ : L2.St) (H : Hp) (B : Heap) (sI : Shared) (a : Addr) (cls : Value) (d : Option Addr) (s : Shared) : Prop where
  inv : Inv X pins σ H sI
  own : X.stack = X.env :: X.outer
  frm : X.env.frame = some X.env.locals
  nb : ∀ b o, sI.heap.get? b = some o → b ∉ frs X.stack → B.get? b = some o
  up : sI.heap.UpToSlots s.heap
  fl : HandSPX.FlyingZ B (X.env :: X.outer) a (Zc cls d) s.heap
  na : H a = none
  os : s.os = sI.os
  ag : AllBare s.gens
theorem Came.here (c : Came X pins σ H B sI a cls d s) : Inv X pins σ H s := c.inv.landed c.nb c.fl.1 c.up c.os c.ag
theorem Came.on (c : Came X pins σ H B sI a cls d s) {h : Heap} (f : HandSPX.FlyingZ B (X.env :: X.outer) a (Zc cls d) h) (u : s.heap.UpToSlots h) : Came X pins σ H B sI a cls d { s with heap := h } :=
  ⟨c.inv, c.own, c.frm, c.nb, c.up.trans u, f, c.na, c.os, c.ag⟩
/-- in the suite: its object is pinned -/
theorem Came.inner (c : Came X pins σ H B sI a cls d s) : ∃ oe, Zc cls d oe ∧ (∃ vs, oe.data = .fields vs) ∧ Inv (X.suite a ((a, oe) :: (X.pn ++ pins))) [] σ H s := by
  obtain ⟨oe, vs, h1, h2, h3⟩ := c.fl.there
  have nfr : a ∉ frs (X.env :: X.outer) := fun hm => by
    obtain ⟨_, o, q1, q2⟩ := c.fl.2.2.1.mem hm
    have q3 := Option.some.inj (h1.symm.trans q1)
    subst q3
    exact q2 _ h3
  refine ⟨oe, h2, ⟨vs, h3⟩, c.here.suite h1 h3 c.na (fun z => ?_) fun hm => ?_⟩
  · exact nfr (List.mem_filterMap.mpr ⟨X.env, List.mem_cons_self, by rw [c.frm, z]⟩)
  · obtain ⟨e, q1, q2⟩ := List.mem_filterMap.mp hm
    exact nfr (List.mem_filterMap.mpr ⟨e, List.mem_cons_of_mem _ q1, q2⟩)
/-- what the clauses do with it -/
structure Hnd (X : Cx) (hds : List ExceptHandler) (wf : Ends → WX) : Prop where
  run : ∀ (pins : List (Addr × Obj)) (σ : L2.St) (H : Hp) (B : Heap) (sI : Shared) (a : Addr) (cls : Value) (d : Option Addr) (s : Shared) (D : Ends), Came X pins σ H B sI a cls d s → wf D cls d σ H →
    wpAny (model X.prog X.w) X.A (handleBy (.ref a) X.env hds) (SP X pins D) X.xe s
theorem hnd_nil {W : WX} (tk : Takes X W) : Hnd X [] (fun _ => W) := by
  refine ⟨fun pins σ H B sI a cls d s D c w => wpAny_handleBy_nil ?_⟩
  obtain ⟨_, _, _, oe, vs, T, _, _, q1, _, q2, q3, _⟩ := id c.fl
  have out : wpAny (model X.prog X.w) X.A (setFlight (.ref a) X.env.frame) (fun _ s4 => wpAny (model X.prog X.w) X.A (throw (.ref a) : Sem Flow) (SP X pins D) X.xe s4) X.xe s := by
    rw [c.frm]
    refine HandSPX.setFlight_upZ c.fl fun h4 f4 u4 => wpAny_throw (tk _ _ ?_)
    refine ⟨a, B, sI, pins, σ, H, cls, d, rfl, c.inv, c.nb, c.up.trans u4, .inr (.inr ?_), c.na, c.os, c.ag, w⟩
    rw [c.own]
    exact f4
  unfold PySem.passOn
  refine wpAny_bind (wpAny_field q1 q2 q3 ?_)
  rw [if_neg (by simp : ¬ ((Value.ref T == Value.none) = true))]
  first
    | exact wpAny_bind out
    | exact wpAny_bind (wpAny_pure (wpAny_bind out))
theorem hnd_as {x n : Str} {c : Value} {i : Nat} {b₀ : Stmt} {suite : List Stmt} {np pos : Pos} {rest : List ExceptHandler} {ts : Addr → Value → Option Addr → TS} {wf : Ends → WX} (hN : X.N.Nodup) (hi : X.N[i]? = some n) (hn : X.env.kindOf n = some .local) (hc : Names X x c)
    (hs : ∀ (a : Addr) (oe : Obj) (cls : Value) (d : Option Addr) (pn : List (Addr × Obj)), Zc cls d oe → (∃ vs, oe.data = .fields vs) → PSs (X.suite a ((a, oe) :: pn)) (b₀ :: suite) (ts a cls d)) (hr : Hnd X rest wf) :
    Hnd X (.ExceptHandler (some (.Name x np)) (some n) (b₀ :: suite) pos :: rest) (fun D => wAs X.K c i ts (wf D) D) := by
  refine ⟨fun pins σ H B sI a cls d s D cm w => ?_⟩
  obtain ⟨b, hb, yes, no⟩ := w
  obtain ⟨oe, hz, hd, S⟩ := cm.inner
  obtain ⟨ob, vs, g1, g2, _⟩ := cm.fl.there
  have looks : PySem.W.Looks (model X.prog X.w) s.heap (typeOf (.ref a)) cls := fun _ _ _ _ k q => wpAny_typeOf_ref (k _ _ g1) (by rw [g2.1]; exact q)
  have hm := PySem.W.exm_one (M := model X.prog X.w) cm.here.kIn looks hb
  have nm : ∀ {Q : Value → Shared → Prop} {E : Value → Shared → Prop}, Q c s → wpAny (model X.prog X.w) (X.A.mark (some (.ref a))) (eval (.Name x np) X.env) Q E s := fun {Q E} q => by
    obtain ⟨h1, h2, h3 | ⟨h3, h4, h5⟩⟩ := hc
    · exact ld_glob (X := X.suite a ((a, oe) :: (X.pn ++ pins))) S h1 h3 q h2
    · exact ld_blt (X := X.suite a ((a, oe) :: (X.pn ++ pins))) S h1 h3 h4 q h5 h2
  refine wpAny_handleBy_cons (codeAny_handlers_test (nm (hm.here ?_))) (fun q => by cases q)
  cases b with
  | false =>
    show wpAny _ X.A (handleBy (.ref a) X.env rest) _ _ _
    exact hr.run pins σ H B sI a cls d s D cm (no rfl)
  | true =>
    refine codeAny_handlers_suite_as (HandSPX.lands_againZ cm.fl fun h4 f4 u4 => ?_)
    have cm4 := cm.on f4 u4
    obtain ⟨oe4, hz4, hd4, S4⟩ := cm4.inner
    refine store_ok (X := X.suite a ((a, oe4) :: (X.pn ++ pins))) (v := .ref a) S4 hN hi (.inl hn) rfl (fun s5 S5 => ?_) (.inr hn)
    refine wpAny_mono ((hs a oe4 cls d (X.pn ++ pins) hz4 hd4).run [] s5 _ H _ S5 (yes rfl a cm.na)) (fun f s6 q => ?_) (fun _ _ z => z.elim)
    have ok := cm.inv.ok
    cases f with
    | next =>
      obtain ⟨σ6, H6, S6, q6⟩ := q
      exact gone_ok (S6.unsuite ok) hN hi hn fun s7 J7 => ⟨_, _, J7, q6⟩
    | brk =>
      obtain ⟨σ6, H6, S6, q6⟩ := q
      exact gone_ok (S6.unsuite ok) hN hi hn fun s7 J7 => ⟨_, _, J7, q6⟩
    | cont =>
      obtain ⟨σ6, H6, S6, q6⟩ := q
      exact gone_ok (S6.unsuite ok) hN hi hn fun s7 J7 => ⟨_, _, J7, q6⟩
    | ret u =>
      obtain ⟨v6, σ6, H6, S6, r6, q6⟩ := q
      exact gone_ok (S6.unsuite ok) hN hi hn fun s7 J7 => ⟨_, _, _, J7, r6, q6⟩
/-- try: body, any such clauses -/
theorem ps_try_h {body : List Stmt} {h₀ : ExceptHandler} {hds : List ExceptHandler} {pos : Pos} {tb : WX → TS} {wf : Ends → WX} (own : X.stack = X.env :: X.outer) (frm : X.env.frame = some X.env.locals) (hh : Hnd X (h₀ :: hds) wf)
    (hb : ∀ (W : WX) (pn : List (Addr × Obj)) (xe : Value → Shared → Prop), Takes (X.tr pn xe) W → PassesOwn (model X.prog X.w) X.A X.env xe → PSs (X.tr pn xe) body (tb W)) :
    PS X (.Try body (h₀ :: hds) [] [] pos) (fun D σ H => tb (wf D) D σ H) := by
  refine ⟨fun pins s σ H D I h => wpAny_Try_except ?_⟩
  have ok := I.ok
  have fr : X.A.frames = some (X.env :: X.outer) := ok.frames.trans (congrArg some own)
  have catch_ : ∀ (xe : Value → Shared → Prop) (u : Value) (s' : Shared), XE (X.tr (X.pn ++ pins) xe) (wf D) u s' → wpAny (model X.prog X.w) X.A (noteFrame u X.env) (fun _ s₂ => wpAny (model X.prog X.w) X.A (setFlight u none) (fun _ s₃ =>
      wpAny (model X.prog X.w) X.A (handleBy u X.env (h₀ :: hds)) (SP X pins D) X.xe s₃) X.xe s₂) X.xe s' := by
    rintro xe u s' ⟨a, B, sI, pn', σ', H', cls, d, rfl, J, nb, up, sky, na, os, ag, w⟩
    have sky2 : Sky B (X.env :: X.outer) a (Zc cls d) X.env.locals s'.heap := own ▸ sky
    have land : ∀ h3, HandSPX.FlyingZ B (X.env :: X.outer) a (Zc cls d) h3 → s'.heap.UpToSlots h3 → wpAny (model X.prog X.w) X.A (handleBy (.ref a) X.env (h₀ :: hds)) (SP X pins D) X.xe { s' with heap := h3 } := fun h3 f3 u3 =>
      hh.run pins σ' H' B sI a cls d _ D ⟨J.ofTry ok, own, frm, nb, up.trans u3, f3, na, os, ag⟩ w
    have stable := Zc.steady (cls := cls) (d := d)
    rcases sky2 with ⟨hB, hn, hl, oe, vs, he, hz, hd, h1⟩ | fly | held
    · exact HandSPX.look_newZ stable fr hl frm he hB hn hd h1 hz fun h1 hh1 up1 => HandSPX.landsZ hh1 fun h' fl up' => land h' fl (up1.trans up')
    · exact HandSPX.looks_onZ stable fr frm fly fun h1 hh1 up1 => HandSPX.landsZ hh1 fun h' fl up' => land h' fl (up1.trans up')
    · exact HandSPX.againZ frm held.2.2.2 (HandSPX.landsZ held fun h' fl up' => land h' fl up')
  refine wpAny_mono ((hb (wf D) (X.pn ++ pins) _ (fun u s' x => catch_ _ u s' x) PassesOwn.looking).run [] s σ H D (I.toTry _) h) (fun f s1 q => ?_) (fun e s1 he => he)
  cases f with
    | next =>
      obtain ⟨σ', H', J, q⟩ := q
      exact wpAny_execs_nil ⟨σ', H', J.ofTry ok, q⟩
    | brk =>
      obtain ⟨σ', H', J, q⟩ := q
      exact ⟨σ', H', J.ofTry ok, q⟩
    | cont =>
      obtain ⟨σ', H', J, q⟩ := q
      exact ⟨σ', H', J.ofTry ok, q⟩
    | ret u =>
      obtain ⟨v, σ', H', J, r, q⟩ := q
      exact ⟨v, σ', H', J.ofTry ok, r, q⟩
end
/-- isinstance(e, c), e the exception that the suite holds, of the class D, with a dict -/
def rIsX (K : PySem.W.Frag) (D a : Addr) (cls : Value) (d : Option Addr) : List V → Hp → VK → Prop := fun xs H Q => cls = .ref D ∧ ∃ (dd : Addr) (fs : List (Str × V)) (c : V) (cv : Value) (b : Bool), d = some dd ∧ H dd = some (.xd fs) ∧ xs = [.ref a, c] ∧ (∀ u, RelV c u → u = cv) ∧ PySem.W.kitOne K (.ref D) cv = some b ∧ Q (.bl b) H
theorem call_isX {X : Cx} {a D : Addr} {oe : Obj} {pn : List (Addr × Obj)} {cls : Value} {d : Option Addr} (C : ExcC X.K D) (hz : Zc cls d oe) (hf : ∃ vs, oe.data = .fields vs) : CallR (X.suite a ((a, oe) :: pn)) (.builtin "isinstance") (rIsX X.K D a cls d) := by
  rintro pins s σ H xs us Q I r ⟨rfl, dd, fs, c, cv, b, rfl, hdd, rfl, hcv, e, q⟩
  match us, r with
  | [u1, u2], .cons r1 (.cons r2 .nil) =>
    obtain rfl : u1 = Value.ref a := r1
    obtain rfl := hcv u2 r2
    obtain ⟨g, _⟩ := I.pin (a, oe) (List.mem_append_left _ List.mem_cons_self)
    obtain ⟨vs, hv⟩ := hf
    obtain ⟨m, ns, _⟩ := id (I.hok dd _ hdd)
    obtain ⟨od, ho, _⟩ := lookIn_ns ns
    have J : PySem.W.InstAt s.heap a oe D (some od) := ⟨g, hz.1, by unfold PySem.W.notCls; rw [hv] <;> rfl, by rw [hz.2]; exact ho⟩
    obtain ⟨cd, hcd, _⟩ := PySem.W.any_some C.hd
    exact PySem.W.kia_one (PySem.W.kitx_exc (by rw [hcd]; rfl) C.hg C.hk C.hs C.ha C.hn C.ht C.hm) I.kIn J e (fun z => by cases z) fun tk => ⟨.bl b, H, I.kept (t' := tk) fun _ _ z => z, rfl, q⟩
end BW

set_option Elab.async false
set_option linter.all false
set_option maxRecDepth 100000
set_option maxHeartbeats 1000000
/-! _law_refused, _law_none -/
namespace BW
open PySem PySem.Spec PyProof.Rows L2 SX
open LamX (Tabs ExtN CodeO)
/-- what the except clauses ask of the own exceptions -/
structure Xt (K : PySem.W.Frag) : Prop where
  c_row : ExcC K (He.ga K "BadRow")
  c_fam : ExcC K (He.ga K "BadFamily")
  c_pair : ExcC K (He.ga K "NoPair")
  i_row : PySem.W.kitOne K (.ref (He.ga K "BadRow")) (.ref (He.ga K "BackError")) = some true
  i_fam : PySem.W.kitOne K (.ref (He.ga K "BadFamily")) (.ref (He.ga K "BackError")) = some true
  i_pair : PySem.W.kitOne K (.ref (He.ga K "NoPair")) (.type "KeyError") = some true
  m_row : PySem.W.exmOne K (.ref (He.ga K "BadRow")) (.ref (He.ga K "BadRow")) = some true
  m_fam : PySem.W.exmOne K (.ref (He.ga K "BadFamily")) (.ref (He.ga K "BadFamily")) = some true
  m_pf : PySem.W.exmOne K (.ref (He.ga K "NoPair")) (.ref (He.ga K "BadFamily")) = some false
  m_pair : PySem.W.exmOne K (.ref (He.ga K "NoPair")) (.ref (He.ga K "NoPair")) = some true
theorem xfc_of {K : PySem.W.Frag} {C : Addr} (h : ExcC K C) : XfC K C := ⟨h.hg, h.hk, h.hs, h.hd⟩
section
variable {X : Cx} {k j : Nat} {f C : Addr} {m : Str} {sp : Sp} {o e : Expr} {es : List Expr} {ta : TE} {t : TA} {apos pos : Pos} {W : WX}
/-- o.m(e, ..), that may let out -/
theorem pe_mcx {pl : Sem Bool} (c : CalM (CX X.prog X.w) X.prog X.w X.K X.mg X.base k f sp) (tk : Takes X W) (cl : Cls X.K C) (hm : Meth X.K C m f) (hr : Room j X.A) (he : PE X o ta) (ha : PA X (e :: es) t) (hk : k ≤ j := by decide)
    (hst : starEach (e :: es) X.env = (false, eval e X.env) :: starEach es X.env := by rfl) (hpl : (backTo pos (starEach es X.env)).any (·.1) = false := by rfl)
    (ht : eval (.Call (.Attribute o m apos) (e :: es) [] pos) X.env = (do
      let ov ← eval o X.env
      standAt apos.atName
      let (f, first) ← holding [ov] (getMethod ov m pl)
      callWith pos f first (backTo pos (starEach (e :: es) X.env)) (backToKw pos (keywordEach [] X.env))) := by rfl) : PE X (.Call (.Attribute o m apos) (e :: es) [] pos) (tMeth C m sp [] (EW W X.N.length) ta t) := by
  obtain ⟨fd, ps, F, b⟩ := c.ex
  exact pe_meth he cl hm F (hr.mono hk) b .nil (passesW tk) ha hst hpl ht
/-- C(e, ..), that may let out -/
theorem pe_mkx {x : Str} {p : Pos} (M : Mk X.K C f) (c : CalM (CX X.prog X.w) X.prog X.w X.K X.mg X.base k f sp) (tk : Takes X W) (hr : Room j X.A) (hg : Gl X x) (hm : X.mg x = some (.ref C)) (ha : PA X (e :: es) t) (hk : k + 1 ≤ j := by decide)
    (hdb : (x == ("__debug__" : Str)) = false := by decide) (he : starEach (e :: es) X.env = (false, eval e X.env) :: starEach es X.env := by rfl) (hpl : (backTo pos (starEach es X.env)).any (·.1) = false := by rfl) :
    PE X (.Call (.Name x p) (e :: es) [] pos) (tMake C sp [] (EW W X.N.length) t) := by
  obtain ⟨fd, ps, F, b⟩ := c.ex
  exact pe_make M F (hr.mono hk) hg hm b .nil (passesW tk) ha hdb he hpl
end
section
variable {P : Program} {w : World} {K : PySem.W.Frag} {mg : PySem.Str → Option Value} {base : Heap}
abbrev NRF : List PySem.Str := ["_law_keeper", "_law_row", "fault"]
theorem sc_refused : FnScope NRF ["_law_keeper", "_law_row"] (defScope (top 62)) := ⟨rfl, rfl, rfl, by decide +kernel, rfl, by decide +kernel, by decide +kernel⟩
def sp_refused (K : PySem.W.Frag) : Sp := fun vs H Q _ => ∃ (k d : Addr) (v : V) (C : BK.Cfg) (st : BK.Now) (i : Int), vs = [.ref k, v] ∧ Kp K H k d C st ∧ Fam C ∧ BK.Fit C st ∧ BadAt H C v i ∧
  ∀ t H', Same H H' → H' t = some (.tup [.str "row", .int i, .bl true]) → Q (.ref t) H'
theorem set2 {σ : L2.St} {v : V} {i : Nat} (h : i < σ.length) : (σ.set i (some v))[i]? = some (some v) := List.getElem?_set_self h
theorem ok_refused (T : Tx K mg) (Xx : Xs P K mg) (Xt : Xt K) : Cal CX0 P w K mg base 5 "_law_refused" (sp_refused K) := by
  refine cal_of0 T.F__law_refused T.g__law_refused (fun _ _ _ _ _ _ us hl => match us, hl with | [_, _], _ => rfl) sc_refused (fun vs H Q E h => ?_) (fun cdv A outer s H vs Q E hr h => ?_)
  · obtain ⟨k, d, v, C, st, i, rfl, _⟩ := h
    rfl
  · obtain ⟨k, d, v, C, st, i, rfl, hK, hF, hfit, hbad, kk⟩ := h
    have hno : PySem.W.findIn K (.ref (He.ga K "BadRow")) "at" = some none := by
      obtain ⟨_, _, _, q, _⟩ := Xx.row
      exact q.nofld
    refine ⟨_, pss_cons (ps_try_h rfl rfl (hnd_as (i := 2) sc_refused.nd rfl (by rfl) ⟨by rfl, by decide, .inl T.g_BadRow⟩ (fun a oe cls d pn hz hf => pss_one (ps_ret (pe_tup (pa_cons pe_str (pa_cons (pe_xf (xfc_of Xt.c_row) hno hz hf (pv 2))
        (pa_cons (pe_callB (call_isX Xt.c_row hz hf) (by rfl) T.n_isinstance (by decide +kernel) (pa_cons (pv 2) (pa_cons (pe_glob (v := .ref (He.ga K "BackError")) (by rfl) T.g_BackError rfl) pa_nil))) pa_nil)))))) (hnd_nil takes_none5))
        (fun W pn xe tk px => pss_one (ps_expr (show PE _ _ (tMeth (He.ga K "Keeper") "hear" (sp_hear K) [] (EW W 3) (tVar 0) (tCons (tVar 1) tNil)) from pe_mcx (ok_hear T Xx) tk T.cl_Keeper T.me_hear hr (pv 0) (pa_cons (pv 1) pa_nil)))))
      (pss_one (ps_ret pe_non)), ?_⟩
    obtain ⟨dx, la, ra, ap, hk, _⟩ := id hK
    refine ⟨_, rfl, k, dx, _, rfl, hk, rfl, _, rfl, k, d, v, C, st, rfl, hK, hF, hfit, .inr ⟨i, hbad, fun dd H1 sm n σ hσ => ?_⟩⟩
    refine ⟨true, Xt.m_row, fun _ a na => ?_, fun z => by cases z⟩
    have hg : (σ.set 2 (some (.ref a)))[2]? = some (some (V.ref a)) := set2 (by rw [hσ]; decide)
    refine ⟨_, hg, rfl, rfl, dd, _, _, rfl, upd_same, rfl, _, hg, rfl, dd, _, _, _, true, rfl, upd_same, rfl, fun u r => r, Xt.i_row, by show 3 ≤ sizeLine; decide, fun t nt => ?_⟩
    exact kk t _ (same_trans sm (same_trans (same_new n) (same_new nt))) upd_same
abbrev NNO : List PySem.Str := ["_law_device", "_law_family_here", "_law_pair", "fault"]
theorem sc_none : FnScope NNO ["_law_device", "_law_family_here", "_law_pair"] (defScope (top 63)) := ⟨rfl, rfl, rfl, by decide +kernel, rfl, by decide +kernel, by decide +kernel⟩
def sp_none (K : PySem.W.Frag) : Sp := fun vs H Q _ => ∃ (d fa : Addr) (v : V) (C : BK.Cfg), vs = [.ref d, .ref fa, v] ∧ Dev K H d C ∧ Tabs (T3 K) H ∧
  ((Fam C ∧ TxtsQ H fa C.lots ∧ ∃ q p, v = .ref q ∧ PairAt H q p ∧ ¬ (p.1 < p.2 ∧ p.2 < C.n) ∧ ∀ t H', Ex (T3 K) H H' → H' t = some (.tup [.str "pair", .ref q, .bl true]) → Q (.ref t) H') ∨
   ∃ l r, TxtsQ H fa l ∧ l[0]? = some r ∧ (¬ r = C.sig.filter fun c => r.contains c) ∧ l.length ≤ 31 ∧ (∀ r ∈ l, r.length ≤ 1000) ∧ ∀ t H', Ex (T3 K) H H' → H' t = some (.tup [.str "family", .int 0, .bl true]) → Q (.ref t) H')
theorem ok_none (T : Tx K mg) (B : Tb K mg base) (Xx : Xs P K mg) (Xt : Xt K) : Cal CX0 P w K mg base 9 "_law_none" (sp_none K) := by
  refine cal_of0 T.F__law_none T.g__law_none (fun _ _ _ _ _ _ us hl => match us, hl with | [_, _, _], _ => rfl) sc_none (fun vs H Q E h => ?_) (fun cdv A outer s H vs Q E hr h => ?_)
  · obtain ⟨d, fa, v, C, rfl, _⟩ := h
    rfl
  · obtain ⟨d, fa, v, C, rfl, hd, hT, h⟩ := h
    have hno1 : PySem.W.findIn K (.ref (He.ga K "BadFamily")) "at" = some none := by
      obtain ⟨_, _, _, q, _⟩ := Xx.fam
      exact q.nofld
    have hno2 : PySem.W.findIn K (.ref (He.ga K "NoPair")) "pair" = some none := by
      obtain ⟨_, _, _, q, _⟩ := Xx.pair
      exact q.nofld
    refine ⟨_, pss_cons (ps_try_h rfl rfl (hnd_as (i := 3) sc_none.nd rfl (by rfl) ⟨by rfl, by decide, .inl T.g_BadFamily⟩ (fun a oe cls d pn hz hf => pss_one (ps_ret (pe_tup (pa_cons pe_str (pa_cons (pe_xf (xfc_of Xt.c_fam) hno1 hz hf (pv 3))
        (pa_cons (pe_callB (call_isX Xt.c_fam hz hf) (by rfl) T.n_isinstance (by decide +kernel) (pa_cons (pv 3) (pa_cons (pe_glob (v := .ref (He.ga K "BackError")) (by rfl) T.g_BackError rfl) pa_nil))) pa_nil)))))) (hnd_as (i := 3) sc_none.nd rfl (by rfl) ⟨by rfl, by decide, .inl T.g_NoPair⟩ (fun a oe cls d pn hz hf => pss_one (ps_ret (pe_tup (pa_cons pe_str (pa_cons (pe_xf (xfc_of Xt.c_pair) hno2 hz hf (pv 3))
        (pa_cons (pe_callB (call_isX Xt.c_pair hz hf) (by rfl) T.n_isinstance (by decide +kernel) (pa_cons (pv 3) (pa_cons (pe_bltn (v := .ty "KeyError") (by rfl) T.n_KeyError (by decide +kernel) rfl) pa_nil))) pa_nil)))))) (hnd_nil takes_none5)))
        (fun W pn xe tk px => pss_one (ps_expr (show PE _ _ (tMake (He.ga K "Keeper") (sp_keep_init K) [] (EW W 4) (tCons (tVar 0) (tCons (tVar 1) (tCons (tVar 2) tNil)))) from pe_mkx T.mk_Keeper (ok_keep_init T B Xx) tk hr (by rfl) T.g_Keeper (pa_cons (pv 0) (pa_cons (pv 1) (pa_cons (pv 2) pa_nil)))))))
      (pss_one (ps_ret pe_non)), ?_⟩
    refine ⟨_, rfl, _, rfl, _, rfl, fun x dx nx ndx hne => ?_⟩
    have sm0 : Same H (upd (upd H dx (.own x)) x (.ins (He.ga K "Keeper") dx [])) := same_trans (same_new ndx) (same_new (by rw [upd_ne (Ne.symm hne)]; exact nx))
    have hx : upd (upd H dx (.own x)) x (.ins (He.ga K "Keeper") dx []) x = some (.ins (He.ga K "Keeper") dx []) := upd_same
    generalize upd (upd H dx (.own x)) x (.ins (He.ga K "Keeper") dx []) = H0 at sm0 hx
    have fin : ∀ {dd t : Addr} {H1 : Hp} {o1 o2 : HO}, BN x H0 H1 → Tabs (T3 K) H1 → H1 dd = none → upd H1 dd o1 t = none → Ex (T3 K) H (upd (upd H1 dd o1) t o2) := fun {dd t H1 o1 o2} b t1 n1 n2 => by
      have e1 : ExtN H H1 := fun c o hc hnt => b c o (ne_of_none hc nx) (sm0 _ _ hc) hnt
      have s1 := same_trans (same_new (o := o1) n1) (same_new (o := o2) n2)
      exact ⟨e1.trans (ext_same s1), t1.ext s1⟩
    refine ⟨x, d, fa, dx, v, C, rfl, hx, hd.ext (ext_same sm0), hT.ext sm0, ?_⟩
    rcases h with ⟨hF, hfa, q, p, rfl, hq, hnp, kk⟩ | ⟨l, r, hfa, h0, hr0, h31, hsh, kk⟩
    · refine .inl ⟨hF, hfa.same sm0, q, p, rfl, hq.same (ext_same sm0), .inr ⟨hnp, fun dd H1 b t1 n σ hσ => ?_⟩⟩
      refine ⟨false, Xt.m_pf, (fun z => by cases z), fun _ => ⟨true, Xt.m_pair, fun _ a na => ?_, fun z => by cases z⟩⟩
      have hg : (σ.set 3 (some (.ref a)))[3]? = some (some (V.ref a)) := set2 (by rw [hσ]; decide)
      refine ⟨_, hg, rfl, rfl, dd, _, _, rfl, upd_same, rfl, _, hg, rfl, dd, _, _, _, true, rfl, upd_same, rfl, fun u r => r, Xt.i_pair, by show 3 ≤ sizeLine; decide, fun t nt => ?_⟩
      exact kk t _ (fin b t1 n nt) upd_same
    · refine .inr ⟨l, r, hfa.same sm0, h0, hr0, h31, hsh, fun dd H1 b t1 n σ hσ => ?_⟩
      refine ⟨true, Xt.m_fam, fun _ a na => ?_, fun z => by cases z⟩
      have hg : (σ.set 3 (some (.ref a)))[3]? = some (some (V.ref a)) := set2 (by rw [hσ]; decide)
      refine ⟨_, hg, rfl, rfl, dd, _, _, rfl, upd_same, rfl, _, hg, rfl, dd, _, _, _, true, rfl, upd_same, rfl, fun u r => r, Xt.i_fam, by show 3 ≤ sizeLine; decide, fun t nt => ?_⟩
      exact kk t _ (fin b t1 n nt) upd_same
end
end BW

set_option Elab.async false
set_option linter.all false
set_option maxRecDepth 100000
set_option maxHeartbeats 1000000
/-! repr; o.m(k = v); _law_followed -/
namespace BW
open PySem PySem.Spec PyProof.Rows L2 SX
open LamX (Tabs ExtN CodeO)
/-- data whose repr is short -/
structure Fine (d : PyData) : Prop where
  sh : d.showable = true
  sl : d.leavesShort 13 = true
  nd : d.hasDict = false
  dp : d.depth ≤ 8
  bk : d.bulk ≤ 100000
theorem Fine.fits {d : PyData} (f : Fine d) : d.shown.length ≤ sizeLine := PyData.shown_fits_bulk (by decide) (by decide) f.sl (Nat.le_trans f.bk (by decide))
theorem log_small {i : Int} (h1 : -1 ≤ i) (h2 : i < 100000) : i.natAbs.log2 < 1920 := by
  have h : i.natAbs < 2 ^ 17 := by
    have : (2 : Nat) ^ 17 = 131072 := by decide
    omega
  by_cases h0 : i.natAbs = 0
  · rw [h0]
    decide
  · have := (Nat.log2_lt h0).mpr h
    omega
theorem int_short {i : Int} (h1 : -1 ≤ i) (h2 : i < 100000) : (PyData.shown (.int i)).length ≤ 13 := by
  by_cases h : 0 ≤ i
  · exact Nat.le_trans (PyProof.Rows.toString_length_le (k := 6) h (by decide) (by omega)) (by decide)
  · have e : i = -1 := by omega
    rw [e]
    decide +kernel
theorem fine_int {i : Int} (h1 : -1 ≤ i) (h2 : i < 100000) : Fine (.int i) := ⟨decide_eq_true (log_small h1 h2), decide_eq_true (int_short h1 h2), rfl, Nat.zero_le _, Nat.zero_le _⟩
theorem fine_none : Fine .none := ⟨rfl, rfl, rfl, Nat.zero_le _, Nat.zero_le _⟩
theorem fine_bool (b : Bool) : Fine (.bool b) := ⟨rfl, rfl, rfl, Nat.zero_le _, Nat.zero_le _⟩
theorem fine_str {l : List Nat} (h : ∀ c ∈ l, c < 128) (hl : l.length ≤ 1000) : Fine (.str (S l)) := ⟨rfl, by
  show (S l).cps.toList.all (fun c => decide (c < 16 ^ 8)) = true
  refine List.all_eq_true.mpr fun c hc => decide_eq_true ?_
  have := h c (by simpa [S] using hc)
  have e : (16 : Nat) ^ 8 = 4294967296 := by decide
  omega, rfl, Nat.zero_le _, by show (S l).cps.size ≤ 100000; simp [S]; omega⟩
section
variable {X : Cx}
/-- repr(int): no guard is asked -/
def rReprI : List V → Hp → VK → Prop := fun xs H Q => ∃ i : Int, xs = [.int i] ∧ -1 ≤ i ∧ i < 100000 ∧ Q (.str (PyData.shown (.int i))) H
theorem cr_reprI : CallR X (.builtin "repr") rReprI := by
  rintro pins s σ H xs us Q I r ⟨i, rfl, h1, h2, q⟩
  match us, r with
  | [u], .cons r1 .nil =>
    obtain ⟨t, rfl⟩ := r1
    exact PySem.P.repr_of_int (log_small h1 h2) ⟨.str _, H, I.tok _, ⟨_, rfl⟩, q⟩
/-- repr of data, where it is known that no repr is under way -/
def rRepr (K : PySem.W.Frag) : List V → Hp → VK → Prop := fun xs H Q => ∃ (v : V) (d : PyData), xs = [v] ∧ Dp K H v d ∧ Fine d ∧ Q (.str d.shown) H
theorem cr_repr (hg : X.A.guards = some []) (hu : X.A.units + 64 < cLine) : CallR X (.builtin "repr") (rRepr X.K) := by
  rintro pins s σ H xs us Q I r ⟨v, d, rfl, hd, f, q⟩
  match us, r with
  | [u], .cons r1 .nil =>
    have heap : ∀ {a : Addr} {as : List Addr}, Reads s.heap (.ref a) d as → wpAny (model X.prog X.w) X.A (call (.builtin "repr") [.ref a]) (EP X pins σ Q) X.xe s := fun {a as} rd =>
      repr_of_reads' rd f.sh (fun z => by rw [f.nd] at z; cases z) hg (by have := f.dp; omega) (fun _ _ e => e) (fun h' u tk hk => ⟨.str _, H, I.kept (t' := tk) hk, ⟨_, rfl⟩, q⟩) f.fits
    obtain ⟨as, rd⟩ := Dp.reads I d v u hd r1
    cases hd with
    | non =>
      obtain rfl : u = Value.none := r1
      exact PySem.P.repr_of_none ⟨.str _, H, I.tok _, ⟨_, rfl⟩, q⟩
    | bl b =>
      obtain rfl : u = Value.bool b := r1
      exact PySem.P.repr_of_bool ⟨.str _, H, I.tok _, ⟨_, rfl⟩, q⟩
    | int i =>
      obtain ⟨t, rfl⟩ := r1
      exact PySem.P.repr_of_int (of_decide_eq_true f.sh) ⟨.str _, H, I.tok _, ⟨_, rfl⟩, q⟩
    | str x =>
      obtain ⟨t, rfl⟩ := r1
      exact PySem.P.repr_of_str ⟨.str _, H, I.tok _, ⟨_, rfl⟩, q⟩ f.fits
    | lst _ _ =>
      obtain rfl : u = Value.ref _ := r1
      exact heap rd
    | tup _ _ =>
      obtain rfl : u = Value.ref _ := r1
      exact heap rd
end
/-- o.m(k = v, ..) of an own class -/
def tMethK (C : Addr) (m : Str) (sp : Sp) (gV : List V → List V → List V) (n : Nat) (E : XK) (ta : TE) (tk : TA) : TE := fun σ H Q => ta σ H fun x H1 => ∃ a dx fs, x = .ref a ∧ H1 a = some (.ins C dx fs) ∧ fs.lookup m = none ∧
  tk σ H1 fun zs H2 => zs.length = n ∧ sp (gV [x] zs) H2 Q E
section
variable {X : Cx} {CX : CXT} {k : Nat} {f C : Addr} {fd : FuncData} {ps ks : List Str} {sp : Sp} {E : XK} {m : Str} {o : Expr} {ta : TE} {kws : List Keyword} {tk : TA} {apos pos : Pos} {g : List Value → List Value → List Value} {gV : List V → List V → List V}
theorem pe_methK {pl : Sem Bool} (he : PE X o ta) (c : Cls X.K C) (hm : Meth X.K C m f) (F : FnOk X.prog X.w X.K X.mg X.base CX k f fd ps sp) (hr : Room k X.A) (hb : KBn X.K fd ps 1 ks g gV) (hx : Passes CX X E) (hkw : PK X kws tk)
    (hall : (backToKw pos (keywordEach kws X.env)).all (·.1.isSome) = true := by rfl) (hks : (backToKw pos (keywordEach kws X.env)).filterMap (·.1) = ks := by rfl)
    (hpl : ((backTo pos (starEach [] X.env)).any (·.1) || (backToKw pos (keywordEach kws X.env)).any (·.1.isNone)) = false := by rfl)
    (ht : eval (.Call (.Attribute o m apos) [] kws pos) X.env = (do
      let ov ← eval o X.env
      standAt apos.atName
      let (f, first) ← holding [ov] (getMethod ov m pl)
      callWith pos f first (backTo pos (starEach [] X.env)) (backToKw pos (keywordEach kws X.env))) := by rfl) :
    PE X (.Call (.Attribute o m apos) [] kws pos) (tMethK C m sp gV ks.length E ta tk) := by
  refine ⟨fun pins s σ H Q I h => PySem.W.methodCall_KW (pl := pl) (thn (he.run pins s σ H _ I h) fun u s1 hu => ?_) ht⟩
  obtain ⟨x, H1, I1, rx, a, dx, fs, rfl, ea, l, q⟩ := hu
  obtain rfl : u = Value.ref a := rx
  refine getmeth_ok I1 ea c hm l (PySem.W.callWith_KW0 (first := [.ref a]) (h₀ := X.base) I1.ok.mod.kin hm.kp hall ?_ hpl)
  refine thn (hkw.run pos pins s1 σ H1 _ I1 q) fun ws s2 hw => ?_
  obtain ⟨zs, H2, I2, rz, l2, q2⟩ := hw
  refine ⟨I2.kIn, ?_⟩
  rw [hks]
  exact run_fnN (us := [.ref a]) (vs := [.ref a]) F hr hb hx I2 (.cons rfl .nil) rz rfl l2 q2
end
section
variable {P : Program} {w : World} {K : PySem.W.Frag} {mg : PySem.Str → Option Value} {base : Heap}
abbrev NFO : List PySem.Str := ["_law_keeper", "_law_now", "_law_more_here", "_law_many", "_law_turn", "_law_told", "_law_due_here"]
theorem sc_followed : FnScope NFO ["_law_keeper", "_law_now", "_law_more_here", "_law_many"] (defScope (top 64)) := ⟨rfl, rfl, rfl, by decide +kernel, rfl, by decide +kernel, by decide +kernel⟩
def sp_followed (K : PySem.W.Frag) : Sp := fun vs H Q _ => ∃ (k d now : Addr) (C : BK.Cfg) (st : BK.Now) (p : BK.Pair), vs = [.ref k, .ref now, mv (BK.moreI C st), .int C.n] ∧ st.1 = some p ∧ Kp K H k d C st ∧ NowT H now st ∧ Fam C ∧ BK.Fit C st ∧ st.2.2 ≤ 10000 ∧ Tabs (T3 K) H ∧
  ∀ H', BN k H H' → Tabs (T3 K) H' → Q (.bl true) H'
theorem tabs_but {T : List (Addr × Str)} {H H' : Hp} {x Cx dx : Addr} {fx : List (Str × V)} (t : Tabs T H) (b : But x H H') (hx : H x = some (.ins Cx dx fx)) : Tabs T H' := fun p hp => by
  obtain ⟨ps, t1, t2, t3⟩ := t p hp
  refine ⟨ps, b _ _ (ne_of t1 hx (fun z => by cases z)) t1, t2, fun ps' cv hc => ?_⟩
  obtain ⟨c, c1, c2⟩ := t3 ps' cv hc
  exact ⟨c, c1, b _ _ (ne_of c2 hx (fun z => by unfold CodeO at z; cases z)) c2⟩
/-- how many rounds are due -/
def rounds (C : BK.Cfg) (p : BK.Pair) (h : BK.Row) : Nat := match BK.due C p h with
  | none => C.n + 1
  | some m => m
/-- how many rounds were told so far -/
def Went (C : BK.Cfg) (p : BK.Pair) (h : BK.Row) (c : Nat) (i : Nat) (st : BK.Now) : Prop := ∃ q h2, st = (some q, h2, c + i) ∧ BK.Fit C st ∧ (BK.due C p h = none → BK.due C q h2 = none) ∧ ∀ m, BK.due C p h = some m → i ≤ m ∧ BK.due C q h2 = some (m - i)
theorem ok_followed (T : Tx K mg) (B : Tb K mg base) (Xx : Xs P K mg) : Cal CX0 P w K mg base 8 "_law_followed" (sp_followed K) := by
  obtain ⟨fdh, Fh, Dh⟩ := okp_hear (w := w) (base := base) T Xx
  have bh : KBn K fdh ["self", "row"] 1 ["row"] (fun us ws => us ++ ws) (fun vs zs => vs ++ zs) := by
    obtain ⟨oc, od, dV, kV, doc, pm, an, cdv, ct, osl, rfl, lk, hcd, hD, hK⟩ := Dh.ex
    rcases hD with ⟨_, rfl⟩ | ⟨e, _⟩
    · refine ⟨fun s us ws _ l1 l2 => ?_, fun r1 r2 => r1.append r2⟩
      match us, ws, l1, l2 with
      | [u], [z], _, _ => exact .of_eq rfl
    · exact absurd rfl e
  refine cal_of0 T.F__law_followed T.g__law_followed (fun _ _ _ _ _ _ us hl => match us, hl with | [_, _, _, _], _ => rfl) sc_followed (fun vs H Q E h => ?_) (fun cdv A outer s H vs Q E hr h => ?_)
  · obtain ⟨k, d, now, C, st, p, rfl, _⟩ := h
    rfl
  · obtain ⟨k, d, now, C, st, p, rfl, hp, hK, hnow, hF, hfit, hc, hT, kk⟩ := h
    refine ⟨_, C8.pss_cut (ps_for PassesOwn.never rfl (pi_range1 (by rfl) T.n_range (pa_cons (pe_op op_add (pv 3) pe_int) pa_nil)) (pg_name (i := 4) sc_followed.nd rfl (Or.inl rfl))
        (pss_cons (ps_set (i := 5) sc_followed.nd rfl (Or.inl rfl) (pe_mc0 (ok_next_row T B) T.cl_Keeper T.me_next_row hr (pv 0)))
        (pss_cons (ps_if (pt_cmp (pc_isN (pv 5))) (pss_one ps_break) pss_nil)
        (pss_one (ps_expr (pe_methK (pv 0) T.cl_Keeper T.me_hear Fh (hr.mono (by decide)) bh pass1 (pk_cons (pv 5) pk_nil)))))))
      (C8.pss_cut (ps_set (i := 6) sc_followed.nd rfl (Or.inl rfl) (pe_op op_add (pe_ix ix_tup (pv 1) pe_int (fun _ _ => rfl)) (pe_ifExp (pt_cmp (pc_isN (pv 2))) (pe_op op_add (pv 3) pe_int) (pv 2))))
      (pss_one (ps_ret (pe_and (pe_cmpR op_eq (pe_callB cr_reprI (by rfl) T.n_repr (by decide +kernel) (pa_cons (pe_ix ix_tup (pe_mc0 (ok_standing T) T.cl_Keeper T.me_standing hr (pv 0)) pe_int (fun _ _ => rfl)) pa_nil)) (pe_callB cr_reprI (by rfl) T.n_repr (by decide +kernel) (pa_cons (pv 6) pa_nil)) rfl)
        (pe_one (pe_cmp (pc_notN (pe_ix ix_tup (pe_mc0 (ok_standing T) T.cl_Keeper T.me_standing hr (pv 0)) pe_int (fun _ _ => rfl))))))))), ?_⟩
    obtain ⟨o, h, c⟩ := st
    have hp : o = some p := hp
    subst hp
    have hc : c ≤ 10000 := hc
    have h5 := hF.ok.n5
    have hn : (p, h) ∈ C.nodes := BK.mem_nodes.mpr ⟨hfit.2 p rfl, hfit.1⟩
    have hb5 : ∀ m, BK.due C p h = some m → m + 1 ≤ C.n := fun m hm => BK.due_bound hF.ok hn hm
    have hr5 : rounds C p h ≤ 6 := by
      unfold rounds
      cases hd : BK.due C p h with
      | none => show C.n + 1 ≤ 6; omega
      | some m => have := hb5 m hd; show m ≤ 6; omega
    refine ⟨fun σ' H' => ∃ (x4 x5 : Option V) (q : BK.Pair) (h2 : BK.Row), σ' = [some (.ref k), some (.ref now), some (mv (BK.moreI C (some p, h, c))), some (.int C.n), x4, x5, none] ∧ BN k H H' ∧ Tabs (T3 K) H' ∧ Kp K H' k d C (some q, h2, c + rounds C p h), ?_, ?_⟩
    · refine ⟨_, rfl, _, _, rfl, rfl, (C.n : Int) + 1, rfl, by omega, by omega, ?_⟩
      refine for_it (n := ((C.n : Int) + 1).toNat) (walk_range (lo := 0)) (fun i σ' H' => ∃ (x4 x5 : Option V) (st : BK.Now), σ' = [some (.ref k), some (.ref now), some (mv (BK.moreI C (some p, h, c))), some (.int C.n), x4, x5, none] ∧ BN k H H' ∧ Tabs (T3 K) H' ∧ Kp K H' k d C st ∧ Went C p h c i st)
        ⟨none, none, _, rfl, BN.refl, hT, hK, p, h, rfl, hfit, id, fun m hm => ⟨Nat.zero_le _, hm⟩⟩ (fun _ _ _ _ _ => trivial) ?_ ?_
      · rintro i v σ H1 H2 hi ⟨x4, x5, st, rfl, bn, hT1, hK1, q, h2, rfl, fit2, hnone, hsome⟩ ⟨rfl, rfl⟩
        obtain ⟨dx, la, ra, ap, hk, _⟩ := id hK1
        refine ⟨_, rfl, k, dx, _, rfl, hk, rfl, k, d, C, (some q, h2, c + i), rfl, hK1, hF, fit2, hT1, fun H3 eX3 => ?_⟩
        have hn2 : (q, h2) ∈ C.nodes := BK.mem_nodes.mpr ⟨fit2.2 q rfl, fit2.1⟩
        have hK3 := hK1.ext eX3.ext
        have bn3 := bn.trans (BN.ext (x := k) eX3.ext)
        have et : BK.toldI C (some q, h2, c + i) = BK.told C q h2 := rfl
        refine ⟨_, rfl, _, rfl, ?_⟩
        rw [et]
        cases hw : BK.told C q h2 with
        | none =>
          have h0 := BK.told_none.mp hw
          have ei : rounds C p h = i := by
            unfold rounds
            cases hd : BK.due C p h with
            | none => rw [hnone hd] at h0; cases h0
            | some m =>
              obtain ⟨h7, h8⟩ := hsome m hd
              rw [h8] at h0
              have := Option.some.inj h0
              show m = i
              omega
          refine iteT' rfl ⟨_, _, q, h2, rfl, bn3, eX3.tabs, ?_⟩
          rw [ei]
          exact hK3
        | some r =>
          obtain ⟨q2, lead, hq2, hrl, hnn, hss⟩ := BK.told_leads hF.ok hn2 hw
          obtain ⟨dx3, la3, ra3, ap3, hk3, _⟩ := id hK3
          refine iteF' rfl ⟨_, rfl, k, dx3, _, rfl, hk3, rfl, _, rfl, rfl, k, d, .str (S r), C, (some q, h2, c + i), rfl, hK3, hF, fit2, .inl ⟨r, rfl, BK.leads_sig lead, by omega, fun H4 bt hK4 => ?_⟩⟩
          rw [BK.leads_hear lead (c + i)] at hK4
          refine ⟨_, _, _, rfl, bn3.trans (BN.but bt), tabs_but eX3.tabs bt hk3, hK4, q2, [], rfl, ⟨BK.nil_hear C, fun p' e => by cases e; exact hq2⟩, fun hd => hnn (hnone hd), fun m hm => ?_⟩
          obtain ⟨h7, h8⟩ := hsome m hm
          obtain ⟨h9, h10⟩ := hss _ h8
          exact ⟨by omega, by rw [h10, Nat.sub_sub]⟩
      · rintro σ H1 ⟨x4, x5, st, rfl, bn, hT1, hK1, q, h2, rfl, fit2, hnone, hsome⟩
        have eN : ((C.n : Int) + 1).toNat = C.n + 1 := by omega
        rw [eN] at hK1 hsome
        have ei : rounds C p h = C.n + 1 := by
          unfold rounds
          cases hd : BK.due C p h with
          | none => rfl
          | some m =>
            obtain ⟨h7, _⟩ := hsome m hd
            have := hb5 m hd
            omega
        refine ⟨x4, x5, q, h2, rfl, bn, hT1, ?_⟩
        rw [ei]
        exact hK1
    · rintro σ' H1 ⟨x4, x5, q, h2, rfl, bn, hT1, hK1⟩
      obtain ⟨dx, la, ra, ap, hk0, _⟩ := id hK
      obtain ⟨apn, hnow0, hapn⟩ := hnow
      have hnow1 := bn _ _ (ne_of hnow0 hk0 (fun z => by cases z)) hnow0 (fun ps z => by cases z)
      have em : BK.moreI C (some p, h, c) = (BK.due C p h).map fun m => (m : Int) := rfl
      refine ⟨fun σ' H' => σ' = [some (.ref k), some (.ref now), some (mv (BK.moreI C (some p, h, c))), some (.int C.n), x4, x5, some (.int ((c + rounds C p h : Nat) : Int))] ∧ H' = H1, ?_, ?_⟩
      · refine ⟨_, rfl, now, _, _, _, rfl, rfl, SqT.of hnow1, atI_nat (j := 2) rfl, _, rfl, _, rfl, ?_⟩
        rw [em]
        unfold rounds
        cases hd : BK.due C p h with
        | none =>
          have e : ((c + (C.n + 1) : Nat) : Int) = (c : Int) + ((C.n : Int) + 1) := by omega
          refine iteT' rfl ⟨_, rfl, _, _, rfl, rfl, _, _, rfl, rfl, ?_, rfl⟩
          show _ = [some (V.ref k), _, _, _, x4, x5, some (V.int ((c + (C.n + 1) : Nat) : Int))]
          rw [e]
          rfl
        | some m =>
          refine iteF' rfl ⟨_, rfl, _, _, rfl, rfl, ?_, rfl⟩
          show _ = [some (V.ref k), _, _, _, x4, x5, some (V.int ((c + m : Nat) : Int))]
          rw [Int.natCast_add]
          rfl
      rintro σ' H' ⟨rfl, rfl⟩
      obtain ⟨dx1, la1, ra1, ap1, hk1, _⟩ := id hK1
      refine ⟨_, rfl, k, dx1, _, rfl, hk1, rfl, k, d, C, _, rfl, hK1, fun t1 H2 sm2 ht1 => ?_⟩
      obtain ⟨a1, ht1, _⟩ := ht1
      refine ⟨t1, _, _, _, rfl, rfl, SqT.of ht1, atI_nat (j := 2) rfl, ((c + rounds C p h : Nat) : Int), rfl, by omega, by omega, _, rfl, ((c + rounds C p h : Nat) : Int), rfl, by omega, by omega, rfl, _, rfl, iteT' (decide_eq_true rfl) ?_⟩
      have hK2 := hK1.ext (ext_same sm2)
      obtain ⟨dx2, la2, ra2, ap2, hk2, _⟩ := id hK2
      refine ⟨_, rfl, k, dx2, _, rfl, hk2, rfl, k, d, C, _, rfl, hK2, fun t3 H3 sm3 ht3 => ?_⟩
      obtain ⟨a3, ht3, u3, rfl, _⟩ := ht3
      refine ⟨t3, _, _, _, rfl, rfl, SqT.of ht3, atI_nat (j := 0) rfl, ?_⟩
      exact kk H3 (bn.trans (BN.same (same_trans sm2 sm3))) ((hT1.ext sm2).ext sm3)
end
end BW

set_option Elab.async false
set_option linter.all false
set_option maxRecDepth 100000
set_option maxHeartbeats 1000000
/-! law: pieces of its body, one after another; the tables -/
namespace BW
open PySem PySem.Spec PyProof.Rows L2 SX
open LamX (Tabs ExtN CodeO)
/-- a piece of a body: from Pa to Pb -/
def Piece (X : Cx) (l : List Stmt) (Pa Pb : L2.St → Hp → Prop) : Prop := ∀ (rest : List Stmt) (u : TS), PSs X rest u → ∃ t, PSs X (l ++ rest) t ∧ ∀ (D : Ends) (σ : L2.St) (H : Hp), Pa σ H → (∀ σ' H', Pb σ' H' → u D σ' H') → t D σ H
theorem Piece.app {X : Cx} {l m : List Stmt} {A B C : L2.St → Hp → Prop} (h1 : Piece X l A B) (h2 : Piece X m B C) : Piece X (l ++ m) A C := fun rest u hu => by
  obtain ⟨t2, p2, q2⟩ := h2 rest u hu
  obtain ⟨t1, p1, q1⟩ := h1 (m ++ rest) t2 p2
  refine ⟨t1, by rw [List.append_assoc]; exact p1, fun D σ H a k => q1 D σ H a fun σ' H' b => q2 D σ' H' b k⟩
abbrev NLW : List PySem.Str := ["_law_script", "_law_box_here", "_law_tables_here", "_law_many", "_law_signals", "_law_lots_here", "_law_device", "_law_pairs_here", "_law_ranks_here", "_law_pair", "_law_other", "_law_handed", "_law_keeper", "_law_beside", "_law_now", "_law_top", "_law_before", "_law_side",
  "_law_turn", "_law_more_here", "_law_told", "_law_deed", "_law_row", "_law_at", "_law_bad", "_law_place", "_law_after", "_law_one", "_law_k"]
theorem sc_law : FnScope NLW ["_law_script"] (defScope (top 65)) := ⟨rfl, rfl, rfl, by decide +kernel, rfl, by decide +kernel, by decide +kernel⟩
abbrev lawB : List Stmt := defBody (top 65)
abbrev lawL (i n : Nat) : List Stmt := (lawB.drop i).take n
section
variable {P : Program} {w : World} {K : PySem.W.Frag} {mg : PySem.Str → Option Value} {base : Heap} {cdv : Value} {A : Around} {outer : List Env} {s0 : Shared} {H0 : Hp} {E0' : XK}
abbrev XL (P : Program) (w : World) (K : PySem.W.Frag) (mg : PySem.Str → Option Value) (base : Heap) (cdv : Value) (A : Around) (outer : List Env) (s : Shared) (H : Hp) (E : XK) : Cx :=
  (cxOf CX0 P w K mg base NLW "law" (defScope (top 65)) (He.ga K "law") cdv A outer s H E).nox
abbrev RL (K : PySem.W.Frag) (cdv : Value) (A : Around) (s : Shared) : Prop := Room 12 (A.deeper (envOfC "law" (defScope (top 65)) s.heap.objs.size (He.ga K "law") cdv))
/-- the script, frozen or written -/
def ScrF (K : PySem.W.Frag) (H : Hp) (a : Addr) (ns : List Int) : Prop := (∃ o, H a = some (.frz o (.lst (ns.map V.int)))) ∨
  ∃ (o : Obj) (its : Array Value) (n : Nat), K.lookup a = some o ∧ o.cls = .type "list" ∧ o.dict = none ∧ o.data = .seq its n ∧ its.size ≤ sizeLine ∧ Vals (ns.map V.int) its.toList
theorem ScrF.scr {H : Hp} {a : Addr} {ns : List Int} (z : ScrF K H a ns) : Scr K H a ns := by
  rcases z with z | z
  · exact .inl (.inr z)
  · exact .inr z
theorem ScrF.ext {H H' : Hp} {a : Addr} {ns : List Int} (z : ScrF K H a ns) (e : ExtN H H') : ScrF K H' a ns := by
  rcases z with ⟨o, z⟩ | z
  · exact .inl ⟨o, e _ _ z (fun ps z => by cases z)⟩
  · exact .inr z
theorem ScrF.but {H H' : Hp} {a b : Addr} {ns : List Int} (z : ScrF K H a ns) (bt : But b H H') (hb : BoxL H b) : ScrF K H' a ns := by
  obtain ⟨x, y, hb⟩ := hb
  rcases z with ⟨o, z⟩ | z
  · exact .inl ⟨o, bt _ _ (ne_of z hb (fun z => by cases z)) z⟩
  · exact .inr z
theorem tabs_butL {T : List (Addr × Str)} {H H' : Hp} {b : Addr} (t : Tabs T H) (bt : But b H H') (hb : BoxL H b) : Tabs T H' := fun p hp => by
  obtain ⟨x, y, hb⟩ := hb
  obtain ⟨ps, t1, t2, t3⟩ := t p hp
  refine ⟨ps, bt _ _ (ne_of t1 hb (fun z => by cases z)) t1, t2, fun ps' cv hc => ?_⟩
  obtain ⟨c, c1, c2⟩ := t3 ps' cv hc
  exact ⟨c, c1, bt _ _ (ne_of c2 hb (fun z => by unfold CodeO at z; cases z)) c2⟩
/-- tables as the law draws them -/
structure TabsD (m : Nat) (tabs : List (List Nat)) : Prop where
  m2 : 2 ≤ m
  m5 : m ≤ 5
  k1 : 1 ≤ tabs.length
  k3 : tabs.length ≤ 3
  kn : tabs.length = 3 → m = 3
  all : ∀ r ∈ tabs, r.length = m ∧ ∀ x ∈ r, x < m
def PA0 (K : PySem.W.Frag) (sa : Addr) (ns : List Int) : L2.St → Hp → Prop := fun σ H => σ = start NLW [.ref sa] ∧ ScrF K H sa ns ∧ Tabs (T3 K) H
def PA1 (K : PySem.W.Frag) (sa : Addr) (ns : List Int) : L2.St → Hp → Prop := fun σ H => ∃ (b t : Addr) (m : Nat) (tabs : List (List Nat)), σ = [some (.ref sa), some (.ref b), some (.ref t), none, none, none, none, none, none, none, none, none, none, none, none, none, none, none, none, none, none, none, none, none, none, none, none, none, none] ∧
  ScrF K H sa ns ∧ Tabs (T3 K) H ∧ TabL H t tabs ∧ TabsD m tabs
theorem piece_a (T : Tx K mg) (hr : RL K cdv A s0) {sa : Addr} {ns : List Int} : Piece (XL P w K mg base cdv A outer s0 H0 E0') (lawL 0 3) (PA0 K sa ns) (PA1 K sa ns) := fun rest u hu => by
  refine ⟨_, pss_cons (ps_set (i := 1) sc_law.nd rfl (Or.inr rfl) (pe_c (ok_box T) hr (by rfl) (pa_cons (pv 0) (pa_cons pe_int pa_nil))))
    (pss_cons (ps_set (i := 2) sc_law.nd rfl (Or.inl rfl) (pe_c (ok_tables T) hr (by rfl) (pa_cons (pv 1) (pa_cons (pe_lst (pa_cons pe_int (pa_cons pe_int (pa_cons pe_int (pa_cons pe_int (pa_cons pe_int (pa_cons pe_int pa_nil))))))) (pa_cons (pe_lst (pa_cons pe_int (pa_cons pe_int (pa_cons pe_int (pa_cons pe_int pa_nil))))) pa_nil)))))
    (C8.pss_cut (ps_if (PW.pt (pw_and (pt_cmpR op_eq (pe_callB call_len (by rfl) T.n_len boot_len (pa_cons (pe_ix ix_list (pv 2) pe_int (fun _ _ => rfl)) pa_nil)) pe_int (nomark _)) (pw_and1 (pt_cmpR op_eq (pe_c (ok_take T) hr (by rfl) (pa_cons (pv 1) (pa_cons pe_int pa_nil))) pe_int (nomark _)))))
        (pss_one (ps_expr (pe_bm PySem.F.plainAttrs_list PySem.F.slot_list_append PySem.F.type_list_append mt_append (pv 2) (pa_cons (pe_c (ok_table T) hr (by rfl) (pa_cons (pv 1) (pa_cons pe_int pa_nil))) pa_nil)))) pss_nil) hu)), fun D σ H hA k => ?_⟩
  obtain ⟨rfl, hs, hT⟩ := hA
  refine ⟨_, rfl, sa, ns, 0, rfl, hs.scr, fun b H1 sm1 nb hb => ?_⟩
  have hs1 := hs.ext (ext_same sm1)
  have hT1 := hT.ext sm1
  refine ⟨_, rfl, by show 6 ≤ sizeLine; decide, fun sz nsz => ⟨by show 4 ≤ sizeLine; decide, fun kd nkd => ?_⟩⟩
  have smz : Same H1 (upd H1 sz (.lst [.int 3, .int 4, .int 3, .int 4, .int 2, .int 5])) := same_new nsz
  have hz : upd H1 sz (.lst [.int 3, .int 4, .int 3, .int 4, .int 2, .int 5]) sz = some (.lst [.int 3, .int 4, .int 3, .int 4, .int 2, .int 5]) := upd_same
  generalize upd H1 sz (.lst [.int 3, .int 4, .int 3, .int 4, .int 2, .int 5]) = Hz at smz hz nkd
  have smk : Same Hz (upd Hz kd (.lst [.int 2, .int 2, .int 1, .int 2])) := same_new nkd
  have hkd : upd Hz kd (.lst [.int 2, .int 2, .int 1, .int 2]) kd = some (.lst [.int 2, .int 2, .int 1, .int 2]) := upd_same
  have hz2 := smk _ _ hz
  have hbz := hb.ext (ext_same smz)
  have kb := box_ne hbz nkd
  generalize upd Hz kd (.lst [.int 2, .int 2, .int 1, .int 2]) = Hk at smk hkd hz2
  have sm1k := same_trans smz smk
  have hbk := hb.ext (ext_same sm1k)
  refine ⟨b, sz, kd, [3, 4, 3, 4, 2, 5], [2, 2, 1, 2], rfl, hbk, box_ne hb nsz, kb, hz2, hkd, by decide, by decide, by decide, by decide, by decide, by decide, fun D2 m n H2 bt2 hb2 nD hD m2 m5 n1 n2 => ?_⟩
  have hs2 : ScrF K H2 sa ns := (hs1.ext (ext_same sm1k)).but bt2 hbk
  have hT2 : Tabs (T3 K) H2 := tabs_butL (hT1.ext sm1k) bt2 hbk
  have hDb : D2 ≠ b := box_ne hbk nD
  have done : ∀ {H' : Hp} {l : Nat}, ScrF K H' sa ns → Tabs (T3 K) H' → TsAt H' b D2 m l → 1 ≤ l → l ≤ 3 → (l = 3 → m = 3) → PA1 K sa ns [some (.ref sa), some (.ref b), some (.ref D2), none, none, none, none, none, none, none, none, none, none, none, none, none, none, none, none, none, none, none, none, none, none, none, none, none, none] H' := fun {H' l} h1 h2 h3 h4 h5 h6 => by
    obtain ⟨tabs, q1, q2, q3⟩ := h3.tabs
    exact ⟨b, D2, m, tabs, rfl, h1, h2, q1, ⟨m2, m5, by omega, by omega, fun e => h6 (by omega), q3⟩⟩
  refine ⟨PA1 K sa ns, ?_, fun σ' H' h => k σ' H' h⟩
  obtain ⟨as, hDl, hal, hDn, hbn, has⟩ := id hD
  have h0 : 0 < as.length := by omega
  obtain ⟨row, hrow, hrl, hrx⟩ := has as[0] (List.getElem_mem h0)
  have hix : (as.map V.ref)[0]? = some (V.ref as[0]) := by rw [List.getElem?_map, List.getElem?_eq_getElem h0]; rfl
  refine ⟨_, rfl, D2, _, _, _, rfl, rfl, SqL.of hDl, atI_nat hix, _, m, rfl, .inl ⟨_, SqL.of hrow, by unfold Num; rw [List.length_map, hrl]⟩, rfl, _, rfl, ?_⟩
  by_cases h3 : m = 3
  · refine iteT' (by rw [h3]; rfl) ⟨_, rfl, b, 2, rfl, hb2, by decide, by decide, fun r H3 bt3 hb3 hr3 => ⟨rfl, _, rfl, ?_⟩⟩
    have hs3 := hs2.but bt3 hb2
    have hT3 := tabs_butL hT2 bt3 hb2
    have hD3 := hD.but bt3 hDb
    by_cases h4 : r = 0
    · refine iteT' (by rw [h4]; rfl) ?_
      obtain ⟨as3, hDl3, _⟩ := id hD3
      refine ⟨_, rfl, .inl ⟨rfl, _, SqL.of hDl3⟩, _, rfl, b, 3, rfl, hb3, by decide, by decide, fun a H4 bt4 hb4 na ha => ?_⟩
      have hD4 := hD3.but bt4 hDb
      have naD : a ≠ D2 := fun z => by rw [z, hDl3] at na; cases na
      rw [← h3] at ha
      obtain ⟨acc, q1, q2, q3⟩ := hD4.put ha (box_ne hb3 na) naD
      have hs4 := hs3.but bt4 hb3
      have hT4 := tabs_butL hT3 bt4 hb3
      refine ⟨D2, _, _, rfl, rfl, q1, by rw [q2, sizeLine_eq]; omega, done ?_ ?_ q3 (by omega) (by omega) fun _ => h3⟩
      · rcases hs4 with ⟨o, z⟩ | z
        · exact .inl ⟨o, by rw [upd_ne (ne_of z q1 (fun z => by cases z))]; exact z⟩
        · exact .inr z
      · intro p hp
        obtain ⟨ps, t1, t2, t3⟩ := hT4 p hp
        refine ⟨ps, by rw [upd_ne (ne_of t1 q1 (fun z => by cases z))]; exact t1, t2, fun ps' cv hc => ?_⟩
        obtain ⟨c, c1, c2⟩ := t3 ps' cv hc
        exact ⟨c, c1, by rw [upd_ne (ne_of c2 q1 (fun z => by unfold CodeO at z; cases z))]; exact c2⟩
    · exact iteF' (by simpa using h4) (done hs3 hT3 hD3 n1 (by omega) (by omega))
  · exact iteF' (by simp; omega) (done hs2 hT2 hD n1 (by omega) (by omega))
end
end BW

set_option Elab.async false
set_option linter.all false
set_option maxRecDepth 100000
set_option maxHeartbeats 1000000
/-! law: the family, the device, the ranks -/
namespace BW
open PySem PySem.Spec PyProof.Rows L2 SX
open LamX (Tabs ExtN CodeO)
section
variable {X : Cx} {k j : Nat} {f C : Addr} {m : Str} {sp : Sp} {o e : Expr} {es : List Expr} {ta : TE} {t : TA} {apos pos : Pos}
/-- C(e, ..), that lets nothing out -/
theorem pe_mk0 {x : Str} {p : Pos} (M : Mk X.K C f) (c : CalM CX0 X.prog X.w X.K X.mg X.base k f sp) (hr : Room j X.A) (hg : Gl X x) (hm : X.mg x = some (.ref C)) (ha : PA X (e :: es) t) (hk : k + 1 ≤ j := by decide)
    (hdb : (x == ("__debug__" : Str)) = false := by decide) (he : starEach (e :: es) X.env = (false, eval e X.env) :: starEach es X.env := by rfl) (hpl : (backTo pos (starEach es X.env)).any (·.1) = false := by rfl) :
    PE X (.Call (.Name x p) (e :: es) [] pos) (tMake C sp [] E0 t) := by
  obtain ⟨fd, ps, F, b⟩ := c.ex
  exact pe_make M F (hr.mono hk) hg hm b .nil pass0 ha hdb he hpl
end
theorem TabL.ext {H H' : Hp} {t : Addr} {tabs : List (List Nat)} (z : TabL H t tabs) (e : ExtN H H') : TabL H' t tabs := by
  obtain ⟨as, h1, h2, h3⟩ := z
  refine ⟨as, e _ _ h1 (fun ps z => by cases z), h2, fun i row hr => ?_⟩
  obtain ⟨a, q1, q2⟩ := h3 i row hr
  exact ⟨a, q1, e _ _ q2 (fun ps z => by cases z)⟩
theorem TxtsL.ext {H H' : Hp} {a : Addr} {l : List (List Nat)} (z : TxtsL H a l) (e : ExtN H H') : TxtsL H' a l := e _ _ z (fun ps z => by cases z)
theorem RankD.ext {H H' : Hp} {a : Addr} {C : BK.Cfg} (z : RankD H a C) (e : ExtN H H') : RankD H' a C := e _ _ z (fun ps z => by cases z)
/-- what the law has made once and for all -/
structure LB (K : PySem.W.Frag) (H : Hp) (C : BK.Cfg) (sa : Addr) (ns : List Int) (t la d pa ra : Addr) : Prop where
  scr : ScrF K H sa ns
  tl : TabL H t C.tabs
  ll : TxtsL H la C.lots
  dev : Dev K H d C
  prs : PairsL H pa (BK.pairs C.n)
  rnk : RankD H ra C
theorem LB.ext {K : PySem.W.Frag} {H H' : Hp} {C : BK.Cfg} {sa : Addr} {ns : List Int} {t la d pa ra : Addr} (z : LB K H C sa ns t la d pa ra) (e : ExtN H H') : LB K H' C sa ns t la d pa ra :=
  ⟨z.scr.ext e, z.tl.ext e, z.ll.ext e, z.dev.ext e, z.prs.ext e, z.rnk.ext e⟩
theorem cut_abc3 {k : Nat} (h : k ≤ 3) : cutS "abc" none (some (k : Int)) = S (BK.abc.take k) := by
  have c : k = 0 ∨ k = 1 ∨ k = 2 ∨ k = 3 := by omega
  rcases c with e | e | e | e <;> rw [e] <;> decide +kernel
theorem fam_of {m : Nat} {tabs l : List (List Nat)} (h : TabsD m tabs) (hl : ∀ r ∈ l, LotOk (BK.abc.take tabs.length) r) (hn : l.Nodup) (h1 : 1 ≤ l.length) (h3 : l.length ≤ 3) : Fam ⟨m, tabs, l⟩ where
  ok := ⟨h.m2, h.m5, h.k1, h.k3, h.kn, fun t ht => (h.all t ht).1, fun t ht => (h.all t ht).2, fun r hr => ⟨(hl r hr).2, fun c hc => by
    rw [(hl r hr).1] at hc
    exact (List.mem_filter.mp hc).1⟩, fun z => by
    have z : l = [] := z
    rw [z] at h1
    simp at h1⟩
  lots := hl
  nd := hn
  l1 := h1
  l31 := by show l.length ≤ 31; omega
section
variable {P : Program} {w : World} {K : PySem.W.Frag} {mg : PySem.Str → Option Value} {base : Heap} {cdv : Value} {A : Around} {outer : List Env} {s0 : Shared} {H0 : Hp} {E0' : XK}
def PA2 (K : PySem.W.Frag) (sa : Addr) (ns : List Int) : L2.St → Hp → Prop := fun σ H => ∃ (b t la d pa ra : Addr) (C : BK.Cfg), σ = [some (.ref sa), some (.ref b), some (.ref t), some (.int C.n), some (.str (S C.sig)), some (.ref la), some (.ref d), some (.ref pa), some (.ref ra), none, none, none, none, none, none, none, none, none, none, none, none, none, none, none, none, none, none, none, none] ∧
  Fam C ∧ LB K H C sa ns t la d pa ra ∧ Tabs (T3 K) H
theorem piece_b (T : Tx K mg) (hr : RL K cdv A s0) {sa : Addr} {ns : List Int} : Piece (XL P w K mg base cdv A outer s0 H0 E0') (lawL 3 4) (PA1 K sa ns) (PA2 K sa ns) := fun rest u hu => by
  refine ⟨_, pss_cons (ps_asg (pe_tup (pa_cons (pe_callB call_len (by rfl) T.n_len boot_len (pa_cons (pe_ix ix_list (pv 2) pe_int (fun _ _ => rfl)) pa_nil)) (pa_cons (pe_slice sl_str pe_str po_none (po_some (pe_callB call_len (by rfl) T.n_len boot_len (pa_cons (pv 2) pa_nil)))) pa_nil)))
      (pg_tup rfl (pgs_cons (pg_name (i := 3) sc_law.nd rfl (Or.inl rfl)) (pgs_cons (pg_name (i := 4) sc_law.nd rfl (Or.inr rfl)) pgs_nil))))
    (pss_cons (ps_set (i := 5) sc_law.nd rfl (Or.inl rfl) (pe_c (ok_family T) hr (by rfl) (pa_cons (pe_c (ok_box T) hr (by rfl) (pa_cons (pv 0) (pa_cons pe_int pa_nil))) (pa_cons (pv 4) pa_nil))))
    (pss_cons (ps_par (i := 6) (j := 7) rfl sc_law.nd rfl rfl (by decide) rfl rfl (pa_cons (pe_mk0 T.mk_Device (ok_dev_init T) hr (by rfl) T.g_Device (pa_cons (pv 2) pa_nil)) (pa_cons (pe_c (ok_lpairs T) hr (by rfl) (pa_cons (pv 3) pa_nil)) pa_nil)) (by rfl))
    (C8.pss_cut (ps_set (i := 8) sc_law.nd rfl (Or.inr rfl) (pe_c (ok_lranks T) hr (by rfl) (pa_cons (pv 7) (pa_cons (pe_c (ok_web T) hr (by rfl) (pa_cons (pv 2) (pa_cons (pv 5) (pa_cons (pv 7) (pa_cons pe_int pa_nil))))) pa_nil)))) hu))), fun D σ H hA k => ?_⟩
  obtain ⟨b, t, m, tabs, rfl, hs, hT, hTl, hTd⟩ := hA
  obtain ⟨as, has, hlen, hat⟩ := id hTl
  have hk1 := hTd.k1
  have hk3 := hTd.k3
  have hm2 := hTd.m2
  have hm5 := hTd.m5
  have h0 : 0 < tabs.length := by omega
  have hrow0 : tabs[0]? = some tabs[0] := List.getElem?_eq_getElem h0
  obtain ⟨a0, ha0, hra0⟩ := hat 0 _ hrow0
  have hl0 := (hTd.all _ (List.getElem_mem h0)).1
  have hat0 : (as.map V.ref)[0]? = some (V.ref a0) := by rw [List.getElem?_map, ha0]; rfl
  refine ⟨_, rfl, t, _, _, _, rfl, rfl, SqL.of has, atI_nat hat0, _, m, rfl, .inl ⟨_, SqL.of hra0, by unfold Num; rw [List.length_map, hl0]⟩, ?_⟩
  have hml : (as.map V.ref).length = tabs.length := by rw [List.length_map, hlen]
  refine ⟨_, rfl, _, tabs.length, rfl, .inl ⟨_, SqL.of has, hml.symm⟩, _, rfl, _, rfl, by decide +kernel, ?_⟩
  rw [cut_abc3 hk3]
  refine ⟨by show 2 ≤ sizeLine; decide, fun tp ntp => ?_⟩
  have sm1 : Same H (upd H tp (.tup [V.int (m : Int), V.str (S (BK.abc.take tabs.length))])) := same_new ntp
  refine ⟨tp, _, rfl, SqT.of upd_same, rfl, _, _, rfl, _, _, rfl, rfl, ?_⟩
  generalize upd H tp (.tup [V.int (m : Int), V.str (S (BK.abc.take tabs.length))]) = H1 at sm1
  -- the family
  refine ⟨_, rfl, sa, ns, 1, rfl, (hs.ext (ext_same sm1)).scr, fun bx H2 sm2 nbx hbx => ⟨_, rfl, bx, tabs.length, rfl, hbx, hk1, hk3, fun la l H3 bt3 hb3 nla hla hlot hnd hl1 hl3 => ?_⟩⟩
  have sm13 : Same H1 H3 := ((But.of sm2).trans bt3).fresh nbx
  have sm3 := same_trans sm1 sm13
  have hF := fam_of hTd hlot hnd hl1 hl3
  -- the device
  refine ⟨_, rfl, fun x dx nx ndx hne => ?_⟩
  have sm4 : Same H3 (upd (upd H3 dx (.own x)) x (.ins (He.ga K "Device") dx [])) := same_trans (same_new ndx) (same_new (by rw [upd_ne (Ne.symm hne)]; exact nx))
  have hx : upd (upd H3 dx (.own x)) x (.ins (He.ga K "Device") dx []) x = some (.ins (He.ga K "Device") dx []) := upd_same
  generalize upd (upd H3 dx (.own x)) x (.ins (He.ga K "Device") dx []) = H4 at sm4 hx
  refine ⟨x, t, dx, m, tabs, rfl, hx, (hTl.same sm3).same sm4, ⟨hk1, by omega, by omega, by omega, fun r hr => (hTd.all r hr).1, fun r hr => (hTd.all r hr).2⟩, fun H5 bt5 hdev => ⟨rfl, ?_⟩⟩
  have sm35 : Same H3 H5 := ((But.of sm4).trans bt5).fresh nx
  have sm5 := same_trans sm3 sm35
  have hdev5 : Dev K H5 x ⟨m, tabs, l⟩ := hdev l
  refine ⟨_, rfl, m, rfl, hm5, fun pa H6 sm6 npa hpa => ⟨_, _, rfl, ?_⟩⟩
  have sm06 := same_trans sm5 sm6
  -- the ranks
  refine ⟨PA2 K sa ns, ?_, fun σ' H' h => k σ' H' h⟩
  have hla6 : TxtsL H6 la l := sm6 _ _ (sm35 _ _ hla)
  refine ⟨_, rfl, _, rfl, _, rfl, _, rfl, t, la, pa, ⟨m, tabs, l⟩, rfl, hTl.same sm06, hla6, hF, hpa, fun wa H7 sm7 hw => ?_⟩
  refine ⟨pa, wa, ⟨m, tabs, l⟩, rfl, hpa.ext (ext_same sm7), hw, hF.ok, fun ra H8 sm8 hra => ?_⟩
  have sm68 := same_trans sm7 sm8
  have sm08 := same_trans sm06 sm68
  exact ⟨b, t, la, x, pa, ra, ⟨m, tabs, l⟩, rfl, hF, ⟨hs.ext (ext_same sm08), hTl.same sm08, sm68 _ _ hla6, (hdev5.ext (ext_same sm6)).ext (ext_same sm68), hpa.ext (ext_same sm68), hra⟩, hT.ext sm08⟩
end
end BW

set_option Elab.async false
set_option linter.all false
set_option maxRecDepth 100000
set_option maxHeartbeats 1000000
/-! law: the pairs -/
namespace BW
open PySem PySem.Spec PyProof.Rows L2 SX
open LamX (Tabs ExtN CodeO)
theorem pick_pair {H : Hp} {qs : List Addr} {l : List (Nat × Nat)} (z : PairsAt H qs l) {x : V} (hx : x ∈ qs.map V.ref) : ∃ q p, x = .ref q ∧ p ∈ l ∧ PairAt H q p := by
  obtain ⟨q, hq, rfl⟩ := List.mem_map.mp hx
  obtain ⟨i, hi⟩ := List.mem_iff_getElem?.mp hq
  have hil : i < l.length := by
    rw [← z.1]
    exact (List.getElem?_eq_some_iff.mp hi).1
  obtain ⟨q', h1, h2⟩ := z.2 i l[i] (List.getElem?_eq_getElem hil)
  rw [hi] at h1
  cases h1
  exact ⟨q, l[i], rfl, List.getElem_mem hil, h2⟩
theorem PairAt.but {H H' : Hp} {b q : Addr} {p : Nat × Nat} (z : PairAt H q p) (bt : But b H H') (hb : BoxL H b) : PairAt H' q p := by
  obtain ⟨x, y, hb⟩ := hb
  exact bt _ _ (ne_of z hb (fun z => by cases z)) z
theorem extn_but {H0 H H' : Hp} {b : Addr} (e : ExtN H0 H) (n : H0 b = none) (bt : But b H H') : ExtN H0 H' := fun c o h1 h2 => bt c o (ne_of_none h1 n) (e c o h1 h2)
/-- a heap without its tables -/
def noTbl (H : Hp) : Hp := fun a => match H a with
  | some (.tbl _) => none
  | o => o
def NT (H : Hp) : Prop := ∀ a ps, H a ≠ some (.tbl ps)
theorem noTbl_some {H : Hp} {a : Addr} {o : HO} (h : H a = some o) (n : ∀ ps, o ≠ .tbl ps) : noTbl H a = some o := by
  unfold noTbl
  rw [h]
  cases o with
  | tbl ps => exact absurd rfl (n ps)
  | _ => rfl
theorem noTbl_of {H : Hp} {a : Addr} {o : HO} (h : noTbl H a = some o) : H a = some o ∧ ∀ ps, o ≠ .tbl ps := by
  unfold noTbl at h
  cases e : H a with
  | none => rw [e] at h; cases h
  | some u =>
    rw [e] at h
    cases u with
    | tbl ps => cases h
    | _ =>
      have h2 := Option.some.inj h
      subst h2
      exact ⟨rfl, fun ps z => by cases z⟩
theorem noTbl_ext (H : Hp) : ExtN H (noTbl H) := fun _ _ h n => noTbl_some h n
theorem ext_noTbl (H : Hp) : ExtN (noTbl H) H := fun _ _ h _ => (noTbl_of h).1
theorem noTbl_nt (H : Hp) : NT (noTbl H) := fun a ps h => (noTbl_of h).2 ps rfl
theorem noTbl_none {H : Hp} {a : Addr} (h : H a = none) : noTbl H a = none := by
  unfold noTbl
  rw [h]
theorem nt_none {Hb H : Hp} {a : Addr} (nt : NT Hb) (e : ExtN Hb H) (n : H a = none) : Hb a = none := by
  cases q : Hb a with
  | none => rfl
  | some o =>
    have := e a o q (fun ps z => nt a ps (by rw [q, z]))
    rw [n] at this
    cases this
section
variable {P : Program} {w : World} {K : PySem.W.Frag} {mg : PySem.Str → Option Value} {base : Heap} {cdv : Value} {A : Around} {outer : List Env} {s0 : Shared} {H0 : Hp} {E0' : XK}
def PA3 (K : PySem.W.Frag) (sa : Addr) (ns : List Int) : L2.St → Hp → Prop := fun σ H => ∃ (b t la d pa ra pr ot : Addr) (C : BK.Cfg) (p o : BK.Pair) (x27 : Option V) (Hb : Hp), σ = [some (.ref sa), some (.ref b), some (.ref t), some (.int C.n), some (.str (S C.sig)), some (.ref la), some (.ref d), some (.ref pa), some (.ref ra), some (.ref pr), some (.ref ot), none, none, none, none, none, none, none, none, none, none, none, none, none, none, none, none, x27, none] ∧
  Fam C ∧ LB K Hb C sa ns t la d pa ra ∧ NT Hb ∧ ExtN Hb H ∧ Hb b = none ∧ BoxL H b ∧ Tabs (T3 K) H ∧ PairAt H pr p ∧ PairAt H ot o ∧ p ∈ BK.pairs C.n ∧ o ∈ BK.pairs C.n
theorem piece_c (T : Tx K mg) (hr : RL K cdv A s0) {sa : Addr} {ns : List Int} : Piece (XL P w K mg base cdv A outer s0 H0 E0') (lawL 7 3) (PA2 K sa ns) (PA3 K sa ns) := fun rest u hu => by
  have hu0 := hr.units
  have hu1 : (A.deeper (envOfC "law" (defScope (top 65)) s0.heap.objs.size (He.ga K "law") cdv)).units + 1 < cLine := by omega
  refine ⟨_, pss_cons (ps_set (i := 1) sc_law.nd rfl (Or.inr rfl) (pe_c (ok_box T) hr (by rfl) (pa_cons (pv 0) (pa_cons pe_int pa_nil))))
    (pss_cons (ps_par (i := 9) (j := 10) rfl sc_law.nd rfl rfl (by decide) rfl rfl (pa_cons (pe_c (ok_pick T) hr (by rfl) (pa_cons (pv 1) (pa_cons (pv 7) pa_nil))) (pa_cons (pe_c (ok_pick T) hr (by rfl) (pa_cons (pv 1) (pa_cons (pv 7) pa_nil))) pa_nil)) (by rfl))
    (C8.pss_cut (ps_if (pt_cmpR op_eq (pe_dget hu1 (pv 8) (pv 9) (fun _ _ => rfl)) pe_int (nomark _))
      (pss_one (ps_set (i := 9) sc_law.nd rfl (Or.inl rfl) (pe_c (ok_pick T) hr (by rfl) (pa_cons (pv 1) (pa_cons (pe_op op_cat
        (pe_lc (own := [("_law_one", 27)]) (g := gName 27) (by rfl) sc_law.nd (pi_list (pv 7)) (blkOk_by (N := NLW) (sc := defScope (top 65)) (by decide +kernel)) (fun _ _ _ _ _ => pg_name (i := 27) sc_law.nd rfl (Or.inl rfl))
          (fun _ _ _ _ _ => pts_one (PW.pt (pw_or (pt_cmp (pc_isN (pe_dget hu1 (pv 8) (pv 27) (fun _ _ => rfl)))) (pw_or1 (pt_cmpR op_gt (pe_dget hu1 (pv 8) (pv 27) (fun _ _ => rfl)) pe_int (nomark _)))))) (fun _ _ _ _ _ => pv 27))
        (pe_lst (pa_cons (pv 9) pa_nil))) pa_nil))))) pss_nil) hu)), fun D σ H hA k => ?_⟩
  obtain ⟨b0, t, la, d, pa, ra, C, rfl, hF, hL, hT⟩ := hA
  have n2 := hF.ok.n2
  have n5 := hF.ok.n5
  have hnd := pairs_nodup n2 n5
  have hpl := pairs_len n2 n5
  have hpp : 0 < (BK.pairs C.n).length := List.length_pos_of_mem (BK.mem_pairs.mpr (show (0, 1).1 < (0, 1).2 ∧ (0, 1).2 < C.n from ⟨by decide, n2⟩))
  refine ⟨_, rfl, sa, ns, 2, rfl, hL.scr.scr, fun b H1 sm1 nb hb => ?_⟩
  have e1 := ext_same sm1
  have hT1 := hT.ext sm1
  -- a pick from the pairs
  have pick : ∀ {H2 : Hp} {Q : VK}, ExtN H H2 → Tabs (T3 K) H2 → BoxL H2 b → (∀ (q : Addr) (p : BK.Pair) H3, p ∈ BK.pairs C.n → But b H2 H3 → BoxL H3 b → ExtN H H3 → Tabs (T3 K) H3 → PairAt H3 q p → Q (.ref q) H3) → sp_pick [.ref b, .ref pa] H2 Q E0 := fun {H2 Q} e2 t2 hb2 q => by
    obtain ⟨qs, h1, h2⟩ := hL.prs.ext e2
    refine ⟨b, _, rfl, hb2, .inl ⟨pa, _, rfl, ?_, h1, by rw [List.length_map, h2.1]; exact hpp, by rw [List.length_map, h2.1]; omega, fun x H3 hx bt3 hb3 => ?_⟩⟩
    · obtain ⟨qs0, h0, _⟩ := hL.prs
      exact ne_of_none h0 nb
    · obtain ⟨a, p, rfl, hp, hap⟩ := pick_pair h2 hx
      exact q a p H3 hp bt3 hb3 (extn_but e2 nb bt3) (tabs_butL t2 bt3 hb2) (hap.but bt3 hb2)
  refine ⟨_, rfl, _, rfl, pick e1 hT1 hb fun pr p H2 hp bt2 hb2 e2 hT2 hpr => ⟨_, rfl, _, rfl, pick e2 hT2 hb2 fun ot o H3 ho bt3 hb3 e3 hT3 hot => ⟨_, _, rfl, ?_⟩⟩⟩
  have hpr3 := hpr.but bt3 hb2
  refine ⟨PA3 K sa ns, ?_, fun σ' H' h => k σ' H' h⟩
  have rank_at : ∀ {H4 : Hp} {q : Addr} {p : BK.Pair}, ExtN H H4 → PairAt H4 q p → p ∈ BK.pairs C.n → H4 ra = some (.dT ((BK.pairs C.n).map fun p => (kp p, rv (BK.rank C p)))) ∧ valV ((BK.pairs C.n).map fun p => (kp p, rv (BK.rank C p))) (kp p) = some (rv (BK.rank C p)) := fun {H4 q p} e hq hp => ⟨hL.rnk.ext e, tab_get hnd (fun p => rv (BK.rank C p)) hp⟩
  obtain ⟨g1, g2⟩ := rank_at e3 hpr3 hp
  have hsc : ∀ r : Option Nat, scal (rv r) (.int 0) = true := fun r => by cases r <;> rfl
  refine ⟨_, rfl, _, rfl, ra, _, rfl, g2 ▸ DGet.t (k := kp p) g1 (pair_tup hpr3), hsc _, _, rfl, ?_⟩
  cases hd : decide (rv (BK.rank C p) = V.int 0) with
  | false => exact iteF' rfl ⟨b, t, la, d, pa, ra, pr, ot, C, p, o, none, noTbl H, rfl, hF, hL.ext (noTbl_ext H), noTbl_nt H, (ext_noTbl H).trans e3, noTbl_none nb, hb3, hT3, hpr3, hot, hp, ho⟩
  | true =>
    refine iteT' rfl ?_
    obtain ⟨qs, h1, h2⟩ := hL.prs.ext e3
    have hml : (qs.map V.ref).length = (BK.pairs C.n).length := by rw [List.length_map, h2.1]
    refine ⟨_, rfl, _, rfl, pa, rfl, ⟨_, SqL.of h1⟩, fun D nD => ?_⟩
    refine lc_it (n := (qs.map V.ref).length) (walk_list (K := K) (a := pa) (xs := qs.map V.ref)) (fun i H' => Same H3 H' ∧ ∃ ls : List Addr, H' D = some (.lst (ls.map V.ref)) ∧ ls.length ≤ i ∧ ∀ q ∈ ls, ∃ p, p ∈ BK.pairs C.n ∧ PairAt H' q p) ⟨same_new nD, [], by rw [upd_same]; rfl, Nat.le_refl _, by simp⟩ (fun i H' _ q => SqL.of (q.1 _ _ h1)) ?_ ?_
    · rintro i v H4 H5 hi ⟨sm4, ls, hD, hll, hls⟩ ⟨rfl, hv⟩
      rw [hml] at hi
      obtain ⟨q, p1, rfl, hp1, hq1⟩ := pick_pair h2 (List.mem_of_getElem? hv)
      have hq5 := hq1.same (ext_same sm4)
      have e5 : ExtN H H5 := e3.trans (ext_same sm4)
      obtain ⟨g3, g4⟩ := rank_at e5 hq5 hp1
      have put : ∃ acc, H5 D = some (.lst acc) ∧ acc.length < sizeLine ∧ (Same H3 (upd H5 D (.lst (acc ++ [V.ref q]))) ∧ ∃ ls : List Addr, upd H5 D (.lst (acc ++ [V.ref q])) D = some (.lst (ls.map V.ref)) ∧ ls.length ≤ i + 1 ∧ ∀ q' ∈ ls, ∃ p, p ∈ BK.pairs C.n ∧ PairAt (upd H5 D (.lst (acc ++ [V.ref q]))) q' p) := by
        refine ⟨_, hD, by rw [List.length_map, sizeLine_eq]; omega, fun c o e => ?_, ls ++ [q], by rw [upd_same, List.map_append]; rfl, by rw [List.length_append]; show ls.length + 1 ≤ _; omega, fun q' hq' => ?_⟩
        · rw [upd_ne (ne_of_none e nD)]
          exact sm4 c o e
        · have stay : ∀ {a : Addr} {p : BK.Pair} {o : HO}, PairAt H5 a p → PairAt (upd H5 D o) a p := fun {a p o} z => by
            unfold PairAt
            rw [upd_ne (ne_of z hD (fun z => by cases z))]
            exact z
          rcases List.mem_append.mp hq' with h | h
          · obtain ⟨p2, h3, h4⟩ := hls q' h
            exact ⟨p2, h3, stay h4⟩
          · rw [List.mem_singleton.mp h]
            exact ⟨p1, hp1, stay hq5⟩
      refine ⟨rfl, ?_⟩
      refine ⟨_, rfl, _, rfl, ra, _, rfl, g4 ▸ DGet.t (k := kp p1) g3 (pair_tup hq5), _, rfl, ?_⟩
      cases hr1 : BK.rank C p1 with
      | none => exact iteT' rfl (iteT' rfl ⟨_, rfl, put⟩)
      | some r =>
        rw [hr1] at g4
        refine iteF' rfl ⟨_, rfl, _, rfl, ra, _, rfl, g4 ▸ DGet.t (k := kp p1) g3 (pair_tup hq5), (r : Int), _, rfl, rfl, _, rfl, ?_⟩
        cases decide ((r : Int) > 0) with
        | true => exact iteT' rfl ⟨_, rfl, put⟩
        | false => exact iteF' rfl ⟨sm4, ls, hD, by omega, hls⟩
    · rintro H4 ⟨sm4, ls, hD, hll, hls⟩
      rw [hml] at hll
      refine ⟨_, rfl, by show 1 ≤ sizeLine; decide, fun z nz => ?_⟩
      have smz : Same H4 (upd H4 z (.lst [V.ref pr])) := same_new nz
      have hD5 := smz _ _ hD
      have hz5 : upd H4 z (.lst [V.ref pr]) z = some (.lst [V.ref pr]) := upd_same
      generalize upd H4 z (.lst [V.ref pr]) = H5 at smz hD5 hz5
      refine ⟨D, z, _, _, rfl, rfl, hD5, hz5, by rw [List.length_map, sizeLine_eq]; show ls.length + 1 ≤ _; omega, fun c nc => ?_⟩
      have smc : Same H5 (upd H5 c (.lst (ls.map V.ref ++ [V.ref pr]))) := same_new nc
      have hc : upd H5 c (.lst (ls.map V.ref ++ [V.ref pr])) c = some (.lst (ls.map V.ref ++ [V.ref pr])) := upd_same
      have sm36 := same_trans (same_trans sm4 smz) smc
      have hb5 : BoxL H5 b := hb3.ext (ext_same (same_trans sm4 smz))
      have ncb := box_ne hb5 nc
      generalize upd H5 c (.lst (ls.map V.ref ++ [V.ref pr])) = H6 at smc hc sm36
      have hb6 := hb3.ext (ext_same sm36)
      have all6 : ∀ x ∈ ls.map V.ref ++ [V.ref pr], ∃ q p1, x = .ref q ∧ p1 ∈ BK.pairs C.n ∧ PairAt H6 q p1 := fun x hx => by
        rcases List.mem_append.mp hx with h | h
        · obtain ⟨q, hq, rfl⟩ := List.mem_map.mp h
          obtain ⟨p1, h3, h4⟩ := hls q hq
          exact ⟨q, p1, rfl, h3, h4.same (ext_same (same_trans smz smc))⟩
        · rw [List.mem_singleton.mp h]
          exact ⟨pr, p, rfl, hp, hpr3.same (ext_same sm36)⟩
      refine ⟨b, _, rfl, hb6, .inl ⟨c, _, rfl, ncb, hc, by rw [List.length_append]; exact Nat.succ_pos _, by rw [List.length_append, List.length_map]; show ls.length + 1 < _; omega, fun x H7 hx bt7 hb7 => ?_⟩⟩
      obtain ⟨q, p1, rfl, hp1, hq1⟩ := all6 x hx
      exact ⟨b, t, la, d, pa, ra, q, ot, C, p1, o, none, noTbl H, rfl, hF, hL.ext (noTbl_ext H), noTbl_nt H, (ext_noTbl H).trans (extn_but (e3.trans (ext_same sm36)) nb bt7), noTbl_none nb, hb7, tabs_butL (hT3.ext sm36) bt7 hb6, hq1.but bt7 hb6, (hot.same (ext_same sm36)).but bt7 hb6, hp1, ho⟩
end
end BW

set_option Elab.async false
set_option linter.all false
set_option maxRecDepth 100000
set_option maxHeartbeats 1000000
/-! law: the keepers -/
namespace BW
open PySem PySem.Spec PyProof.Rows L2 SX
open LamX (Tabs ExtN CodeO)
theorem Vals.rev : ∀ {xs : List V} {us : List Value}, Vals xs us → Vals xs.reverse us.reverse
  | [], [], .nil => .nil
  | x :: xs, u :: us, .cons h t => by
    rw [List.reverse_cons, List.reverse_cons]
    exact (Vals.rev t).append (.cons h .nil)
section
variable {K : PySem.W.Frag} {H H' : Hp} {x : Addr} {xs : List V}
theorem kt_lst (bt : But x H H') (hx : H x = some (.lst xs)) : KT' H H' := fun b ys h => bt b _ (ne_of h hx (fun z => by cases z)) h
theorem kt_ext (e : ExtN H H') : KT' H H' := fun b ys h => e b _ h (fun ps z => by cases z)
theorem kt_ins {Cx dx : Addr} {fx : List (Str × V)} (bn : BN x H H') (hx : H x = some (.ins Cx dx fx)) : KT' H H' := fun b ys h => bn b _ (ne_of h hx (fun z => by cases z)) h (fun ps z => by cases z)
theorem NowT.kt {t : Addr} {st : BK.Now} (z : NowT H t st) (k : KT' H H') : NowT H' t st := by
  obtain ⟨ap, h1, h2⟩ := z
  refine ⟨ap, k _ _ h1, ?_⟩
  cases ho : st.1 with
  | none => rw [ho] at h2; exact h2
  | some p =>
    rw [ho] at h2
    obtain ⟨q, h3, h4⟩ := h2
    exact ⟨q, h3, h4.kt k⟩
theorem Kp.lst {k d : Addr} {C : BK.Cfg} {st : BK.Now} (z : Kp K H k d C st) (bt : But x H H') (hx : H x = some (.lst xs)) : Kp K H' k d C st := by
  have kt := kt_lst bt hx
  obtain ⟨dd, la, ra, ap, h1, h2, ⟨d2, fs, t, g1, g2, g3, g4, as, g5, g6, g7⟩, h4, h5⟩ := z
  refine ⟨dd, la, ra, ap, bt _ _ (ne_of h1 hx (fun z => by cases z)) h1, ?_, ⟨d2, fs, t, bt _ _ (ne_of g1 hx (fun z => by cases z)) g1, g2, g3, g4, as, kt _ _ g5, g6, fun i row hr => ?_⟩, kt _ _ h4, bt _ _ (ne_of h5 hx (fun z => by cases z)) h5⟩
  · cases ho : st.1 with
    | none => rw [ho] at h2; exact h2
    | some p =>
      rw [ho] at h2
      obtain ⟨q, h3, h4⟩ := h2
      exact ⟨q, h3, h4.kt kt⟩
  · obtain ⟨a, q1, q2⟩ := g7 i row hr
    exact ⟨a, q1, kt _ _ q2⟩
theorem tabs_lst {T : List (Addr × Str)} (t : Tabs T H) (bt : But x H H') (hx : H x = some (.lst xs)) : Tabs T H' := fun p hp => by
  obtain ⟨ps, t1, t2, t3⟩ := t p hp
  refine ⟨ps, bt _ _ (ne_of t1 hx (fun z => by cases z)) t1, t2, fun ps' cv hc => ?_⟩
  obtain ⟨c, c1, c2⟩ := t3 ps' cv hc
  exact ⟨c, c1, bt _ _ (ne_of c2 hx (fun z => by unfold CodeO at z; cases z)) c2⟩
end
/-- what stands in the law from the keepers on; Hb: the heap ahead of the last box -/
structure LI (K : PySem.W.Frag) (Hb H : Hp) (C : BK.Cfg) (d b kp bs : Addr) (st sb : BK.Now) : Prop where
  ext : ExtN Hb H
  tabs : Tabs (T3 K) H
  box : BoxL H b
  nb : Hb b = none
  kk : Kp K H kp d C st
  kb : Kp K H bs d C sb
  nk : Hb kp = none
  ns : Hb bs = none
  ne : kp ≠ bs
  nt : NT Hb
section
variable {K : PySem.W.Frag} {Hb H H' : Hp} {C : BK.Cfg} {d b kp bs : Addr} {st sb st' : BK.Now}
theorem LI.ex (z : LI K Hb H C d b kp bs st sb) (e : Ex (T3 K) H H') : LI K Hb H' C d b kp bs st sb := ⟨z.ext.trans e.ext, e.tabs, z.box.ext e.ext, z.nb, z.kk.ext e.ext, z.kb.ext e.ext, z.nk, z.ns, z.ne, z.nt⟩
theorem LI.sm (z : LI K Hb H C d b kp bs st sb) (e : Same H H') : LI K Hb H' C d b kp bs st sb := z.ex (Ex.same z.tabs e)
theorem LI.bx (z : LI K Hb H C d b kp bs st sb) (bt : But b H H') (hb : BoxL H' b) : LI K Hb H' C d b kp bs st sb := by
  obtain ⟨x, y, h⟩ := id z.box
  exact ⟨extn_but z.ext z.nb bt, tabs_lst z.tabs bt h, hb, z.nb, z.kk.lst bt h, z.kb.lst bt h, z.nk, z.ns, z.ne, z.nt⟩
theorem LI.gone (z : LI K Hb H C d b kp bs st sb) {a : Addr} (n : H a = none) : Hb a = none := nt_none z.nt z.ext n
theorem LI.ktb (z : LI K Hb H C d b kp bs st sb) (bt : But b H H') : KT' H H' := by
  obtain ⟨x, y, h⟩ := id z.box
  exact kt_lst bt h
/-- another list, that is no box and not old -/
theorem LI.ls (z : LI K Hb H C d b kp bs st sb) {x : Addr} {xs : List V} (bt : But x H H') (hx : H x = some (.lst xs)) (nx : Hb x = none) (hxb : b ≠ x) : LI K Hb H' C d b kp bs st sb := by
  obtain ⟨u, v, h⟩ := id z.box
  exact ⟨extn_but z.ext nx bt, tabs_lst z.tabs bt hx, ⟨u, v, bt _ _ hxb h⟩, z.nb, z.kk.lst bt hx, z.kb.lst bt hx, z.nk, z.ns, z.ne, z.nt⟩
theorem extn_bn {H0 : Hp} {k : Addr} (e : ExtN H0 H) (n : H0 k = none) (bn : BN k H H') : ExtN H0 H' := fun c o h1 h2 => bn c o (ne_of_none h1 n) (e c o h1 h2) h2
theorem box_bn {k Cx dx : Addr} {fx : List (Str × V)} (hb : BoxL H b) (bn : BN k H H') (hk : H k = some (.ins Cx dx fx)) : BoxL H' b := by
  obtain ⟨x, y, h⟩ := hb
  exact ⟨x, y, bn _ _ (ne_of h hk (fun z => by cases z)) h (fun ps z => by cases z)⟩
/-- the keeper moves -/
theorem LI.mvk (z : LI K Hb H C d b kp bs st sb) (bn : BN kp H H') (t : Tabs (T3 K) H') (k : Kp K H' kp d C st') : LI K Hb H' C d b kp bs st' sb := by
  obtain ⟨dx, la, ra, ap, hk, _⟩ := id z.kk
  exact ⟨extn_bn z.ext z.nk bn, t, box_bn z.box bn hk, z.nb, k, z.kb.bn bn hk kf_states z.ne.symm, z.nk, z.ns, z.ne, z.nt⟩
theorem LI.ktk (z : LI K Hb H C d b kp bs st sb) (bn : BN kp H H') : KT' H H' := by
  obtain ⟨dx, la, ra, ap, hk, _⟩ := id z.kk
  exact kt_ins bn hk
/-- the one beside moves -/
theorem LI.mvb (z : LI K Hb H C d b kp bs st sb) (bn : BN bs H H') (t : Tabs (T3 K) H') (k : Kp K H' bs d C st') : LI K Hb H' C d b kp bs st st' := by
  obtain ⟨dx, la, ra, ap, hk, _⟩ := id z.kb
  exact ⟨extn_bn z.ext z.ns bn, t, box_bn z.box bn hk, z.nb, z.kk.bn bn hk kf_states z.ne, k, z.nk, z.ns, z.ne, z.nt⟩
theorem LI.kts (z : LI K Hb H C d b kp bs st sb) (bn : BN bs H H') : KT' H H' := by
  obtain ⟨dx, la, ra, ap, hk, _⟩ := id z.kb
  exact kt_ins bn hk
end
section
variable {X : Cx} {k j : Nat} {f C : Addr} {sp : Sp} {e : Expr} {es : List Expr} {t : TA} {pos : Pos}
/-- C(e, ..), that might let out, and does not here -/
theorem pe_mk1 {x : Str} {p : Pos} (M : Mk X.K C f) (c : CalM (CX X.prog X.w) X.prog X.w X.K X.mg X.base k f sp) (hr : Room j X.A) (hg : Gl X x) (hm : X.mg x = some (.ref C)) (ha : PA X (e :: es) t) (hk : k + 1 ≤ j := by decide)
    (hdb : (x == ("__debug__" : Str)) = false := by decide) (he : starEach (e :: es) X.env = (false, eval e X.env) :: starEach es X.env := by rfl) (hpl : (backTo pos (starEach es X.env)).any (·.1) = false := by rfl) :
    PE X (.Call (.Name x p) (e :: es) [] pos) (tMake C sp [] E0 t) := by
  obtain ⟨fd, ps, F, b⟩ := c.ex
  exact pe_make M F (hr.mono hk) hg hm b .nil pass1 ha hdb he hpl
end
section
variable {P : Program} {w : World} {K : PySem.W.Frag} {mg : PySem.Str → Option Value} {base : Heap} {cdv : Value} {A : Around} {outer : List Env} {s0 : Shared} {H0 : Hp} {E0' : XK}
def PA4 (K : PySem.W.Frag) (sa : Addr) (ns : List Int) : L2.St → Hp → Prop := fun σ H => ∃ (b t la d pa ra pr ot hd kp bs nw : Addr) (C : BK.Cfg) (p o : BK.Pair) (x27 : Option V) (Hb : Hp), σ = [some (.ref sa), some (.ref b), some (.ref t), some (.int C.n), some (.str (S C.sig)), some (.ref la), some (.ref d), some (.ref pa), some (.ref ra), some (.ref pr), some (.ref ot), some (.ref hd), some (.ref kp), some (.ref bs), some (.ref nw), none, none, none, none, none, none, none, none, none, none, none, none, x27, none] ∧
  Fam C ∧ LB K Hb C sa ns t la d pa ra ∧ LI K Hb H C d b kp bs (some p, [], 0) (some o, [], 0) ∧ PairAt H pr p ∧ PairAt H ot o ∧ p ∈ BK.pairs C.n ∧ o ∈ BK.pairs C.n ∧ NowT H nw (some p, [], 0)
theorem piece_d (T : Tx K mg) (B : Tb K mg base) (Xx : Xs P K mg) (hr : RL K cdv A s0) {sa : Addr} {ns : List Int} : Piece (XL P w K mg base cdv A outer s0 H0 E0') (lawL 10 3) (PA3 K sa ns) (PA4 K sa ns) := fun rest u hu => by
  obtain ⟨fdk, Fk, Dk⟩ := okp_keep_init (w := w) (base := base) T B Xx
  have bk : KBn K fdk ["self", "device", "family", "pair"] 1 ["pair", "family", "device"] (fun us ws => us ++ ws.reverse) (fun vs zs => vs ++ zs.reverse) := by
    obtain ⟨oc, od, dV, kV, doc, pm, an, cdv, ct, osl, rfl, lk, hcd, hD, hK⟩ := Dk.ex
    rcases hD with ⟨_, rfl⟩ | ⟨e, _⟩
    · refine ⟨fun s us ws _ l1 l2 => ?_, fun r1 r2 => r1.append (Vals.rev r2)⟩
      match us, ws, l1, l2 with
      | [u], [z1, z2, z3], _, _ => exact .of_eq rfl
    · exact absurd rfl e
  refine ⟨_, pss_cons (ps_set (i := 11) sc_law.nd rfl (Or.inl rfl) (pe_op op_cat (pv 5) (pe_lst pa_nil)))
    (pss_cons (ps_par3 (i := 12) (j := 13) (l := 14) rfl sc_law.nd rfl rfl rfl (by decide) (by decide) (by decide) rfl rfl rfl (pa_cons (pe_mk1 T.mk_Keeper (ok_keep_init T B Xx) hr (by rfl) T.g_Keeper (pa_cons (pv 6) (pa_cons (pv 11) (pa_cons (pv 9) pa_nil))))
        (pa_cons (pe_makeK0 T.mk_Keeper Fk (hr.mono (by decide)) (by rfl) T.g_Keeper bk pass1 (pk_cons (pv 10) (pk_cons (pe_callTy (r := rTupleOf K) call_tuple_of (by rfl) T.n_tuple (by decide +kernel) (pa_cons (pv 5) pa_nil)) (pk_cons (pv 6) pk_nil))))
        (pa_cons (pe_tup (pa_cons (pv 9) (pa_cons pe_str (pa_cons pe_int pa_nil)))) pa_nil))) (by rfl))
    (C8.pss_cut (ps_expr (pe_bm PySem.F.plainAttrs_list PySem.F.slot_list_append PySem.F.type_list_append mt_append (pv 11) (pa_cons pe_str pa_nil))) hu)), fun D σ H hA k => ?_⟩
  obtain ⟨b, t, la, d, pa, ra, pr, ot, C, p, o, x27, Hb, rfl, hF, hL, nt, eX, nb, hb, hT, hpr, hot, hp, ho⟩ := hA
  -- the family handed
  have hla := hL.ll.ext eX
  refine ⟨_, rfl, by show 0 ≤ sizeLine; decide, fun e ne => ?_⟩
  have sme : Same H (upd H e (.lst [])) := same_new ne
  have he : upd H e (.lst []) e = some (.lst []) := upd_same
  have hla1 : TxtsL (upd H e (.lst [])) la C.lots := sme _ _ hla
  generalize upd H e (.lst []) = H1 at sme he hla1
  have hl31 := hF.l31
  refine ⟨la, e, _, _, rfl, rfl, hla1, he, by rw [List.length_map, sizeLine_eq]; show C.lots.length + 0 ≤ _; omega, fun hd nhd => ?_⟩
  have smd : Same H1 (upd H1 hd (.lst ((C.lots.map fun r => V.str (S r)) ++ []))) := same_new nhd
  have hhd : upd H1 hd (.lst ((C.lots.map fun r => V.str (S r)) ++ [])) hd = some (.lst (C.lots.map fun r => V.str (S r))) := by rw [upd_same, List.append_nil]
  have hdb : b ≠ hd := (box_ne (hb.ext (ext_same sme)) nhd).symm
  generalize upd H1 hd (.lst ((C.lots.map fun r => V.str (S r)) ++ [])) = H2 at smd hhd
  have sm2 := same_trans sme smd
  have e2 := eX.trans (ext_same sm2)
  have nbhd : Hb hd = none := nt_none nt (eX.trans (ext_same sme)) nhd
  -- the first keeper
  refine ⟨_, rfl, _, rfl, _, rfl, fun x dx nx ndx hne => ?_⟩
  have sm3 : Same H2 (upd (upd H2 dx (.own x)) x (.ins (He.ga K "Keeper") dx [])) := same_trans (same_new ndx) (same_new (by rw [upd_ne (Ne.symm hne)]; exact nx))
  have hx : upd (upd H2 dx (.own x)) x (.ins (He.ga K "Keeper") dx []) x = some (.ins (He.ga K "Keeper") dx []) := upd_same
  generalize upd (upd H2 dx (.own x)) x (.ins (He.ga K "Keeper") dx []) = H3 at sm3 hx
  have sm03 := same_trans sm2 sm3
  refine ⟨x, d, hd, dx, .ref pr, C, rfl, hx, hL.dev.ext (eX.trans (ext_same sm03)), hT.ext sm03, .inl ⟨hF, .inl (sm3 _ _ hhd), pr, p, rfl, hpr.same (ext_same sm03), .inl ⟨hp, fun H4 bn4 t4 hK4 => ⟨rfl, ?_⟩⟩⟩⟩
  have e24 : ExtN H2 H4 := fun c o h1 h2 => bn4 c o (ne_of_none h1 nx) (sm3 _ _ h1) h2
  have e04 : ExtN H H4 := (ext_same sm2).trans e24
  have eb4 := eX.trans e04
  -- the one beside
  have hla4 := hL.ll.ext eb4
  refine ⟨_, rfl, _, rfl, la, _, rfl, .inl ⟨SqL.of hla4, fun lt nlt => ⟨_, rfl, rfl, rfl, fun y dy ny ndy hne2 => ?_⟩⟩⟩
  have sm5 : Same H4 (upd H4 lt (.tup (C.lots.map fun r => V.str (S r)))) := same_new nlt
  have hlt : upd H4 lt (.tup (C.lots.map fun r => V.str (S r))) lt = some (.tup (C.lots.map fun r => V.str (S r))) := upd_same
  generalize upd H4 lt (.tup (C.lots.map fun r => V.str (S r))) = H5 at sm5 hlt ny ndy
  have sm6 : Same H5 (upd (upd H5 dy (.own y)) y (.ins (He.ga K "Keeper") dy [])) := same_trans (same_new ndy) (same_new (by rw [upd_ne (Ne.symm hne2)]; exact ny))
  have hy : upd (upd H5 dy (.own y)) y (.ins (He.ga K "Keeper") dy []) y = some (.ins (He.ga K "Keeper") dy []) := upd_same
  generalize upd (upd H5 dy (.own y)) y (.ins (He.ga K "Keeper") dy []) = H6 at sm6 hy
  have sm46 := same_trans sm5 sm6
  have e06 := e04.trans (ext_same sm46)
  refine ⟨y, d, lt, dy, .ref ot, C, rfl, hy, hL.dev.ext (eX.trans e06), t4.ext sm46, .inl ⟨hF, .inr (sm6 _ _ hlt), ot, o, rfl, hot.same e06, .inl ⟨ho, fun H7 bn7 t7 hK7 => ⟨rfl, ?_⟩⟩⟩⟩
  have e57 : ExtN H5 H7 := fun c o h1 h2 => bn7 c o (ne_of_none h1 ny) (sm6 _ _ h1) h2
  have e47 := (ext_same sm5).trans e57
  have e07 := e04.trans e47
  refine ⟨_, rfl, by show 3 ≤ sizeLine; decide, fun nw nnw => ⟨_, _, _, rfl, ?_⟩⟩
  have sm8 : Same H7 (upd H7 nw (.tup [V.ref pr, V.str "", V.int 0])) := same_new nnw
  have hnw : upd H7 nw (.tup [V.ref pr, V.str "", V.int 0]) nw = some (.tup [V.ref pr, V.str "", V.int 0]) := upd_same
  generalize upd H7 nw (.tup [V.ref pr, V.str "", V.int 0]) = H8 at sm8 hnw
  have e08 := e07.trans (ext_same sm8)
  have e48 := e47.trans (ext_same sm8)
  -- z comes to the list handed
  have hhd8 : H8 hd = some (.lst (C.lots.map fun r => V.str (S r))) := (e24.trans e48) _ _ hhd (fun ps z => by cases z)
  refine ⟨PA4 K sa ns, ?_, fun σ' H' h => k σ' H' h⟩
  have nxy : x ≠ y := by
    obtain ⟨dd, _, _, _, q, _⟩ := hK4
    exact ne_of_none (sm5 _ _ q) ny
  have LI8 : LI K Hb H8 C d b x y (some p, [], 0) (some o, [], 0) := ⟨eX.trans e08, t7.ext sm8, hb.ext e08, nb, hK4.ext e48, hK7.ext (ext_same sm8), nt_none nt e2 nx, nt_none nt (eX.trans (e04.trans (ext_same sm5))) ny, nxy, nt⟩
  refine ⟨_, rfl, .inl ⟨rfl, _, SqL.of hhd8⟩, hd, _, _, rfl, rfl, hhd8, by rw [List.length_map, sizeLine_eq]; omega, ?_⟩
  have btz : But hd H8 (upd H8 hd (.lst ((C.lots.map fun r => V.str (S r)) ++ [V.str "z"]))) := fun c o hc h => by
    rw [upd_ne hc]
    exact h
  have ktz := kt_lst btz hhd8
  exact ⟨b, t, la, d, pa, ra, pr, ot, hd, x, y, nw, C, p, o, x27, Hb, rfl, hF, hL, LI8.ls btz hhd8 nbhd hdb, (hpr.same e08).kt ktz, (hot.same e08).kt ktz, hp, ho, NowT.kt ⟨_, hnw, pr, rfl, hpr.same e08⟩ ktz⟩
end
end BW

set_option Elab.async false
set_option linter.all false
set_option maxRecDepth 100000
set_option maxHeartbeats 1000000
/-! law: what is refused, the rounds at the start -/
namespace BW
open PySem PySem.Spec PyProof.Rows L2 SX
open LamX (Tabs ExtN CodeO)
def pdI : Option Int → PyData
  | none => .none
  | some i => .int i
theorem dp_mv {K : PySem.W.Frag} {H : Hp} : ∀ o : Option Int, Dp K H (mv o) (pdI o)
  | none => .non
  | some i => .int i
theorem fine_mv {o : Option Int} (h : ∀ i, o = some i → -1 ≤ i ∧ i < 100000) : Fine (pdI o) := by
  cases o with
  | none => exact fine_none
  | some i => exact fine_int (h i rfl).1 (h i rfl).2
theorem rv_mv (r : Option Nat) : rv r = mv (r.map fun m => (m : Int)) := by cases r <;> rfl
def moreOk (C : BK.Cfg) (o : Option Int) : Prop := ∀ i, o = some i → -1 ≤ i ∧ i < 100000
theorem more_fine {C : BK.Cfg} (hF : Fam C) {st : BK.Now} (hf : BK.Fit C st) : moreOk C (BK.moreI C st) := by
  obtain ⟨o, h, c⟩ := st
  intro i hi
  have n5 := hF.ok.n5
  cases o with
  | none =>
    have hi : some (-1 : Int) = some i := hi
    cases hi
    decide
  | some p =>
    have hi : (BK.due C p h).map (fun m => (m : Int)) = some i := hi
    cases hd : BK.due C p h with
    | none => rw [hd] at hi; cases hi
    | some m =>
      rw [hd] at hi
      have := BK.due_bound hF.ok (BK.mem_nodes.mpr ⟨hf.2 p rfl, hf.1⟩) hd
      have hi : (m : Int) = i := Option.some.inj hi
      omega
theorem rank_more {C : BK.Cfg} (hF : Fam C) {p : BK.Pair} (hp : p ∈ BK.pairs C.n) (c : Nat) : rv (BK.rank C p) = mv (BK.moreI C (some p, [], c)) := by
  rw [rv_mv, ← BK.due_rank hF.ok hp]
  rfl
section
variable {P : Program} {w : World} {K : PySem.W.Frag} {mg : PySem.Str → Option Value} {base : Heap} {cdv : Value} {A : Around} {outer : List Env} {s0 : Shared} {H0 : Hp} {E0' : XK}
def PA5 (K : PySem.W.Frag) (sa : Addr) (ns : List Int) : L2.St → Hp → Prop := fun σ H => ∃ (b t la d pa ra pr ot hd kp bs nw sd : Addr) (C : BK.Cfg) (p o : BK.Pair) (x27 : Option V) (tp : V) (Hb : Hp), σ = [some (.ref sa), some (.ref b), some (.ref t), some (.int C.n), some (.str (S C.sig)), some (.ref la), some (.ref d), some (.ref pa), some (.ref ra), some (.ref pr), some (.ref ot), some (.ref hd), some (.ref kp), some (.ref bs), some (.ref nw), some tp, some (mv (BK.moreI C (some p, [], 0))), some (.ref sd), none, none, none, none, none, none, none, none, none, x27, none] ∧
  Fam C ∧ LB K Hb C sa ns t la d pa ra ∧ LI K Hb H C d b kp bs (some p, [], 0) (some o, [], 0) ∧ p ∈ BK.pairs C.n ∧ o ∈ BK.pairs C.n ∧ NowT H nw (some p, [], 0) ∧ NowT H sd (some o, [], 0)
def twoD : PyData := .list [.tuple [.str "family", .int 0, .bool true], .tuple [.str "pair", .tuple [.int 1, .int 0], .bool true]]
theorem piece_e (T : Tx K mg) (B : Tb K mg base) (Xx : Xs P K mg) (Xt : Xt K) (hr : RL K cdv A s0) (hg : A.guards = some []) {sa : Addr} {ns : List Int} : Piece (XL P w K mg base cdv A outer s0 H0 E0') (lawL 13 4) (PA4 K sa ns) (PA5 K sa ns) := fun rest u hu => by
  have hu0 := hr.units
  have hu1 : (A.deeper (envOfC "law" (defScope (top 65)) s0.heap.objs.size (He.ga K "law") cdv)).units + 1 < cLine := by omega
  have hu64 : (A.deeper (envOfC "law" (defScope (top 65)) s0.heap.objs.size (He.ga K "law") cdv)).units + 64 < cLine := by have := hr.un; omega
  refine ⟨_, pss_cons (ps_if (pt_cmpR (op_neD hu64) (pe_lst (pa_cons (pe_c (ok_none T B Xx Xt) hr (by rfl) (pa_cons (pv 6) (pa_cons (pe_lst (pa_cons pe_str pa_nil)) (pa_cons pe_non pa_nil)))) (pa_cons (pe_c (ok_none T B Xx Xt) hr (by rfl) (pa_cons (pv 6) (pa_cons (pv 5) (pa_cons (pe_tup (pa_cons pe_int (pa_cons pe_int pa_nil))) pa_nil)))) pa_nil)))
        (pe_lst (pa_cons (pe_tup (pa_cons pe_str (pa_cons pe_int (pa_cons pe_bl pa_nil)))) (pa_cons (pe_tup (pa_cons pe_str (pa_cons (pe_tup (pa_cons pe_int (pa_cons pe_int pa_nil))) (pa_cons pe_bl pa_nil)))) pa_nil))) rfl) (pss_one (ps_ret pe_bl)) pss_nil)
    (pss_cons (ps_set (i := 15) sc_law.nd rfl (Or.inl rfl) (pe_c (ok_most_rounds T B Xx) hr (by rfl) (pa_cons (pv 6) (pa_cons (pv 5) (pa_cons (pv 9) pa_nil)))))
    (pss_cons (ps_if (PW.pt (pw_or (pt_cmpR op_ne (pe_callB (cr_repr hg hu64) (by rfl) T.n_repr (by decide +kernel) (pa_cons (pv 15) pa_nil)) (pe_callB (cr_repr hg hu64) (by rfl) T.n_repr (by decide +kernel) (pa_cons (pe_dget hu1 (pv 8) (pv 9) (fun _ _ => rfl)) pa_nil)) rfl)
        (pw_or1 (pt_cmpR op_ne (pe_callB (cr_repr hg hu64) (by rfl) T.n_repr (by decide +kernel) (pa_cons (pe_mc0 (ok_more_rounds T B) T.cl_Keeper T.me_more_rounds hr (pv 12)) pa_nil)) (pe_callB (cr_repr hg hu64) (by rfl) T.n_repr (by decide +kernel) (pa_cons (pv 15) pa_nil)) rfl)))) (pss_one (ps_ret pe_bl)) pss_nil)
    (C8.pss_cut (ps_par (i := 16) (j := 17) rfl sc_law.nd rfl rfl (by decide) rfl rfl (pa_cons (pv 15) (pa_cons (pe_tup (pa_cons (pv 10) (pa_cons pe_str (pa_cons pe_int pa_nil)))) pa_nil)) (by rfl)) hu))), fun D σ H hA k => ?_⟩
  obtain ⟨b, t, la, d, pa, ra, pr, ot, hd, kp, bs, nw, C, p, o, x27, Hb, rfl, hF, hL, hI, hpr, hot, hp, ho, hnw⟩ := hA
  have n2 := hF.ok.n2
  have n5 := hF.ok.n5
  have hnd := pairs_nodup n2 n5
  have fit0 : BK.Fit C (some p, [], 0) := ⟨BK.nil_hear C, fun p' e => by cases e; exact hp⟩
  have fm := fine_mv (more_fine hF fit0)
  have hla := hL.ll.ext hI.ext
  -- what is no family, no pair
  have ez : (("z" : Str)) = S [122] := by decide +kernel
  refine ⟨_, rfl, by show 1 ≤ sizeLine; decide, fun z nz => ?_⟩
  have sm1 : Same H (upd H z (.lst [V.str "z"])) := same_new nz
  have hz : upd H z (.lst [V.str "z"]) z = some (.lst (Txts [[122]])) := by
    rw [upd_same, ez]
    rfl
  generalize upd H z (.lst [V.str "z"]) = H1 at sm1 hz
  have I1 := hI.sm sm1
  refine ⟨d, z, .non, C, rfl, I1.kk.dev, I1.tabs, .inr ⟨[[122]], [122], .inl hz, rfl, fun q => ?_, by decide, fun r hr => by rw [List.mem_singleton.mp hr]; decide, fun t1 H2 eX2 ht1 => ?_⟩⟩
  · have : (122 : Nat) ∈ C.sig.filter fun c => [122].contains c := by rw [← q]; exact List.mem_cons_self
    have := BK.mem_sig (List.mem_filter.mp this).1
    omega
  have I2 := I1.ex eX2
  refine ⟨_, rfl, _, rfl, by show 2 ≤ sizeLine; decide, fun q nq => ?_⟩
  have sm3 : Same H2 (upd H2 q (.tup [V.int 1, V.int 0])) := same_new nq
  have hq : upd H2 q (.tup [V.int 1, V.int 0]) q = some (.tup [V.int 1, V.int 0]) := upd_same
  generalize upd H2 q (.tup [V.int 1, V.int 0]) = H3 at sm3 hq
  have I3 := I2.sm sm3
  refine ⟨d, la, .ref q, C, rfl, I3.kk.dev, I3.tabs, .inl ⟨hF, .inl (hL.ll.ext I3.ext), q, (1, 0), rfl, hq, fun z => absurd z.1 (by decide), fun t2 H4 eX4 ht2 => ?_⟩⟩
  have I4 := I3.ex eX4
  have eX34 := eX4.ext
  have ht1 := eX34 _ _ (sm3 _ _ ht1) (fun ps z => by cases z)
  have hq := eX34 _ _ hq (fun ps z => by cases z)
  refine ⟨by show 2 ≤ sizeLine; decide, fun l1 nl1 => ?_⟩
  have sm5 : Same H4 (upd H4 l1 (.lst [V.ref t1, V.ref t2])) := same_new nl1
  have hl1 : upd H4 l1 (.lst [V.ref t1, V.ref t2]) l1 = some (.lst [V.ref t1, V.ref t2]) := upd_same
  generalize upd H4 l1 (.lst [V.ref t1, V.ref t2]) = H5 at sm5 hl1
  refine ⟨by show 3 ≤ sizeLine; decide, fun t3 nt3 => ⟨by show 2 ≤ sizeLine; decide, fun q2 nq2 => ⟨by show 3 ≤ sizeLine; decide, fun t4 nt4 => ⟨by show 2 ≤ sizeLine; decide, fun l2 nl2 => ?_⟩⟩⟩⟩
  have sm6 : Same H5 (upd H5 t3 (.tup [V.str "family", V.int 0, V.bl true])) := same_new nt3
  have ht3 : upd H5 t3 (.tup [V.str "family", V.int 0, V.bl true]) t3 = some (.tup [V.str "family", V.int 0, V.bl true]) := upd_same
  generalize upd H5 t3 (.tup [V.str "family", V.int 0, V.bl true]) = H6 at sm6 ht3 nq2 nt4 nl2 ⊢
  have sm7 : Same H6 (upd H6 q2 (.tup [V.int 1, V.int 0])) := same_new nq2
  have hq2 : upd H6 q2 (.tup [V.int 1, V.int 0]) q2 = some (.tup [V.int 1, V.int 0]) := upd_same
  generalize upd H6 q2 (.tup [V.int 1, V.int 0]) = H7 at sm7 hq2 nt4 nl2 ⊢
  have sm8 : Same H7 (upd H7 t4 (.tup [V.str "pair", V.ref q2, V.bl true])) := same_new nt4
  have ht4 : upd H7 t4 (.tup [V.str "pair", V.ref q2, V.bl true]) t4 = some (.tup [V.str "pair", V.ref q2, V.bl true]) := upd_same
  generalize upd H7 t4 (.tup [V.str "pair", V.ref q2, V.bl true]) = H8 at sm8 ht4 nl2 ⊢
  have sm9 : Same H8 (upd H8 l2 (.lst [V.ref t3, V.ref t4])) := same_new nl2
  have hl2 : upd H8 l2 (.lst [V.ref t3, V.ref t4]) l2 = some (.lst [V.ref t3, V.ref t4]) := upd_same
  generalize upd H8 l2 (.lst [V.ref t3, V.ref t4]) = H9 at sm9 hl2
  have sm89 := sm9
  have sm79 := same_trans sm8 sm9
  have sm69 := same_trans sm7 sm79
  have sm59 := same_trans sm6 sm69
  have sm49 := same_trans sm5 sm59
  have two : ∀ {l u v q : Addr}, H9 l = some (.lst [V.ref u, V.ref v]) → H9 u = some (.tup [V.str "family", V.int 0, V.bl true]) → H9 v = some (.tup [V.str "pair", V.ref q, V.bl true]) → H9 q = some (.tup [V.int 1, V.int 0]) → Dp K H9 (.ref l) twoD := fun {l u v q} h1 h2 h3 h4 =>
    .lst (SqL.of h1) (.cons (.tup (SqT.of h2) (.cons (.str _) (.cons (.int _) (.cons (.bl _) .nil)))) (.cons (.tup (SqT.of h3) (.cons (.str _) (.cons (.tup (SqT.of h4) (.cons (.int _) (.cons (.int _) .nil))) (.cons (.bl _) .nil)))) .nil))
  refine ⟨twoD, twoD, two (sm59 _ _ hl1) (sm49 _ _ ht1) (sm49 _ _ ht2) (sm49 _ _ hq), two hl2 (sm69 _ _ ht3) (sm89 _ _ ht4) (sm79 _ _ hq2), by decide +kernel, by decide +kernel, _, rfl, iteF' (by decide +kernel) ?_⟩
  have I9 := I4.sm sm49
  have e09 : ExtN H H9 := (ext_same sm1).trans (eX2.ext.trans ((ext_same sm3).trans (eX34.trans (ext_same sm49))))
  -- the rounds at the start
  refine ⟨_, rfl, _, rfl, _, rfl, d, la, pr, p, C, rfl, I9.kk.dev, hF, .inl (hL.ll.ext I9.ext), hpr.same e09, hp, I9.tabs, fun H10 eX10 => ?_⟩
  have I10 := I9.ex eX10
  have e10 := e09.trans eX10.ext
  have hpr10 := hpr.same e10
  rw [rank_more hF hp 0]
  have hra := hL.rnk.ext I10.ext
  have grk : valV ((BK.pairs C.n).map fun p => (BW.kp p, rv (BK.rank C p))) (BW.kp p) = some (mv (BK.moreI C (some p, [], 0))) := by
    rw [← rank_more hF hp 0]
    exact tab_get hnd (fun p => rv (BK.rank C p)) hp
  obtain ⟨dx, la1, ra1, ap1, hk1, _⟩ := id I10.kk
  refine ⟨_, rfl, _, _, rfl, dp_mv _, fm, _, rfl, _, rfl, ra, _, rfl, grk ▸ DGet.t (k := BW.kp p) hra (pair_tup hpr10), _, _, rfl, dp_mv _, fm, rfl, _, rfl, iteF' (by simp) ?_⟩
  refine ⟨_, rfl, kp, dx, _, rfl, hk1, rfl, kp, d, C, _, rfl, I10.kk, hF, fit0, I10.tabs, fun H11 eX11 => ?_⟩
  have I11 := I10.ex eX11
  have e11 := e10.trans eX11.ext
  refine ⟨_, _, rfl, dp_mv _, fm, _, rfl, _, _, rfl, dp_mv _, fm, rfl, _, rfl, iteF' (by simp) ?_⟩
  refine ⟨PA5 K sa ns, ?_, fun σ' H' h => k σ' H' h⟩
  refine ⟨_, rfl, _, rfl, by show 3 ≤ sizeLine; decide, fun sd nsd => ⟨_, _, rfl, ?_⟩⟩
  have sm12 : Same H11 (upd H11 sd (.tup [V.ref ot, V.str "", V.int 0])) := same_new nsd
  have hsd : upd H11 sd (.tup [V.ref ot, V.str "", V.int 0]) sd = some (.tup [V.ref ot, V.str "", V.int 0]) := upd_same
  generalize upd H11 sd (.tup [V.ref ot, V.str "", V.int 0]) = H12 at sm12 hsd
  have e12 := e11.trans (ext_same sm12)
  exact ⟨b, t, la, d, pa, ra, pr, ot, hd, kp, bs, nw, sd, C, p, o, x27, _, Hb, rfl, hF, hL, I11.sm sm12, hp, ho, hnw.ext e12, ⟨_, hsd, ot, rfl, hot.same e12⟩⟩
end
end BW

set_option Elab.async false
set_option linter.all false
set_option maxRecDepth 100000
set_option maxHeartbeats 1000000
/-! law: the loop, its first part -/
namespace BW
open PySem PySem.Spec PyProof.Rows L2 SX
open LamX (Tabs ExtN CodeO)
abbrev sgm (sa b t n sig la d pa ra pr ot hd kp bs nw tp bf sd : V) (x18 x19 x20 x21 x22 x23 x24 x25 x26 x27 x28 : Option V) : L2.St :=
  [some sa, some b, some t, some n, some sig, some la, some d, some pa, some ra, some pr, some ot, some hd, some kp, some bs, some nw, some tp, some bf, some sd, x18, x19, x20, x21, x22, x23, x24, x25, x26, x27, x28]
/-- what holds in the loop -/
structure LC (K : PySem.W.Frag) (sa : Addr) (ns : List Int) (i : Nat) (H : Hp) (C : BK.Cfg) (b t la d pa ra kp bs nw sd : Addr) (bo : Option Int) (st sb : BK.Now) (Hb : Hp) : Prop where
  fam : Fam C
  lb : LB K Hb C sa ns t la d pa ra
  li : LI K Hb H C d b kp bs st sb
  now : NowT H nw st
  side : NowT H sd sb
  fit : BK.Fit C st
  fitb : BK.Fit C sb
  cs : st.2.2 ≤ 50 * i
  cb : sb.2.2 ≤ 50 * i
  bef : ∀ m, bo = some m → ∀ p, st.1 = some p → ∃ m', BK.moreI C st = some m' ∧ m' ≤ m
section
variable {K : PySem.W.Frag} {sa : Addr} {ns : List Int} {i : Nat} {H H' : Hp} {C : BK.Cfg} {b t la d pa ra kp bs nw sd : Addr} {bo : Option Int} {st sb : BK.Now} {Hb : Hp}
theorem LC.ex (z : LC K sa ns i H C b t la d pa ra kp bs nw sd bo st sb Hb) (e : Ex (T3 K) H H') : LC K sa ns i H' C b t la d pa ra kp bs nw sd bo st sb Hb := ⟨z.fam, z.lb, z.li.ex e, z.now.ext e.ext, z.side.ext e.ext, z.fit, z.fitb, z.cs, z.cb, z.bef⟩
theorem LC.sm (z : LC K sa ns i H C b t la d pa ra kp bs nw sd bo st sb Hb) (e : Same H H') : LC K sa ns i H' C b t la d pa ra kp bs nw sd bo st sb Hb := z.ex (Ex.same z.li.tabs e)
theorem LC.bx (z : LC K sa ns i H C b t la d pa ra kp bs nw sd bo st sb Hb) (bt : But b H H') (hb : BoxL H' b) : LC K sa ns i H' C b t la d pa ra kp bs nw sd bo st sb Hb := ⟨z.fam, z.lb, z.li.bx bt hb, z.now.kt (z.li.ktb bt), z.side.kt (z.li.ktb bt), z.fit, z.fitb, z.cs, z.cb, z.bef⟩
end
def pdT : Option (List Nat) → PyData
  | none => .none
  | some r => .str (S r)
theorem dp_told {K : PySem.W.Frag} {H : Hp} : ∀ o : Option (List Nat), Dp K H (toldV o) (pdT o)
  | none => .non
  | some r => .str _
/-- a told row -/
theorem told_row {C : BK.Cfg} (hF : Fam C) {st : BK.Now} (hf : BK.Fit C st) {r : List Nat} (h : BK.toldI C st = some r) : (∀ c ∈ r, c ∈ C.sig) ∧ r.length ≤ 40 := by
  obtain ⟨o, hh, c⟩ := st
  cases o with
  | none => cases h
  | some p =>
    obtain ⟨q, l, _, hl, _⟩ := BK.told_leads hF.ok (BK.mem_nodes.mpr ⟨hf.2 p rfl, hf.1⟩) h
    exact ⟨BK.leads_sig l, hl⟩
theorem sig_small {C : BK.Cfg} {r : List Nat} (h : ∀ c ∈ r, c ∈ C.sig) : ∀ c ∈ r, c < 128 := fun c hc => by
  have := BK.mem_sig (h c hc)
  omega
theorem fine_told {C : BK.Cfg} (hF : Fam C) {st : BK.Now} (hf : BK.Fit C st) : Fine (pdT (BK.toldI C st)) := by
  cases h : BK.toldI C st with
  | none => exact fine_none
  | some r =>
    obtain ⟨h1, h2⟩ := told_row hF hf h
    exact fine_str (sig_small h1) (by omega)
def forBody : Stmt → List Stmt
  | .For _ _ b _ _ => b
  | _ => []
abbrev loopB : List Stmt := forBody (stAt lawB 17)
abbrev loopL (i n : Nat) : List Stmt := (loopB.drop i).take n
section
variable {P : Program} {w : World} {K : PySem.W.Frag} {mg : PySem.Str → Option Value} {base : Heap} {cdv : Value} {A : Around} {outer : List Env} {s0 : Shared} {H0 : Hp} {E0' : XK}
/-- a piece of the loop's body, at any turn -/
def PieceN (X : Cx) (l : List Stmt) (Pa Pb : Nat → L2.St → Hp → Prop) : Prop := ∀ (rest : List Stmt) (u : TS), PSs X rest u → ∃ t, PSs X (l ++ rest) t ∧ ∀ (i : Nat), i ≤ 8 → ∀ (D : Ends) (σ : L2.St) (H : Hp), Pa i σ H → (∀ σ' H', Pb i σ' H' → u D σ' H') → t D σ H
theorem PieceN.app {X : Cx} {l m : List Stmt} {A B C : Nat → L2.St → Hp → Prop} (h1 : PieceN X l A B) (h2 : PieceN X m B C) : PieceN X (l ++ m) A C := fun rest u hu => by
  obtain ⟨t2, p2, q2⟩ := h2 rest u hu
  obtain ⟨t1, p1, q1⟩ := h1 (m ++ rest) t2 p2
  refine ⟨t1, by rw [List.append_assoc]; exact p1, fun i hi D σ H a k => q1 i hi D σ H a fun σ' H' b => q2 i hi D σ' H' b k⟩
/-- at a turn's start -/
def PL (K : PySem.W.Frag) (sa : Addr) (ns : List Int) (i : Nat) (x18 : Option V) : L2.St → Hp → Prop := fun σ H => ∃ (b t la d pa ra pr ot hd kp bs nw sd : Addr) (C : BK.Cfg) (tp : V) (bo : Option Int) (st sb : BK.Now) (Hb : Hp) (x19 x20 x21 x22 x23 x24 x25 x26 x27 x28 : Option V),
  σ = sgm (.ref sa) (.ref b) (.ref t) (.int C.n) (.str (S C.sig)) (.ref la) (.ref d) (.ref pa) (.ref ra) (.ref pr) (.ref ot) (.ref hd) (.ref kp) (.ref bs) (.ref nw) tp (mv bo) (.ref sd) x18 x19 x20 x21 x22 x23 x24 x25 x26 x27 x28 ∧ LC K sa ns i H C b t la d pa ra kp bs nw sd bo st sb Hb
/-- behind the checks -/
def PM1 (K : PySem.W.Frag) (sa : Addr) (ns : List Int) (i : Nat) : L2.St → Hp → Prop := fun σ H => ∃ (b t la d pa ra pr ot hd kp bs nw sd : Addr) (C : BK.Cfg) (tp : V) (bo : Option Int) (st sb : BK.Now) (Hb : Hp) (x21 x22 x23 x24 x25 x26 x27 x28 : Option V),
  σ = sgm (.ref sa) (.ref b) (.ref t) (.int C.n) (.str (S C.sig)) (.ref la) (.ref d) (.ref pa) (.ref ra) (.ref pr) (.ref ot) (.ref hd) (.ref kp) (.ref bs) (.ref nw) tp (mv bo) (.ref sd) (some (.int (i : Int))) (some (mv (BK.moreI C st))) (some (toldV (BK.toldI C st))) x21 x22 x23 x24 x25 x26 x27 x28 ∧ LC K sa ns i H C b t la d pa ra kp bs nw sd bo st sb Hb
theorem piece_f1 (T : Tx K mg) (B : Tb K mg base) (hr : RL K cdv A s0) (hg : A.guards = some []) {sa : Addr} {ns : List Int} : PieceN (XL P w K mg base cdv A outer s0 H0 E0') (loopL 0 3) (fun i => PL K sa ns i (some (.int (i : Int)))) (PM1 K sa ns) := fun rest u hu => by
  have hu0 := hr.units
  have hu1 : (A.deeper (envOfC "law" (defScope (top 65)) s0.heap.objs.size (He.ga K "law") cdv)).units + 1 < cLine := by omega
  have hu64 : (A.deeper (envOfC "law" (defScope (top 65)) s0.heap.objs.size (He.ga K "law") cdv)).units + 64 < cLine := by have := hr.un; omega
  refine ⟨_, pss_cons (ps_asg (pe_c (ok_due T B) hr (by rfl) (pa_cons (pv 2) (pa_cons (pv 5) (pa_cons (pv 8) (pa_cons (pv 14) pa_nil))))) (pg_tup rfl (pgs_cons (pg_name (i := 19) sc_law.nd rfl (Or.inl rfl)) (pgs_cons (pg_name (i := 20) sc_law.nd rfl (Or.inl rfl)) pgs_nil))))
    (pss_cons (ps_if (PW.pt (pw_or (pt_cmpR op_ne (pe_callB (cr_repr hg hu64) (by rfl) T.n_repr (by decide +kernel) (pa_cons (pe_mc0 (ok_more_rounds T B) T.cl_Keeper T.me_more_rounds hr (pv 12)) pa_nil)) (pe_callB (cr_repr hg hu64) (by rfl) T.n_repr (by decide +kernel) (pa_cons (pv 19) pa_nil)) rfl)
        (pw_or1 (pt_cmpR op_ne (pe_callB (cr_repr hg hu64) (by rfl) T.n_repr (by decide +kernel) (pa_cons (pe_mc0 (ok_next_row T B) T.cl_Keeper T.me_next_row hr (pv 12)) pa_nil)) (pe_callB (cr_repr hg hu64) (by rfl) T.n_repr (by decide +kernel) (pa_cons (pv 20) pa_nil)) rfl)))) (pss_one (ps_ret pe_bl)) pss_nil)
    (C8.pss_cut (ps_if (PW.pt (pw_or (PW.pt (pw_and (pt_cmp (pc_isN (pv 19))) (pw_and1 (pt_cmp (pc_notN (pv 16)))))) (pw_or1 (PW.pt (pw_and (pt_cmp (pc_notN (pv 19))) (pw_and (pt_cmp (pc_notN (pv 16))) (pw_and (pt_cmp (pc_notN (pe_ix ix_tup (pv 14) pe_int (fun _ _ => rfl)))) (pw_and1 (pt_cmpR op_gt (pv 19) (pv 16) (nomark _))))))))))
        (pss_one (ps_ret pe_bl)) pss_nil) hu)), fun i hi8 D σ H hA k => ?_⟩
  obtain ⟨b, t, la, d, pa, ra, pr, ot, hd, kp, bs, nw, sd, C, tp, bo, st, sb, Hb, x19, x20, x21, x22, x23, x24, x25, x26, x27, x28, rfl, hI⟩ := hA
  have hF := hI.fam
  have fm := fine_mv (more_fine hF hI.fit)
  have ft := fine_told hF hI.fit
  refine ⟨_, rfl, _, rfl, _, rfl, _, rfl, t, la, ra, nw, C, st, rfl, hI.lb.tl.ext hI.li.ext, hI.lb.ll.ext hI.li.ext, hI.lb.rnk.ext hI.li.ext, hI.now, hF, hI.fit, hI.li.tabs, fun a H1 eX1 hD => ?_⟩
  have I1 := hI.ex eX1
  refine ⟨a, _, rfl, SqT.of hD, rfl, _, _, rfl, _, _, rfl, rfl, ?_⟩
  obtain ⟨dx1, _, _, _, hk1, _⟩ := id I1.li.kk
  refine ⟨_, rfl, kp, dx1, _, rfl, hk1, rfl, kp, d, C, st, rfl, I1.li.kk, hF, hI.fit, I1.li.tabs, fun H2 eX2 => ?_⟩
  have I2 := I1.ex eX2
  refine ⟨_, _, rfl, dp_mv _, fm, _, rfl, _, _, rfl, dp_mv _, fm, rfl, _, rfl, iteF' (by simp) ?_⟩
  obtain ⟨dx2, _, _, _, hk2, _⟩ := id I2.li.kk
  refine ⟨_, rfl, kp, dx2, _, rfl, hk2, rfl, kp, d, C, st, rfl, I2.li.kk, hF, hI.fit, I2.li.tabs, fun H3 eX3 => ?_⟩
  have I3 := I2.ex eX3
  refine ⟨_, _, rfl, dp_told _, ft, _, rfl, _, _, rfl, dp_told _, ft, rfl, _, rfl, iteF' (by simp) ?_⟩
  refine ⟨PM1 K sa ns i, ?_, fun σ' H' h => k σ' H' h⟩
  have done : PM1 K sa ns i (sgm (.ref sa) (.ref b) (.ref t) (.int C.n) (.str (S C.sig)) (.ref la) (.ref d) (.ref pa) (.ref ra) (.ref pr) (.ref ot) (.ref hd) (.ref kp) (.ref bs) (.ref nw) tp (mv bo) (.ref sd) (some (.int (i : Int))) (some (mv (BK.moreI C st))) (some (toldV (BK.toldI C st))) x21 x22 x23 x24 x25 x26 x27 x28) H3 :=
    ⟨b, t, la, d, pa, ra, pr, ot, hd, kp, bs, nw, sd, C, tp, bo, st, sb, Hb, x21, x22, x23, x24, x25, x26, x27, x28, rfl, I3⟩
  obtain ⟨apn, hnow, hapn⟩ := id I3.now
  cases hm : BK.moreI C st with
  | none =>
    have hbo : bo = none := by
      cases bo with
      | none => rfl
      | some m =>
        obtain ⟨o, hh, c⟩ := st
        cases o with
        | none => cases hm
        | some p =>
          obtain ⟨m', q, _⟩ := hI.bef m rfl p rfl
          rw [hm] at q
          cases q
    subst hbo
    rw [hm] at done
    exact ⟨_, rfl, _, rfl, iteT' rfl ⟨_, rfl, _, rfl, iteF' rfl ⟨_, rfl, _, rfl, iteF' rfl (iteF' rfl done)⟩⟩⟩
  | some j =>
    rw [hm] at done
    refine ⟨_, rfl, _, rfl, iteF' rfl (iteF' rfl ⟨_, rfl, _, rfl, iteT' rfl ⟨_, rfl, _, rfl, ?_⟩⟩)⟩
    cases bo with
    | none => exact iteF' rfl (iteF' rfl done)
    | some m =>
      refine iteT' rfl ⟨_, rfl, nw, _, _, _, rfl, rfl, SqT.of hnow, atI_nat (j := 0) rfl, _, rfl, ?_⟩
      cases ho : st.1 with
      | none =>
        rw [ho] at hapn
        have hapn : apn = .non := hapn
        subst hapn
        exact iteF' rfl (iteF' rfl done)
      | some p =>
        rw [ho] at hapn
        obtain ⟨q, rfl, _⟩ := hapn
        obtain ⟨m', q1, q2⟩ := hI.bef m rfl p ho
        rw [hm] at q1
        cases q1
        refine iteT' rfl ⟨_, rfl, _, rfl, _, _, rfl, rfl, _, rfl, ?_⟩
        have hle : decide (j > m) = false := decide_eq_false (by omega)
        rw [hle]
        exact iteF' rfl done
end
end BW

set_option Elab.async false
set_option linter.all false
set_option maxRecDepth 100000
set_option maxHeartbeats 1000000
/-! law: the loop, the row -/
namespace BW
open PySem PySem.Spec PyProof.Rows L2 SX
open LamX (Tabs ExtN CodeO)
section
variable {P : Program} {w : World} {K : PySem.W.Frag} {mg : PySem.Str → Option Value} {base : Heap} {cdv : Value} {A : Around} {outer : List Env} {s0 : Shared} {H0 : Hp} {E0' : XK}
/-- the row is there -/
def PM2 (K : PySem.W.Frag) (sa : Addr) (ns : List Int) (i : Nat) : L2.St → Hp → Prop := fun σ H => ∃ (b t la d pa ra pr ot hd kp bs nw sd : Addr) (C : BK.Cfg) (tp : V) (bo : Option Int) (st sb : BK.Now) (Hb : Hp) (dd : Nat) (r : List Nat) (x20 x23 x24 x25 x26 x27 x28 : Option V),
  σ = sgm (.ref sa) (.ref b) (.ref t) (.int C.n) (.str (S C.sig)) (.ref la) (.ref d) (.ref pa) (.ref ra) (.ref pr) (.ref ot) (.ref hd) (.ref kp) (.ref bs) (.ref nw) tp (mv bo) (.ref sd) (some (.int (i : Int))) (some (mv (BK.moreI C st))) x20 (some (.int (dd : Int))) (some (.str (S r))) x23 x24 x25 x26 x27 x28 ∧
  LC K sa ns i H C b t la d pa ra kp bs nw sd bo st sb Hb ∧ (∀ c ∈ r, c ∈ C.sig) ∧ r.length ≤ 40
theorem sig_pos {C : BK.Cfg} (ok : C.Ok) : 0 < C.sig.length := by
  rcases BK.sig_cases ok with ⟨_, e⟩ | ⟨_, e⟩ | ⟨_, e⟩ <;> rw [e] <;> decide
theorem at_mod {C : BK.Cfg} (ok : C.Ok) (x : Int) : ∃ c, atI (S C.sig).cps.toList (x % (C.sig.length : Int)) = some c ∧ c ∈ C.sig := by
  obtain ⟨m, e, hm⟩ := mod_nat x (sig_pos ok)
  rw [e]
  exact ⟨C.sig[m], atI_nat (List.getElem?_eq_getElem hm), List.getElem_mem hm⟩
theorem S_cons (c : Nat) (r : List Nat) : (⟨#[c]⟩ : Str) ++ S r = S (c :: r) := S_cat [c] r
theorem piece_f2 (T : Tx K mg) (hr : RL K cdv A s0) {sa : Addr} {ns : List Int} : PieceN (XL P w K mg base cdv A outer s0 H0 E0') (loopL 3 4) (PM1 K sa ns) (PM2 K sa ns) := fun rest u hu => by
  refine ⟨_, pss_cons (ps_set (i := 21) sc_law.nd rfl (Or.inl rfl) (pe_c (ok_take T) hr (by rfl) (pa_cons (pv 1) (pa_cons pe_int pa_nil))))
    (pss_cons (ps_set (i := 22) sc_law.nd rfl (Or.inl rfl) (pe_join pe_str (pe_lc (own := [("_law_k", 28)]) (g := gName 28) (by rfl) sc_law.nd (pi_range1 (by rfl) T.n_range (pa_cons (pe_c (ok_pick T) hr (by rfl) (pa_cons (pv 1) (pa_cons (pe_lst (pa_cons pe_int (pa_cons pe_int (pa_cons pe_int (pa_cons pe_int (pa_cons pe_int pa_nil)))))) pa_nil))) pa_nil)) (blkOk_by (N := NLW) (sc := defScope (top 65)) (by decide +kernel)) (fun _ _ _ _ _ => pg_name (i := 28) sc_law.nd rfl (Or.inl rfl)) (fun _ _ _ _ _ => pts_nil)
        (fun _ _ _ _ _ => pe_c (ok_pick T) hr (by rfl) (pa_cons (pv 1) (pa_cons (pv 4) pa_nil))))))
    (C8.pss_cut (ps_if (pt_cmpR op_lt (pe_op op_add pe_int (pv 18)) (pe_callB call_len (by rfl) T.n_len boot_len (pa_cons (pv 0) pa_nil)) (nomark _))
        (pss_one (ps_set (i := 22) sc_law.nd rfl (Or.inl rfl) (pe_op op_add_str (pe_ix ix_str (pv 4) (pe_op op_mod (pe_callTy call_int1 (by rfl) T.n_int (by decide +kernel) (pa_cons (pe_callB call_abs (by rfl) T.n_abs (by decide +kernel) (pa_cons (pe_callTy call_int1 (by rfl) T.n_int (by decide +kernel) (pa_cons (pe_ix ix_list (pv 0) (pe_op op_add pe_int (pv 18)) (fun _ _ => rfl)) pa_nil)) pa_nil)) pa_nil)) (pe_callB call_len (by rfl) T.n_len boot_len (pa_cons (pv 4) pa_nil))) (fun _ _ => rfl)) (pv 22)))) pss_nil)
    (C8.pss_cut (ps_set (i := 22) sc_law.nd rfl (Or.inl rfl) (pe_ifExp (PW.pt (pw_and (pt_cmpR op_gt (pv 21) pe_int (nomark _)) (pw_and1 (pt_cmp (pc_notN (pv 20)))))) (pv 20) (pv 22))) hu))), fun i hi8 D σ H hA k => ?_⟩
  obtain ⟨b, t, la, d, pa, ra, pr, ot, hd, kp, bs, nw, sd, C, tp, bo, st, sb, Hb, x21, x22, x23, x24, x25, x26, x27, x28, rfl, hI⟩ := hA
  have hF := hI.fam
  have hsp := sig_pos hF.ok
  have hs5 := sig_len C
  refine ⟨_, rfl, b, 4, rfl, hI.li.box, by decide, by decide, fun dd H1 bt1 hb1 hdd => ?_⟩
  have I1 := hI.bx bt1 hb1
  -- the letters drawn
  refine ⟨⟨_, rfl⟩, _, rfl, by show 5 ≤ sizeLine; decide, fun z nz => ?_⟩
  have smz : Same H1 (upd H1 z (.lst [.int 1, .int 1, .int 2, .int 0, .int 3])) := same_new nz
  have hz : upd H1 z (.lst [.int 1, .int 1, .int 2, .int 0, .int 3]) z = some (.lst [.int 1, .int 1, .int 2, .int 0, .int 3]) := upd_same
  have nzb := box_ne hb1 nz
  generalize upd H1 z (.lst [.int 1, .int 1, .int 2, .int 0, .int 3]) = Hz at smz hz
  have Iz := I1.sm smz
  refine ⟨b, _, rfl, Iz.li.box, .inl ⟨z, _, rfl, nzb, hz, by show 0 < 5; decide, by show 5 < 1000; decide, fun x H2 hx bt2 hb2 => ?_⟩⟩
  have hx' : ∃ n : Nat, x = .int (n : Int) ∧ n ≤ 3 := by
    rcases List.mem_cons.mp hx with e | hx
    · exact ⟨1, e, by omega⟩
    rcases List.mem_cons.mp hx with e | hx
    · exact ⟨1, e, by omega⟩
    rcases List.mem_cons.mp hx with e | hx
    · exact ⟨2, e, by omega⟩
    rcases List.mem_cons.mp hx with e | hx
    · exact ⟨0, e, by omega⟩
    · exact ⟨3, List.mem_singleton.mp hx, by omega⟩
  obtain ⟨n, rfl, hn3⟩ := hx'
  have I2 := Iz.bx bt2 hb2
  refine ⟨n, rfl, by omega, by omega, fun D2 nD => ?_⟩
  have hDb := box_ne hb2 nD
  refine lc_it (n := (n : Int).toNat) (walk_range (lo := 0)) (fun j H' => But b H2 H' ∧ BoxL H' b ∧ ∃ cs : List Nat, H' D2 = some (.lst (cs.map fun c => V.str (S [c]))) ∧ cs.length = j ∧ ∀ c ∈ cs, c ∈ C.sig) ⟨But.of (same_new nD), hb2.ext (ext_same (same_new nD)), [], by rw [upd_same]; rfl, rfl, by simp⟩ (fun _ _ _ _ => trivial) ?_ ?_
  · rintro j v H3 H4 hj ⟨bt3, hb3, cs, hD, hcl, hcs⟩ ⟨rfl, rfl⟩
    have hj : j < n := by simpa using hj
    refine ⟨rfl, tYes_in ?_⟩
    refine ⟨_, rfl, _, rfl, b, _, rfl, hb3, .inr ⟨C.sig, rfl, hsp, by omega, fun c H5 hc bt5 hb5 => ?_⟩⟩
    refine ⟨_, bt5 _ _ hDb hD, by rw [List.length_map, sizeLine_eq]; omega, fun a o hab e => ?_, ?_, cs ++ [c], by rw [upd_same, List.map_append]; rfl, by rw [List.length_append, hcl]; rfl, fun c' hc' => ?_⟩
    · rw [upd_ne (ne_of_none e nD)]
      exact bt5 _ _ hab (bt3 _ _ hab e)
    · obtain ⟨x, y, h⟩ := hb5
      exact ⟨x, y, by rw [upd_ne (Ne.symm hDb)]; exact h⟩
    · rcases List.mem_append.mp hc' with h | h
      · exact hcs c' h
      · rw [List.mem_singleton.mp h]
        exact hc
  · rintro H3 ⟨bt3, hb3, cs, hD, hcl, hcs⟩
    have hcl : cs.length = n := by simpa using hcl
    have I3 := I2.bx bt3 hb3
    refine ⟨S [], D2, cs.map fun c => S [c], rfl, rfl, .inl (SqL.of (by rw [hD, List.map_map]; rfl)), ?_, ?_⟩
    · rw [sum_sings]
      show _ + _ * 0 ≤ 16777216
      omega
    rw [join_sings]
    -- the script's letter
    refine ⟨fun σ' H' => ∃ r : List Nat, σ' = sgm (.ref sa) (.ref b) (.ref t) (.int C.n) (.str (S C.sig)) (.ref la) (.ref d) (.ref pa) (.ref ra) (.ref pr) (.ref ot) (.ref hd) (.ref kp) (.ref bs) (.ref nw) tp (mv bo) (.ref sd) (some (.int (i : Int))) (some (mv (BK.moreI C st))) (some (toldV (BK.toldI C st))) (some (.int (dd : Int))) (some (.str (S r))) x23 x24 x25 x26 x27 x28 ∧ H' = H3 ∧ (∀ c ∈ r, c ∈ C.sig) ∧ r.length ≤ 40, ?_, ?_⟩
    · have hscr := (hI.lb.scr.ext I3.li.ext).scr
      have hl : (ns.map V.int).length = ns.length := List.length_map _
      refine ⟨_, rfl, _, _, rfl, rfl, _, rfl, _, _, rfl, .inl ⟨_, hscr, rfl⟩, _, _, rfl, rfl, _, rfl, ?_⟩
      rw [hl]
      by_cases h1 : 3 + i < ns.length
      · refine iteT' (by simp; omega) ?_
        have e3 : (3 : Int) + (i : Int) = ((3 + i : Nat) : Int) := by omega
        have hat : atI (ns.map V.int) ((3 : Int) + (i : Int)) = some (V.int ns[3 + i]) := by
          rw [e3]
          exact atI_nat (by rw [List.getElem?_map, List.getElem?_eq_getElem h1]; rfl)
        obtain ⟨c, hc1, hc2⟩ := at_mod hF.ok (if ns[3 + i] < 0 then -ns[3 + i] else ns[3 + i])
        refine ⟨_, rfl, _, rfl, _, rfl, _, _, rfl, rfl, sa, _, _, _, rfl, rfl, hscr, hat, .inl ⟨_, rfl, _, rfl, .inl ⟨_, rfl, _, rfl, _, C.sig.length, rfl, ⟨by show C.sig.length ≤ sizeLine; rw [sizeLine_eq]; omega, rfl⟩, _, _, rfl, rfl, (by omega), S C.sig, _, c, rfl, rfl, by show C.sig.length ≤ sizeLine; rw [sizeLine_eq]; omega, hc1, _, rfl, _, _, rfl, rfl, by show 1 + cs.length ≤ sizeLine; rw [sizeLine_eq]; omega, c :: cs, ?_, rfl, fun c' hc' => ?_, by rw [List.length_cons]; omega⟩⟩⟩
        · rw [S_cons]
          rfl
        · rcases List.mem_cons.mp hc' with e | h
          · rw [e]; exact hc2
          · exact hcs c' h
      · exact iteF' (by simp; omega) ⟨cs, rfl, rfl, hcs, by omega⟩
    · rintro σ' H' ⟨r, rfl, rfl, hr1, hr2⟩
      refine ⟨PM2 K sa ns i, ?_, fun σ' H' h => k σ' H' h⟩
      have fin : ∀ r' : List Nat, (∀ c ∈ r', c ∈ C.sig) → r'.length ≤ 40 → PM2 K sa ns i (sgm (.ref sa) (.ref b) (.ref t) (.int C.n) (.str (S C.sig)) (.ref la) (.ref d) (.ref pa) (.ref ra) (.ref pr) (.ref ot) (.ref hd) (.ref kp) (.ref bs) (.ref nw) tp (mv bo) (.ref sd) (some (.int (i : Int))) (some (mv (BK.moreI C st))) (some (toldV (BK.toldI C st))) (some (.int (dd : Int))) (some (.str (S r'))) x23 x24 x25 x26 x27 x28) H' := fun r' h1 h2 =>
        ⟨b, t, la, d, pa, ra, pr, ot, hd, kp, bs, nw, sd, C, tp, bo, st, sb, Hb, dd, r', _, x23, x24, x25, x26, x27, x28, rfl, I3, h1, h2⟩
      refine ⟨_, rfl, _, _, rfl, rfl, _, rfl, ?_⟩
      cases hgt : decide ((dd : Int) > 1) with
      | false => exact iteF' rfl (iteF' rfl ⟨_, rfl, fin r hr1 hr2⟩)
      | true =>
        refine iteT' rfl ⟨_, rfl, _, rfl, ?_⟩
        cases ht : BK.toldI C st with
        | none =>
          rw [ht] at fin
          exact iteF' rfl ⟨_, rfl, fin r hr1 hr2⟩
        | some r' =>
          rw [ht] at fin
          obtain ⟨q1, q2⟩ := told_row hF hI.fit ht
          exact iteT' rfl ⟨_, rfl, fin r' q1 q2⟩
end
end BW

set_option Elab.async false
set_option linter.all false
set_option maxRecDepth 100000
set_option maxHeartbeats 1000000
/-! law: the loop, a row refused -/
namespace BW
open PySem PySem.Spec PyProof.Rows L2 SX
open LamX (Tabs ExtN CodeO)
theorem cut_to (r : List Nat) (n : Nat) : cutS (S r) none (some (n : Int)) = S (r.take n) := (C8.cutS_slice _ _ _).trans (slice_to (Int.natCast_nonneg n))
theorem cut_from (r : List Nat) (n : Nat) : cutS (S r) (some (n : Int)) none = S (r.drop n) := (C8.cutS_slice _ _ _).trans (slice_from (Int.natCast_nonneg n))
/-- a standing, as data -/
def pdP : Option BK.Pair → PyData
  | none => .none
  | some p => .tuple [.int (p.1 : Int), .int (p.2 : Int)]
def pdN (st : BK.Now) : PyData := .tuple [pdP st.1, .str (S st.2.1), .int (st.2.2 : Int)]
theorem dp_now {K : PySem.W.Frag} {H : Hp} {t : Addr} {st : BK.Now} (z : NowT H t st) : Dp K H (.ref t) (pdN st) := by
  obtain ⟨ap, h1, h2⟩ := z
  refine .tup (SqT.of h1) (.cons ?_ (.cons (.str _) (.cons (.int _) .nil)))
  cases ho : st.1 with
  | none =>
    rw [ho] at h2
    have h2 : ap = .non := h2
    subst h2
    exact .non
  | some p =>
    rw [ho] at h2
    obtain ⟨q, rfl, hq⟩ := h2
    exact .tup (SqT.of hq) (.cons (.int _) (.cons (.int _) .nil))
theorem hear_fits {C : BK.Cfg} (hF : Fam C) {st : BK.Now} (hf : BK.Fit C st) : (∀ c ∈ st.2.1, c < 128) ∧ st.2.1.length ≤ 3 := by
  have h1 := hf.1
  unfold BK.Cfg.hearable at h1
  have key : ∀ k, k ≤ 3 → ∀ l ∈ BK.subs (BK.abc.take k), (∀ c ∈ l, c < 128) ∧ l.length ≤ 3 := by decide +kernel
  exact key C.tabs.length hF.ok.k3 _ h1
theorem fine_tup {ds : List PyData} (h : ∀ d ∈ ds, Fine d ∧ d.depth ≤ 7 ∧ d.bulk ≤ 5000) (hl : ds.length ≤ 10) : Fine (.tuple ds) := by
  have a1 : ∀ {l : List PyData}, (∀ d ∈ l, Fine d ∧ d.depth ≤ 7 ∧ d.bulk ≤ 5000) → PyData.showableAll l = true ∧ PyData.leavesShortAll 13 l = true ∧ PyData.hasDictAll l = false ∧ PyData.depthAll l ≤ 7 ∧ PyData.bulkAll l ≤ 5001 * l.length := by
    intro l
    induction l with
    | nil => exact fun _ => ⟨rfl, rfl, rfl, Nat.zero_le _, Nat.zero_le _⟩
    | cons x l ih =>
      intro hx
      obtain ⟨f, fd, fb⟩ := hx x List.mem_cons_self
      obtain ⟨i1, i2, i3, i4, i5⟩ := ih fun d hd => hx d (List.mem_cons_of_mem _ hd)
      refine ⟨?_, ?_, ?_, ?_, ?_⟩
      · show (x.showable && PyData.showableAll l) = true
        rw [f.sh, i1]; rfl
      · show (x.leavesShort 13 && PyData.leavesShortAll 13 l) = true
        rw [f.sl, i2]; rfl
      · show (x.hasDict || PyData.hasDictAll l) = false
        rw [f.nd, i3]; rfl
      · show max x.depth (PyData.depthAll l) ≤ 7
        exact Nat.max_le.mpr ⟨fd, i4⟩
      · show x.bulk + 1 + PyData.bulkAll l ≤ 5001 * (l.length + 1)
        omega
  obtain ⟨i1, i2, i3, i4, i5⟩ := a1 h
  refine ⟨i1, i2, i3, ?_, ?_⟩
  · show PyData.depthAll ds + 1 ≤ 8
    omega
  · show PyData.bulkAll ds ≤ 100000
    omega
theorem fine_now {C : BK.Cfg} (hF : Fam C) {st : BK.Now} (hf : BK.Fit C st) (hc : st.2.2 ≤ 10000) : Fine (pdN st) ∧ (pdN st).depth ≤ 3 ∧ (pdN st).bulk ≤ 100 := by
  obtain ⟨h1, h2⟩ := hear_fits hF hf
  have n5 := hF.ok.n5
  have fs : Fine (.str (S st.2.1)) := fine_str h1 (by omega)
  have fc : Fine (.int (st.2.2 : Int)) := fine_int (by omega) (by omega)
  have bs : (PyData.str (S st.2.1)).bulk ≤ 3 := by show (S st.2.1).cps.size ≤ 3; simp [S]; exact h2
  have fp : Fine (pdP st.1) ∧ (pdP st.1).depth ≤ 1 ∧ (pdP st.1).bulk ≤ 2 := by
    cases ho : st.1 with
    | none => exact ⟨fine_none, Nat.zero_le _, Nat.zero_le _⟩
    | some p =>
      obtain ⟨q1, q2⟩ := BK.mem_pairs.mp (hf.2 p ho)
      refine ⟨fine_tup (fun d hd => ?_) (by show 2 ≤ 10; decide), by show max 0 (max 0 0) + 1 ≤ 1; decide, by show 0 + 1 + (0 + 1 + 0) ≤ 2; decide⟩
      rcases List.mem_cons.mp hd with e | hd
      · rw [e]
        exact ⟨fine_int (by omega) (by omega), Nat.zero_le _, Nat.zero_le _⟩
      · rw [List.mem_singleton.mp hd]
        exact ⟨fine_int (by omega) (by omega), Nat.zero_le _, Nat.zero_le _⟩
  refine ⟨fine_tup (fun d hd => ?_) (by show 3 ≤ 10; decide), ?_, ?_⟩
  · rcases List.mem_cons.mp hd with e | hd
    · rw [e]
      exact ⟨fp.1, by omega, by omega⟩
    rcases List.mem_cons.mp hd with e | hd
    · rw [e]
      exact ⟨fs, Nat.zero_le _, by omega⟩
    · rw [List.mem_singleton.mp hd]
      exact ⟨fc, Nat.zero_le _, Nat.zero_le _⟩
  · show max (pdP st.1).depth (max 0 (max 0 0)) + 1 ≤ 3
    have := fp.2.1
    omega
  · show (pdP st.1).bulk + 1 + ((PyData.str (S st.2.1)).bulk + 1 + (0 + 1 + 0)) ≤ 100
    have := fp.2.2
    omega
section
variable {P : Program} {w : World} {K : PySem.W.Frag} {mg : PySem.Str → Option Value} {base : Heap} {cdv : Value} {A : Around} {outer : List Env} {s0 : Shared} {H0 : Hp} {E0' : XK}
theorem piece_f3 (T : Tx K mg) (Xx : Xs P K mg) (Xt : Xt K) (hr : RL K cdv A s0) (hg : A.guards = some []) {sa : Addr} {ns : List Int} : PieceN (XL P w K mg base cdv A outer s0 H0 E0') (loopL 7 1) (PM2 K sa ns) (PM2 K sa ns) := fun rest u hu => by
  have hu64 : (A.deeper (envOfC "law" (defScope (top 65)) s0.heap.objs.size (He.ga K "law") cdv)).units + 64 < cLine := by have := hr.un; omega
  refine ⟨_, C8.pss_cut (ps_if (pt_cmpR op_eq (pv 21) pe_int (nomark _))
      (pss_cons (ps_set (i := 23) sc_law.nd rfl (Or.inl rfl) (pe_c (ok_take T) hr (by rfl) (pa_cons (pv 1) (pa_cons (pe_op op_add (pe_callB call_len (by rfl) T.n_len boot_len (pa_cons (pv 22) pa_nil)) pe_int) pa_nil))))
      (pss_cons (ps_asg (pe_c (ok_pick T) hr (by rfl) (pa_cons (pv 1) (pa_cons (pe_lst (pa_cons (pe_tup (pa_cons (pe_op op_add_str (pe_slice sl_str (pv 22) po_none (po_some (pv 23))) pe_str) (pa_cons (pv 23) pa_nil)))
          (pa_cons (pe_tup (pa_cons (pe_op op_add_str (pe_op op_add_str (pe_slice sl_str (pv 22) po_none (po_some (pv 23))) pe_str) (pe_slice sl_str (pv 22) (po_some (pv 23)) po_none)) (pa_cons (pv 23) pa_nil)))
          (pa_cons (pe_tup (pa_cons pe_non (pa_cons (pe_op op_sub pe_int pe_int) pa_nil))) (pa_cons (pe_tup (pa_cons (pe_lst (pa_cons pe_str pa_nil)) (pa_cons (pe_op op_sub pe_int pe_int) pa_nil))) pa_nil))))) pa_nil)))
          (pg_tup rfl (pgs_cons (pg_name (i := 24) sc_law.nd rfl (Or.inl rfl)) (pgs_cons (pg_name (i := 25) sc_law.nd rfl (Or.inl rfl)) pgs_nil))))
      (pss_one (ps_if (PW.pt (pw_or (pt_cmpR op_ne (pe_callB (cr_repr hg hu64) (by rfl) T.n_repr (by decide +kernel) (pa_cons (pe_c (ok_refused T Xx Xt) hr (by rfl) (pa_cons (pv 12) (pa_cons (pv 24) pa_nil))) pa_nil)) (pe_callB (cr_repr hg hu64) (by rfl) T.n_repr (by decide +kernel) (pa_cons (pe_tup (pa_cons pe_str (pa_cons (pv 25) (pa_cons pe_bl pa_nil)))) pa_nil)) rfl)
          (pw_or1 (pt_cmpR op_ne (pe_callB (cr_repr hg hu64) (by rfl) T.n_repr (by decide +kernel) (pa_cons (pe_mc0 (ok_standing T) T.cl_Keeper T.me_standing hr (pv 12)) pa_nil)) (pe_callB (cr_repr hg hu64) (by rfl) T.n_repr (by decide +kernel) (pa_cons (pv 14) pa_nil)) rfl)))) (pss_one (ps_ret pe_bl)) pss_nil)))) pss_nil) hu, fun i hi8 D σ H hA k => ?_⟩
  obtain ⟨b, t, la, d, pa, ra, pr, ot, hd, kp, bs, nw, sd, C, tp, bo, st, sb, Hb, dd, r, x20, x23, x24, x25, x26, x27, x28, rfl, hI, hr1, hr2⟩ := hA
  have hF := hI.fam
  refine ⟨PM2 K sa ns i, ?_, fun σ' H' h => k σ' H' h⟩
  refine ⟨_, rfl, rfl, _, rfl, ?_⟩
  cases hd1 : decide (V.int (dd : Int) = V.int 1) with
  | false => exact iteF' rfl ⟨b, t, la, d, pa, ra, pr, ot, hd, kp, bs, nw, sd, C, tp, bo, st, sb, Hb, dd, r, x20, x23, x24, x25, x26, x27, x28, rfl, hI, hr1, hr2⟩
  | true =>
    refine iteT' rfl ?_
    have szr : r.length ≤ sizeLine := by rw [sizeLine_eq]; omega
    have eA : ("A" : Str) = S [65] := by decide +kernel
    have ez : ("z" : Str) = S [122] := by decide +kernel
    refine ⟨_, rfl, _, rfl, _, r.length, rfl, ⟨szr, rfl⟩, _, _, rfl, rfl, b, r.length + 1, by rw [Int.natCast_add]; rfl, hI.li.box, Nat.succ_pos _, by omega, fun at_ H1 bt1 hb1 hat => ?_⟩
    have I1 := hI.bx bt1 hb1
    have htl : (r.take at_).length = at_ := by rw [List.length_take]; omega
    have hdl : (r.drop at_).length = r.length - at_ := List.length_drop
    -- the four
    refine ⟨_, rfl, _, rfl, _, rfl, _, rfl, _, rfl, szr, ?_⟩
    rw [cut_to]
    refine ⟨_, _, rfl, rfl, by show (r.take at_).length + 1 ≤ sizeLine; rw [sizeLine_eq]; omega, _, rfl, by show 2 ≤ sizeLine; decide, fun t1 nt1 => ?_⟩
    have sm1 : Same H1 (upd H1 t1 (.tup [V.str (S (r.take at_) ++ "z"), V.int (at_ : Int)])) := same_new nt1
    have ht1 : upd H1 t1 (.tup [V.str (S (r.take at_) ++ "z"), V.int (at_ : Int)]) t1 = some (.tup [V.str (S (r.take at_) ++ "z"), V.int (at_ : Int)]) := upd_same
    generalize upd H1 t1 (.tup [V.str (S (r.take at_) ++ "z"), V.int (at_ : Int)]) = H2 at sm1 ht1
    refine ⟨_, rfl, _, rfl, _, rfl, _, rfl, szr, ?_⟩
    rw [cut_to]
    refine ⟨_, _, rfl, rfl, by show (r.take at_).length + 1 ≤ sizeLine; rw [sizeLine_eq]; omega, _, rfl, _, rfl, _, rfl, _, rfl, szr, ?_⟩
    rw [cut_from]
    refine ⟨_, _, rfl, rfl, by rw [eA, S_cat, S_len, S_len, List.length_append, sizeLine_eq]; show (r.take at_).length + 1 + _ ≤ _; omega, _, rfl, by show 2 ≤ sizeLine; decide, fun t2 nt2 => ?_⟩
    have sm2 : Same H2 (upd H2 t2 (.tup [V.str (S (r.take at_) ++ "A" ++ S (r.drop at_)), V.int (at_ : Int)])) := same_new nt2
    have ht2 : upd H2 t2 (.tup [V.str (S (r.take at_) ++ "A" ++ S (r.drop at_)), V.int (at_ : Int)]) t2 = some (.tup [V.str (S (r.take at_) ++ "A" ++ S (r.drop at_)), V.int (at_ : Int)]) := upd_same
    generalize upd H2 t2 (.tup [V.str (S (r.take at_) ++ "A" ++ S (r.drop at_)), V.int (at_ : Int)]) = H3 at sm2 ht2
    refine ⟨_, _, rfl, rfl, by show 2 ≤ sizeLine; decide, fun t3 nt3 => ?_⟩
    have sm3 : Same H3 (upd H3 t3 (.tup [V.non, V.int (0 - 1)])) := same_new nt3
    have ht3 : upd H3 t3 (.tup [V.non, V.int (0 - 1)]) t3 = some (.tup [V.non, V.int (0 - 1)]) := upd_same
    generalize upd H3 t3 (.tup [V.non, V.int (0 - 1)]) = H4 at sm3 ht3
    refine ⟨by show 1 ≤ sizeLine; decide, fun a4 na4 => ?_⟩
    have sm4 : Same H4 (upd H4 a4 (.lst [V.str "a"])) := same_new na4
    have ha4 : upd H4 a4 (.lst [V.str "a"]) a4 = some (.lst [V.str "a"]) := upd_same
    have hab : a4 ≠ b := box_ne (hb1.ext (ext_same (same_trans sm1 (same_trans sm2 sm3)))) na4
    generalize upd H4 a4 (.lst [V.str "a"]) = H5 at sm4 ha4
    refine ⟨_, _, rfl, rfl, by show 2 ≤ sizeLine; decide, fun t4 nt4 => ?_⟩
    have sm5 : Same H5 (upd H5 t4 (.tup [V.ref a4, V.int (0 - 1)])) := same_new nt4
    have ht4 : upd H5 t4 (.tup [V.ref a4, V.int (0 - 1)]) t4 = some (.tup [V.ref a4, V.int (0 - 1)]) := upd_same
    generalize upd H5 t4 (.tup [V.ref a4, V.int (0 - 1)]) = H6 at sm5 ht4
    refine ⟨by show 4 ≤ sizeLine; decide, fun l nl => ?_⟩
    have sm6 : Same H6 (upd H6 l (.lst [V.ref t1, V.ref t2, V.ref t3, V.ref t4])) := same_new nl
    have hl : upd H6 l (.lst [V.ref t1, V.ref t2, V.ref t3, V.ref t4]) l = some (.lst [V.ref t1, V.ref t2, V.ref t3, V.ref t4]) := upd_same
    have sm16 := same_trans sm1 (same_trans sm2 (same_trans sm3 (same_trans sm4 sm5)))
    have hlb : l ≠ b := box_ne (hb1.ext (ext_same sm16)) nl
    generalize upd H6 l (.lst [V.ref t1, V.ref t2, V.ref t3, V.ref t4]) = H7 at sm6 hl
    have sm57 := same_trans sm5 sm6
    have sm47 := same_trans sm4 sm57
    have sm37 := same_trans sm3 sm47
    have sm27 := same_trans sm2 sm37
    have I7 := I1.sm (same_trans sm1 sm27)
    refine ⟨b, _, rfl, I7.li.box, .inl ⟨l, _, rfl, hlb, hl, by show 0 < 4; decide, by show 4 < 1000; decide, fun x H8 hx bt8 hb8 => ?_⟩⟩
    have I8 := I7.bx bt8 hb8
    have kt8 := I7.li.ktb bt8
    have hx' : ∃ (tt : Addr) (bad : V) (pl : Int), x = .ref tt ∧ H8 tt = some (.tup [bad, .int pl]) ∧ BadAt H8 C bad pl ∧ -1 ≤ pl ∧ pl < 1000 := by
      have nz : (122 : Nat) ∉ C.sig := fun h => by have := BK.mem_sig h; omega
      have nA : (65 : Nat) ∉ C.sig := fun h => by have := BK.mem_sig h; omega
      have hta : ∀ c ∈ r.take at_, c ∈ C.sig := fun c hc => hr1 c (List.mem_of_mem_take hc)
      rcases List.mem_cons.mp hx with e | hx
      · refine ⟨t1, _, _, e, kt8 _ _ (sm27 _ _ ht1), .inl ⟨r.take at_, [], 122, by rw [ez, S_cat], hta, nz, by rw [List.length_append]; show _ + 1 ≤ 1000; omega, by rw [htl]⟩, by omega, by omega⟩
      rcases List.mem_cons.mp hx with e | hx
      · refine ⟨t2, _, _, e, kt8 _ _ (sm37 _ _ ht2), .inl ⟨r.take at_, r.drop at_, 65, by rw [eA, S_cat, S_cat, List.append_assoc]; rfl, hta, nA, by rw [List.length_append, List.length_cons]; omega, by rw [htl]⟩, by omega, by omega⟩
      rcases List.mem_cons.mp hx with e | hx
      · exact ⟨t3, _, _, e, kt8 _ _ (sm47 _ _ ht3), .inr ⟨.inl rfl, by decide⟩, by decide, by decide⟩
      · exact ⟨t4, _, _, List.mem_singleton.mp hx, kt8 _ _ (sm6 _ _ ht4), .inr ⟨.inr ⟨a4, _, rfl, bt8 _ _ hab (sm57 _ _ ha4)⟩, by decide⟩, by decide, by decide⟩
    obtain ⟨tt, bad, pl, rfl, htt, hbad, hp1, hp2⟩ := hx'
    refine ⟨tt, _, rfl, SqT.of htt, rfl, _, _, rfl, _, _, rfl, rfl, ?_⟩
    have fRow : Fine (.tuple [.str "row", .int pl, .bool true]) := fine_tup (fun d hd => by
      rcases List.mem_cons.mp hd with e | hd
      · rw [e]
        exact ⟨⟨rfl, by decide +kernel, rfl, Nat.zero_le _, by decide +kernel⟩, Nat.zero_le _, by decide +kernel⟩
      rcases List.mem_cons.mp hd with e | hd
      · rw [e]
        exact ⟨fine_int hp1 (by omega), Nat.zero_le _, Nat.zero_le _⟩
      · rw [List.mem_singleton.mp hd]
        exact ⟨fine_bool _, Nat.zero_le _, Nat.zero_le _⟩) (by show 3 ≤ 10; decide)
    have dRow : ∀ {Hx : Hp} {a : Addr}, Hx a = some (.tup [.str "row", .int pl, .bl true]) → Dp K Hx (.ref a) (.tuple [.str "row", .int pl, .bool true]) := fun {Hx a} h => .tup (SqT.of h) (.cons (.str _) (.cons (.int _) (.cons (.bl _) .nil)))
    refine ⟨_, rfl, _, rfl, kp, d, bad, C, st, pl, rfl, I8.li.kk, hF, hI.fit, hbad, fun t5 H9 sm9 ht5 => ⟨_, _, rfl, dRow ht5, fRow, _, rfl, by show 3 ≤ sizeLine; decide, fun t6 nt6 => ⟨_, _, rfl, dRow upd_same, fRow, rfl, _, rfl, iteF' (by simp) ?_⟩⟩⟩
    have sm10 : Same H9 (upd H9 t6 (.tup [V.str "row", V.int pl, V.bl true])) := same_new nt6
    generalize upd H9 t6 (.tup [V.str "row", V.int pl, V.bl true]) = H10 at sm10
    have I10 := I8.sm (same_trans sm9 sm10)
    obtain ⟨dx, _, _, _, hk, _⟩ := id I10.li.kk
    have fn := (fine_now hF hI.fit (by have := hI.cs; omega)).1
    refine ⟨_, rfl, kp, dx, _, rfl, hk, rfl, kp, d, C, st, rfl, I10.li.kk, fun t7 H11 sm11 ht7 => ⟨_, _, rfl, dp_now ht7, fn, _, rfl, _, _, rfl, dp_now ((I10.sm sm11).now), fn, rfl, _, rfl, iteF' (by simp) ?_⟩⟩
    exact ⟨b, t, la, d, pa, ra, pr, ot, hd, kp, bs, nw, sd, C, tp, bo, st, sb, Hb, dd, r, x20, _, _, _, x26, x27, x28, rfl, I10.sm sm11, hr1, hr2⟩
end
end BW

set_option Elab.async false
set_option linter.all false
set_option maxRecDepth 100000
set_option maxHeartbeats 1000000
/-! law: the loop, a row heard -/
namespace BW
open PySem PySem.Spec PyProof.Rows L2 SX
open LamX (Tabs ExtN CodeO)
section
variable {X : Cx} {k j : Nat} {f C : Addr} {m : Str} {sp : Sp} {o e : Expr} {es : List Expr} {ta : TE} {t : TA} {apos pos : Pos}
/-- o.m(e, ..), that might let out, and does not here -/
theorem pe_mc1 {pl : Sem Bool} (c : CalM (CX X.prog X.w) X.prog X.w X.K X.mg X.base k f sp) (cl : Cls X.K C) (hm : Meth X.K C m f) (hr : Room j X.A) (he : PE X o ta) (ha : PA X (e :: es) t) (hk : k ≤ j := by decide)
    (hst : starEach (e :: es) X.env = (false, eval e X.env) :: starEach es X.env := by rfl) (hpl : (backTo pos (starEach es X.env)).any (·.1) = false := by rfl)
    (ht : eval (.Call (.Attribute o m apos) (e :: es) [] pos) X.env = (do
      let ov ← eval o X.env
      standAt apos.atName
      let (f, first) ← holding [ov] (getMethod ov m pl)
      callWith pos f first (backTo pos (starEach (e :: es) X.env)) (backToKw pos (keywordEach [] X.env))) := by rfl) : PE X (.Call (.Attribute o m apos) (e :: es) [] pos) (tMeth C m sp [] E0 ta t) := by
  obtain ⟨fd, ps, F, b⟩ := c.ex
  exact pe_meth he cl hm F (hr.mono hk) b .nil pass1 ha hst hpl ht
end
theorem hear_le {C : BK.Cfg} : ∀ {w : List Nat} {s : BK.Now}, (BK.hear C s w).2.2 ≤ s.2.2 + w.length
  | [], s => Nat.le_refl _
  | c :: w, s => by
    have h := hear_le (C := C) (w := w) (s := BK.hear1 C s c)
    have h1 : (BK.hear1 C s c).2.2 ≤ s.2.2 + 1 := by
      unfold BK.hear1
      show (if C.full (BK.more s.2.1 c) = true then s.2.2 + 1 else s.2.2) ≤ _
      split <;> omega
    have e : BK.hear C s (c :: w) = BK.hear C (BK.hear1 C s c) w := rfl
    rw [e, List.length_cons]
    omega
/-- what is due behind a row, by what was due -/
def lessBy (o : Option Int) (x y : Nat) : Option Int := o.map fun m => m - ((x : Int) - (y : Int))
theorem bef_next {C : BK.Cfg} (hF : Fam C) {st : BK.Now} (hf : BK.Fit C st) {r : List Nat} (hr : ∀ c ∈ r, c ∈ C.sig) : ∀ m, lessBy (BK.moreI C st) (BK.hear C st r).2.2 st.2.2 = some m → ∀ q, (BK.hear C st r).1 = some q → ∃ m', BK.moreI C (BK.hear C st r) = some m' ∧ m' ≤ m := by
  intro m hm q hq
  obtain ⟨o, h, c⟩ := st
  cases o with
  | none =>
    rw [BK.hear_joined rfl] at hq
    cases hq
  | some p =>
    have em : BK.moreI C (some p, h, c) = (BK.due C p h).map fun m => (m : Int) := rfl
    rw [em] at hm
    cases hd : BK.due C p h with
    | none => rw [hd] at hm; cases hm
    | some d =>
      rw [hd] at hm
      have hm : (d : Int) - (((BK.hear C (some p, h, c) r).2.2 : Int) - (c : Int)) = m := Option.some.inj hm
      obtain ⟨m', h1, h2⟩ := BK.hear_more hF.ok hr hf hd hq
      generalize BK.hear C (some p, h, c) r = s2 at hq h1 h2 hm
      obtain ⟨o2, g, c2⟩ := s2
      have hq : o2 = some q := hq
      subst hq
      refine ⟨(m' : Int), ?_, ?_⟩
      · show (BK.due C q g).map (fun m => (m : Int)) = _
        rw [h1]
        rfl
      · have h2 : m' + c2 ≤ d + c := h2
        have hm : (d : Int) - ((c2 : Int) - (c : Int)) = m := hm
        omega
section
variable {P : Program} {w : World} {K : PySem.W.Frag} {mg : PySem.Str → Option Value} {base : Heap} {cdv : Value} {A : Around} {outer : List Env} {s0 : Shared} {H0 : Hp} {E0' : XK}
theorem piece_f4 (T : Tx K mg) (Xx : Xs P K mg) (hr : RL K cdv A s0) (hg : A.guards = some []) {sa : Addr} {ns : List Int} : PieceN (XL P w K mg base cdv A outer s0 H0 E0') (loopL 8 6) (PM2 K sa ns) (fun i => PL K sa ns (i + 1) (some (.int (i : Int)))) := fun rest u hu => by
  have hu64 : (A.deeper (envOfC "law" (defScope (top 65)) s0.heap.objs.size (He.ga K "law") cdv)).units + 64 < cLine := by have := hr.un; omega
  refine ⟨_, pss_cons (ps_if (pt_cmp (pc_notN (pe_mc1 (ok_hear T Xx) T.cl_Keeper T.me_hear hr (pv 12) (pa_cons (pv 22) pa_nil)))) (pss_one (ps_ret pe_bl)) pss_nil)
    (C8.pss_cut (ps_if (pt_cmpR op_eq (pv 18) pe_int (nomark _)) (pss_cons (ps_expr (pe_mc1 (ok_hear T Xx) T.cl_Keeper T.me_hear hr (pv 13) (pa_cons (pv 22) pa_nil)))
        (pss_one (ps_set (i := 17) sc_law.nd rfl (Or.inl rfl) (pe_c (ok_walk T) hr (by rfl) (pa_cons (pv 2) (pa_cons (pv 5) (pa_cons (pv 17) (pa_cons (pv 22) pa_nil)))))))) pss_nil)
    (pss_cons (ps_set (i := 26) sc_law.nd rfl (Or.inl rfl) (pe_c (ok_walk T) hr (by rfl) (pa_cons (pv 2) (pa_cons (pv 5) (pa_cons (pv 14) (pa_cons (pv 22) pa_nil))))))
    (pss_cons (ps_if (pt_cmpR op_ne (pe_callB (cr_repr hg hu64) (by rfl) T.n_repr (by decide +kernel) (pa_cons (pe_mc0 (ok_standing T) T.cl_Keeper T.me_standing hr (pv 12)) pa_nil)) (pe_callB (cr_repr hg hu64) (by rfl) T.n_repr (by decide +kernel) (pa_cons (pv 26) pa_nil)) rfl) (pss_one (ps_ret pe_bl)) pss_nil)
    (C8.pss_cut (ps_set (i := 16) sc_law.nd rfl (Or.inl rfl) (pe_ifExp (pt_cmp (pc_isN (pv 19))) pe_non (pe_op op_sub (pv 19) (pe_op op_sub (pe_ix ix_tup (pv 26) pe_int (fun _ _ => rfl)) (pe_ix ix_tup (pv 14) pe_int (fun _ _ => rfl))))))
    (C8.pss_cut (ps_set (i := 14) sc_law.nd rfl (Or.inl rfl) (pv 26)) hu))))), fun i hi8 D σ H hA k => ?_⟩
  obtain ⟨b, t, la, d, pa, ra, pr, ot, hd, kp, bs, nw, sd, C, tp, bo, st, sb, Hb, dd, r, x20, x23, x24, x25, x26, x27, x28, rfl, hI, hr1, hr2⟩ := hA
  have hF := hI.fam
  obtain ⟨dx, _, _, _, hk, _⟩ := id hI.li.kk
  refine ⟨_, rfl, kp, dx, _, rfl, hk, rfl, _, rfl, kp, d, .str (S r), C, st, rfl, hI.li.kk, hF, hI.fit, .inl ⟨r, rfl, hr1, by omega, fun H1 bt1 hK1 => ⟨_, rfl, iteF' rfl ?_⟩⟩⟩
  have L1 : LI K Hb H1 C d b kp bs (BK.hear C st r) sb := hI.li.mvk (BN.but bt1) (tabs_but hI.li.tabs bt1 hk) hK1
  have kt1 := hI.li.ktk (BN.but bt1)
  have now1 := hI.now.kt kt1
  have side1 := hI.side.kt kt1
  refine ⟨fun σ' H' => ∃ (sd : Addr) (sb : BK.Now), σ' = sgm (.ref sa) (.ref b) (.ref t) (.int C.n) (.str (S C.sig)) (.ref la) (.ref d) (.ref pa) (.ref ra) (.ref pr) (.ref ot) (.ref hd) (.ref kp) (.ref bs) (.ref nw) tp (mv bo) (.ref sd) (some (.int (i : Int))) (some (mv (BK.moreI C st))) x20 (some (.int (dd : Int))) (some (.str (S r))) x23 x24 x25 x26 x27 x28 ∧
    LI K Hb H' C d b kp bs (BK.hear C st r) sb ∧ NowT H' nw st ∧ NowT H' sd sb ∧ BK.Fit C sb ∧ sb.2.2 ≤ 50 * (i + 1), ?_, ?_⟩
  · refine ⟨_, rfl, rfl, _, rfl, ?_⟩
    have cb := hI.cb
    cases hd1 : decide (V.int (i : Int) = V.int 1) with
    | false => exact iteF' rfl ⟨sd, sb, rfl, L1, now1, side1, hI.fitb, by omega⟩
    | true =>
      obtain ⟨dx1, _, _, _, hk1, _⟩ := id L1.kb
      refine iteT' rfl ⟨_, rfl, bs, dx1, _, rfl, hk1, rfl, _, rfl, bs, d, .str (S r), C, sb, rfl, L1.kb, hF, hI.fitb, .inl ⟨r, rfl, hr1, by omega, fun H2 bt2 hK2 => ?_⟩⟩
      have L2 : LI K Hb H2 C d b kp bs (BK.hear C st r) (BK.hear C sb r) := L1.mvb (BN.but bt2) (tabs_but L1.tabs bt2 hk1) hK2
      have kt2 := L1.kts (BN.but bt2)
      refine ⟨_, rfl, _, rfl, _, rfl, _, rfl, t, la, sd, r, C, sb, rfl, hI.lb.tl.ext L2.ext, hI.lb.ll.ext L2.ext, side1.kt kt2, hF, hI.fitb, hr1, fun a H3 sm3 na hn => ?_⟩
      have hl := hear_le (C := C) (w := r) (s := sb)
      exact ⟨a, BK.hear C sb r, rfl, L2.sm sm3, (now1.kt kt2).ext (ext_same sm3), hn, BK.hear_fit hF.ok hr1 hI.fitb, by omega⟩
  · rintro σ' H' ⟨sd, sb, rfl, L2, now2, side2, fitb2, cb2⟩
    refine ⟨_, rfl, _, rfl, _, rfl, _, rfl, t, la, nw, r, C, st, rfl, hI.lb.tl.ext L2.ext, hI.lb.ll.ext L2.ext, now2, hF, hI.fit, hr1, fun af H3 sm3 naf haf => ?_⟩
    have L3 := L2.sm sm3
    have hl := hear_le (C := C) (w := r) (s := st)
    have cs := hI.cs
    have fit3 := BK.hear_fit hF.ok hr1 hI.fit
    have fn := (fine_now hF fit3 (by omega)).1
    obtain ⟨dx3, _, _, _, hk3, _⟩ := id L3.kk
    refine ⟨_, rfl, kp, dx3, _, rfl, hk3, rfl, kp, d, C, _, rfl, L3.kk, fun t7 H4 sm4 ht7 => ⟨_, _, rfl, dp_now ht7, fn, _, rfl, _, _, rfl, dp_now (haf.ext (ext_same sm4)), fn, rfl, _, rfl, iteF' (by simp) ?_⟩⟩
    have L4 := L3.sm sm4
    have haf4 := haf.ext (ext_same sm4)
    have now4 := now2.ext (ext_same (same_trans sm3 sm4))
    have side4 := side2.ext (ext_same (same_trans sm3 sm4))
    obtain ⟨apa, hafT, _⟩ := id haf4
    obtain ⟨apn, hnwT, _⟩ := id now4
    refine ⟨fun σ' H'' => σ' = sgm (.ref sa) (.ref b) (.ref t) (.int C.n) (.str (S C.sig)) (.ref la) (.ref d) (.ref pa) (.ref ra) (.ref pr) (.ref ot) (.ref hd) (.ref kp) (.ref bs) (.ref nw) tp (mv (lessBy (BK.moreI C st) (BK.hear C st r).2.2 st.2.2)) (.ref sd) (some (.int (i : Int))) (some (mv (BK.moreI C st))) x20 (some (.int (dd : Int))) (some (.str (S r))) x23 x24 x25 (some (.ref af)) x27 x28 ∧ H'' = H4, ?_, ?_⟩
    · refine ⟨_, rfl, _, rfl, ?_⟩
      cases hm : BK.moreI C st with
      | none => exact iteT' rfl ⟨rfl, rfl⟩
      | some m => exact iteF' rfl ⟨_, rfl, _, rfl, af, _, _, _, rfl, rfl, SqT.of hafT, atI_nat (j := 2) rfl, _, rfl, nw, _, _, _, rfl, rfl, SqT.of hnwT, atI_nat (j := 2) rfl, _, _, rfl, rfl, _, _, rfl, rfl, rfl, rfl⟩
    · rintro σ' H'' ⟨rfl, rfl⟩
      refine ⟨PL K sa ns (i + 1) (some (.int (i : Int))), ?_, fun σ' H' h => k σ' H' h⟩
      exact ⟨_, rfl, b, t, la, d, pa, ra, pr, ot, hd, kp, bs, af, sd, C, tp, _, _, sb, Hb, _, _, _, _, _, _, _, _, _, _, rfl, hF, hI.lb, L4, haf4, side4, fit3, fitb2, by omega, cb2, bef_next hF hI.fit hr1⟩
end
end BW

set_option Elab.async false
set_option linter.all false
set_option maxRecDepth 100000
set_option maxHeartbeats 1000000
/-! law: the loop, the end, the whole -/
namespace BW
open PySem PySem.Spec PyProof.Rows L2 SX
open LamX (Tabs ExtN CodeO)
section
variable {P : Program} {w : World} {K : PySem.W.Frag} {mg : PySem.Str → Option Value} {base : Heap} {cdv : Value} {A : Around} {outer : List Env} {s0 : Shared} {H0 : Hp} {E0' : XK}
/-- behind the loop -/
def PA6 (K : PySem.W.Frag) (sa : Addr) (ns : List Int) : L2.St → Hp → Prop := fun σ H => ∃ (n : Nat) (x18 : Option V), n ≤ 8 ∧ PL K sa ns n x18 σ H
theorem drop_take {α : Type} (l : List α) (i n : Nat) : (l.drop i).take n ++ l.drop (i + n) = l.drop i := by
  rw [← List.drop_drop, List.take_append_drop]
theorem loop_eq : loopL 0 3 ++ (loopL 3 4 ++ (loopL 7 1 ++ loopL 8 6)) = loopB := by
  have h : loopB.length = 14 := by decide +kernel
  have e8 : loopL 8 6 = loopB.drop 8 := List.take_of_length_le (by rw [List.length_drop, h]; decide)
  rw [e8, drop_take loopB 7 1, drop_take loopB 3 4, drop_take loopB 0 3]
  rfl
theorem loop_body (T : Tx K mg) (B : Tb K mg base) (Xx : Xs P K mg) (Xt : Xt K) (hr : RL K cdv A s0) (hg : A.guards = some []) {sa : Addr} {ns : List Int} :
    ∃ t, PSs (XL P w K mg base cdv A outer s0 H0 E0') loopB t ∧ ∀ (i : Nat), i ≤ 8 → ∀ (D : Ends) (σ : L2.St) (H : Hp), PL K sa ns i (some (.int (i : Int))) σ H → (∀ σ' H', PL K sa ns (i + 1) (some (.int (i : Int))) σ' H' → D.nx σ' H') → t D σ H := by
  obtain ⟨t, p, q⟩ := ((piece_f1 (P := P) (w := w) (outer := outer) (H0 := H0) (E0' := E0') T B hr hg (sa := sa) (ns := ns)).app ((piece_f2 T hr).app ((piece_f3 T Xx Xt hr hg).app (piece_f4 T Xx hr hg)))) [] tNext pss_nil
  rw [List.append_nil, loop_eq] at p
  exact ⟨t, p, q⟩
theorem piece_f (T : Tx K mg) (B : Tb K mg base) (Xx : Xs P K mg) (Xt : Xt K) (hr : RL K cdv A s0) (hg : A.guards = some []) {sa : Addr} {ns : List Int} : Piece (XL P w K mg base cdv A outer s0 H0 E0') (lawL 17 1) (PA5 K sa ns) (PA6 K sa ns) := fun rest u hu => by
  obtain ⟨tb, pb, qb⟩ := loop_body (P := P) (w := w) (outer := outer) (H0 := H0) (E0' := E0') (sa := sa) (ns := ns) T B Xx Xt hr hg
  refine ⟨_, C8.pss_cut (ps_for PassesOwn.never rfl (pi_range1 (by rfl) T.n_range (pa_cons (pe_c (ok_pick T) hr (by rfl) (pa_cons (pv 1) (pa_cons (pe_lst (pa_cons pe_int (pa_cons pe_int (pa_cons pe_int pa_nil)))) pa_nil))) pa_nil)) (pg_name (i := 18) sc_law.nd rfl (Or.inl rfl)) pb) hu, fun D σ H hA k => ?_⟩
  obtain ⟨b, t, la, d, pa, ra, pr, ot, hd, kp, bs, nw, sd, C, p, o, x27, tp, Hb, rfl, hF, hL, hI, hp, ho, hnw, hsd⟩ := hA
  refine ⟨PA6 K sa ns, ?_, fun σ' H' h => k σ' H' h⟩
  refine ⟨_, rfl, by show 3 ≤ sizeLine; decide, fun z nz => ?_⟩
  have smz : Same H (upd H z (.lst [.int 6, .int 8, .int 5])) := same_new nz
  have hz : upd H z (.lst [.int 6, .int 8, .int 5]) z = some (.lst [.int 6, .int 8, .int 5]) := upd_same
  have nzb := box_ne hI.box nz
  generalize upd H z (.lst [.int 6, .int 8, .int 5]) = Hz at smz hz
  have Iz := hI.sm smz
  refine ⟨b, _, rfl, Iz.box, .inl ⟨z, _, rfl, nzb, hz, by show 0 < 3; decide, by show 3 < 1000; decide, fun x H2 hx bt2 hb2 => ?_⟩⟩
  have hx' : ∃ n : Nat, x = .int (n : Int) ∧ n ≤ 8 := by
    rcases List.mem_cons.mp hx with e | hx
    · exact ⟨6, e, by omega⟩
    rcases List.mem_cons.mp hx with e | hx
    · exact ⟨8, e, by omega⟩
    · exact ⟨5, List.mem_singleton.mp hx, by omega⟩
  obtain ⟨n, rfl, hn⟩ := hx'
  have I2 := Iz.bx bt2 hb2
  have kt := Iz.ktb bt2
  have fit0 : ∀ {q : BK.Pair}, q ∈ BK.pairs C.n → BK.Fit C (some q, [], 0) := fun hq => ⟨BK.nil_hear C, fun p' e => by cases e; exact hq⟩
  have L0 : LC K sa ns 0 H2 C b t la d pa ra kp bs nw sd (BK.moreI C (some p, [], 0)) (some p, [], 0) (some o, [], 0) Hb :=
    ⟨hF, hL, I2, (hnw.ext (ext_same smz)).kt kt, (hsd.ext (ext_same smz)).kt kt, fit0 hp, fit0 ho, Nat.zero_le _, Nat.zero_le _, fun m hm q hq => ⟨m, hm, Int.le_refl _⟩⟩
  refine ⟨n, rfl, by omega, by omega, ?_⟩
  refine for_it (n := (n : Int).toNat) (walk_range (lo := 0)) (fun i σ' H' => ∃ x18, PL K sa ns i x18 σ' H') ⟨none, b, t, la, d, pa, ra, pr, ot, hd, kp, bs, nw, sd, C, tp, _, _, _, Hb, none, none, none, none, none, none, none, none, x27, none, rfl, L0⟩ (fun _ _ _ _ _ => trivial) ?_ ?_
  · rintro i v σ H3 H4 hi ⟨x18, b, t, la, d, pa, ra, pr, ot, hd, kp, bs, nw, sd, C, tp, bo, st, sb, Hb, x19, x20, x21, x22, x23, x24, x25, x26, x27, x28, rfl, hL⟩ ⟨rfl, rfl⟩
    have hi : i < n := by simpa using hi
    refine qb i (by omega) _ _ _ ⟨b, t, la, d, pa, ra, pr, ot, hd, kp, bs, nw, sd, C, tp, bo, st, sb, Hb, x19, x20, x21, x22, x23, x24, x25, x26, x27, x28, ?_, hL⟩ fun σ' H' h => ⟨_, h⟩
    show _ = sgm _ _ _ _ _ _ _ _ _ _ _ _ _ _ _ _ _ _ (some (V.int (i : Int))) _ _ _ _ _ _ _ _ _ _
    rw [← Int.zero_add (i : Int)]
    rfl
  · rintro σ H3 ⟨x18, h⟩
    have e : (n : Int).toNat = n := by simp
    rw [e] at h
    exact ⟨n, x18, hn, h⟩
end
end BW

set_option Elab.async false
set_option linter.all false
set_option maxRecDepth 100000
set_option maxHeartbeats 1000000
/-! law: its end; the whole body -/
namespace BW
open PySem PySem.Spec PyProof.Rows L2 SX
open LamX (Tabs ExtN CodeO)
theorem fine_lst {ds : List PyData} (f : Fine (.tuple ds)) : Fine (.list ds) := ⟨f.sh, f.sl, f.nd, f.dp, f.bk⟩
section
variable {P : Program} {w : World} {K : PySem.W.Frag} {mg : PySem.Str → Option Value} {base : Heap} {cdv : Value} {A : Around} {outer : List Env} {s0 : Shared} {H0 : Hp} {E0' : XK}
theorem law_end (T : Tx K mg) (B : Tb K mg base) (Xx : Xs P K mg) (Xt : Xt K) (hr : RL K cdv A s0) (hg : A.guards = some []) {sa : Addr} {ns : List Int} :
    ∃ t, PSs (XL P w K mg base cdv A outer s0 H0 E0') (lawB.drop 18) t ∧ ∀ (D : Ends) (σ : L2.St) (H : Hp), PA6 K sa ns σ H → (∀ H', D.rt (.bl true) H') → t D σ H := by
  have hu64 : (A.deeper (envOfC "law" (defScope (top 65)) s0.heap.objs.size (He.ga K "law") cdv)).units + 64 < cLine := by have := hr.un; omega
  refine ⟨_, C8.pss_cut (ps_if (PW.pt (pw_and (pt_cmp (pc_notN (pe_ix ix_tup (pv 14) pe_int (fun _ _ => rfl)))) (pw_and1 (pt_not (pt_val (pe_c (ok_followed T B Xx) hr (by rfl) (pa_cons (pv 12) (pa_cons (pv 14) (pa_cons (pe_ix ix_tup (pe_c (ok_due T B) hr (by rfl) (pa_cons (pv 2) (pa_cons (pv 5) (pa_cons (pv 8) (pa_cons (pv 14) pa_nil))))) pe_int (fun _ _ => rfl)) (pa_cons (pv 3) pa_nil)))))))))) (pss_one (ps_ret pe_bl)) pss_nil)
    (pss_one (ps_ret (pe_cmpR op_eq (pe_callB (cr_repr hg hu64) (by rfl) T.n_repr (by decide +kernel) (pa_cons (pe_lst (pa_cons (pe_mc0 (ok_standing T) T.cl_Keeper T.me_standing hr (pv 13)) (pa_cons (pe_mc0 (ok_more_rounds T B) T.cl_Keeper T.me_more_rounds hr (pv 13)) pa_nil))) pa_nil))
      (pe_callB (cr_repr hg hu64) (by rfl) T.n_repr (by decide +kernel) (pa_cons (pe_lst (pa_cons (pv 17) (pa_cons (pe_ix ix_tup (pe_c (ok_due T B) hr (by rfl) (pa_cons (pv 2) (pa_cons (pv 5) (pa_cons (pv 8) (pa_cons (pv 17) pa_nil))))) pe_int (fun _ _ => rfl)) pa_nil))) pa_nil)) rfl))), fun D σ H hA k => ?_⟩
  obtain ⟨n, x18, hn, b, t, la, d, pa, ra, pr, ot, hd, kp, bs, nw, sd, C, tp, bo, st, sb, Hb, x19, x20, x21, x22, x23, x24, x25, x26, x27, x28, rfl, hI⟩ := hA
  have hF := hI.fam
  refine ⟨fun σ' H' => σ' = sgm (.ref sa) (.ref b) (.ref t) (.int C.n) (.str (S C.sig)) (.ref la) (.ref d) (.ref pa) (.ref ra) (.ref pr) (.ref ot) (.ref hd) (.ref kp) (.ref bs) (.ref nw) tp (mv bo) (.ref sd) x18 x19 x20 x21 x22 x23 x24 x25 x26 x27 x28 ∧ ExtN Hb H' ∧ Tabs (T3 K) H' ∧ Kp K H' bs d C sb ∧ NowT H' sd sb, ?_, ?_⟩
  · obtain ⟨apn, hnow, hapn⟩ := id hI.now
    refine ⟨_, rfl, nw, _, _, _, rfl, rfl, SqT.of hnow, atI_nat (j := 0) rfl, _, rfl, ?_⟩
    cases ho : st.1 with
    | none =>
      rw [ho] at hapn
      have hapn : apn = .non := hapn
      subst hapn
      exact iteF' rfl (iteF' rfl ⟨rfl, hI.li.ext, hI.li.tabs, hI.li.kb, hI.side⟩)
    | some p =>
      rw [ho] at hapn
      obtain ⟨q, rfl, _⟩ := hapn
      refine iteT' rfl ⟨_, rfl, _, rfl, _, rfl, _, rfl, _, rfl, _, rfl, t, la, ra, nw, C, st, rfl, hI.lb.tl.ext hI.li.ext, hI.lb.ll.ext hI.li.ext, hI.lb.rnk.ext hI.li.ext, hI.now, hF, hI.fit, hI.li.tabs, fun a H1 eX1 hD => ?_⟩
      have I1 := hI.ex eX1
      refine ⟨a, _, _, _, rfl, rfl, SqT.of hD, atI_nat (j := 0) rfl, _, rfl, kp, d, nw, C, st, p, rfl, ho, I1.li.kk, I1.now, hF, hI.fit, by have := hI.cs; omega, I1.li.tabs, fun H2 bn t2 => ⟨true, rfl, iteF' rfl ?_⟩⟩
      obtain ⟨dx, _, _, _, hk, _⟩ := id I1.li.kk
      exact ⟨rfl, extn_bn I1.li.ext I1.li.nk bn, t2, I1.li.kb.bn bn hk kf_states I1.li.ne.symm, I1.side.kt (I1.li.ktk bn)⟩
  · rintro σ' H' ⟨rfl, e1, t1, k1, s1⟩
    obtain ⟨dx, _, _, _, hk, _⟩ := id k1
    refine ⟨_, rfl, bs, dx, _, rfl, hk, rfl, bs, d, C, sb, rfl, k1, fun ta H2 sm2 hta => ?_⟩
    have k2 := k1.ext (ext_same sm2)
    obtain ⟨dx2, _, _, _, hk2, _⟩ := id k2
    refine ⟨_, rfl, bs, dx2, _, rfl, hk2, rfl, bs, d, C, sb, rfl, k2, hF, hI.fitb, t1.ext sm2, fun H3 eX3 => ?_⟩
    refine ⟨by show 2 ≤ sizeLine; decide, fun l1 nl1 => ?_⟩
    have sm4 : Same H3 (upd H3 l1 (.lst [V.ref ta, mv (BK.moreI C sb)])) := same_new nl1
    have hl1 : upd H3 l1 (.lst [V.ref ta, mv (BK.moreI C sb)]) l1 = some (.lst [V.ref ta, mv (BK.moreI C sb)]) := upd_same
    generalize upd H3 l1 (.lst [V.ref ta, mv (BK.moreI C sb)]) = H4 at sm4 hl1
    have fn := fine_now hF hI.fitb (by have := hI.cb; omega)
    have fm := fine_mv (more_fine hF hI.fitb)
    have fl : Fine (.list [pdN sb, pdI (BK.moreI C sb)]) := fine_lst (fine_tup (fun x hx => by
      rcases List.mem_cons.mp hx with e | hx
      · rw [e]
        exact ⟨fn.1, by have := fn.2.1; omega, by have := fn.2.2; omega⟩
      · rw [List.mem_singleton.mp hx]
        refine ⟨fm, ?_, ?_⟩
        · cases BK.moreI C sb <;> exact Nat.zero_le _
        · cases BK.moreI C sb <;> exact Nat.zero_le _) (by show 2 ≤ 10; decide))
    have e24 : ExtN H2 H4 := eX3.ext.trans (ext_same sm4)
    have dpl : ∀ {Hx : Hp} {l u : Addr}, Hx l = some (.lst [V.ref u, mv (BK.moreI C sb)]) → NowT Hx u sb → Dp K Hx (.ref l) (.list [pdN sb, pdI (BK.moreI C sb)]) := fun {Hx l u} h1 h2 => .lst (SqL.of h1) (.cons (dp_now h2) (.cons (dp_mv _) .nil))
    refine ⟨_, _, rfl, dpl hl1 (hta.ext e24), fl, ?_⟩
    have e14 : ExtN H' H4 := (ext_same sm2).trans e24
    have s4 := s1.ext e14
    have eb4 := e1.trans e14
    have t4 := eX3.tabs.ext sm4
    refine ⟨_, rfl, _, rfl, _, rfl, _, rfl, _, rfl, t, la, ra, sd, C, sb, rfl, hI.lb.tl.ext eb4, hI.lb.ll.ext eb4, hI.lb.rnk.ext eb4, s4, hF, hI.fitb, t4, fun a H5 eX5 hD => ?_⟩
    refine ⟨a, _, _, _, rfl, rfl, SqT.of hD, atI_nat (j := 0) rfl, by show 2 ≤ sizeLine; decide, fun l2 nl2 => ?_⟩
    have sm6 : Same H5 (upd H5 l2 (.lst [V.ref sd, mv (BK.moreI C sb)])) := same_new nl2
    refine ⟨_, _, rfl, dpl upd_same ((s4.ext eX5.ext).ext (ext_same sm6)), fl, rfl, ?_⟩
    rw [decide_eq_true (rfl : V.str (PyData.shown (.list [pdN sb, pdI (BK.moreI C sb)])) = _)]
    exact k _
theorem law_eq : lawL 0 3 ++ (lawL 3 4 ++ (lawL 7 3 ++ (lawL 10 3 ++ (lawL 13 4 ++ lawL 17 1)))) ++ lawB.drop 18 = lawB := by
  rw [List.append_assoc, List.append_assoc, List.append_assoc, List.append_assoc, List.append_assoc, drop_take lawB 17 1, drop_take lawB 13 4, drop_take lawB 10 3, drop_take lawB 7 3, drop_take lawB 3 4, drop_take lawB 0 3]
  rfl
/-- the body of the law, walked -/
theorem law_walked (T : Tx K mg) (B : Tb K mg base) (Xx : Xs P K mg) (Xt : Xt K) (hr : RL K cdv A s0) (hg : A.guards = some []) {sa : Addr} {ns : List Int} :
    ∃ t, PSs (XL P w K mg base cdv A outer s0 H0 E0') lawB t ∧ ∀ (D : Ends) (H : Hp), ScrF K H sa ns → Tabs (T3 K) H → (∀ H', D.rt (.bl true) H') → t D (start NLW [.ref sa]) H := by
  obtain ⟨te, pe, qe⟩ := law_end (P := P) (w := w) (outer := outer) (s0 := s0) (H0 := H0) (E0' := E0') (sa := sa) (ns := ns) T B Xx Xt hr hg
  obtain ⟨t, p, q⟩ := ((piece_a (P := P) (w := w) (base := base) (outer := outer) (H0 := H0) (E0' := E0') T hr (sa := sa) (ns := ns)).app ((piece_b T hr).app ((piece_c T hr).app ((piece_d T B Xx hr).app ((piece_e T B Xx Xt hr hg).app (piece_f T B Xx Xt hr hg)))))) _ te pe
  rw [law_eq] at p
  exact ⟨t, p, fun D H hs ht k => q D _ H ⟨rfl, hs, ht⟩ fun σ' H' h => qe D σ' H' h k⟩
end
end BW

set_option Elab.async false
set_option linter.all false
set_option maxRecDepth 100000
set_option maxHeartbeats 4000000
/-! the own exceptions and the rest, as Bools of the written part -/
namespace BW
open PySem PySem.Spec PyProof.Rows L2
open PySem.W (ksFn)
theorem pass_ve (self : Value) : refuseLoop self "__setattr__" veT = pure () := PySem.F.store_ValueError.passes self
theorem pass_ke (self : Value) : refuseLoop self "__setattr__" keT = pure () := by
  unfold keT
  kernel_rfl
theorem clsB_ok {K : PySem.W.Frag} {C : Addr} {tl : List Value} {newId i : String} (h : clsB K C tl newId i = true) : ∃ nm q N bs bm sn sub ab col dd k0 k1 k2 k3 k5, K.lookup C = some (excClassObj nm q C N bs bm true sn sub ab col dd k0 k1 k2 k3 k5 newId) ∧
    PySem.W.excTail tl bm = true ∧ PySem.W.alongIn K "__init__" bm = some (some (.builtin i)) := by
  unfold clsB at h
  split at h
  · rename_i dd cd sl hl
    split at h
    · rename_i C' bm k0 k1 k2 k3 n k5 hm hs
      obtain ⟨h1, h⟩ := Bool.and_eq_true_iff.mp h
      obtain ⟨h2, h⟩ := Bool.and_eq_true_iff.mp h
      obtain ⟨h3, h⟩ := Bool.and_eq_true_iff.mp h
      obtain ⟨h4, h⟩ := Bool.and_eq_true_iff.mp h
      obtain ⟨h5, h6⟩ := Bool.and_eq_true_iff.mp h
      have h1 := of_decide_eq_true h1
      have h2 := of_decide_eq_true h2
      have h6 := of_decide_eq_true h6
      obtain ⟨nm, bs, mro, ns, qn, hd, sn, sub, ab, col, del⟩ := cd
      have hm : mro = .ref C' :: bm := hm
      have hdel : (!del) = true := h3
      have hdct : hd = true := h4
      have hdel : del = false := by cases del <;> first | rfl | cases hdel
      have hsl : sl = #[k0, k1, k2, k3, some (.builtin n), k5] := by
        obtain ⟨l⟩ := sl
        have hs : l = [k0, k1, k2, k3, some (.builtin n), k5] := hs
        rw [hs]
      subst hm
      subst hdel
      subst hdct
      subst hsl
      subst h1
      subst h2
      exact ⟨nm, qn, ns, bs, bm, sn, sub, ab, col, dd, k0, k1, k2, k3, k5, hl, h5, h6⟩
    · cases h
  · cases h
theorem xcB_ok {K : PySem.W.Frag} {x : Str} {tl : List Value} {newId Bi i B initB : String} {bmB : List Value} {fld : Str} (h : xcB K x tl newId Bi i fld = true) (I : IniF Bi i) (F : ExcBaseFacts B newId initB bmB) (ht : tl.contains (.type B) = true)
    (ha : tl.contains (.type "AttributeError") = false) (hn : tl.contains (.type "NameError") = false) (ho : tl.contains (.type "object") = true) (hp : ∀ self, refuseLoop self "__setattr__" tl = pure ()) :
    XCls K (He.ga K x) (He.ma K (He.ga K x) "__init__") newId Bi i fld := by
  obtain ⟨h1, h⟩ := Bool.and_eq_true_iff.mp h
  obtain ⟨h2, h⟩ := Bool.and_eq_true_iff.mp h
  obtain ⟨h3, h⟩ := Bool.and_eq_true_iff.mp h
  obtain ⟨h4, h⟩ := Bool.and_eq_true_iff.mp h
  obtain ⟨h5, h⟩ := Bool.and_eq_true_iff.mp h
  obtain ⟨h6, h⟩ := Bool.and_eq_true_iff.mp h
  obtain ⟨h7, h⟩ := Bool.and_eq_true_iff.mp h
  obtain ⟨h8, h⟩ := Bool.and_eq_true_iff.mp h
  obtain ⟨h9, h10⟩ := Bool.and_eq_true_iff.mp h
  obtain ⟨nm, q, N, bs, bm, sn, sub, ab, col, dd, k0, k1, k2, k3, k5, e1, e2, e3⟩ := clsB_ok h1
  have ct : ∀ T : String, (Value.ref (He.ga K x) :: bm).contains (.type T) = tl.contains (.type T) := fun T => by
    rw [List.contains_cons, PySem.W.excTail_contains T bm e2]
    rfl
  exact ⟨⟨nm, q, N, bs, bm, sn, sub, ab, col, dd, k0, k1, k2, k3, k5, e1, (ct _).trans ha, (ct _).trans hn, (ct _).trans ho, fun self => by rw [refuseLoop_ref]; exact PySem.W.excTail_pass self (hp self) bm e2, e3, B, initB, bmB, F, (ct _).trans ht⟩,
    of_decide_eq_true h2, of_decide_eq_true h3, of_decide_eq_true h4, I, of_decide_eq_true h5, of_decide_eq_true h6, of_decide_eq_true h7, of_decide_eq_true h8, h9, of_decide_eq_true h10⟩
theorem xfn_of {P : Program} {K : PySem.W.Frag} {x q : Str} {st : Stmt} (h : xfB2 K P.main.file x q = true) (e : xObs K x = xVal q st) (ht : (P.main.scope.names.lookup ("super" : Str)).isSome = false) :
    ∃ cc cda, XFn P K st (He.ga K x) (He.ma K (He.ga K x) "__init__") cc cda "__init__" q := by
  unfold xfB2 at h
  unfold xObs at e
  split at h
  · rename_i oc od fd osl hl
    rw [hl] at e
    split at h
    · rename_i y cc cda hcl hco
      split at h
      · rename_i c1 c2 C c3 d1 d2 vs d3 hcc hcd
        obtain ⟨h1, h⟩ := Bool.and_eq_true_iff.mp h
        obtain ⟨h2, h3⟩ := Bool.and_eq_true_iff.mp h
        have h1 := of_decide_eq_true h1
        subst h1
        unfold fileB at h3
        split at h3
        · rename_i f tf hv
          obtain ⟨n1, n2, n3, n4, n5, n6, n7, n8, n9, n10, n11, n12, n13, n14, n15⟩ := fd
          have hcl : n7 = [(y, cc)] := hcl
          have hco : n13 = .ref cda := hco
          subst hcl hco
          have e2 : (some (n1, n2, n3, n4, n5, n6, [y], n8, n15) : XV) = (some (("__init__" : Str), q, defArgs st, FuncBody.stmts (defBody st), defScope st, mainGlobals, [("__class__" : Str)], Value.none, builtinsNs) : XV) := e
          simp only [Option.some.injEq, Prod.mk.injEq, List.cons.injEq, and_true] at e2
          obtain ⟨q1, q2, q3, q4, q5, q6, q7, q8, q9⟩ := e2
          subst q1 q2 q3 q4 q5 q6 q7 q8 q9
          exact ⟨cc, cda, ⟨oc, od, n9, n10, n11, n14, n12, osl, hl⟩, h2, ⟨d1, d2, vs, d3, f, tf, hcd, hv, h3⟩, ⟨c1, c2, c3, hcc⟩, ht⟩
        · cases h3
      · cases h
    · cases h
  · cases h
theorem ecB_ok {K : PySem.W.Frag} {D : Addr} (h : ecB K D = true) : ExcC K D := by
  obtain ⟨h1, h⟩ := Bool.and_eq_true_iff.mp h
  obtain ⟨h2, h⟩ := Bool.and_eq_true_iff.mp h
  obtain ⟨h3, h⟩ := Bool.and_eq_true_iff.mp h
  obtain ⟨h4, h⟩ := Bool.and_eq_true_iff.mp h
  obtain ⟨h5, h⟩ := Bool.and_eq_true_iff.mp h
  obtain ⟨h6, h⟩ := Bool.and_eq_true_iff.mp h
  obtain ⟨h7, h8⟩ := Bool.and_eq_true_iff.mp h
  exact ⟨of_decide_eq_true h1, of_decide_eq_true h2, of_decide_eq_true h3, h4, of_decide_eq_true h5, of_decide_eq_true h6, of_decide_eq_true h7, of_decide_eq_true h8⟩
theorem xt_of {K : PySem.W.Frag} (h : exB K = true) : Xt K := by
  obtain ⟨h1, h⟩ := Bool.and_eq_true_iff.mp h
  obtain ⟨h2, h⟩ := Bool.and_eq_true_iff.mp h
  obtain ⟨h3, h⟩ := Bool.and_eq_true_iff.mp h
  obtain ⟨h4, h⟩ := Bool.and_eq_true_iff.mp h
  obtain ⟨h5, h⟩ := Bool.and_eq_true_iff.mp h
  obtain ⟨h6, h⟩ := Bool.and_eq_true_iff.mp h
  obtain ⟨h7, h⟩ := Bool.and_eq_true_iff.mp h
  obtain ⟨h8, h⟩ := Bool.and_eq_true_iff.mp h
  obtain ⟨h9, h10⟩ := Bool.and_eq_true_iff.mp h
  exact ⟨ecB_ok h1, ecB_ok h2, ecB_ok h3, of_decide_eq_true h4, of_decide_eq_true h5, of_decide_eq_true h6, of_decide_eq_true h7, of_decide_eq_true h8, of_decide_eq_true h9, of_decide_eq_true h10⟩
theorem xs_of {P : Program} {K : PySem.W.Frag} {mg : Str → Option Value} (ha : exA K = true) (hc : exC' P.main.file K = true) (ht : (P.main.scope.names.lookup ("super" : Str)).isSome = false)
    (e1 : xObs K "BadRow" = xVal "BadRow.__init__" (inClass (top 4) 0)) (e2 : xObs K "BadFamily" = xVal "BadFamily.__init__" (inClass (top 5) 0)) (e3 : xObs K "NoPair" = xVal "NoPair.__init__" (inClass (top 7) 0)) : Xs P K mg := by
  obtain ⟨a1, ha⟩ := Bool.and_eq_true_iff.mp ha
  obtain ⟨a2, a3⟩ := Bool.and_eq_true_iff.mp ha
  obtain ⟨c1, hc⟩ := Bool.and_eq_true_iff.mp hc
  obtain ⟨c2, c3⟩ := Bool.and_eq_true_iff.mp hc
  obtain ⟨cc1, cd1, f1⟩ := xfn_of c1 e1 ht
  obtain ⟨cc2, cd2, f2⟩ := xfn_of c2 e2 ht
  obtain ⟨cc3, cd3, f3⟩ := xfn_of c3 e3 ht
  exact ⟨⟨_, cc1, cd1, xcB_ok a1 ini_ValueError PySem.F.excBase_ValueError (by decide +kernel) (by decide +kernel) (by decide +kernel) (by decide +kernel) pass_ve, f1⟩,
    ⟨_, cc2, cd2, xcB_ok a2 ini_ValueError PySem.F.excBase_ValueError (by decide +kernel) (by decide +kernel) (by decide +kernel) (by decide +kernel) pass_ve, f2⟩,
    ⟨_, cc3, cd3, xcB_ok a3 ini_KeyError PySem.F.excBase_LookupError (by decide +kernel) (by decide +kernel) (by decide +kernel) (by decide +kernel) pass_ke, f3⟩⟩
end BW

set_option Elab.async false
set_option linter.all false
set_option maxRecDepth 100000
set_option maxHeartbeats 4000000
/-! the law's def run at the caller, where no repr is under way -/
namespace BW
open PySem PySem.Spec PyProof.Rows L2
open LamX (Tabs TabB TabS ExtN CodeO)
abbrev tObj : Obj := { cls := .none, data := .fields #[] }
/-- what is tracked at the start: the tables, and the script where it is not written -/
def HL (K : PySem.W.Frag) (a : Addr) (lo : Obj) (T : List Addr) (ns : List Int) : Hp := fun b => if b ∈ T then some (.tbl #[]) else if b = a ∧ (K.lookup a).isNone = true then some (.frz lo (.lst (ns.map V.int))) else none
section
variable {K : PySem.W.Frag} {a b : Addr} {lo : Obj} {T : List Addr} {ns : List Int} {h : Heap} {o : Obj}
theorem HL.tbl (m : b ∈ T) : HL K a lo T ns b = some (.tbl #[]) := if_pos m
theorem HL.scr (m : a ∉ T) (n : (K.lookup a).isNone = true) : HL K a lo T ns a = some (.frz lo (.lst (ns.map V.int))) := (if_neg m).trans (if_pos ⟨rfl, n⟩)
theorem HL.none (m : b ∉ T) (n : b = a → (K.lookup a).isNone = false) : HL K a lo T ns b = none := (if_neg m).trans (if_neg fun z => by rw [n z.1] at z; exact Bool.noConfusion z.2)
theorem HL.cases {u : HO} (e : HL K a lo T ns b = some u) : (b ∈ T ∧ u = .tbl #[]) ∨ (b ∉ T ∧ b = a ∧ (K.lookup a).isNone = true ∧ u = .frz lo (.lst (ns.map V.int))) := by
  by_cases m : b ∈ T
  · rw [HL.tbl m] at e
    exact .inl ⟨m, (Option.some.inj e).symm⟩
  · by_cases n : b = a ∧ (K.lookup a).isNone = true
    · have e2 : HL K a lo T ns b = some (.frz lo (.lst (ns.map V.int))) := (if_neg m).trans (if_pos n)
      rw [e2] at e
      exact .inr ⟨m, n.1, n.2, (Option.some.inj e).symm⟩
    · have e2 : HL K a lo T ns b = Option.none := (if_neg m).trans (if_neg n)
      rw [e2] at e
      cases e
end
theorem law_go {P : Program} {w : World} {K : PySem.W.Frag} {mg mb : Str → Option Value} {sa fa : Addr} {cs : List (Addr × Addr)} {s₁ : Shared} {vs : List Value} {ns : List Int}
    (KX : K.In s₁.heap) (hns : s₁.heap.Ns mainGlobals mg) (hb : s₁.heap.Ns builtinsNs mb) (hbb : ∀ x : Str, x ≠ "__name__" → mb x = bootBuiltins x) (hlim : s₁.heap.NoLimit) (hg : s₁.gens = #[])
    (hT : ∀ p ∈ cs, s₁.heap.get? p.2 = some tObj) (nT : ∀ p ∈ cs, K.lookup p.2 = none) (hC : ∀ p ∈ cs, PySem.W.CodeHd s₁.heap p.1 p.2)
    (hbm : ∃ (bm : Addr) (ob : Obj), mg "__builtins__" = some (.ref bm) ∧ bm ≠ builtinsNs ∧ s₁.heap.get? bm = some ob ∧ ob.cls = .type "module" ∧ ob.dict = some builtinsNs ∧ ob.data = .plain)
    (ha : s₁.heap.get? sa = some { cls := .type "list", data := .seq vs.toArray }) (hi : IntsAre vs ns) (hl : ns.length ≤ sizeLine)
    (run : ∀ (base : Heap) (H : Hp), K.In base → base.Ns mainGlobals mg → (∀ p ∈ cs, TabB base mg p.1 p.2) → (∀ p ∈ cs, H p.2 = some (.tbl #[])) → ScrF K H sa ns → Env0 P w K mg base callerA [] s₁ H →
      codeAny (model P w) callerA (.call (.ref fa) ⟨[.ref sa], []⟩) (CR CX0 [] P w H s₁ (fun v _ => v = .bl true) fun _ _ _ => False) s₁) :
    codeAny (model P w) callerA (.call (.ref fa) ⟨[.ref sa], []⟩) (fun r s' => r = .ok (.ret (.bool true)) ∧ OldK s₁.heap s'.heap ∧ s'.os = s₁.os ∧ AllBare s'.gens) s₁ := by
  obtain ⟨T, eT⟩ : ∃ T : List Addr, T = cs.map (·.2) := ⟨_, rfl⟩
  have mT : ∀ p ∈ cs, p.2 ∈ T := fun p hp => by rw [eT]; exact List.mem_map.mpr ⟨p, hp, rfl⟩
  have ofT : ∀ b ∈ T, ∃ p ∈ cs, p.2 = b := fun b hb => by
    rw [eT] at hb
    exact List.mem_map.mp hb
  have tabT : ∀ b ∈ T, s₁.heap.get? b = some tObj ∧ K.lookup b = none := fun b hb => by
    obtain ⟨p, hp, e⟩ := ofT b hb
    rw [← e]
    exact ⟨hT p hp, nT p hp⟩
  have saT : sa ∉ T := fun z => by
    have q := (tabT sa z).1
    rw [ha] at q
    have q2 : Data.seq vs.toArray _ = Data.fields #[] := congrArg Obj.data (Option.some.inj q)
    cases q2
  have vals := vals_ints hi
  have lenV := hi.length
  obtain ⟨H, eH⟩ : ∃ H : Hp, H = HL K sa { cls := .type "list", data := .seq vs.toArray } T ns := ⟨_, rfl⟩
  have cH : ∀ {b : Addr} {u : HO}, H b = some u → (b ∈ T ∧ u = .tbl #[]) ∨ (b ∉ T ∧ b = sa ∧ (K.lookup sa).isNone = true ∧ u = .frz { cls := .type "list", data := .seq vs.toArray } (.lst (ns.map V.int))) := fun {b u} e => HL.cases (by rw [← eH]; exact e)
  have tH : ∀ p ∈ cs, H p.2 = some (.tbl #[]) := fun p hp => by rw [eH]; exact HL.tbl (mT p hp)
  have hok : HOk P w H s₁.heap := fun b u e => by
    rcases cH e with ⟨m, rfl⟩ | ⟨_, rfl, _, rfl⟩
    · exact (tabT b m).1
    · exact ⟨ha, by rw [List.length_map]; exact hl, vs, _, vals, ha⟩
  -- what is neither a table nor the script is not tracked
  have free : ∀ {b : Addr} {o : Obj}, s₁.heap.get? b = some o → o.data ≠ .fields #[] → (∀ vs n, o.data ≠ .seq vs n) → H b = none := fun {b o} e h1 h2 => by
    cases q : H b with
    | none => rfl
    | some u =>
      rcases cH q with ⟨m, _⟩ | ⟨_, rfl, _, _⟩
      · have z := (tabT b m).1
        rw [e] at z
        cases z
        exact absurd rfl h1
      · rw [ha] at e
        cases e
        exact absurd rfl (h2 _ _)
  have kept : ∀ {b : Addr} {o : Obj}, s₁.heap.get? b = some o → H b = none → (hidT s₁.heap H).get? b = some o := fun e n => hidT_get e n
  have ns_ : ∀ {b : Addr} {m : Str → Option Value}, s₁.heap.Ns b m → (hidT s₁.heap H).Ns b m := fun {b m} z => by
    obtain ⟨o, es, ep, e, d, r⟩ := z
    refine ⟨o, es, ep, kept e (free e (fun z => ?_) fun vs n z => ?_), d, r⟩
    · rw [d] at z; cases z
    · rw [d] at z; cases z
  have kin : K.In (hidT s₁.heap H) := fun b o e => kept (KX b o e) (by
    cases q : H b with
    | none => rfl
    | some u =>
      rcases cH q with ⟨m, _⟩ | ⟨_, rfl, n, _⟩
      · rw [(tabT b m).2] at e
        cases e
      · rw [e] at n
        cases n)
  have hM : L2.Mod K mg (hidT s₁.heap H) := by
    obtain ⟨mc, h1, h2⟩ := hlim
    exact ⟨kin, ns_ hns, ⟨mb, ns_ hb, hbb⟩, ⟨mc, ns_ h1, h2⟩⟩
  have hTB : ∀ p ∈ cs, TabB (hidT s₁.heap H) mg p.1 p.2 := fun p hp => by
    have hTp := hT p hp
    refine ⟨?_, ?_, fun z => ?_⟩
    · obtain ⟨o, us, file, tf, flags, tg, inF, text, tt, e1, r1, r2, r3, rest⟩ := hC p hp
      refine ⟨o, us, file, tf, flags, tg, inF, text, tt, kept e1 (free e1 (fun z => ?_) fun vs n z => ?_), r1, r2, r3, rest⟩
      · rw [r2] at z
        cases z
        simp at r3
      · rw [r2] at z; cases z
    · obtain ⟨bm, ob, b1, b2, b3, b4, b5, b6⟩ := hbm
      refine ⟨bm, ob, b1, b2, fun z => ?_, fun z => ?_, kept b3 (free b3 (fun z => ?_) fun vs n z => ?_), b4, b5, b6⟩
      · obtain ⟨o, es, ep, e, d, _⟩ := hns
        rw [z, e] at b3
        cases b3
        rw [d] at b6
        cases b6
      · rw [z, hTp] at b3
        cases b3
        cases b6
      · rw [b6] at z; cases z
      · rw [b6] at z; cases z
    · obtain ⟨o, es, ep, e, d, _⟩ := hns
      rw [z, hTp] at e
      cases e
      cases d
  have hscr : ScrF K H sa ns := by
    cases q : K.lookup sa with
    | none => exact .inl ⟨_, by rw [eH]; exact HL.scr saT (by rw [q]; rfl)⟩
    | some o =>
      have e := KX sa o q
      rw [ha] at e
      cases e
      exact .inr ⟨_, vs.toArray, _, q, rfl, rfl, rfl, by rw [List.size_toArray, lenV]; exact hl, by simpa using vals⟩
  have e0 : Env0 P w K mg (hidT s₁.heap H) callerA [] s₁ H := ⟨rfl, hM, fun b o e => of_hidT e, Nat.le_of_eq (hidT_size _ _), trivial, fun b hb => absurd (show b ∈ ([] : List Addr) from hb) (by simp), hok, .of_eq hg⟩
  refine codeAny_mono (run _ H kin (ns_ hns) hTB tH hscr e0) fun r s' q => ?_
  cases r with
  | error e => exact False.elim q
  | ok fl =>
    cases fl with
    | next => exact False.elim q
    | brk => exact False.elim q
    | cont => exact False.elim q
    | ret u =>
      obtain ⟨v, H', os, bare, un, hok', rv, ev⟩ := q
      have ev : v = .bl true := ev
      subst ev
      have rv : u = Value.bool true := rv
      subst rv
      have stay : ∀ b o, b ∉ T → s₁.heap.get? b = some o → s'.heap.get? b = some o := fun b o nb e => by
        cases q : H b with
        | none => exact un.keep b o e q (by intro z; cases z) (by intro z; cases z)
        | some u =>
          rcases cH q with ⟨m, _⟩ | ⟨_, rfl, _, rfl⟩
          · exact absurd m nb
          · obtain ⟨e2, _⟩ := hok' b _ (un.frzs b _ _ q)
            rw [ha] at e
            cases e
            exact e2
      have grow : ∀ p ∈ cs, ∃ more : Array Value, s'.heap.get? p.2 = some { cls := .none, data := .fields more } := fun p hp => by
        obtain ⟨more, z⟩ := un.tbls p.2 #[] (tH p hp)
        exact ⟨_, hok' p.2 _ z⟩
      refine ⟨rfl, ⟨fun b o e => ?_, fun b o e => ?_⟩, os, bare⟩
      · by_cases m : b ∈ T
        · obtain ⟨p, hp, rfl⟩ := ofT b m
          obtain ⟨more, hm⟩ := grow p hp
          have e2 := hT p hp
          rw [e] at e2
          cases e2
          exact .inr (.inl ⟨((hC p hp).tab (hT p hp)).isCodeTable, rfl, #[], more, rfl, by rw [Array.empty_append]; exact hm⟩)
        · exact .inl (stay b o m e)
      · by_cases m : b ∈ T
        · obtain ⟨p, hp, rfl⟩ := ofT b m
          obtain ⟨more, hm⟩ := grow p hp
          exact ⟨_, hm⟩
        · exact ⟨o, stay b o m e⟩
/-- a def with no cells and no defaults, run at one place -/
theorem fn_run {P : Program} {w : World} {K : PySem.W.Frag} {mg : Str → Option Value} {base : Heap} {x q : Str} {st : Stmt} {f : Addr} {fd : FuncData} {N ps : List Str} {k : Nat} {A : Around} {outer : List Env} {s : Shared} {H : Hp} {us : List Value} {vs : List V} {Q : VK} {E : XK}
    (F : FunD K x q (defArgs st) (defBody st) (defScope st) [] [] f fd) (S : FnScope N ps (defScope st)) (hl : vs.length = ps.length) (hr : Room (k + 1) A) (e0 : Env0 P w K mg base A outer s H) (b : BindsTo s fd ⟨us, []⟩ (ps.zip us)) (r : Vals vs us)
    (body : ∀ cdv : Value, ∃ t, PSs (cxOf CX0 P w K mg base N q (defScope st) f cdv A outer s H E).nox (defBody st) t ∧ t { nx := fun _ H' => Q .non H', rt := Q } (start N vs) H) :
    codeAny (model P w) A (.call (.ref f) ⟨us, []⟩) (CR CX0 outer P w H s Q E) s := by
  obtain ⟨oc, od, dV, kV, doc, pm, an, cdv, ct, osl, rfl, lk, hcd, _, _⟩ := F.ex
  have KX : K.In s.heap := e0.mod.kin.keeps fun b o e => (e0.bs b o e).1
  have lim : s.heap.NoLimit := e0.mod.nolimit.keeps fun b o e => (e0.bs b o e).1
  have kinds : ∀ y ∈ ps.zip us, (defScope st).names.lookup y.1 = some .local ∨ ((defScope st).names.lookup y.1 = some .cell ∧ ((cellsFrom (s.heap.objs.size + 1) (defScope st).names []).lookup y.1).isSome = true) := by
    rintro ⟨n, v⟩ hy
    rcases S.par n (List.of_mem_zip hy).1 with h | h
    · exact .inl h
    · exact .inr ⟨h, PySem.W.cellsFrom_some _ _ _ (.inl h)⟩
  refine codeAny_call_function hr.depth (KX _ _ lk) rfl S.co S.gen rfl (PySem.W.codeRec_of KX hcd) (b _ _ _ _ (wpAny_newFunctionEnv_cells S.kind kinds fun env he s1 y => ?_))
  subst he
  refine ⟨lim.keeps y.toInCall.keep, codeAny_func ?_⟩
  obtain ⟨t, ht, hq⟩ := body cdv
  have I : Inv (cxOf CX0 P w K mg base N q (defScope st) f cdv A outer s H E) [] (start N vs) H s1 := inv_start S hr.hd e0 hl r y
  refine wpAny_mono (ht.nox.run [] s1 (start N vs) H _ I hq) (fun fl s' hs => ?_) fun e s' hs => hs
  cases fl with
  | ret u =>
    obtain ⟨v, σ', H', J, rv, z⟩ := hs
    exact ⟨v, H', J.os, J.bare, J.base, J.hok, rv, z⟩
  | next =>
    obtain ⟨σ', H', J, z⟩ := hs
    exact ⟨V.non, H', J.os, J.bare, J.base, J.hok, rfl, z⟩
  | brk =>
    obtain ⟨_, _, _, z⟩ := hs
    exact z.elim
  | cont =>
    obtain ⟨_, _, _, z⟩ := hs
    exact z.elim
end BW

set_option Elab.async false
set_option linter.all false
set_option maxRecDepth 100000
set_option maxHeartbeats 4000000
/-! the joining: what the walk asks of the top, out of the facts of the head -/
namespace BW
open PySem PySem.Spec PyProof.Rows L2
open LamX (Tabs TabB TabS ExtN CodeO)
theorem tx_of {K : PySem.W.Frag} {h : Heap} {mg : Str → Option Value} (X : K.In h) (G : h.Ns mainGlobals mg) (D : He.SaysD fa fn K) : Tx K mg where
  g_is_integer := He.glo_ok X G (D.fact 0 (f := .glo "is_integer") rfl)
  F_is_integer := D.def_ 0 (d := dF "is_integer" 12) rfl
  g_is_number := He.glo_ok X G (D.fact 1 (f := .glo "is_number") rfl)
  F_is_number := D.def_ 1 (d := dF "is_number" 13) rfl
  g_is_text := He.glo_ok X G (D.fact 2 (f := .glo "is_text") rfl)
  F_is_text := D.def_ 2 (d := dF "is_text" 14) rfl
  g_is_sequence := He.glo_ok X G (D.fact 3 (f := .glo "is_sequence") rfl)
  F_is_sequence := D.def_ 3 (d := dF "is_sequence" 15) rfl
  g_is_lot_of := He.glo_ok X G (D.fact 4 (f := .glo "is_lot_of") rfl)
  F_is_lot_of := D.def_ 4 (d := dF "is_lot_of" 16) rfl
  g_lot_within := He.glo_ok X G (D.fact 5 (f := .glo "lot_within") rfl)
  F_lot_within := D.def_ 5 (d := dF "lot_within" 17) rfl
  g_is_table := He.glo_ok X G (D.fact 7 (f := .glo "is_table") rfl)
  F_is_table := D.def_ 7 (d := dF "is_table" 20) rfl
  g_need_pair := He.glo_ok X G (D.fact 8 (f := .glo "need_pair") rfl)
  F_need_pair := D.def_ 8 (d := dF "need_pair" 22) rfl
  g_check_row := He.glo_ok X G (D.fact 9 (f := .glo "check_row") rfl)
  F_check_row := D.def_ 9 (d := dF "check_row" 23) rfl
  g_check_family := He.glo_ok X G (D.fact 10 (f := .glo "check_family") rfl)
  F_check_family := D.def_ 10 (d := dF "check_family" 26) rfl
  g_joined_lot := He.glo_ok X G (D.fact 11 (f := .glo "joined_lot") rfl)
  F_joined_lot := D.def_ 11 (d := dF "joined_lot" 27) rfl
  g_has_full := He.glo_ok X G (D.fact 12 (f := .glo "has_full") rfl)
  F_has_full := D.def_ 12 (d := dF "has_full" 28) rfl
  g_pair_of := He.glo_ok X G (D.fact 13 (f := .glo "pair_of") rfl)
  F_pair_of := D.def_ 13 (d := dF "pair_of" 30) rfl
  g_next_node := He.glo_ok X G (D.fact 14 (f := .glo "next_node") rfl)
  F_next_node := D.def_ 14 (d := dF "next_node" 31) rfl
  g_round_rows := He.glo_ok X G (D.fact 15 (f := .glo "round_rows") rfl)
  F_round_rows := D.def_ 15 (d := dF "round_rows" 33) rfl
  g_pair_rows := He.glo_ok X G (D.fact 16 (f := .glo "pair_rows") rfl)
  F_pair_rows := D.def_ 16 (d := dF "pair_rows" 34) rfl
  g_pairs_of := He.glo_ok X G (D.fact 17 (f := .glo "pairs_of") rfl)
  F_pairs_of := D.def_ 17 (d := dF "pairs_of" 35) rfl
  g_pair_web := He.glo_ok X G (D.fact 18 (f := .glo "pair_web") rfl)
  F_pair_web := D.def_ 18 (d := dF "pair_web" 36) rfl
  g_levels_of := He.glo_ok X G (D.fact 19 (f := .glo "levels_of") rfl)
  F_levels_of := D.def_ 19 (d := dF "levels_of" 37) rfl
  g_ranks_of := He.glo_ok X G (D.fact 20 (f := .glo "ranks_of") rfl)
  F_ranks_of := D.def_ 20 (d := dF "ranks_of" 38) rfl
  g_most_rounds := He.glo_ok X G (D.fact 21 (f := .glo "most_rounds") rfl)
  F_most_rounds := D.def_ 21 (d := dF "most_rounds" 39) rfl
  g_first_of := He.glo_ok X G (D.fact 22 (f := .glo "first_of") rfl)
  F_first_of := D.def_ 22 (d := dF "first_of" 40) rfl
  g__law_box := He.glo_ok X G (D.fact 28 (f := .glo "_law_box") rfl)
  F__law_box := D.def_ 28 (d := dF "_law_box" 43) rfl
  g__law_take := He.glo_ok X G (D.fact 29 (f := .glo "_law_take") rfl)
  F__law_take := D.def_ 29 (d := dF "_law_take" 44) rfl
  g__law_pick := He.glo_ok X G (D.fact 30 (f := .glo "_law_pick") rfl)
  F__law_pick := D.def_ 30 (d := dF "_law_pick" 45) rfl
  g__law_falling := He.glo_ok X G (D.fact 31 (f := .glo "_law_falling") rfl)
  F__law_falling := D.def_ 31 (d := dF "_law_falling" 46) rfl
  g__law_table := He.glo_ok X G (D.fact 32 (f := .glo "_law_table") rfl)
  F__law_table := D.def_ 32 (d := dF "_law_table" 47) rfl
  g__law_named := He.glo_ok X G (D.fact 33 (f := .glo "_law_named") rfl)
  F__law_named := D.def_ 33 (d := dF "_law_named" 48) rfl
  g__law_tables := He.glo_ok X G (D.fact 34 (f := .glo "_law_tables") rfl)
  F__law_tables := D.def_ 34 (d := dF "_law_tables" 49) rfl
  g__law_lots := He.glo_ok X G (D.fact 35 (f := .glo "_law_lots") rfl)
  F__law_lots := D.def_ 35 (d := dF "_law_lots" 50) rfl
  g__law_family := He.glo_ok X G (D.fact 36 (f := .glo "_law_family") rfl)
  F__law_family := D.def_ 36 (d := dF "_law_family" 51) rfl
  g__law_full := He.glo_ok X G (D.fact 37 (f := .glo "_law_full") rfl)
  F__law_full := D.def_ 37 (d := dF "_law_full" 52) rfl
  g__law_more := He.glo_ok X G (D.fact 38 (f := .glo "_law_more") rfl)
  F__law_more := D.def_ 38 (d := dF "_law_more" 53) rfl
  g__law_next := He.glo_ok X G (D.fact 39 (f := .glo "_law_next") rfl)
  F__law_next := D.def_ 39 (d := dF "_law_next" 54) rfl
  g__law_pairs := He.glo_ok X G (D.fact 40 (f := .glo "_law_pairs") rfl)
  F__law_pairs := D.def_ 40 (d := dF "_law_pairs" 55) rfl
  g__law_steps := He.glo_ok X G (D.fact 41 (f := .glo "_law_steps") rfl)
  F__law_steps := D.def_ 41 (d := dF "_law_steps" 56) rfl
  g__law_web := He.glo_ok X G (D.fact 42 (f := .glo "_law_web") rfl)
  F__law_web := D.def_ 42 (d := dF "_law_web" 57) rfl
  g__law_ranks := He.glo_ok X G (D.fact 43 (f := .glo "_law_ranks") rfl)
  F__law_ranks := D.def_ 43 (d := dF "_law_ranks" 58) rfl
  g__law_rows := He.glo_ok X G (D.fact 44 (f := .glo "_law_rows") rfl)
  F__law_rows := D.def_ 44 (d := dF "_law_rows" 59) rfl
  g__law_due := He.glo_ok X G (D.fact 45 (f := .glo "_law_due") rfl)
  F__law_due := D.def_ 45 (d := dF "_law_due" 60) rfl
  g__law_walk := He.glo_ok X G (D.fact 46 (f := .glo "_law_walk") rfl)
  F__law_walk := D.def_ 46 (d := dF "_law_walk" 61) rfl
  g__law_refused := He.glo_ok X G (D.fact 47 (f := .glo "_law_refused") rfl)
  F__law_refused := D.def_ 47 (d := dF "_law_refused" 62) rfl
  g__law_none := He.glo_ok X G (D.fact 48 (f := .glo "_law_none") rfl)
  F__law_none := D.def_ 48 (d := dF "_law_none" 63) rfl
  g__law_followed := He.glo_ok X G (D.fact 49 (f := .glo "_law_followed") rfl)
  F__law_followed := D.def_ 49 (d := dF "_law_followed" 64) rfl
  g_law := He.glo_ok X G (D.fact 50 (f := .glo "law") rfl)
  F_law := D.def_ 50 (d := dF "law" 65) rfl
  F_Device___init__ := D.def_ 6 (d := dM "Device" "__init__" "Device.__init__" 19 0) rfl
  F_Keeper___init__ := D.def_ 23 (d := dM "Keeper" "__init__" "Keeper.__init__" 41 0) rfl
  F_Keeper_hear := D.def_ 24 (d := dM "Keeper" "hear" "Keeper.hear" 41 1) rfl
  F_Keeper_standing := D.def_ 25 (d := dM "Keeper" "standing" "Keeper.standing" 41 2) rfl
  F_Keeper_more_rounds := D.def_ 26 (d := dM "Keeper" "more_rounds" "Keeper.more_rounds" 41 3) rfl
  F_Keeper_next_row := D.def_ 27 (d := dM "Keeper" "next_row" "Keeper.next_row" 41 4) rfl
  n_isinstance := He.free_ok X G (D.fact 51 (f := .free "isinstance") rfl)
  n_int := He.free_ok X G (D.fact 52 (f := .free "int") rfl)
  n_bool := He.free_ok X G (D.fact 53 (f := .free "bool") rfl)
  n_str := He.free_ok X G (D.fact 54 (f := .free "str") rfl)
  n_list := He.free_ok X G (D.fact 55 (f := .free "list") rfl)
  n_tuple := He.free_ok X G (D.fact 56 (f := .free "tuple") rfl)
  n_len := He.free_ok X G (D.fact 57 (f := .free "len") rfl)
  n_all := He.free_ok X G (D.fact 58 (f := .free "all") rfl)
  n_any := He.free_ok X G (D.fact 59 (f := .free "any") rfl)
  n_enumerate := He.free_ok X G (D.fact 60 (f := .free "enumerate") rfl)
  n_range := He.free_ok X G (D.fact 61 (f := .free "range") rfl)
  n_sorted := He.free_ok X G (D.fact 62 (f := .free "sorted") rfl)
  n_min := He.free_ok X G (D.fact 63 (f := .free "min") rfl)
  n_max := He.free_ok X G (D.fact 64 (f := .free "max") rfl)
  n_abs := He.free_ok X G (D.fact 65 (f := .free "abs") rfl)
  n_repr := He.free_ok X G (D.fact 66 (f := .free "repr") rfl)
  n_super := He.free_ok X G (D.fact 67 (f := .free "super") rfl)
  n_KeyError := He.free_ok X G (D.fact 68 (f := .free "KeyError") rfl)
  n_ValueError := He.free_ok X G (D.fact 69 (f := .free "ValueError") rfl)
  g_Device := He.glo_ok X G (D.fact 6 (f := .glo "Device") rfl)
  g_Keeper := He.glo_ok X G (D.fact 23 (f := .glo "Keeper") rfl)
  g_BackError := He.glo_ok X G (D.fact 24 (f := .glo "BackError") rfl)
  g_BadRow := He.glo_ok X G (D.fact 25 (f := .glo "BadRow") rfl)
  g_BadFamily := He.glo_ok X G (D.fact 26 (f := .glo "BadFamily") rfl)
  g_NoPair := He.glo_ok X G (D.fact 27 (f := .glo "NoPair") rfl)
  g_SIGNALS := He.str_ok X G (D.fact 70 (f := .str "SIGNALS" "abcde") rfl)
  g_MOST_STATES := He.int_ok X G (D.fact 71 (f := .int "MOST_STATES" 60) rfl)
  g_MOST_SIGNS := He.int_ok X G (D.fact 72 (f := .int "MOST_SIGNS" 10000) rfl)
  g_MOST_LOTS := He.int_ok X G (D.fact 73 (f := .int "MOST_LOTS" 31) rfl)
  cl_Device := He.cls_ok (D.fact 74 (f := .cls "Device") rfl)
  mk_Device := He.mkr_ok (D.fact 75 (f := .mkr "Device") rfl)
  cl_Keeper := He.cls_ok (D.fact 79 (f := .cls "Keeper") rfl)
  mk_Keeper := He.mkr_ok (D.fact 80 (f := .mkr "Keeper") rfl)
  at_Device_states := He.noat_ok (D.fact 76 (f := .noat "Device" "states") rfl)
  at_Device_signals := He.noat_ok (D.fact 77 (f := .noat "Device" "signals") rfl)
  at_Device_tables := He.noat_ok (D.fact 78 (f := .noat "Device" "tables") rfl)
  at_Keeper_device := He.noat_ok (D.fact 81 (f := .noat "Keeper" "device") rfl)
  at_Keeper_lots := He.noat_ok (D.fact 82 (f := .noat "Keeper" "lots") rfl)
  at_Keeper_apart := He.noat_ok (D.fact 83 (f := .noat "Keeper" "apart") rfl)
  at_Keeper_ranks := He.noat_ok (D.fact 84 (f := .noat "Keeper" "ranks") rfl)
  at_Keeper_since := He.noat_ok (D.fact 85 (f := .noat "Keeper" "since") rfl)
  at_Keeper_cuts := He.noat_ok (D.fact 86 (f := .noat "Keeper" "cuts") rfl)
  me_hear := He.meth_ok (D.fact 87 (f := .meth "Keeper" "hear") rfl)
  me_standing := He.meth_ok (D.fact 88 (f := .meth "Keeper" "standing") rfl)
  me_more_rounds := He.meth_ok (D.fact 89 (f := .meth "Keeper" "more_rounds") rfl)
  me_next_row := He.meth_ok (D.fact 90 (f := .meth "Keeper" "next_row") rfl)
theorem room13 : Room 13 callerA := ⟨rfl, by decide, by decide⟩
theorem tabs0 {K : PySem.W.Frag} {H : Hp} (h : ∀ p ∈ tf.map (He.cT K), H p.2 = some (.tbl #[])) : Tabs (T3 K) H := by
  have e : ∀ P q, H P = some (.tbl #[]) → TabS H P q := fun P q z => ⟨#[], z, trivial, fun pos cv z => by cases z⟩
  intro p hp
  rcases List.mem_cons.mp hp with z | hp
  · rw [z]
    exact e _ _ (h _ List.mem_cons_self)
  rcases List.mem_cons.mp hp with z | hp
  · rw [z]
    exact e _ _ (h _ (List.mem_cons_of_mem _ List.mem_cons_self))
  · rw [List.mem_singleton.mp hp]
    exact e _ _ (h _ (List.mem_cons_of_mem _ (List.mem_cons_of_mem _ List.mem_cons_self)))
theorem tb_of {K : PySem.W.Frag} {mg : Str → Option Value} {base : Heap} (h : ∀ p ∈ tf.map (He.cT K), TabB base mg p.1 p.2) (d : exD K = true) : Tb K mg base := by
  obtain ⟨d1, d⟩ := Bool.and_eq_true_iff.mp d
  obtain ⟨d2, d3⟩ := Bool.and_eq_true_iff.mp d
  refine ⟨fun x hx => ?_, of_decide_eq_true d1, of_decide_eq_true d2, of_decide_eq_true d3⟩
  rcases List.mem_cons.mp hx with z | hx
  · rw [z]
    exact h _ List.mem_cons_self
  rcases List.mem_cons.mp hx with z | hx
  · rw [z]
    exact h _ (List.mem_cons_of_mem _ List.mem_cons_self)
  · rw [List.mem_singleton.mp hx]
    exact h _ (List.mem_cons_of_mem _ (List.mem_cons_of_mem _ List.mem_cons_self))
/-- the law's call, in any heap of which the head's facts are told -/
theorem law_call_ok {w : World} {h : Heap} {mg mb : Str → Option Value} {sa fa : Addr} {s₁ : Shared} {vs : List Value} {ns : List Int} (Y : hkY.says w s₁.heap) (hns : s₁.heap.Ns mainGlobals mg) (hb : s₁.heap.Ns builtinsNs mb) (hbb : ∀ x : Str, x ≠ "__name__" → mb x = bootBuiltins x) (hlim : s₁.heap.NoLimit) (hg : s₁.gens = #[])
    (hbm : ∃ (bm : Addr) (ob : Obj), mg "__builtins__" = some (.ref bm) ∧ bm ≠ builtinsNs ∧ s₁.heap.get? bm = some ob ∧ ob.cls = .type "module" ∧ ob.dict = some builtinsNs ∧ ob.data = .plain)
    (hfa : mg "law" = some (.ref fa)) (ha : s₁.heap.get? sa = some { cls := .type "list", data := .seq vs.toArray }) (hi : IntsAre vs ns) (hl : ns.length ≤ sizeLine) :
    codeAny (model PySem.Challenge.pw_backinstep_k90_whole_the_keeper w) callerA (.call (.ref fa) ⟨[.ref sa], []⟩) (fun r s' => r = .ok (.ret (.bool true)) ∧ OldK s₁.heap s'.heap ∧ s'.os = s₁.os ∧ AllBare s'.gens) s₁ := by
  obtain ⟨K, KX, c, ex⟩ := Y
  have D := c.t.d
  have T : Tx K mg := tx_of KX hns D
  have e := hfa.symm.trans T.g_law
  cases e
  obtain ⟨x1, x2⟩ := Bool.and_eq_true_iff.mp (show (exA K && (exB K && (exC' PySem.Challenge.pw_backinstep_k90_whole_the_keeper.main.file K && exD K))) = true from c.more)
  obtain ⟨x2, x3⟩ := Bool.and_eq_true_iff.mp x2
  obtain ⟨x3, x4⟩ := Bool.and_eq_true_iff.mp x3
  have ex : [xObs K "BadRow", xObs K "BadFamily", xObs K "NoPair"] = [xVal "BadRow.__init__" (inClass (top 4) 0), xVal "BadFamily.__init__" (inClass (top 5) 0), xVal "NoPair.__init__" (inClass (top 7) 0)] := ex
  injection ex with e1 ex
  injection ex with e2 ex
  injection ex with e3 _
  have Xx : Xs PySem.Challenge.pw_backinstep_k90_whole_the_keeper K mg := xs_of x1 x3 (by decide +kernel) e1 e2 e3
  have Xt : Xt K := xt_of x2
  obtain ⟨fd, F⟩ := T.F_law
  refine law_go (cs := tf.map (He.cT K)) KX hns hb hbb hlim hg (fun p hp => ?_) (fun p hp => ?_) (fun p hp => ?_) hbm ha hi hl fun base H kin hnsb hTB tH hscr e0 => ?_
  · obtain ⟨q, hq, rfl⟩ := List.mem_map.mp hp
    exact c.empty q hq
  · obtain ⟨q, hq, rfl⟩ := List.mem_map.mp hp
    exact c.out q hq
  · obtain ⟨q, hq, rfl⟩ := List.mem_map.mp hp
    exact PySem.W.codeHd_of_K KX (c.hd q hq)
  · refine fn_run (N := NLW) (ps := ["_law_script"]) (vs := [.ref sa]) F sc_law rfl room13 e0 (F.bindsA (fun _ _ _ _ _ _ us hl => match us, hl with | [_], _ => rfl) s₁ [.ref sa] rfl) (.cons rfl .nil) fun cdv => ?_
    obtain ⟨t, p, q⟩ := law_walked (P := PySem.Challenge.pw_backinstep_k90_whole_the_keeper) (w := w) (cdv := cdv) (outer := []) (s0 := s₁) (H0 := H) (E0' := fun _ _ _ => False) (sa := sa) (ns := ns) T (tb_of hTB x4) Xx Xt (room13.deeper _) rfl
    exact ⟨t, p, q _ H hscr (tabs0 tH) fun _ => rfl⟩
end BW

set_option Elab.async false
set_option linter.all false
set_option maxRecDepth 100000
set_option maxHeartbeats 0
/-! the law holds -/
open PySem PySem.W PySem.Calls PyProof.Rows
theorem PySem.Challenge.cw_backinstep_k90_whole_the_keeper_holds : PySem.Challenge.rw_backinstep_k90_whole_the_keeper.Holds := by
  w_on; o_law
  refine HandSHeadRun.head_any (r := OpenLaw.row PySem.Challenge.rw_backinstep_k90_whole_the_keeper) (q := view (OpenLaw.row PySem.Challenge.rw_backinstep_k90_whole_the_keeper).prog [65]) (H := BW.hkY) (ob := BW.obY) (M := 20000) (loose := BW.names) (d := HandSHeadRun.topDef (OpenLaw.row PySem.Challenge.rw_backinstep_k90_whole_the_keeper).prog 65) (kwd := []) BW.obY_eq
    (by kernel_rfl) (fun s => by kernel_rfl) BW.runY (by kernel_rfl) (by kernel_rfl) (by kernel_rfl) (by rfl) (by first | assumption | decide +kernel) (by decide +kernel) ⟨rfl, rfl, rfl, rfl, rfl, by decide +kernel⟩ ?hw ?hc
  case hw => w_witness2
  case hc =>
    refine Att.attach_callB (l := PySem.Challenge.rw_backinstep_k90_whole_the_keeper) (n := 63) rfl (by kernel_rfl) fun w s₀ s₁ mg mb fa o pm cd doc a vs ns G Y ho hd hcd hmg hobj hints hlen hbits hg => ?_
    have hfa : mg ("law" : PySem.Str) = some (.ref fa) := by
      have e : (HandSHeadRun.topDef (OpenLaw.row PySem.Challenge.rw_backinstep_k90_whole_the_keeper).prog 65).name = ("law" : PySem.Str) := by kernel_rfl
      rw [← e]
      exact hmg
    exact BW.law_call_ok (h := s₁.heap) Y G.T.g G.T.b G.T.builtins G.T.nolimit hg G.T.bmain hfa hobj hints (Nat.le_trans hlen (by decide))
