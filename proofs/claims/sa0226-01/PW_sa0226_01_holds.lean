import PyProof.Rows.All
import Wide.All
import Open.Line
import Wide.FinOn
import PySem.Challenge.RW_sa0226_01
set_option Elab.async false
set_option genSizeOf false
set_option bootstrap.genMatcherCode false

section
open PySem PySem.W PyProof.Rows PySem.Calls
set_option autoImplicit false
namespace Mine

/-- plain values: what a Python value of this text says; `cell` is a list or a dict that may still be changed -/
inductive V where
  | none | bool (b : Bool) | int (i : Int) | str (s : Str)
  | tup (l : List V) | lst (l : List V) | cell (k : Nat)
  deriving Inhabited

inductive Cell where
  | lst (l : List V)
  | dct (l : List (Str × V))
  deriving Inhabited

noncomputable abbrev Sto := List Cell

mutual
/-- the machine's value `v` bears `V` at the heap `h`; lists lie off `X`; cells lie where `μ` says -/
inductive RV (X : Addr → Prop) (μ : List Addr) (h : Heap) : V → Value → Prop
  | none : RV X μ h .none .none
  | bool (b : Bool) : RV X μ h (.bool b) (.bool b)
  | int (i : Int) (t : Tok) : RV X μ h (.int i) (.int i t)
  | str (s : Str) (t : Tok) : RV X μ h (.str s) (.str s t)
  | tup {a : Addr} {o : Obj} {n : Nat} {vs : Array Value} {l : List V} : h.get? a = some o → o.cls = .type "tuple" → o.data = .seq vs n → RVs X μ h l vs.toList → RV X μ h (.tup l) (.ref a)
  | lst {a : Addr} {o : Obj} {n : Nat} {vs : Array Value} {l : List V} : h.get? a = some o → o.cls = .type "list" → o.data = .seq vs n → ¬ X a → RVs X μ h l vs.toList → RV X μ h (.lst l) (.ref a)
  | cell {k : Nat} {a : Addr} : μ[k]? = some a → RV X μ h (.cell k) (.ref a)
inductive RVs (X : Addr → Prop) (μ : List Addr) (h : Heap) : List V → List Value → Prop
  | nil : RVs X μ h [] []
  | cons {x : V} {v : Value} {xs : List V} {vs : List Value} : RV X μ h x v → RVs X μ h xs vs → RVs X μ h (x :: xs) (v :: vs)
end

section
variable {X Y : Addr → Prop} {μ μ' : List Addr} {h h' : Heap}

theorem RV.go (hk : ∀ b o, h.get? b = some o → (∃ vs n, o.data = .seq vs n) → (o.cls = .type "tuple" ∨ (o.cls = .type "list" ∧ ¬ X b)) → h'.get? b = some o ∧ (o.cls = .type "list" → ¬ X b → ¬ Y b))
    (hμ : ∀ (k : Nat) a, μ[k]? = some a → μ'[k]? = some a) {x : V} {v : Value} (r : RV X μ h x v) : RV Y μ' h' x v :=
  RV.rec (motive_1 := fun x v _ => RV Y μ' h' x v) (motive_2 := fun xs vs _ => RVs Y μ' h' xs vs) .none (fun b => .bool b) (fun i t => .int i t) (fun s t => .str s t) (fun ho hc hd _ ih => .tup (hk _ _ ho ⟨_, _, hd⟩ (.inl hc)).1 hc hd ih)
    (fun ho hc hd hX _ ih => .lst (hk _ _ ho ⟨_, _, hd⟩ (.inr ⟨hc, hX⟩)).1 hc hd ((hk _ _ ho ⟨_, _, hd⟩ (.inr ⟨hc, hX⟩)).2 hc hX) ih) (fun hc => .cell (hμ _ _ hc)) .nil (fun _ _ a b => .cons a b) r
theorem RVs.go (hk : ∀ b o, h.get? b = some o → (∃ vs n, o.data = .seq vs n) → (o.cls = .type "tuple" ∨ (o.cls = .type "list" ∧ ¬ X b)) → h'.get? b = some o ∧ (o.cls = .type "list" → ¬ X b → ¬ Y b))
    (hμ : ∀ (k : Nat) a, μ[k]? = some a → μ'[k]? = some a) {xs : List V} : ∀ {vs : List Value}, RVs X μ h xs vs → RVs Y μ' h' xs vs := by
  induction xs with
  | nil => intro _ r; cases r; exact .nil
  | cons x xs ih => intro _ r; cases r with | cons h1 h2 => exact .cons (RV.go hk hμ h1) (ih h2)

theorem RVs.length {xs : List V} {vs : List Value} (r : RVs X μ h xs vs) : vs.length = xs.length := by
  induction xs generalizing vs with
  | nil => cases r; rfl
  | cons x xs ih => cases r with | cons hx hr => simp [ih hr]
theorem RVs.get {xs : List V} {vs : List Value} (r : RVs X μ h xs vs) {k : Nat} {x : V} (hx : xs[k]? = some x) : ∃ v, vs[k]? = some v ∧ RV X μ h x v := by
  induction xs generalizing vs k with
  | nil => simp at hx
  | cons y ys ih =>
    cases r with
    | cons h1 h2 =>
      cases k with
      | zero => simp at hx; subst hx; exact ⟨_, rfl, h1⟩
      | succ k => simp at hx; simpa using ih h2 hx
theorem RVs.append {xs ys : List V} {vs ws : List Value} (r : RVs X μ h xs vs) (q : RVs X μ h ys ws) : RVs X μ h (xs ++ ys) (vs ++ ws) := by
  induction xs generalizing vs with
  | nil => cases r; exact q
  | cons x xs ih => cases r with | cons h1 h2 => exact .cons h1 (ih h2)
theorem RVs.one {x : V} {v : Value} (r : RV X μ h x v) : RVs X μ h [x] [v] := .cons r .nil
theorem RVs.drop {xs : List V} {vs : List Value} (r : RVs X μ h xs vs) (k : Nat) : RVs X μ h (xs.drop k) (vs.drop k) := by
  induction k generalizing xs vs with
  | zero => exact r
  | succ k ih => cases r with | nil => exact .nil | cons h1 h2 => exact ih h2
theorem RVs.take {xs : List V} {vs : List Value} (r : RVs X μ h xs vs) (k : Nat) : RVs X μ h (xs.take k) (vs.take k) := by
  induction k generalizing xs vs with
  | zero => exact .nil
  | succ k ih => cases r with | nil => exact .nil | cons h1 h2 => exact .cons h1 (ih h2)
theorem RVs.reverse {xs : List V} {vs : List Value} (r : RVs X μ h xs vs) : RVs X μ h xs.reverse vs.reverse := by
  induction xs generalizing vs with
  | nil => cases r; exact .nil
  | cons x xs ih => cases r with | cons h1 h2 => simpa using (ih h2).append (RVs.one h1)
theorem RVs.set {xs : List V} {vs : List Value} (r : RVs X μ h xs vs) (k : Nat) {x : V} {v : Value} (hx : RV X μ h x v) : RVs X μ h (xs.set k x) (vs.set k v) := by
  induction xs generalizing vs k with
  | nil => cases r; exact .nil
  | cons y ys ih =>
    cases r with
    | cons h1 h2 =>
      cases k with
      | zero => exact .cons hx h2
      | succ k => exact .cons h1 (ih h2 k)
theorem RVs.of_get {xs : List V} {vs : List Value} (hl : vs.length = xs.length) (hg : ∀ (k : Nat) x v, xs[k]? = some x → vs[k]? = some v → RV X μ h x v) : RVs X μ h xs vs := by
  induction xs generalizing vs with
  | nil => cases vs with | nil => exact .nil | cons => simp at hl
  | cons x xs ih =>
    cases vs with
    | nil => simp at hl
    | cons v vs => exact .cons (hg 0 x v rfl rfl) (ih (by simpa using hl) fun k y w h1 h2 => hg (k + 1) y w (by simpa using h1) (by simpa using h2))
theorem RVs.replicate {x : V} {v : Value} (r : RV X μ h x v) (n : Nat) : RVs X μ h (List.replicate n x) (List.replicate n v) := by
  induction n with
  | zero => exact .nil
  | succ n ih => exact .cons r ih
theorem RVs.flat {xs : List (List V)} {vs : List (List Value)} (hl : vs.length = xs.length) (hg : ∀ (k : Nat) x v, xs[k]? = some x → vs[k]? = some v → RVs X μ h x v) : RVs X μ h xs.flatten vs.flatten := by
  induction xs generalizing vs with
  | nil => cases vs with | nil => exact .nil | cons => simp at hl
  | cons x xs ih =>
    cases vs with
    | nil => simp at hl
    | cons v vs => exact (hg 0 x v rfl rfl).append (ih (by simpa using hl) fun k y w h1 h2 => hg (k + 1) y w (by simpa using h1) (by simpa using h2))
end

/-- what stood and is no changeable cell stands as it stood; tuples stand whatever -/
noncomputable def Pres (μ : List Addr) (h h' : Heap) : Prop := ∀ b o, h.get? b = some o → (b ∉ μ ∨ o.cls = .type "tuple") → h'.get? b = some o
/-- the cells of `μ` are the first of `μ'`; the others are new -/
noncomputable def Ext (μ : List Addr) (h : Heap) (μ' : List Addr) (h' : Heap) : Prop := Pres μ h h' ∧ μ <+: μ' ∧ ∀ a ∈ μ', a ∈ μ ∨ h.get? a = none

noncomputable abbrev RM (μ : List Addr) (h : Heap) : V → Value → Prop := RV (fun a => a ∈ μ) μ h
noncomputable abbrev RMs (μ : List Addr) (h : Heap) : List V → List Value → Prop := RVs (fun a => a ∈ μ) μ h

section
variable (prog : Program) (w : World)

inductive PairsRV (X : Addr → Prop) (μ : List Addr) (h : Heap) : List (Str × V) → List (Str × Value) → Prop
  | nil : PairsRV X μ h [] []
  | cons {x : Str} {V : V} {v : Value} {xs : List (Str × Mine.V)} {vs : List (Str × Value)} : RV X μ h V v → PairsRV X μ h xs vs → PairsRV X μ h ((x, V) :: xs) ((x, v) :: vs)

noncomputable def CellAt (μ : List Addr) (h : Heap) (a : Addr) : Cell → Prop
  | .lst l => ∃ n vs, h.get? a = some { cls := .type "list", data := .seq vs n } ∧ RMs μ h l vs.toList ∧ l.length ≤ sizeLine
  | .dct l => ∃ kvs, h.DictOf (strKind prog w) a kvs ∧ PairsRV (fun a => a ∈ μ) μ h l kvs ∧ l.length ≤ 100

structure St (h₀ : Heap) (μ : List Addr) (h : Heap) (σ : Sto) : Prop where
  base : ∀ b o, h₀.get? b = some o → h.get? b = some o
  off : ∀ a ∈ μ, h₀.get? a = none
  nd : μ.Nodup
  len : μ.length = σ.length
  cells : ∀ (k : Nat) a c, μ[k]? = some a → σ[k]? = some c → CellAt prog w μ h a c
end

section
variable {prog : Program} {w : World} {h₀ h h' h'' : Heap} {μ μ' μ'' : List Addr} {σ : Sto}

theorem CellAt.some {a : Addr} {c : Cell} (x : CellAt prog w μ h a c) : ∃ o, h.get? a = some o ∧ o.cls ≠ .type "tuple" := by
  cases c with
  | lst l => obtain ⟨n, vs, ho, _⟩ := x; exact ⟨_, ho, by simp⟩
  | dct l => obtain ⟨kvs, ⟨o, es, ep, ho, hx, _⟩, _⟩ := x; exact ⟨o, ho, by rw [hx.1]; simp⟩

theorem Ext.refl (μ : List Addr) (h : Heap) : Ext μ h μ h := ⟨fun _ _ e _ => e, List.prefix_rfl, fun _ ha => .inl ha⟩

theorem prefix_get {l l' : List Addr} (hp : l <+: l') {k : Nat} {a : Addr} (h : l[k]? = some a) : l'[k]? = some a := by
  obtain ⟨t, rfl⟩ := hp
  rw [List.getElem?_append_left (by exact (List.getElem?_eq_some_iff.mp h).1)]; exact h

theorem St.exists {a : Addr} (S : St prog w h₀ μ h σ) (ha : a ∈ μ) : ∃ o, h.get? a = some o ∧ o.cls ≠ .type "tuple" := by
  obtain ⟨k, hk, rfl⟩ := List.mem_iff_getElem.mp ha
  have hk' : k < σ.length := S.len ▸ hk
  exact (S.cells k μ[k] σ[k] (List.getElem?_eq_getElem hk) (List.getElem?_eq_getElem hk')).some

/-- composing: the cells of the first state still exist in the second -/
theorem Ext.trans {σ' : Sto} (S' : St prog w h₀ μ' h' σ') (x : Ext μ h μ' h') (y : Ext μ' h' μ'' h'') : Ext μ h μ'' h'' := by
  refine ⟨fun b o e hb => y.1 b o (x.1 b o e hb) ?_, x.2.1.trans y.2.1, fun a ha => ?_⟩
  · rcases hb with hb | hb
    · by_cases hm : b ∈ μ'
      · rcases x.2.2 b hm with h1 | h1
        · exact absurd h1 hb
        · rw [h1] at e; cases e
      · exact .inl hm
    · exact .inr hb
  · rcases y.2.2 a ha with h1 | h1
    · exact x.2.2 a h1
    · by_cases hm : a ∈ μ
      · exact .inl hm
      · right
        cases e : h.get? a with
        | none => rfl
        | some o => rw [x.1 a o e (.inl hm)] at h1; cases h1

theorem Ext.rv {x : V} {v : Value} (e : Ext μ h μ' h') (r : RM μ h x v) : RM μ' h' x v := by
  refine RV.go (fun b o ho _ hc => ⟨e.1 b o ho ?_, fun hl hX hm => ?_⟩) (fun k a hk => prefix_get e.2.1 hk) r
  · rcases hc with hc | hc
    · exact .inr hc
    · exact .inl hc.2
  · rcases e.2.2 b hm with h1 | h1
    · exact hX h1
    · rw [h1] at ho; cases ho
theorem Ext.rvs {x : List V} {v : List Value} (e : Ext μ h μ' h') (r : RMs μ h x v) : RMs μ' h' x v := by
  refine RVs.go (fun b o ho _ hc => ⟨e.1 b o ho ?_, fun hl hX hm => ?_⟩) (fun k a hk => prefix_get e.2.1 hk) r
  · rcases hc with hc | hc
    · exact .inr hc
    · exact .inl hc.2
  · rcases e.2.2 b hm with h1 | h1
    · exact hX h1
    · rw [h1] at ho; cases ho

theorem PairsRV.go {X Y : Addr → Prop} (f : ∀ x v, RV X μ h x v → RV Y μ' h' x v) {l : List (Str × V)} {kvs : List (Str × Value)} (p : PairsRV X μ h l kvs) : PairsRV Y μ' h' l kvs := by
  induction p with
  | nil => exact .nil
  | cons r _ ih => exact .cons (f _ _ r) ih

/-- the heap grew (nothing that stood was changed) -/
theorem St.grow (S : St prog w h₀ μ h σ) (hk : ∀ b o, h.get? b = some o → h'.get? b = some o) : St prog w h₀ μ h' σ := by
  have f : ∀ x v, RM μ h x v → RM μ h' x v := fun x v r => RV.go (fun b o ho _ _ => ⟨hk b o ho, fun _ hX => hX⟩) (fun _ _ e => e) r
  have fs : ∀ x v, RMs μ h x v → RMs μ h' x v := fun x v r => RVs.go (fun b o ho _ _ => ⟨hk b o ho, fun _ hX => hX⟩) (fun _ _ e => e) r
  refine ⟨fun b o e => hk b o (S.base b o e), S.off, S.nd, S.len, fun k a c h1 h2 => ?_⟩
  have := S.cells k a c h1 h2
  cases c with
  | lst l => obtain ⟨n, vs, ho, r, hl⟩ := this; exact ⟨n, vs, hk _ _ ho, fs _ _ r, hl⟩
  | dct l => obtain ⟨kvs, ⟨o, es, ep, ho, r⟩, p, hl⟩ := this; exact ⟨kvs, ⟨o, es, ep, hk _ _ ho, r⟩, p.go f, hl⟩
theorem Ext.grow (μ : List Addr) (hk : ∀ b o, h.get? b = some o → h'.get? b = some o) : Ext μ h μ h' := ⟨fun b o e _ => hk b o e, List.prefix_rfl, fun _ ha => .inl ha⟩

/-- a change at one place whose object is no sequence (a frame's names) -/
theorem rm_off {L : Addr} {oL : Obj} (hs : Heap.ExtBut L h h') (hL : h.get? L = some oL) (hd : ∀ vs n, oL.data ≠ .seq vs n) {x : V} {v : Value} (r : RM μ h x v) : RM μ h' x v :=
  RV.go (fun b o ho hq _ => ⟨hs b o (by rintro rfl; rw [hL] at ho; cases ho; obtain ⟨vs, n, e⟩ := hq; exact hd vs n e) ho, fun _ hX => hX⟩) (fun _ _ e => e) r
theorem rms_off {L : Addr} {oL : Obj} (hs : Heap.ExtBut L h h') (hL : h.get? L = some oL) (hd : ∀ vs n, oL.data ≠ .seq vs n) {x : List V} {v : List Value} (r : RMs μ h x v) : RMs μ h' x v :=
  RVs.go (fun b o ho hq _ => ⟨hs b o (by rintro rfl; rw [hL] at ho; cases ho; obtain ⟨vs, n, e⟩ := hq; exact hd vs n e) ho, fun _ hX => hX⟩) (fun _ _ e => e) r
theorem St.off_change {L : Addr} {oL : Obj} (S : St prog w h₀ μ h σ) (hs : Heap.ExtBut L h h') (hL : h.get? L = some oL) (hd : ∀ vs n, oL.data ≠ .seq vs n) (hm : L ∉ μ) (h0 : h₀.get? L = none) :
    St prog w h₀ μ h' σ := by
  have ne : ∀ b ∈ μ, b ≠ L := fun b hb e => hm (e ▸ hb)
  refine ⟨fun b o e => hs b o (by rintro rfl; rw [h0] at e; cases e) (S.base b o e), S.off, S.nd, S.len, fun k a c h1 h2 => ?_⟩
  have := S.cells k a c h1 h2
  have hne : a ≠ L := ne a (List.mem_of_getElem? h1)
  cases c with
  | lst l => obtain ⟨n, vs, ho, r, hl'⟩ := this; exact ⟨n, vs, hs _ _ hne ho, rms_off hs hL hd r, hl'⟩
  | dct l => obtain ⟨kvs, ⟨o, es, ep, ho, r⟩, p, hl'⟩ := this; exact ⟨kvs, ⟨o, es, ep, hs _ _ hne ho, r⟩, p.go (fun x v r => rm_off hs hL hd r), hl'⟩

theorem Ext.push {a : Addr} (hk : ∀ b o, h.get? b = some o → h'.get? b = some o) (hn : h.get? a = none) : Ext μ h (μ ++ [a]) h' :=
  ⟨fun b o e _ => hk b o e, List.prefix_append _ _, fun b hb => (List.mem_append.mp hb).imp_right fun e => by rw [List.mem_singleton.mp e]; exact hn⟩

/-- one cell more: its object stands at the new heap at an address that was free -/
theorem St.push {a : Addr} {c : Cell} (S : St prog w h₀ μ h σ) (hk : ∀ b o, h.get? b = some o → h'.get? b = some o) (hn : h.get? a = none) (hc : CellAt prog w (μ ++ [a]) h' a c) :
    St prog w h₀ (μ ++ [a]) h' (σ ++ [c]) := by
  have E : Ext μ h (μ ++ [a]) h' := Ext.push hk hn
  have ha : a ∉ μ := fun hm => by obtain ⟨o, ho, _⟩ := S.exists hm; rw [hn] at ho; cases ho
  refine ⟨fun b o e => hk b o (S.base b o e), fun b hb => ?_, ?_, by simp [S.len], fun k b d h1 h2 => ?_⟩
  · rcases List.mem_append.mp hb with h1 | h1
    · exact S.off b h1
    · rw [List.mem_singleton.mp h1]
      cases e : h₀.get? a with
      | none => rfl
      | some o => rw [S.base a o e] at hn; cases hn
  · rw [List.nodup_append]
    exact ⟨S.nd, by simp, fun b hb d hd e => by rw [List.mem_singleton.mp hd] at e; exact ha (e ▸ hb)⟩
  · by_cases hlt : k < μ.length
    · rw [List.getElem?_append_left hlt] at h1
      rw [List.getElem?_append_left (S.len ▸ hlt)] at h2
      have := S.cells k b d h1 h2
      cases d with
      | lst l => obtain ⟨n, vs, ho, r, hl⟩ := this; exact ⟨n, vs, hk _ _ ho, E.rvs r, hl⟩
      | dct l => obtain ⟨kvs, ⟨o, es, ep, ho, r⟩, p, hl⟩ := this; exact ⟨kvs, ⟨o, es, ep, hk _ _ ho, r⟩, p.go (fun x v r => E.rv r), hl⟩
    · have hk1 := (List.getElem?_eq_some_iff.mp h1).1
      have hk' : k = μ.length := by simp at hk1; omega
      subst hk'
      rw [List.getElem?_append_right (Nat.le_refl _)] at h1
      rw [S.len, List.getElem?_append_right (Nat.le_refl _)] at h2
      simp at h1 h2
      subst h1; subst h2; exact hc

/-- one cell changed -/
theorem St.upd {a : Addr} {k : Nat} {c : Cell} (S : St prog w h₀ μ h σ) (hs : Heap.ExtBut a h h') (ha : μ[k]? = some a) (hc : (∀ x v, RM μ h x v → RM μ h' x v) → CellAt prog w μ h' a c) :
    St prog w h₀ μ h' (σ.set k c) ∧ Ext μ h μ h' := by
  have hm : a ∈ μ := List.mem_of_getElem? ha
  have E : Ext μ h μ h' := ⟨fun b o e hb => by
    refine hs b o ?_ e
    rintro rfl
    rcases hb with hb | hb
    · exact hb hm
    · obtain ⟨o', ho, hne⟩ := S.exists hm; rw [e] at ho; cases ho; exact hne hb, List.prefix_rfl, fun b hb => .inl hb⟩
  refine ⟨⟨fun b o e => hs b o (by rintro rfl; rw [S.off _ hm] at e; cases e) (S.base b o e), S.off, S.nd, by simp [S.len], fun j b d h1 h2 => ?_⟩, E⟩
  by_cases hj : j = k
  · subst hj
    rw [ha] at h1; cases h1
    have hlt : j < σ.length := S.len ▸ (List.getElem?_eq_some_iff.mp ha).1
    rw [List.getElem?_set_self hlt] at h2; cases h2
    exact hc fun x v r => E.rv r
  · rw [List.getElem?_set_ne (Ne.symm hj)] at h2
    have hne : b ≠ a := by
      rintro rfl
      obtain ⟨l1, e1⟩ := List.getElem?_eq_some_iff.mp h1
      obtain ⟨l2, e2⟩ := List.getElem?_eq_some_iff.mp ha
      exact hj ((List.getElem_inj S.nd).mp (e1.trans e2.symm))
    have := S.cells j b d h1 h2
    cases d with
    | lst l => obtain ⟨n, vs, ho, r, hl⟩ := this; exact ⟨n, vs, hs _ _ hne ho, E.rvs r, hl⟩
    | dct l => obtain ⟨kvs, ⟨o, es, ep, ho, r⟩, p, hl⟩ := this; exact ⟨kvs, ⟨o, es, ep, hs _ _ hne ho, r⟩, p.go (fun x v r => E.rv r), hl⟩
end
end Mine
end

section
open PySem PySem.W PyProof.Rows PySem.Calls
set_option autoImplicit false
namespace Mine

mutual
/-- as data of the library (a cell: no data; never asked) -/
noncomputable def V.py : V → PyData
  | .none => .none | .bool b => .bool b | .int i => .int i | .str s => .str s
  | .tup l => .tuple (V.pys l) | .lst l => .list (V.pys l) | .cell _ => .none
noncomputable def V.pys : List V → List PyData
  | [] => []
  | x :: xs => V.py x :: V.pys xs
end

/-- no cell in it, of depth n at most, its texts' signs are signs -/
noncomputable def V.okd : Nat → V → Bool
  | _, .none => true
  | _, .bool _ => true
  | _, .int _ => true
  | _, .str s => PyData.strOk s
  | n + 1, .tup l => l.all (V.okd n)
  | n + 1, .lst l => l.all (V.okd n)
  | _, _ => false

/-- no cell in it, of depth n at most -/
noncomputable def V.pure : Nat → V → Bool
  | _, .none => true
  | _, .bool _ => true
  | _, .int _ => true
  | _, .str _ => true
  | n + 1, .tup l => l.all (V.pure n)
  | n + 1, .lst l => l.all (V.pure n)
  | _, _ => false

noncomputable def small (a : Int) : Bool := @decide _ (Classical.propDecidable (-1073741824 < a ∧ a < 1073741824))
noncomputable def idx (k : Int) : Bool := @decide _ (Classical.propDecidable (0 ≤ k ∧ k < 1073741824))
noncomputable def fits (n : Nat) : Bool := @decide _ (Classical.propDecidable (n ≤ 16777216))
noncomputable def mulOk (n : Nat) (k : Int) : Bool := @decide _ (Classical.propDecidable (n ≤ 100 ∧ 0 ≤ k ∧ k < 1073741824 ∧ n * k.toNat ≤ 16777216))
noncomputable def divOk (b : Int) : Bool := @decide _ (Classical.propDecidable (b ≠ 0 ∧ b.natAbs < 1073741824))
theorem divOk_iff {b : Int} : divOk b = true ↔ b ≠ 0 ∧ b.natAbs < 1073741824 := by unfold divOk; exact @decide_eq_true_iff _ (Classical.propDecidable _)
theorem small_iff {a : Int} : small a = true ↔ -1073741824 < a ∧ a < 1073741824 := by unfold small; exact @decide_eq_true_iff _ (Classical.propDecidable _)
theorem idx_iff {k : Int} : idx k = true ↔ 0 ≤ k ∧ k < 1073741824 := by unfold idx; exact @decide_eq_true_iff _ (Classical.propDecidable _)
theorem fits_iff {n : Nat} : fits n = true ↔ n ≤ 16777216 := by unfold fits; exact @decide_eq_true_iff _ (Classical.propDecidable _)
theorem mulOk_iff {n : Nat} {k : Int} : mulOk n k = true ↔ n ≤ 100 ∧ 0 ≤ k ∧ k < 1073741824 ∧ n * k.toNat ≤ 16777216 := by unfold mulOk; exact @decide_eq_true_iff _ (Classical.propDecidable _)

noncomputable abbrev Loc := List (Str × V)
noncomputable def lset : Loc → Str → V → Loc
  | [], x, v => [(x, v)]
  | (y, u) :: r, x, v => if x == y then (y, v) :: r else (y, u) :: lset r x v

inductive GV where
  | val (v : V)
  | bi (id : String)
  | ty (id : String)
  | fnP (a : Addr) (f : List V → Option V)
  | fnE (a : Addr) (f : List V → Sto → Option (V × Sto))

structure Cx where
  G : Str → Option GV
  names : List (Str × NameKind)
  cap : List (Str × V)

noncomputable def Cx.look (c : Cx) (ρ : Loc) (x : Str) : Option V :=
  match c.names.lookup x with
  | some .local => ρ.lookup x
  | some .cell => c.cap.lookup x
  | some .free => if x == "__classdict__" then none else c.cap.lookup x
  | some .globalImplicit => match c.G x with | some (.val v) => some v | _ => none
  | _ => none
noncomputable def Cx.glob (c : Cx) (x : Str) : Option GV := if x == "__debug__" then none else if c.names.lookup x = some .globalImplicit then c.G x else none

/-- a value read through the store: what a cell holds, if that bears no cell -/
noncomputable def rd (σ : Sto) : V → Option V
  | .cell k => match σ[k]? with
    | some (.lst l) => if l.all (V.pure 6) then some (.lst l) else none
    | _ => none
  | v => if v.pure 6 then some v else none
noncomputable def rds (σ : Sto) : List V → Option (List V)
  | [] => some []
  | v :: vs => (rd σ v).bind fun a => (rds σ vs).map fun r => a :: r

/-- the items of a list, tuple or cell -/
noncomputable def itemsOf (σ : Sto) : V → Option (List V)
  | .tup l => some l
  | .lst l => some l
  | .cell k => match σ[k]? with | some (.lst l) => some l | _ => none
  | _ => none

/-- a list that was just made: a cell, or kept as a value -/
noncomputable def mk (own : Bool) (v : V) (σ : Sto) : Option (V × Sto) :=
  match v with
  | .lst l => if l.length ≤ sizeLine then if own then some (.cell σ.length, σ ++ [.lst l]) else some (.lst l, σ) else none
  | _ => none

noncomputable def constV : Const → Option V
  | .none => some .none
  | .bool b => some (.bool b)
  | .int i => some (.int i)
  | .str s => some (.str s)
  | _ => none

/-- of two whole numbers -/
noncomputable def intsB {α : Type} (f : Int → Int → Option α) : V → V → Option α
  | .int a, .int b => f a b
  | _, _ => none
/-- + - // % and the text's sums (no lists) -/
noncomputable def binV (op : Operator) (a b : V) : Option V := match op with
  | .Add => match a, b with
    | .int a, .int b => some (.int (a + b))
    | .str a, .str b => if a.length + b.length ≤ sizeLine then some (.str (a ++ b)) else none
    | .tup a, .tup b => if a.length + b.length ≤ sizeLine then some (.tup (a ++ b)) else none
    | _, _ => none
  | .Sub => intsB (fun a b => some (.int (a - b))) a b
  | .FloorDiv => intsB (fun a b => if divOk b = true then some (.int (Int.fdiv a b)) else none) a b
  | .Mod => intsB (fun a b => if b ≠ 0 then some (.int (Int.fmod a b)) else none) a b
  | _ => none

noncomputable def eqV (σ : Sto) (a b : V) : Option Bool :=
  (rd σ a).bind fun a => (rd σ b).bind fun b => if a.okd 6 && b.okd 6 then some (PyData.eqv a.py b.py) else none
noncomputable def inV (σ : Sto) (x l : V) : Option Bool :=
  match l with
  | .str s => match x with
    | .str y => some (!(Builtin.Str.occurrences s y 0 s.length 1).isEmpty)
    | _ => none
  | _ => (rd σ l).bind fun l => (itemsOf σ l).bind fun its => if x.okd 6 && its.all (V.okd 6) then some (its.any fun y => PyData.eqv y.py x.py) else none
noncomputable def cmpV (σ : Sto) (op : CmpOp) (a b : V) : Option Bool := match op with
  | .Lt => intsB (fun a b => some (decide (a < b))) a b
  | .LtE => intsB (fun a b => some (decide (a ≤ b))) a b
  | .Gt => intsB (fun a b => some (decide (b < a))) a b
  | .GtE => intsB (fun a b => some (decide (b ≤ a))) a b
  | .Eq => eqV σ a b
  | .NotEq => (eqV σ a b).map not
  | .In => inV σ a b
  | .NotIn => (inV σ a b).map not
  | .Is => match b with
    | .none => match a with
      | .none => some true
      | .lst _ => some false
      | _ => none
    | _ => none
  | _ => none

/-- an item at a number, or of a dict at a key -/
noncomputable def getV (σ : Sto) (o i : V) : Option V :=
  match i with
  | .int k => (itemsOf σ o).bind fun its => if idx k = true then its[k.toNat]? else none
  | .str x => match o with
    | .cell c => match σ[c]? with | some (.dct l) => l.lookup x | _ => none
    | _ => none
  | _ => none
noncomputable def dset : List (Str × V) → Str → V → List (Str × V)
  | [], _, _ => []
  | (y, u) :: r, x, v => if x == y then (y, v) :: r else (y, u) :: dset r x v
noncomputable def setV (σ : Sto) (o i v : V) : Option Sto :=
  match o with
  | .cell c => match σ[c]?, i with
    | some (.lst l), .int k => if idx k = true ∧ k < l.length then some (σ.set c (.lst (l.set k.toNat v))) else none
    | some (.dct l), .str x => if (l.lookup x).isSome then some (σ.set c (.dct (dset l x v))) else none
    | _, _ => none
  | _ => none

/-- a slice's bounds, as they are asked here -/
noncomputable def sliceV (lo hi st : Option V) (l : List V) : Option (List V) :=
  match lo, hi, st with
  | none, none, none => some l
  | some (.int a), none, none => if 0 ≤ a then some (l.drop a.toNat) else none
  | none, some (.int b), none => if 0 ≤ b then some (l.take b.toNat) else none
  | none, none, some (.int c) => if c = -1 then some l.reverse else none
  | _, _, _ => none

noncomputable def enumFrom (k : Int) : List V → List V
  | [] => []
  | x :: xs => .tup [.int k, x] :: enumFrom (k + 1) xs
noncomputable def rangeV (a c : Int) : Nat → List V
  | 0 => []
  | n + 1 => .int a :: rangeV (a + c) c n

/-- what a for goes over: the items, and the cell that must stay as it is meanwhile -/
structure Src where
  items : List V
  live : Option (Nat × List V)
  /-- the items are tuples made on the way (enumerate, zip): the target must be a tuple -/
  tup : Bool
  /-- it is a zip: scalars alone, and only in a comprehension -/
  zip : Bool := false
noncomputable def V.scal : V → Bool
  | .none => true
  | .bool _ => true
  | .int _ => true
  | .str _ => true
  | _ => false
noncomputable def Cell.scal : Cell → Bool
  | .lst l => l.all V.scal
  | _ => false
noncomputable def Src.fit (s : Src) (σ : Sto) : Bool := !s.zip || σ.all Cell.scal
noncomputable def Src.still (s : Src) (σ : Sto) : Prop := match s.live with
  | none => True
  | some (k, l) => ∃ c, σ[k]? = some c ∧ c = .lst l

noncomputable def appV (σ : Sto) (o x : V) : Option Sto :=
  match o with
  | .cell c => match σ[c]? with
    | some (.lst l) => if l.length + 1 ≤ sizeLine then some (σ.set c (.lst (l ++ [x]))) else none
    | _ => none
  | _ => none
open Classical in
/-- the turns of a comprehension: `f` gives a turn's value, or none where a test let it fall; the values go into the cell `k` -/
noncomputable def turns (s : Src) (k : Nat) (f : V → Sto → Option (Option V × Sto)) : List V → Sto → Option Sto
  | [], σ => if s.still σ ∧ s.fit σ = true then some σ else none
  | it :: r, σ => if s.still σ ∧ s.fit σ = true then (f it σ).bind fun (x, σ) => match x with
    | some v => (appV σ (.cell k) v).bind fun σ => turns s k f r σ
    | none => turns s k f r σ else none

noncomputable def isLocN (names : List (Str × NameKind)) (x : Str) : Bool := decide (names.lookup x = some .local)
noncomputable def nameE : Expr → Option Str
  | .Name x _ => some x
  | _ => none
noncomputable def tupE : Expr → Option (List Expr)
  | .Tuple es _ _ => some es
  | _ => none
noncomputable def tupV? : V → Option (List V)
  | .tup l => some l
  | _ => none
noncomputable def bindTs (names : List (Str × NameKind)) : List Expr → List V → Loc → Option Loc
  | [], vs, ρ => bif vs.isEmpty then some ρ else none
  | e :: es, vs, ρ => match vs with
    | [] => none
    | v :: vs => (nameE e).bind fun x => bif isLocN names x then bindTs names es vs (lset ρ x v) else none
/-- a for's target, a comprehension's target, an assignment's: a name, or a tuple of names -/
noncomputable def bindT (names : List (Str × NameKind)) (e : Expr) (v : V) (ρ : Loc) : Option Loc := match nameE e with
  | some x => bif isLocN names x then some (lset ρ x v) else none
  | none => (tupE e).bind fun es => (tupV? v).bind fun vs => bindTs names es vs ρ
theorem noneX {α : Type} {a : α} (h : (none : Option α) = some a) : False := by cases h
theorem nameK {e : Expr} {x : Str} (h : nameE e = some x) : ∃ p, e = .Name x p := by
  cases e with
  | Name y p => exact ⟨p, Option.some.inj h ▸ rfl⟩
  | _ => exact (noneX h).elim
theorem tupK {e : Expr} {es : List Expr} (h : tupE e = some es) : ∃ k p, e = .Tuple es k p := by
  cases e with
  | Tuple l k p => exact ⟨k, p, Option.some.inj h ▸ rfl⟩
  | _ => exact (noneX h).elim
theorem intsK {α : Type} {f : Int → Int → Option α} {a b : V} {c : α} (h : intsB f a b = some c) : ∃ x y, a = .int x ∧ b = .int y ∧ f x y = some c := by
  cases a with
  | int x =>
    cases b with
    | int y => exact ⟨x, y, rfl, rfl, h⟩
    | _ => exact (noneX h).elim
  | _ => exact (noneX h).elim
theorem tupVK {v : V} {vs : List V} (h : tupV? v = some vs) : v = .tup vs := by
  cases v with
  | tup l => exact Option.some.inj h ▸ rfl
  | _ => exact (noneX h).elim
noncomputable def isTup (e : Expr) : Bool := Nat.beq e.ctorIdx 25


inductive Fl where
  | next | brk | cont
  | ret (v : V)

open Classical in
/-- a for's turns -/
noncomputable def loopF (s : Src) (f : V → Loc → Sto → Option (Fl × Loc × Sto)) : List V → Loc → Sto → Option (Fl × Loc × Sto)
  | [], ρ, σ => if s.still σ then some (.next, ρ, σ) else none
  | it :: r, ρ, σ => if s.still σ then (f it ρ σ).bind fun (fl, ρ, σ) => match fl with
    | .next => loopF s f r ρ σ
    | .cont => loopF s f r ρ σ
    | .brk => some (.next, ρ, σ)
    | .ret v => some (.ret v, ρ, σ) else none
/-- a while's turns, `k` at most -/
noncomputable def whileF (t : Loc → Sto → Option (Bool × Sto)) (f : Loc → Sto → Option (Fl × Loc × Sto)) : Nat → Loc → Sto → Option (Fl × Loc × Sto)
  | 0, _, _ => none
  | k + 1, ρ, σ => (t ρ σ).bind fun (b, σ) => if b then (f ρ σ).bind fun (fl, ρ, σ) => match fl with
    | .next => whileF t f k ρ σ
    | .cont => whileF t f k ρ σ
    | .brk => some (.next, ρ, σ)
    | .ret v => some (.ret v, ρ, σ) else some (.next, ρ, σ)

noncomputable def plainObj : Expr → Bool
  | .Name .. => true
  | .Subscript .. => true
  | _ => false
noncomputable def notComp : Expr → Bool
  | .ListComp .. => false
  | .SetComp .. => false
  | .DictComp .. => false
  | _ => true

/-- scalars, and tuples of such -/
noncomputable def V.tame : Nat → V → Bool
  | _, .none => true
  | _, .bool _ => true
  | _, .int _ => true
  | _, .str _ => true
  | n + 1, .tup l => l.all (V.tame n)
  | _, _ => false
noncomputable def frz1 (σ : Sto) : V → Option V
  | .cell k => match σ[k]? with
    | some (.lst l) => if l.all (V.tame 4) then some (.lst l) else none
    | _ => none
  | v => if v.tame 4 then some v else none
noncomputable def frzs (σ : Sto) : List V → Option (List V)
  | [] => some []
  | v :: vs => (frz1 σ v).bind fun a => (frzs σ vs).map fun r => a :: r
/-- what a pure function hands back: its own cells closed -/
noncomputable def frz (σ : Sto) : V → Option V
  | .tup l => (frzs σ l).map .tup
  | v => frz1 σ v

end Mine
end

section
open PySem PySem.W PyProof.Rows PySem.Calls
set_option autoImplicit false
namespace Mine

/-- inversions that look through definitions -/
theorem bindX {α β : Type} {x : Option α} {f : α → Option β} {r : β} (h : x.bind f = some r) : ∃ a, x = some a ∧ f a = some r := by
  cases x with
  | none => cases h
  | some a => exact ⟨a, rfl, h⟩
theorem mapX {α β : Type} {x : Option α} {f : α → β} {r : β} (h : x.map f = some r) : ∃ a, x = some a ∧ f a = r := by
  cases x with
  | none => cases h
  | some a => cases h; exact ⟨a, rfl, rfl⟩
theorem pairX {α β : Type} {a c : α} {b d : β} (h : (a, b) = (c, d)) : a = c ∧ b = d := by cases h; exact ⟨rfl, rfl⟩
theorem someX {α β : Type} {a c : α} {b d : β} (h : some (a, b) = some (c, d)) : a = c ∧ b = d := by cases h; exact ⟨rfl, rfl⟩
theorem iteX {α : Type} {c : Prop} {_ : Decidable c} {x : Option α} {a : α} (h : (if c then x else none) = some a) : c ∧ x = some a := by
  by_cases q : c
  · rw [if_pos q] at h; exact ⟨q, h⟩
  · rw [if_neg q] at h; cases h
noncomputable def AOk (A : Around) (d n : Nat) : Prop := A.handled = none ∧ A.depth + d ≤ 900 ∧ A.units + 200 * d + n ≤ 9000
theorem AOk.le {A : Around} {d n d' n' : Nat} (h : AOk A d n) (hd : d' ≤ d) (hn : n' ≤ n) : AOk A d' n' := ⟨h.1, by have := h.2.1; omega, by have := h.2.2; omega⟩
theorem AOk.succ {A : Around} {d n : Nat} (h : AOk A d (n + 1)) : AOk A d n := h.le (Nat.le_refl _) (Nat.le_succ _)

section
variable (prog : Program) (w : World) (h₀ : Heap)

noncomputable def PureOK (d : Nat) (a : Addr) (f : List V → Option V) : Prop :=
  (∃ o fd, h₀.get? a = some o ∧ o.data = .func fd) ∧
  ∀ (A : Around) (s : Shared) (vs : List Value) (Vs : List V) (V : V) (R : Result → Shared → Prop), AOk A d 0 → (∀ b o, h₀.get? b = some o → s.heap.get? b = some o) →
    RVs (fun _ => False) [] s.heap Vs vs → f Vs = some V →
    (∀ r h' tk, (∀ b o, s.heap.get? b = some o → h'.get? b = some o) → RV (fun a => (s.heap.get? a).isSome) [] h' V r → R (.ok (.ret r)) { s with heap := h', toks := tk }) →
    codeAny (model prog w) A (.call (.ref a) ⟨vs, []⟩) R s

noncomputable def EffOK (d : Nat) (a : Addr) (f : List V → Sto → Option (V × Sto)) : Prop :=
  (∃ o fd, h₀.get? a = some o ∧ o.data = .func fd) ∧
  ∀ (A : Around) (s : Shared) (μ : List Addr) (σ σ' : Sto) (vs : List Value) (Vs : List V) (V : V) (R : Result → Shared → Prop), AOk A d 0 → St prog w h₀ μ s.heap σ →
    RMs μ s.heap Vs vs → f Vs σ = some (V, σ') →
    (∀ r h' tk μ', Ext μ s.heap μ' h' → St prog w h₀ μ' h' σ' → RM μ' h' V r → R (.ok (.ret r)) { s with heap := h', toks := tk }) →
    codeAny (model prog w) A (.call (.ref a) ⟨vs, []⟩) R s

noncomputable def GOK1 (d : Nat) (mg mb : Str → Option Value) (x : Str) : GV → Prop
  | .val V => ∃ v, mg x = some v ∧ RV (fun _ => False) [] h₀ V v
  | .bi id => mg x = none ∧ mb x = some (.builtin id)
  | .ty id => mg x = none ∧ mb x = some (.type id)
  | .fnP _ f => ∃ a, mg x = some (.ref a) ∧ PureOK prog w h₀ d a f
  | .fnE _ f => ∃ a, mg x = some (.ref a) ∧ EffOK prog w h₀ d a f
noncomputable def GOK (d : Nat) (G : Str → Option GV) : Prop :=
  ∃ mg mb, h₀.Ns mainGlobals mg ∧ h₀.Ns builtinsNs mb ∧ ∀ x g, G x = some g → GOK1 prog w h₀ d mg mb x g

structure FR (Φ : Cx) (ρ : Loc) (env : Env) (μ : List Addr) (h : Heap) : Prop where
  kind : env.scope.kind = .function
  names : ∀ x k, Φ.names.lookup x = some k → env.kindOf x = some k ∨ (k = .free ∧ env.kindOf x = some .cell)
  globals : env.globals = mainGlobals
  builtins : env.builtins = builtinsNs
  ns : ∃ m, h.Ns env.locals m ∧ ∀ x V, ρ.lookup x = some V → ∃ v, m x = some v ∧ RM μ h V v
  off : h₀.get? env.locals = none
  out : env.locals ∉ μ
  cap : ∀ x V, (Φ.names.lookup x = some .cell ∨ Φ.names.lookup x = some .free) → Φ.cap.lookup x = some V → ∃ c v, env.cells.lookup x = some c ∧ h.IsCell c (some v) ∧ RM μ h V v
end

section
variable {prog : Program} {w : World} {h₀ h h' : Heap} {μ μ' : List Addr} {σ σ' : Sto} {Φ : Cx} {ρ : Loc} {env : Env}

theorem PureOK.le {d d' : Nat} {a : Addr} {f : List V → Option V} (x : PureOK prog w h₀ d a f) (hd : d ≤ d') : PureOK prog w h₀ d' a f :=
  ⟨x.1, fun A s vs Vs V R hA => x.2 A s vs Vs V R (hA.le hd (Nat.le_refl _))⟩
theorem EffOK.le {d d' : Nat} {a : Addr} {f : List V → Sto → Option (V × Sto)} (x : EffOK prog w h₀ d a f) (hd : d ≤ d') : EffOK prog w h₀ d' a f :=
  ⟨x.1, fun A s μ σ σ' vs Vs V R hA => x.2 A s μ σ σ' vs Vs V R (hA.le hd (Nat.le_refl _))⟩

theorem CellAt.notCell {a : Addr} {c : Cell} (x : CellAt prog w μ h a c) : ∀ v, ¬ h.IsCell a v := by
  rintro v ⟨o, ho, hd⟩
  cases c with
  | lst l => obtain ⟨n, vs, h1, _⟩ := x; rw [h1] at ho; cases ho; cases hd
  | dct l => obtain ⟨kvs, ⟨o', es, ep, h1, _, h2, _⟩, _⟩ := x; rw [h1] at ho; cases ho; rw [h2] at hd; cases hd
theorem St.noCell (S : St prog w h₀ μ h σ) : ∀ c v, h.IsCell c v → c ∉ μ := by
  intro c v hc hm
  obtain ⟨k, hk, rfl⟩ := List.mem_iff_getElem.mp hm
  have hk' : k < σ.length := S.len ▸ hk
  exact (S.cells k μ[k] σ[k] (List.getElem?_eq_getElem hk) (List.getElem?_eq_getElem hk')).notCell v hc
theorem Ext.out (E : Ext μ h μ' h') {L : Addr} {o : Obj} (hL : L ∉ μ) (ho : h.get? L = some o) : L ∉ μ' := fun hm => by
  rcases E.2.2 L hm with h1 | h1
  · exact hL h1
  · rw [h1] at ho; cases ho
theorem FR.ext (F : FR h₀ Φ ρ env μ h) (E : Ext μ h μ' h') (S : St prog w h₀ μ h σ) : FR h₀ Φ ρ env μ' h' := by
  obtain ⟨m, hn, hm⟩ := F.ns
  refine ⟨F.kind, F.names, F.globals, F.builtins, ⟨m, hn.at' (fun o e => E.1 _ o e (.inl F.out)), fun x V hx => ?_⟩, F.off, ?_, fun x V hk hx => ?_⟩
  · obtain ⟨v, h1, h2⟩ := hm x V hx
    exact ⟨v, h1, E.rv h2⟩
  · obtain ⟨o, _, _, ho, _⟩ := id hn; exact E.out F.out ho
  · obtain ⟨c, v, h1, ⟨o, ho, hd⟩, h3⟩ := F.cap x V hk hx
    exact ⟨c, v, h1, ⟨o, E.1 c o ho (.inl (S.noCell c _ ⟨o, ho, hd⟩)), hd⟩, E.rv h3⟩

end

section
variable {prog : Program} {w : World} {h₀ : Heap} {A : Around} {E : Value → Shared → Prop} {s : Shared} {env : Env} {μ : List Addr} {σ : Sto} {Φ : Cx} {ρ : Loc} {d : Nat}

/-- a name that is read -/
theorem look_ok (hG : GOK prog w h₀ d Φ.G) (F : FR h₀ Φ ρ env μ s.heap) (S : St prog w h₀ μ s.heap σ) {x : Str} {V : V} (h : Φ.look ρ x = some V) {Q : Value → Shared → Prop}
    (hQ : ∀ v, RM μ s.heap V v → Q v s) : wpAny (model prog w) A (loadName env x) Q E s := by
  rw [Cx.look] at h
  cases hk : Φ.names.lookup x with
  | none => rw [hk] at h; exact (noneX h).elim
  | some k =>
    rw [hk] at h
    cases k with
    | «local» =>
      obtain ⟨m, hn, hm⟩ := F.ns
      obtain ⟨v, h1, h2⟩ := hm x V h
      exact wpAny_loadName_local F.kind ((F.names x _ hk).resolve_right fun e => by cases e.1) hn h1 (hQ v h2)
    | cell =>
      obtain ⟨c, v, h1, h2, h3⟩ := F.cap x V (.inl hk) h
      exact wpAny_loadName_cell F.kind ((F.names x _ hk).resolve_right fun e => by cases e.1) h1 h2 (hQ v h3)
    | free =>
      dsimp only at h
      by_cases hcl : (x == "__classdict__") = true
      · rw [if_pos hcl] at h; exact (noneX h).elim
      · rw [if_neg hcl] at h
        obtain ⟨c, v, h1, h2, h3⟩ := F.cap x V (.inr hk) h
        exact (F.names x _ hk).elim (fun hl => wpAny_loadName_free F.kind hl h1 h2 (hQ v h3) (Bool.eq_false_iff.mpr hcl)) fun hl => wpAny_loadName_cell F.kind hl.2 h1 h2 (hQ v h3)
    | globalImplicit =>
      obtain ⟨mg, mb, hg, hb, hG⟩ := hG
      dsimp only at h
      cases hv : Φ.G x with
      | none => rw [hv] at h; exact (noneX h).elim
      | some g =>
        rw [hv] at h
        cases g with
        | val V' =>
          cases h
          obtain ⟨v, h1, h2⟩ := hG x _ hv
          have hl : env.kindOf x = some .globalImplicit := (F.names x _ hk).resolve_right (fun e => by cases e.1)
          unfold loadName
          simp only [Env.blockKind, F.kind, hl, ScopeKind.isAnnotationScope, Bool.false_and, Bool.false_eq_true, if_false]
          refine loadGlobal_global (F.globals ▸ hg.keeps S.base) h1 (hQ v ?_)
          refine RV.go (fun b o ho _ _ => ⟨S.base b o ho, fun _ _ hm => ?_⟩) (fun k a hk => by cases hk) h2
          rw [S.off b hm] at ho; cases ho
        | _ => exact (noneX h).elim
    | _ => exact (noneX h).elim

theorem glob_ok (hG : GOK prog w h₀ d Φ.G) (F : FR h₀ Φ ρ env μ s.heap) (S : St prog w h₀ μ s.heap σ) {x : Str} {pos : Pos} {g : GV} (h : Φ.glob x = some g) {Q : Value → Shared → Prop}
    (hQ : ∀ v, (match g with | .val _ => False | .bi id => v = .builtin id | .ty id => v = .type id | .fnP _ f => ∃ a, v = .ref a ∧ PureOK prog w h₀ d a f | .fnE _ f => ∃ a, v = .ref a ∧ EffOK prog w h₀ d a f) → Q v s)
    (hv : ∀ V, g ≠ .val V) : wpAny (model prog w) A (eval (.Name x pos) env) Q E s := by
  unfold Cx.glob at h
  split at h
  · cases h
  rename_i hdb
  split at h
  · rename_i hk
    obtain ⟨mg, mb, hg, hb, hG⟩ := hG
    have hl : env.kindOf x = some .globalImplicit := (F.names x _ hk).resolve_right (fun e => by cases e.1)
    have := hG x g h
    have gm := hg.keeps S.base
    have gb := hb.keeps S.base
    refine wpAny_Name ?_ (by simpa using hdb)
    unfold loadName
    simp only [Env.blockKind, F.kind, hl, ScopeKind.isAnnotationScope, Bool.false_and, Bool.false_eq_true, if_false]
    cases g with
    | val V => exact absurd rfl (hv V)
    | bi id => exact loadGlobal_builtin (F.globals ▸ gm) this.1 (F.builtins ▸ gb) this.2 (hQ _ rfl)
    | ty id => exact loadGlobal_builtin (F.globals ▸ gm) this.1 (F.builtins ▸ gb) this.2 (hQ _ rfl)
    | fnP _ f => exact let ⟨a, h1, h2⟩ := this; loadGlobal_global (F.globals ▸ gm) h1 (hQ _ ⟨a, rfl, h2⟩)
    | fnE _ f => exact let ⟨a, h1, h2⟩ := this; loadGlobal_global (F.globals ▸ gm) h1 (hQ _ ⟨a, rfl, h2⟩)
  · cases h
end
end Mine
end

section
open PySem PySem.W PyProof.Rows PySem.Calls
set_option autoImplicit false
namespace Mine

section
variable {prog : Program} {w : World} {A : Around} {E : Value → Shared → Prop} {s : Shared} {μ : List Addr} {σ : Sto} {h₀ : Heap}

theorem grow_rm {h h' : Heap} (hk : ∀ b o, h.get? b = some o → h'.get? b = some o) {x : V} {v : Value} (r : RM μ h x v) : RM μ h' x v := RV.go (fun b o ho _ _ => ⟨hk b o ho, fun _ hX => hX⟩) (fun _ _ e => e) r
theorem grow_rms {h h' : Heap} (hk : ∀ b o, h.get? b = some o → h'.get? b = some o) {x : List V} {v : List Value} (r : RMs μ h x v) : RMs μ h' x v := RVs.go (fun b o ho _ _ => ⟨hk b o ho, fun _ hX => hX⟩) (fun _ _ e => e) r

theorem rm_int {i : Int} {v : Value} {h : Heap} (r : RM μ h (.int i) v) : ∃ t, v = .int i t := by cases r; exact ⟨_, rfl⟩

/-- a tuple that was just made -/
theorem rm_newTup {h : Heap} {l : List V} {vs : List Value} (r : RMs μ h l vs) : RM μ (h.push { cls := .type "tuple", data := .seq vs.toArray }) (.tup l) (.ref h.objs.size) :=
  .tup (Heap.get?_push_size _ rfl) rfl rfl (by simpa using grow_rms (fun _ _ e => Heap.get?_push_of_some _ e) r)

theorem binV_ok {op : Operator} {a b c : V} {va vb : Value} {Q : Value → Shared → Prop} (h : binV op a b = some c) (ra : RM μ s.heap a va) (rb : RM μ s.heap b vb)
    (hQ : ∀ v h' tk, (∀ b o, s.heap.get? b = some o → h'.get? b = some o) → RM μ h' c v → Q v { s with heap := h', toks := tk }) : wpAny (model prog w) A (binaryOp op va vb) Q E s := by
  cases op with
  | Add => cases a with
    | int x => cases b with
      | int y => cases h; cases ra; cases rb; exact add_int (hQ _ s.heap _ (fun _ _ e => e) (.int _ _))
      | _ => exact (noneX h).elim
    | str x => cases b with
      | str y =>
        obtain ⟨hb, h⟩ := iteX h
        cases h; cases ra; cases rb; exact add_str (fun t tk => hQ _ s.heap _ (fun _ _ e => e) (.str _ _)) hb
      | _ => exact (noneX h).elim
    | tup x => cases b with
      | tup y =>
        obtain ⟨hsz, h⟩ := iteX h
        · cases h
          cases ra with
          | @tup t o n vs _ ho hc hd r =>
          cases rb with
          | @tup b o2 n2 ws _ ho2 hc2 hd2 r2 =>
          obtain ⟨cls, dd, data, sl⟩ := o
          obtain ⟨cls2, dd2, data2, sl2⟩ := o2
          simp only at hc hd hc2 hd2
          subst hc hd hc2 hd2
          have l1 := r.length
          have l2 := r2.length
          by_cases hv : vs.isEmpty = true
          · refine concat_meets ⟨_, ho, rfl⟩ ⟨_, ho2, rfl⟩ noFill_tuple_add seq_tuple_add PySem.F.slot_tuple_add PySem.F.entry_tuple_add (PySem.F.args_tuple_add_2 _ _)
              (tuple_addW0 t b vs ws n n2 dd dd2 sl sl2 hv) ⟨ho, ho2, ?_⟩
            have : vs.toList = [] := by simpa using hv
            rw [this] at r; cases r
            exact hQ _ s.heap s.toks (fun _ _ e => e) (.tup ho2 rfl rfl r2)
          · by_cases hw : ws.isEmpty = true
            · refine concat_meets ⟨_, ho, rfl⟩ ⟨_, ho2, rfl⟩ noFill_tuple_add seq_tuple_add PySem.F.slot_tuple_add PySem.F.entry_tuple_add (PySem.F.args_tuple_add_2 _ _)
                (tuple_addW1 t b vs ws n n2 dd dd2 sl sl2 hv hw) ⟨ho, ho2, ?_⟩
              have : ws.toList = [] := by simpa using hw
              rw [this] at r2; cases r2
              rw [List.append_nil] at hQ
              exact hQ _ s.heap s.toks (fun _ _ e => e) (.tup ho rfl rfl r)
            · refine concat_meets ⟨_, ho, rfl⟩ ⟨_, ho2, rfl⟩ noFill_tuple_add seq_tuple_add PySem.F.slot_tuple_add PySem.F.entry_tuple_add (PySem.F.args_tuple_add_2 _ _)
                (tuple_addW2 t b vs ws n n2 dd dd2 sl sl2 hv hw (by rw [Array.length_toList] at l1 l2; omega)) ⟨ho, ho2, ?_⟩
              have e : vs ++ ws = (vs.toList ++ ws.toList).toArray := by simp
              rw [e]
              exact hQ _ _ s.toks (fun _ _ e => Heap.get?_push_of_some _ e) (rm_newTup (r.append r2))
      | _ => exact (noneX h).elim
    | _ => exact (noneX h).elim
  | Sub =>
    obtain ⟨x, y, rfl, rfl, h⟩ := intsK h
    cases h; cases ra; cases rb; exact sub_int (hQ _ s.heap _ (fun _ _ e => e) (.int _ _))
  | FloorDiv =>
    obtain ⟨x, y, rfl, rfl, h⟩ := intsK h
    obtain ⟨hb, h⟩ := iteX h
    rw [divOk_iff] at hb
    cases h; cases ra; cases rb; exact floordiv_int hb.1 (hQ _ s.heap _ (fun _ _ e => e) (.int _ _)) (.inl (PyProof.noPylong_small hb.2))
  | Mod =>
    obtain ⟨x, y, rfl, rfl, h⟩ := intsK h
    obtain ⟨hb, h⟩ := iteX h
    cases h; cases ra; cases rb; exact mod_int' hb (hQ _ s.heap _ (fun _ _ e => e) (.int _ _))
  | _ => exact (noneX h).elim

/-- a list that was just made -/
theorem mk_ok {own : Bool} {l : List V} {σ' : Sto} {V : V} {h' : Heap} {tk : Nat} {a : Addr} {n : Nat} {vs : Array Value} {Q : Value → Shared → Prop} (h : mk own (.lst l) σ = some (V, σ')) (S : St prog w h₀ μ s.heap σ)
    (hk : ∀ b o, s.heap.get? b = some o → h'.get? b = some o) (hn : s.heap.get? a = none) (ha : h'.get? a = some { cls := .type "list", data := .seq vs n }) (r : RMs μ s.heap l vs.toList)
    (hQ : ∀ v h' tk μ', Ext μ s.heap μ' h' → St prog w h₀ μ' h' σ' → RM μ' h' V v → Q v { s with heap := h', toks := tk }) : Q (.ref a) { s with heap := h', toks := tk } := by
  unfold mk at h
  simp only at h
  split at h
  · rename_i hl
    cases own with
    | true =>
      simp only [if_true] at h
      cases h
      have E : Ext μ s.heap (μ ++ [a]) h' := Ext.push hk hn
      refine hQ _ h' tk (μ ++ [a]) E (S.push hk hn ⟨n, vs, ha, E.rvs r, hl⟩) (.cell ?_)
      rw [← S.len, List.getElem?_append_right (Nat.le_refl _)]; simp
    | false =>
      simp only [Bool.false_eq_true, if_false] at h
      cases h
      refine hQ _ h' tk μ (Ext.grow μ hk) (S.grow hk) (.lst ha rfl rfl (fun hm => ?_) (grow_rms hk r))
      obtain ⟨o, ho, _⟩ := S.exists hm
      rw [hn] at ho; cases ho
  · cases h

theorem size_none (h : Heap) : h.get? h.objs.size = none := by
  cases e : h.get? h.objs.size with
  | none => rfl
  | some o => exact absurd (Heap.lt_size e) (Nat.lt_irrefl _)

theorem foldl_flat (k : Nat) (xs : Array Value) : (List.foldl (fun x1 x2 => x1 ++ x2) (#[] : Array Value) (List.replicate k xs)).toList = (List.replicate k xs.toList).flatten := by
  have : ∀ (acc : Array Value) (k : Nat), (List.foldl (fun x1 x2 => x1 ++ x2) acc (List.replicate k xs)).toList = acc.toList ++ (List.replicate k xs.toList).flatten := by
    intro acc k
    induction k generalizing acc with
    | zero => simp
    | succ k ih => rw [List.replicate_succ, List.foldl_cons, ih]; simp [List.replicate_succ]
  simpa using this #[] k

theorem mulList_ok {own : Bool} {l : List V} {k : Int} {σ' : Sto} {V : V} {va vb : Value} {Q : Value → Shared → Prop} (h : mk own (.lst (List.replicate k.toNat l).flatten) σ = some (V, σ')) (S : St prog w h₀ μ s.heap σ)
    (hp : ∀ a, va = .ref a → ∃ vs n, s.heap.get? a = some { cls := .type "list", data := .seq vs n })
    (h0 : 0 ≤ k) (h1 : k < 1073741824) (h2 : l.length * k.toNat ≤ 16777216) (ra : RM μ s.heap (.lst l) va) (rb : RM μ s.heap (.int k) vb)
    (hQ : ∀ v h' tk μ', Ext μ s.heap μ' h' → St prog w h₀ μ' h' σ' → RM μ' h' V v → Q v { s with heap := h', toks := tk }) : wpAny (model prog w) A (binaryOp .Mult va vb) Q E s := by
  cases rb
  rename_i u
  cases ra with
  | @lst a o n vs _ ho hc hd hX r =>
    obtain ⟨vs', n', ho'⟩ := hp a rfl
    rw [ho] at ho'; cases ho'
    simp only [Data.seq.injEq] at hd
    obtain ⟨rfl, rfl⟩ := hd
    have hl := r.length
    rw [Array.length_toList] at hl
    have h3 : vs'.size * k.toNat ≤ 16777216 := by rw [hl]; exact h2
    refine wpAny_binaryOp_repeat_ref (T := "list") (U := "int") (by decide) ⟨_, ho, rfl⟩ (fun s' => typeIs_int s' k u) noFill_list_mul PySem.F.fills_int_mul PySem.F.slot_int_rmul repeat_list PySem.F.slot_int_index.lookup
      (call_meets PySem.F.slot_int_rmul (typeIs_int s k u) PySem.F.entry_int_rmul (PySem.F.args_int_rmul_2 _ _) (int___rmul___int_list k u a vs' n')
        ⟨ho, rfl, ⟨_, ho, rfl⟩, call_meets PySem.F.slot_list_mul ⟨_, ho, rfl⟩ PySem.F.entry_list_mul (PySem.F.args_list_mul_2 _ _)
          (AutoListH.list___mul___list_int_3 a vs' n' k u (by simp [Builtin.List.listFitsIndex]; omega) (by omega) (by simp [Builtin.List.listTooLong, sizeLine]; omega))
          ⟨ho, ?_⟩⟩)
    refine mk_ok h S (fun _ _ e => Heap.get?_push_of_some _ e) (size_none _) (Heap.get?_push_size _ rfl) ?_ hQ
    rw [foldl_flat]
    by_cases he : vs'.isEmpty = true
    · have e0 : vs'.toList = [] := by simpa using he
      have : l = [] := by rw [e0] at r; cases r; rfl
      subst this
      simp [he, e0]; exact .nil
    · rw [if_neg he]
      exact RVs.flat (by simp) fun j x v hx hv => by
        have e1 := List.mem_of_getElem? hx
        have e2 := List.mem_of_getElem? hv
        rw [List.mem_replicate] at e1 e2
        rw [e1.2, e2.2]; exact r
end
end Mine
end

section
open PySem PySem.W PyProof.Rows PySem.Calls
set_option autoImplicit false
namespace Mine

theorem pys_map (l : List V) : V.pys l = l.map V.py := by
  induction l with
  | nil => rfl
  | cons x xs ih => rw [V.pys, ih]; rfl

section
variable {prog : Program} {w : World} {A : Around} {E : Value → Shared → Prop} {s : Shared} {μ : List Addr} {σ : Sto} {h₀ : Heap} {h : Heap}

noncomputable abbrev RP (h : Heap) : V → Value → Prop := RV (fun _ => False) [] h
noncomputable abbrev RPs (h : Heap) : List V → List Value → Prop := RVs (fun _ => False) [] h

theorem rvs_map {X Y : Addr → Prop} {μ μ' : List Addr} {h h' : Heap} {l : List V} {vs : List Value} (r : RVs X μ h l vs) (f : ∀ x ∈ l, ∀ v, RV X μ h x v → RV Y μ' h' x v) : RVs Y μ' h' l vs := by
  induction l generalizing vs with
  | nil => cases r; exact .nil
  | cons x xs ih => cases r with | cons h1 h2 => exact .cons (f x (.head _) _ h1) (ih h2 fun y hy => f y (.tail _ hy))

theorem pure_rp {X : Addr → Prop} (n : Nat) : ∀ (x : V) {v : Value}, x.pure n = true → RV X μ h x v → RP h x v := by
  induction n with
  | zero =>
    intro x v hp r
    cases r with
    | none => exact .none
    | bool b => exact .bool _
    | int i => exact .int _ _
    | str s => exact .str _ _
    | _ => exact (Bool.false_ne_true hp).elim
  | succ n ih =>
    intro x v hp r
    cases r with
    | none => exact .none
    | bool b => exact .bool _
    | int i => exact .int _ _
    | str s => exact .str _ _
    | tup h1 h2 h3 h4 => exact .tup h1 h2 h3 (rvs_map h4 fun x hx v r => ih x (List.all_eq_true.mp hp x hx) r)
    | lst h1 h2 h3 _ h4 => exact .lst h1 h2 h3 (fun e => e) (rvs_map h4 fun x hx v r => ih x (List.all_eq_true.mp hp x hx) r)
    | cell => exact (Bool.false_ne_true hp).elim

theorem rd_ok {x y : V} {v : Value} (h1 : rd σ x = some y) (S : St prog w h₀ μ h σ) (r : RM μ h x v) : RP h y v := by
  unfold rd at h1
  split at h1
  · rename_i k
    split at h1
    · rename_i l hl
      split at h1
      · rename_i hp
        cases h1
        cases r with
        | cell hk =>
          obtain ⟨n, vs, ho, r, _⟩ := S.cells _ _ _ hk hl
          exact .lst ho rfl rfl (fun e => e) (rvs_map r fun x hx v r => pure_rp 6 x (by simpa using (List.all_eq_true.mp hp) x hx) r)
      · cases h1
    · cases h1
  · split at h1
    · rename_i hp
      cases h1
      exact pure_rp 6 _ hp r
    · cases h1
theorem rds_ok {xs ys : List V} {vs : List Value} (h1 : rds σ xs = some ys) (S : St prog w h₀ μ h σ) (r : RMs μ h xs vs) : RPs h ys vs := by
  induction xs generalizing ys vs with
  | nil => cases r; cases h1; exact .nil
  | cons x xs ih =>
    cases r with
    | cons r1 r2 =>
      simp only [rds, Option.bind_eq_some_iff, Option.map_eq_some_iff] at h1
      obtain ⟨a, ha, b, hb, rfl⟩ := h1
      exact .cons (rd_ok ha S r1) (ih hb r2)

theorem all_reads {X : Addr → Prop} {l : List V} (f : ∀ x ∈ l, ∀ v, RV X μ h x v → ∃ as, Reads h v x.py as) : ∀ {vs : List Value}, RVs X μ h l vs → ∃ as, ReadsAll h vs (V.pys l) as := by
  induction l with
  | nil => intro _ r; cases r; exact ⟨_, .nil⟩
  | cons x xs ih =>
    intro _ r
    cases r with
    | cons r1 r2 => exact (f x (.head _) _ r1).elim fun _ ra => (ih (fun y hy => f y (.tail _ hy)) r2).elim fun _ rb => ⟨_, .cons ra rb⟩
theorem rp_reads (n : Nat) : ∀ (x : V) {X : Addr → Prop} {μ : List Addr} {v : Value}, x.okd n = true → RV X μ h x v → ∃ as, Reads h v x.py as := by
  induction n with
  | zero =>
    intro x X μ v hp r
    cases r with
    | none => exact ⟨_, .none⟩
    | bool b => exact ⟨_, .bool _⟩
    | int i => exact ⟨_, .int _ _⟩
    | str s => exact ⟨_, .str _ _⟩
    | _ => exact (Bool.false_ne_true hp).elim
  | succ n ih =>
    intro x X μ v hp r
    cases r with
    | none => exact ⟨_, .none⟩
    | bool b => exact ⟨_, .bool _⟩
    | int i => exact ⟨_, .int _ _⟩
    | str s => exact ⟨_, .str _ _⟩
    | tup h1 h2 h3 h4 => exact (all_reads (fun x hx v r => ih x (List.all_eq_true.mp hp x hx) r) h4).elim fun _ ra => ⟨_, .tuple h1 h2 h3 ra⟩
    | lst h1 h2 h3 _ h4 => exact (all_reads (fun x hx v r => ih x (List.all_eq_true.mp hp x hx) r) h4).elim fun _ ra => ⟨_, .list h1 h2 h3 ra⟩
    | cell => exact (Bool.false_ne_true hp).elim
theorem all_lay {n : Nat} {l : List V} (f : ∀ x ∈ l, x.py.canLay0 = true ∧ x.py.depth ≤ n + 1) : PyData.canLayAll0 (V.pys l) = true ∧ PyData.depthAll (V.pys l) ≤ n + 1 := by
  induction l with
  | nil => exact ⟨rfl, Nat.zero_le _⟩
  | cons x xs ih =>
    have a := f x (.head _)
    have b := ih fun y hy => f y (.tail _ hy)
    rw [V.pys, PyData.canLayAll0, PyData.depthAll, a.1, b.1]
    exact ⟨rfl, Nat.max_le.mpr ⟨a.2, b.2⟩⟩
theorem okd_lay (n : Nat) : ∀ x : V, x.okd n = true → x.py.canLay0 = true ∧ x.py.depth ≤ n + 1 := by
  induction n with
  | zero =>
    intro x hp
    cases x with
    | none => exact ⟨rfl, by rw [V.py, PyData.depth]; exact Nat.zero_le _⟩
    | bool b => exact ⟨rfl, by rw [V.py, PyData.depth]; exact Nat.zero_le _⟩
    | int i => exact ⟨rfl, by rw [V.py, PyData.depth]; exact Nat.zero_le _⟩
    | str s => exact ⟨by rw [V.py, PyData.canLay0]; exact hp, by rw [V.py, PyData.depth]; exact Nat.zero_le _⟩
    | _ => exact (Bool.false_ne_true hp).elim
  | succ n ih =>
    intro x hp
    cases x with
    | none => exact ⟨rfl, by rw [V.py, PyData.depth]; exact Nat.zero_le _⟩
    | bool b => exact ⟨rfl, by rw [V.py, PyData.depth]; exact Nat.zero_le _⟩
    | int i => exact ⟨rfl, by rw [V.py, PyData.depth]; exact Nat.zero_le _⟩
    | str s => exact ⟨by rw [V.py, PyData.canLay0]; exact hp, by rw [V.py, PyData.depth]; exact Nat.zero_le _⟩
    | tup l =>
      have a := all_lay fun x hx => ih x (List.all_eq_true.mp hp x hx)
      rw [V.py, PyData.canLay0, PyData.depth]
      exact ⟨a.1, by omega⟩
    | lst l =>
      have a := all_lay fun x hx => ih x (List.all_eq_true.mp hp x hx)
      rw [V.py, PyData.canLay0, PyData.depth]
      exact ⟨a.1, by omega⟩
    | cell => exact (Bool.false_ne_true hp).elim

theorem cLine_room {A : Around} {d n k : Nat} (hA : AOk A d n) (hk : k ≤ 100) : A.units + k < cLine := by have := hA.2.2; have : cLine = 9900 := rfl; omega

theorem itemsOf_list {x : V} {l : List V} {v : Value} (hl : itemsOf σ x = some l) (S : St prog w h₀ μ h σ) (r : RM μ h x v) :
    ∃ a vs, v = .ref a ∧ RMs μ h l vs.toList ∧ ((h.IsTuple a vs ∧ x = .tup l) ∨ (h.IsList a vs ∧ ∀ l', x ≠ .tup l')) := by
  unfold itemsOf at hl
  split at hl
  · cases hl
    cases r with
    | tup h1 h2 h3 h4 => exact ⟨_, _, rfl, h4, .inl ⟨⟨_, h1, h2, _, h3⟩, rfl⟩⟩
  · cases hl
    cases r with
    | lst h1 h2 h3 _ h4 => exact ⟨_, _, rfl, h4, .inr ⟨⟨_, h1, h2, _, h3⟩, fun _ e => nomatch e⟩⟩
  · split at hl
    · rename_i h2
      cases hl
      cases r with
      | cell hk =>
        obtain ⟨n, vs, ho, r, _⟩ := S.cells _ _ _ hk h2
        exact ⟨_, vs, rfl, r, .inr ⟨⟨_, ho, rfl, n, rfl⟩, fun _ e => nomatch e⟩⟩
    · cases hl
  · cases hl

theorem mem_get {xs : List V} {vs : Array Value} {X : Addr → Prop} (r : RVs X μ h xs vs.toList) {y : Value} (hy : y ∈ vs) : ∃ x ∈ xs, RV X μ h x y := by
  obtain ⟨k, hk, rfl⟩ := Array.mem_iff_getElem.mp hy
  have hl := r.length
  rw [Array.length_toList] at hl
  have hx : xs[k]? = some xs[k] := List.getElem?_eq_getElem (hl ▸ hk)
  obtain ⟨v, h1, h2⟩ := r.get hx
  rw [Array.getElem?_toList, Array.getElem?_eq_getElem hk] at h1
  cases h1
  exact ⟨xs[k], List.getElem_mem _, h2⟩

theorem any_rv {xs : List V} {vs : Array Value} {X : Addr → Prop} (r : RVs X μ h xs vs.toList) (e : Value → Bool) (p : V → Bool) (he : ∀ x v, x ∈ xs → RV X μ h x v → e v = p x) : vs.any e = xs.any p := by
  rw [← Array.any_toList]
  have : ∀ (l : List Value), RVs X μ h xs l → l.any e = xs.any p := by
    intro l hl
    clear r
    induction xs generalizing l with
    | nil => cases hl; rfl
    | cons x xs ih =>
      cases hl with
      | cons h1 h2 => rw [List.any_cons, List.any_cons, he x _ (.head _) h1, ih (fun y v hy => he y v (.tail _ hy)) _ h2]
  exact this _ r

/-- what a value says, read back (only for values that say something) -/
theorem eqAt_ok {A : Around} {d n : Nat} (hA : AOk A d n) {a b : V} {va vb : Value} {X Y : Addr → Prop} {μ₁ μ₂ : List Addr} (ha : a.okd 6 = true) (hb : b.okd 6 = true) (ra : RV X μ₁ s.heap a va) (rb : RV Y μ₂ s.heap b vb) :
    SeqAt.EqAt A.in1 s va vb (PyData.eqv a.py b.py) := by
  obtain ⟨as, r1⟩ := rp_reads 6 a ha ra
  obtain ⟨bs, r2⟩ := rp_reads 6 b hb rb
  refine SeqAt.eqAt_reads a.py b.py A.in1 s va vb as bs r1 r2 (okd_lay 6 a ha).1 (okd_lay 6 b hb).1 ?_
  have h1 := (okd_lay 6 a ha).2
  have h2 := cLine_room hA (k := 20) (by omega)
  have h3 : min a.py.depth b.py.depth ≤ a.py.depth := Nat.min_le_left _ _
  show A.units + 1 + _ < _
  omega

theorem eqV_ok {d n : Nat} (hA : AOk A d n) {a b : V} {va vb : Value} {c : Bool} {Q : Value → Shared → Prop} (h : eqV σ a b = some c) (S : St prog w h₀ μ s.heap σ) (ra : RM μ s.heap a va) (rb : RM μ s.heap b vb) :
    (Q (.bool c) s → wpAny (model prog w) A (compareOp .Eq va vb) Q E s) ∧ (Q (.bool (!c)) s → wpAny (model prog w) A (compareOp .NotEq va vb) Q E s) := by
  simp only [eqV, Option.bind_eq_some_iff] at h
  obtain ⟨a', h1, b', h2, h3⟩ := h
  split at h3
  · rename_i hp
    rw [Bool.and_eq_true] at hp
    cases h3
    obtain ⟨as, r1⟩ := rp_reads 6 a' hp.1 (rd_ok h1 S ra)
    obtain ⟨bs, r2⟩ := rp_reads 6 b' hp.2 (rd_ok h2 S rb)
    have e1 := okd_lay 6 a' hp.1
    have e2 := okd_lay 6 b' hp.2
    have hu : A.units + min a'.py.depth b'.py.depth < cLine := by
      have h2 := cLine_room hA (k := 20) (by omega)
      have h3 : min a'.py.depth b'.py.depth ≤ a'.py.depth := Nat.min_le_left _ _
      have := e1.2
      omega
    exact ⟨fun hq => SeqAt.compareEq_reads r1 r2 e1.1 e2.1 hu hq, fun hq => SeqAt.compareNe_reads r1 r2 e1.1 e2.1 hu hq⟩
  · cases h3

open Classical in
/-- the answer of `==` on a machine value, by any of its readings -/
noncomputable def readEq (h : Heap) (x : PyData) (v : Value) : Bool := if hh : ∃ d as, Reads h v d as ∧ d.canLay0 = true then PyData.eqv hh.choose x else false

theorem readEq_of {x d : PyData} {v : Value} {as : List Addr} (r : Reads h v d as) (hd : d.canLay0 = true) : readEq h x v = PyData.eqv d x := by
  have hh : ∃ d as, Reads h v d as ∧ d.canLay0 = true := ⟨d, as, r, hd⟩
  unfold readEq
  rw [dif_pos hh]
  obtain ⟨bs, h1, h2⟩ := hh.choose_spec
  rw [SeqAt.Reads.unique _ _ _ _ _ h2 h1 r]

theorem inV_ok {d n : Nat} (hA : AOk A d n) {x l : V} {vx vl : Value} {c : Bool} {Q : Value → Shared → Prop} (h : inV σ x l = some c) (S : St prog w h₀ μ s.heap σ) (rx : RM μ s.heap x vx) (rl : RM μ s.heap l vl) :
    (Q (.bool c) s → wpAny (model prog w) A (compareOp .In vx vl) Q E s) ∧ (Q (.bool (!c)) s → wpAny (model prog w) A (compareOp .NotIn vx vl) Q E s) := by
  have main : ((rd σ l).bind fun l => (itemsOf σ l).bind fun its => if x.okd 6 && its.all (V.okd 6) then some (its.any fun y => PyData.eqv y.py x.py) else none) = some c →
      (Q (.bool c) s → wpAny (model prog w) A (compareOp .In vx vl) Q E s) ∧ (Q (.bool (!c)) s → wpAny (model prog w) A (compareOp .NotIn vx vl) Q E s) := fun h => by
    obtain ⟨l', h1, h⟩ := bindX h
    obtain ⟨its, h2, h3⟩ := bindX h
    obtain ⟨hp, h3⟩ := iteX h3
    · rw [Bool.and_eq_true, List.all_eq_true] at hp
      cases h3
      have rp := rd_ok h1 S rl
      have ex := (okd_lay 6 x hp.1).1
      have read : ∀ (y : V) (v : Value), y ∈ its → RP s.heap y v → readEq s.heap x.py v = PyData.eqv y.py x.py := fun y v hy r => by
        obtain ⟨as, r1⟩ := rp_reads 6 y (hp.2 y hy) r
        exact readEq_of r1 (okd_lay 6 y (hp.2 y hy)).1
      have key : ∀ (vs : Array Value), RPs s.heap its vs.toList → (∀ y, y ∈ vs → SeqAt.EqAt A.in1 s y vx (readEq s.heap x.py y)) ∧ vs.any (readEq s.heap x.py) = its.any fun y => PyData.eqv y.py x.py := fun vs r => by
        refine ⟨fun y hy => ?_, any_rv r _ _ fun y v hy r => read y v hy r⟩
        obtain ⟨z, hz, rz⟩ := mem_get r hy
        rw [read z y hz rz]
        exact eqAt_ok hA (hp.2 z hz) hp.1 rz rx
      have hu : True := trivial
      cases l' with
      | tup l2 =>
        simp only [itemsOf] at h2
        cases h2
        cases rp with
        | tup q1 q2 q3 q4 =>
          obtain ⟨k1, k2⟩ := key _ q4
          exact ⟨fun hq => SeqAt.in_tupleAt _ ⟨_, q1, q2, _, q3⟩ k1 (by rw [k2]; exact hq), fun hq => SeqAt.notIn_tupleAt _ ⟨_, q1, q2, _, q3⟩ k1 (by rw [k2]; exact hq)⟩
      | lst l2 =>
        simp only [itemsOf] at h2
        cases h2
        cases rp with
        | lst q1 q2 q3 _ q4 =>
          obtain ⟨k1, k2⟩ := key _ q4
          exact ⟨fun hq => SeqAt.in_listAt _ ⟨_, q1, q2, _, q3⟩ k1 (by rw [k2]; exact hq), fun hq => SeqAt.notIn_listAt _ ⟨_, q1, q2, _, q3⟩ k1 (by rw [k2]; exact hq)⟩
      | cell k =>
        cases rp with
        | cell hk => simp at hk
      | none => exact (noneX h2).elim
      | bool => exact (noneX h2).elim
      | int => exact (noneX h2).elim
      | str => exact (noneX h2).elim
  cases l with
  | str y => cases x with
    | str z =>
      cases h; cases rl; cases rx
      exact ⟨fun hq => in_str hq, fun hq => notIn_str hq⟩
    | _ => exact (noneX h).elim
  | _ => exact main h

theorem cmpV_ok {d n : Nat} (hA : AOk A d n) {op : CmpOp} {a b : V} {va vb : Value} {c : Bool} {Q : Value → Shared → Prop} (h : cmpV σ op a b = some c) (S : St prog w h₀ μ s.heap σ) (ra : RM μ s.heap a va) (rb : RM μ s.heap b vb)
    (hQ : Q (.bool c) s) : wpAny (model prog w) A (compareOp op va vb) Q E s := by
  cases op with
  | Lt =>
    obtain ⟨x, y, rfl, rfl, h⟩ := intsK h
    cases h; cases ra; cases rb; exact lt_int hQ
  | LtE =>
    obtain ⟨x, y, rfl, rfl, h⟩ := intsK h
    cases h; cases ra; cases rb; exact le_int hQ
  | Gt =>
    obtain ⟨x, y, rfl, rfl, h⟩ := intsK h
    cases h; cases ra; cases rb; exact gt_int hQ
  | GtE =>
    obtain ⟨x, y, rfl, rfl, h⟩ := intsK h
    cases h; cases ra; cases rb; exact ge_int hQ
  | Eq => exact (eqV_ok hA h S ra rb).1 hQ
  | NotEq =>
    obtain ⟨c', h1, rfl⟩ := mapX h
    exact (eqV_ok hA h1 S ra rb).2 hQ
  | In => exact (inV_ok hA h S ra rb).1 hQ
  | NotIn =>
    obtain ⟨c', h1, rfl⟩ := mapX h
    exact (inV_ok hA h1 S ra rb).2 hQ
  | Is => cases b with
    | none => cases a with
      | none => cases h; cases ra; cases rb; exact is_none hQ
      | lst l => cases h; cases ra; cases rb; exact is_none hQ
      | _ => exact (noneX h).elim
    | _ => exact (noneX h).elim
  | _ => exact (noneX h).elim
end
end Mine
end

section
open PySem PySem.W PyProof.Rows PySem.Calls
set_option autoImplicit false
namespace Mine

section
variable {prog : Program} {w : World} {A : Around} {E : Value → Shared → Prop} {s : Shared} {μ : List Addr} {σ : Sto} {h₀ : Heap} {h : Heap}

theorem setItem_plain {l : Addr} {items : Array Value} {k : Int} {t : Tok} {v : Value} {Q : Unit → Shared → Prop} (hl : s.heap.PlainList l items)
    (h0 : 0 ≤ k) (hfit : k < 2 ^ 63) (hn : k < items.size)
    (hQ : ∀ h', h'.PlainList l (items.setIfInBounds k.toNat v) → Heap.SameBut l s.heap h' → Q () { s with heap := h' }) :
    wpAny (model prog w) A (setItem (.ref l) (.int k t) v) Q E s := by
  obtain ⟨n, ho⟩ := id hl
  have hd : ({ cls := Value.type "list", data := Data.seq items n } : Obj).data = .seq items n := rfl
  unfold setItem
  try with_reducible refine wpAny_holding ?_
  first | refine wpAny_bind (wpAny_pure ?_) | skip
  refine wpAny_bind (wpAny_sequenceKey hl.isList.typeIs (by decide) ?_)
  refine wpAny_bind (wpAny_callSpecial?_slot (name := Str.ofString "__setitem__") hl.isList.typeIs slot_list_setitem
    (wpAny_call_entry slot_list_setitem hl.isList.typeIs entry_list_setitem ?_ (args_list_setitem _ _ _)))
  show wpAny _ _ (Builtin.List.listSubscript? (.int k t) >>= _) _ _ s
  refine wpAny_bind (wpAny_listSubscript_int (fitsIndex_of h0 hfit) ?_)
  clear hfit
  obtain ⟨j, rfl⟩ := Int.eq_ofNat_of_zero_le h0
  have hj : j < items.size := by omega
  have hx' : items[j]? = some items[j] := Array.getElem?_eq_getElem hj
  show wpAny _ _ ((seqItemAt l j >>= fun r => pure (r.map (j, ·))) >>= _) _ _ s
  refine wpAny_bind (wpAny_bind (wpAny_seqItemAt ho hd (wpAny_pure ?_)))
  rw [hx']
  show wpAny _ _ (setSeqItemAt l j v >>= _) _ _ s
  have hfin : (s.heap.update l (Obj.mapSeq (·.setIfInBounds j v))).PlainList l (items.setIfInBounds j v) := by
    refine ⟨n, ?_⟩
    rw [Heap.get?_update_self _ ho (by simp [Obj.mapSeq, Obj.isFreed])]
    simp [Obj.mapSeq]
  refine wpAny_bind (wpAny_setSeqItemAt ho hd ?_)
  first
    | exact wpAny_bind (wpAny_pure (wpAny_pure ⟨.none, rfl, wpAny_pure (hQ _ hfin (Heap.SameBut.update ..))⟩))
    | exact wpAny_pure ⟨.none, rfl, wpAny_pure (hQ _ hfin (Heap.SameBut.update ..))⟩

theorem is_self (y : Str) (t : Tok) : (PySem.strKind prog w).is y (.str y t) = true := by simp [PySem.strKind, Value.isStrOf]

theorem PairsRV.look {X : Addr → Prop} {l : List (Str × V)} {kvs : List (Str × Value)} (p : PairsRV X μ h l kvs) {x : Str} {V : V} (hl : l.lookup x = some V) : ∃ v, valueAt kvs x = some v ∧ RV X μ h V v := by
  induction p with
  | nil => cases hl
  | @cons y _ u _ _ r p ih =>
    rw [List.lookup_cons] at hl
    rw [valueAt, List.find?_cons]
    cases hb : x == y with
    | true =>
      rw [hb] at hl; cases hl
      rw [decide_eq_true (beq_iff_eq.mp hb).symm]
      exact ⟨u, rfl, r⟩
    | false =>
      rw [hb] at hl
      rw [decide_eq_false fun e => by rw [show y = x from e, beq_self_eq_true] at hb; cases hb]
      exact ih hl

theorem getV_ok {o i x : V} {vo vi : Value} {Q : Value → Shared → Prop} (hx : getV σ o i = some x) (S : St prog w h₀ μ s.heap σ) (ro : RM μ s.heap o vo) (ri : RM μ s.heap i vi)
    (hQ : ∀ v tk, RM μ s.heap x v → Q v { s with toks := tk }) : wpAny (model prog w) A (getItem vo vi) Q E s := by
  unfold getV at hx
  split at hx
  · rename_i k
    simp only [Option.bind_eq_some_iff] at hx
    obtain ⟨its, h1, h2⟩ := hx
    split at h2
    · rename_i hk
      rw [idx_iff] at hk
      obtain ⟨a, vs, rfl, r, hh⟩ := itemsOf_list h1 S ro
      obtain ⟨t, rfl⟩ := rm_int ri
      obtain ⟨v, hv, rv⟩ := r.get h2
      rw [Array.getElem?_toList] at hv
      have hlt : k.toNat < vs.size := (Array.getElem?_eq_some_iff.mp hv).1
      rcases hh with ⟨ht, _⟩ | ⟨hl, _⟩
      · refine PyProof.Rows.getItem_tuple (j := k.toNat) ht (by omega) (by omega) ?_ hv (hQ v s.toks rv)
        have e1 : ¬ (k < 0) := by omega
        have e2 : ¬ ((vs.size : Int) ≤ k) := by omega
        simp only [seqIndex?, e1, if_false]
        simp [e1, e2]
      · exact wpAny_getItem_list hl hk.1 (by omega) hv (hQ v s.toks rv)
    · cases h2
  · rename_i y
    split at hx
    · split at hx
      · rename_i l hl
        cases ro with
        | cell hk =>
          cases ri
          obtain ⟨kvs, hd, p, _⟩ := S.cells _ _ _ hk hl
          obtain ⟨v, h1, h2⟩ := p.look hx
          exact wpAny_getItem_of (knd := PySem.strKind prog w) (k := y) (is_self y _) hd.mapOf h1 (hQ v _ h2)
      · cases hx
    · cases hx
  · cases hx

theorem PairsRV.keys {X : Addr → Prop} {l : List (Str × V)} {kvs : List (Str × Value)} (p : PairsRV X μ h l kvs) : kvs.map (·.1) = l.map (·.1) := by
  induction p with
  | nil => rfl
  | cons r p ih => exact congrArg (_ :: ·) ih
theorem dset_map : ∀ (l : List (Str × V)) (x : Str) (v : V), (dset l x v).map (·.1) = l.map (·.1)
  | [], _, _ => rfl
  | (y, u) :: r, x, v => by
    unfold dset
    split
    · rfl
    · simp [dset_map r x v]
theorem PairsRV.store {X : Addr → Prop} {x : Str} {V : V} {v : Value} (rv : RV X μ h V v) : ∀ {l : List (Str × Mine.V)} {kvs : List (Str × Value)}, PairsRV X μ h l kvs → (l.map (·.1)).Nodup →
    PairsRV X μ h (dset l x V) (kvs.map fun kv => if kv.1 = x then (kv.1, v) else kv)
  | _, _, .nil, _ => .nil
  | _, _, .cons (x := y) (v := u) r p, hn => by
    rw [List.map_cons, List.nodup_cons] at hn
    unfold dset
    rw [List.map_cons]
    cases hb : x == y with
    | true =>
      have e : y = x := (beq_iff_eq.mp hb).symm
      subst e
      simp only [if_true]
      have hno : (List.map (fun kv => if kv.1 = y then (kv.1, v) else kv) _ : List (Str × Value)) = _ := map_store_of_not_mem _ y v (by rw [p.keys]; exact hn.1)
      rw [hno]
      exact .cons rv p
    | false =>
      have e : ¬ y = x := fun e => by rw [e, beq_self_eq_true] at hb; cases hb
      simp only [if_neg e, Bool.false_eq_true, if_false]
      exact .cons r (PairsRV.store rv p hn.2)
theorem look_mem {α : Type} : ∀ {l : List (Str × α)} {x : Str}, (l.lookup x).isSome = true → x ∈ l.map (·.1)
  | [], _, h => by cases h
  | (y, u) :: r, x, h => by
    rw [List.lookup_cons] at h
    cases hb : x == y with
    | true => rw [beq_iff_eq.mp hb]; exact .head _
    | false => rw [hb] at h; exact .tail _ (look_mem h)

theorem setV_ok {o i x : V} {vo vi v : Value} {σ' : Sto} {Q : Unit → Shared → Prop} (hx : setV σ o i x = some σ') (S : St prog w h₀ μ s.heap σ) (ro : RM μ s.heap o vo) (ri : RM μ s.heap i vi) (rx : RM μ s.heap x v)
    (hQ : ∀ h' tk, Ext μ s.heap μ h' → St prog w h₀ μ h' σ' → Q () { s with heap := h', toks := tk }) : wpAny (model prog w) A (setItem vo vi v) Q E s := by
  unfold setV at hx
  split at hx
  · rename_i c
    cases ro with
    | cell hk =>
    split at hx
    · rename_i l k hl
      split at hx
      · rename_i hb
        rw [idx_iff] at hb
        cases hx
        obtain ⟨t, rfl⟩ := rm_int ri
        obtain ⟨n, vs, ho, r, hsz⟩ := S.cells _ _ _ hk hl
        have hlen := r.length
        rw [Array.length_toList] at hlen
        refine setItem_plain ⟨n, ho⟩ hb.1.1 (by omega) (by omega) fun h' hp hs => ?_
        obtain ⟨n', ho'⟩ := hp
        obtain ⟨S', E'⟩ := S.upd (c := .lst (l.set k.toNat x)) hs.extBut hk fun f => ⟨n', _, ho', by
          have e : (vs.setIfInBounds k.toNat v).toList = vs.toList.set k.toNat v := by simp
          rw [e]
          exact rvs_map (r.set k.toNat rx) fun y _ u ru => f y u ru, by simpa using hsz⟩
        exact hQ h' _ E' S'
      · cases hx
    · rename_i l y hl
      split at hx
      · rename_i hsome
        cases hx
        cases ri
        obtain ⟨kvs, hd, p, hsz⟩ := S.cells _ _ _ hk hl
        have hnd : (l.map (·.1)).Nodup := by obtain ⟨_, _, _, _, _, _, _, _, hn⟩ := hd; rw [p.keys] at hn; exact hn
        have hany : kvs.any (fun kv => kv.1 = y) = true := by
          have hm := look_mem hsome
          rw [← p.keys] at hm
          obtain ⟨kv, h1, h2⟩ := List.mem_map.mp hm
          exact List.any_eq_true.mpr ⟨kv, h1, by simp [h2]⟩
        have hlen : kvs.length = l.length := by have := congrArg List.length p.keys; simpa using this
        refine wpAny_setItem_pairs (knd := PySem.strKind prog w) (k := y) (is_self y _) hd (fun h' hd' hs => ?_) (by have : sizeLine = 16777216 := sizeLine_eq; omega)
        obtain ⟨S', E'⟩ := S.upd (c := .dct (dset l y x)) hs.extBut hk fun f => ⟨_, hd', by
          unfold stored
          rw [if_pos hany]
          exact ((PairsRV.store rx p hnd).go fun a b r => f a b r), by have := congrArg List.length (dset_map l y x); simp at this; omega⟩
        exact hQ h' _ E' S'
      · cases hx
    · cases hx
  · cases hx

theorem appV_ok {c : Nat} {x : V} {D : Addr} {v : Value} {σ' : Sto} {Q : Value → Shared → Prop} (hx : appV σ (.cell c) x = some σ') (S : St prog w h₀ μ s.heap σ) (ro : μ[c]? = some D) (rx : RM μ s.heap x v)
    (hQ : ∀ h' tk, Ext μ s.heap μ h' → St prog w h₀ μ h' σ' → Q .none { s with heap := h', toks := tk }) : wpAny (model prog w) A (call (.builtin "list.append") [.ref D, v]) Q E s := by
  unfold appV at hx
  simp only at hx
  split at hx
  · rename_i l hl
    split at hx
    · rename_i hsz
      cases hx
      obtain ⟨n, vs, ho, r, _⟩ := S.cells _ _ _ ro hl
      have hlen := r.length
      rw [Array.length_toList] at hlen
      refine wpAny_list_append_plain ⟨n, ho⟩ (fun h' hp hs => ?_) (by omega)
      obtain ⟨n', ho'⟩ := hp
      obtain ⟨S', E'⟩ := S.upd (c := .lst (l ++ [x])) hs.extBut ro fun f => ⟨n', _, ho', by
        rw [Array.toList_push]
        exact rvs_map (r.append (.one rx)) fun y _ u ru => f y u ru, by simpa using hsz⟩
      exact hQ h' s.toks E' S'
    · cases hx
  · cases hx
end
end Mine
end

section
open PySem PySem.W PyProof.Rows PySem.Calls
set_option autoImplicit false
namespace Mine
theorem pick_rev (items : Array Value) : slicePick items none none (some (-1)) = items.toList.reverse.toArray := by
  have hb : sliceBounds none none (some (-1)) items.size = ((items.size : Int) - 1, -1, -1) := rfl
  have hr : sliceRange ((items.size : Int) - 1) (-1) (-1) = (List.range items.size).map fun k => items.size - 1 - k := by
    unfold sliceRange
    have hc : (if (-1 : Int) > 0 then (if (items.size : Int) - 1 < -1 then (-1 - ((items.size : Int) - 1) + -1 - 1) / -1 else 0) else (if (items.size : Int) - 1 > -1 then ((items.size : Int) - 1 - -1 - -1 - 1) / (- -1) else 0)) = (items.size : Int) := by
      rw [if_neg (by omega)]
      split
      · rw [show (- -1 : Int) = 1 from rfl, Int.ediv_one]; omega
      · omega
    simp only [hc, Int.toNat_natCast]
    refine List.map_congr_left fun k hk => ?_
    have := List.mem_range.mp hk
    omega
  unfold slicePick
  rw [hb]
  simp only [hr]
  congr 1
  apply List.ext_getElem?
  intro j
  rw [List.filterMap_map]
  have key : ∀ (n : Nat), n ≤ items.size → ((List.range n).filterMap ((fun x => items[x]?) ∘ fun k => items.size - 1 - k)) = (items.toList.reverse).take n := by
    intro n
    induction n with
    | zero => intro _; rfl
    | succ n ih =>
      intro h
      rw [List.range_succ, List.filterMap_append, ih (by omega)]
      have e : items[items.size - 1 - n]? = some items[items.size - 1 - n] := Array.getElem?_eq_getElem (by omega)
      rw [List.take_add_one]
      congr 1
      simp only [List.filterMap_cons, List.filterMap_nil, Function.comp, e]
      rw [List.getElem?_reverse (by simp; omega)]
      simp only [Array.length_toList, Array.getElem?_toList, e, Option.toList_some]
  rw [key items.size (Nat.le_refl _), List.take_of_length_le (by simp)]


section
variable {prog : Program} {w : World} {A : Around} {E : Value → Shared → Prop} {s : Shared} {μ : List Addr} {σ : Sto} {h₀ : Heap} {h : Heap}

/-- a slice's part as the machine has it -/
inductive PartV : Option V → Value → Prop
  | none : PartV none .none
  | int (i : Int) (t : Tok) : PartV (some (.int i)) (.int i t)
  | other (x : V) (v : Value) : (∀ i, x ≠ .int i) → PartV (some x) v

theorem partV_of {X : Addr → Prop} {x : V} {v : Value} (r : RV X μ h x v) : PartV (some x) v := by
  cases r with
  | int i t => exact .int i t
  | none => exact .other _ _ fun _ e => nomatch e
  | bool => exact .other _ _ fun _ e => nomatch e
  | str => exact .other _ _ fun _ e => nomatch e
  | tup => exact .other _ _ fun _ e => nomatch e
  | lst => exact .other _ _ fun _ e => nomatch e
  | cell => exact .other _ _ fun _ e => nomatch e

theorem slO1 {x : V} {hi st : Option V} {l : List V} (hn : ∀ a, x ≠ .int a) : sliceV (some x) hi st l = none := by
  cases x with
  | int a => exact absurd rfl (hn a)
  | _ => rfl
theorem slO2 {x : V} {st : Option V} {l : List V} (hn : ∀ a, x ≠ .int a) : sliceV none (some x) st l = none := by
  cases x with
  | int a => exact absurd rfl (hn a)
  | _ => rfl
theorem slO3 {x : V} {l : List V} (hn : ∀ a, x ≠ .int a) : sliceV none none (some x) l = none := by
  cases x with
  | int a => exact absurd rfl (hn a)
  | _ => rfl
theorem pick_ok {lo hi st : Option V} {l r : List V} {vs : Array Value} {vl vu vk : Value} (hs : sliceV lo hi st l = some r) (hr : RMs μ h l vs.toList) (p1 : PartV lo vl) (p2 : PartV hi vu) (p3 : PartV st vk) :
    ∃ a b c, IsPart vl a ∧ IsPart vu b ∧ IsPart vk c ∧ c ≠ some 0 ∧ RMs μ h r (slicePick vs a b c).toList := by
  cases p1 with
  | other _ _ hn => exact (noneX ((slO1 hn).symm.trans hs)).elim
  | int a t =>
    cases p2 with
    | none =>
      cases p3 with
      | none =>
        obtain ⟨ha, e⟩ := iteX (show (if 0 ≤ a then some (l.drop a.toNat) else none) = some r from hs)
        cases e
        obtain ⟨k, rfl⟩ := Int.eq_ofNat_of_zero_le ha
        exact ⟨some k, none, none, .int _ _, .none, .none, nofun, by rw [slicePick_from']; simpa using hr.drop k⟩
      | _ => exact (noneX hs).elim
    | _ => exact (noneX hs).elim
  | none =>
    cases p2 with
    | other _ _ hn => exact (noneX ((slO2 hn).symm.trans hs)).elim
    | int b t =>
      cases p3 with
      | none =>
        obtain ⟨hb, e⟩ := iteX (show (if 0 ≤ b then some (l.take b.toNat) else none) = some r from hs)
        cases e
        obtain ⟨k, rfl⟩ := Int.eq_ofNat_of_zero_le hb
        exact ⟨none, some k, none, .none, .int _ _, .none, nofun, by rw [slicePick_upto']; simpa using hr.take k⟩
      | _ => exact (noneX hs).elim
    | none =>
      cases p3 with
      | other _ _ hn => exact (noneX ((slO3 hn).symm.trans hs)).elim
      | none => exact Option.some.inj hs ▸ ⟨none, none, none, .none, .none, .none, nofun, by rw [slicePick_all]; exact hr⟩
      | int c t =>
        obtain ⟨hc, e⟩ := iteX (show (if c = -1 then some l.reverse else none) = some r from hs)
        cases e
        subst hc
        exact ⟨none, none, some (-1), .none, .none, .int _ _, by decide, by rw [pick_rev]; simpa using hr.reverse⟩

theorem getItem_tuple_all {t sl : Addr} {items : Array Value} {u : Tok} {Q : Value → Shared → Prop} (ht : PyProof.Rows.IsTup s.heap t items) (hs : s.heap.IsSliceOf sl (.int (0 : Nat) u) .none .none)
    (h : Q (.ref t) s) : wpAny (model prog w) A (getItem (.ref t) (.ref sl)) Q E s := by
  obtain ⟨os, hos, hcs, hds⟩ := id hs
  have hTs : s.TypeIs (.ref sl) "slice" := ⟨os, hos, hcs⟩
  unfold getItem
  try with_reducible refine wpAny_holding ?_
  first | refine wpAny_bind (wpAny_pure ?_) | skip
  refine wpAny_bind (wpAny_sequenceKey ht.typeIs (by decide) ?_)
  refine wpAny_bind (wpAny_callSpecial?_slot (name := Str.ofString "__getitem__") ht.typeIs slot_tuple_getitem
    (wpAny_call_entry slot_tuple_getitem ht.typeIs entry_tuple_getitem ?_ (args_tuple_getitem _ _)))
  show wpAny _ _ (Builtin.Tuple.tupleItemsOf (.ref t) >>= _) _ _ s
  refine wpAny_bind (tupleItemsOf_ ht ?_)
  refine wpAny_bind (wpAny_typeOf hTs ?_)
  rw [if_pos (by decide)]
  refine wpAny_bind (sliceApplied_from hs (Nat.zero_le _) ?_)
  show wpAny _ _ (if (((0 : Nat) : Int) == 0 && (1 : Int) == 1 && (items.size - 0) == items.size) = true then _ else _) _ _ s
  rw [if_pos (by simp)]
  obtain ⟨o, ho, hc, n, hd⟩ := id ht
  refine wpAny_bind (m := Builtin.Tuple.tupleIsExact (.ref t)) ?_
  unfold Builtin.Tuple.tupleIsExact
  refine wpAny_bind (wpAny_typeOf ht.typeIs (wpAny_pure ?_))
  rw [if_pos (by decide)]
  exact wpAny_bind (wpAny_rule (wpAny_pure ⟨_, rfl, wpAny_pure h⟩))

/-- the builtin calls -/
theorem len_ok {x : V} {l : List V} {v : Value} {Q : Value → Shared → Prop} (hl : itemsOf σ x = some l) (hz : l.length ≤ 16777216) (S : St prog w h₀ μ s.heap σ) (r : RM μ s.heap x v)
    (hQ : ∀ t tk, Q (.int l.length t) { s with toks := tk }) : wpAny (model prog w) A (call (.builtin "len") [v]) Q E s := by
  obtain ⟨a, vs, rfl, rs, hh⟩ := itemsOf_list hl S r
  have e := rs.length
  rw [Array.length_toList] at e
  rcases hh with ⟨ht, _⟩ | ⟨hli, _⟩
  · refine len_tuple ht (by omega) ?_
    rw [e]; exact hQ _ _
  · refine PySem.Calls.call_len_list hli (by omega) ?_
    rw [e]; exact hQ _ _

/-- a call of a pure def: the arguments read through the store -/
theorem fnP_ok {d n : Nat} (hA : AOk A d n) {a : Addr} {f : List V → Option V} (hf : PureOK prog w h₀ d a f) {xs ys : List V} {vs : List Value} {V : V} {Q : Value → Shared → Prop} (h1 : rds σ xs = some ys) (h2 : f ys = some V)
    (S : St prog w h₀ μ s.heap σ) (r : RMs μ s.heap xs vs) (hQ : ∀ v h' tk μ', Ext μ s.heap μ' h' → St prog w h₀ μ' h' σ → RM μ' h' V v → Q v { s with heap := h', toks := tk }) :
    wpAny (model prog w) A (call (.ref a) vs) Q E s := by
  refine wpAny_call (hf.2 A s vs ys V _ (hA.le (Nat.le_refl _) (Nat.zero_le _)) S.base (rds_ok h1 S r) h2 fun v h' tk hk rv => ?_)
  refine hQ v h' tk μ (Ext.grow μ hk) (S.grow hk) (RV.go (fun b o ho _ _ => ⟨ho, fun _ hX hm => ?_⟩) (fun k a hk => by simp at hk) rv)
  obtain ⟨o', ho', _⟩ := S.exists hm
  rw [ho'] at hX; exact hX rfl
theorem fnE_ok {d n : Nat} (hA : AOk A d n) {a : Addr} {f : List V → Sto → Option (V × Sto)} (hf : EffOK prog w h₀ d a f) {xs : List V} {vs : List Value} {V : V} {σ' : Sto} {Q : Value → Shared → Prop} (h2 : f xs σ = some (V, σ'))
    (S : St prog w h₀ μ s.heap σ) (r : RMs μ s.heap xs vs) (hQ : ∀ v h' tk μ', Ext μ s.heap μ' h' → St prog w h₀ μ' h' σ' → RM μ' h' V v → Q v { s with heap := h', toks := tk }) :
    wpAny (model prog w) A (call (.ref a) vs) Q E s :=
  wpAny_call (hf.2 A s μ σ σ' vs xs V _ (hA.le (Nat.le_refl _) (Nat.zero_le _)) S r h2 fun v h' tk μ' e S' rv => hQ v h' tk μ' e S' rv)

theorem tupleOf_ok {k : Nat} {l : List V} {v : Value} {Q : Value → Shared → Prop} (hl : itemsOf σ (.cell k) = some l) (hz : l.length ≤ sizeLine) (S : St prog w h₀ μ s.heap σ) (r : RM μ s.heap (.cell k) v)
    (hQ : ∀ v h' tk, (∀ b o, s.heap.get? b = some o → h'.get? b = some o) → RM μ h' (.tup l) v → Q v { s with heap := h', toks := tk }) : wpAny (model prog w) A (call (.type "tuple") [v]) Q E s := by
  obtain ⟨a, vs, rfl, rs, hh⟩ := itemsOf_list hl S r
  have e := rs.length
  rw [Array.length_toList] at e
  rcases hh with ⟨_, ht⟩ | ⟨hli, _⟩
  · cases ht
  · refine call_tuple_list hli (fun h' hk => ?_) (by omega)
    have := rm_newTup (grow_rms hk rs)
    exact hQ _ _ s.toks (fun b o e => Heap.get?_push_of_some _ (hk b o e)) (by simpa using this)

theorem listOf_ok {own : Bool} {l : List V} {v : Value} {σ' : Sto} {V : V} {Q : Value → Shared → Prop} (h : mk own (.lst l) σ = some (V, σ')) (hz : l.length ≤ sizeLine) (S : St prog w h₀ μ s.heap σ) (r : RM μ s.heap (.tup l) v)
    (hQ : ∀ v h' tk μ', Ext μ s.heap μ' h' → St prog w h₀ μ' h' σ' → RM μ' h' V v → Q v { s with heap := h', toks := tk }) : wpAny (model prog w) A (call (.type "list") [v]) Q E s := by
  cases r with
  | tup h1 h2 h3 h4 =>
    have e := h4.length
    rw [Array.length_toList] at e
    exact call_list_seq _ (.inr rfl) h1 h2 h3 (fun h' c' hk hD => mk_ok h S hk (size_none _) hD h4 hQ) (by omega)
end
end Mine
end

section
open PySem PySem.W PyProof.Rows PySem.Calls
set_option autoImplicit false
namespace Mine

/-- everything that stood off `wr` stands -/
noncomputable def Keep (wr : List Addr) (h h' : Heap) : Prop := ∀ b o, b ∉ wr → h.get? b = some o → h'.get? b = some o

structure Iter (prog : Program) (w : World) (h₀ : Heap) (A : Around) (I : Addr) (fp wr : List Addr) (src : Src) (Rd : Sto → List Addr → Heap → Prop) (S : Nat → Heap → Prop) (M : Nat → Value → Heap → Prop) : Prop where
  sub : ∀ b ∈ wr, b ∈ fp
  mem : I ∈ fp
  ex : ∀ i h, S i h → ∀ b ∈ fp, ∃ o, h.get? b = some o
  exM : ∀ i v h, M i v h → ∀ b ∈ fp, ∃ o, h.get? b = some o
  frame : ∀ i h h', S i h → (∀ b ∈ fp, ∀ o, h.get? b = some o → h'.get? b = some o) → S i h'
  fld : src.zip = false → ∀ i h, S i h → ∀ b ∈ wr, ∀ o, h.get? b = some o → ∃ vs, o.data = .fields vs
  fldI : ∀ i v h, M i v h → ∀ o, h.get? I = some o → ∃ vs, o.data = .fields vs
  rdn : ∀ σ μ h σ' μ' h', Rd σ μ h → (∀ x v, RM μ h x v → RM μ' h' x v) → src.still σ' → Rd σ' μ' h'
  rdz : src.zip = true → ∀ σ μ h h', Rd σ μ h → Keep wr h h' → Rd σ μ h'
  item : ∀ i μ σ (s : Shared) (x : V) (Q : Option Value → Shared → Prop) (E : Value → Shared → Prop), S i s.heap → St prog w h₀ μ s.heap σ → Rd σ μ s.heap → src.items[i]? = some x →
    (∀ v h' tk, M i v h' → RM μ h' x v → Keep wr s.heap h' → Q (some v) { s with heap := h', toks := tk }) → wpAny (model prog w) A (pyNext (.ref I)) Q E s
  go : ∀ i v tgt (s : Shared) (Q : Unit → Shared → Prop) (E : Value → Shared → Prop), (src.tup = true → isTup tgt = true) → M i v s.heap →
    (∀ h', S (i + 1) h' → Keep [I] s.heap h' → Q () { s with heap := h' }) → wpAny (model prog w) A (letOwnedTupleGo tgt (.ref I) v) Q E s
  done : ∀ μ σ (s : Shared) (Q : Option Value → Shared → Prop) (E : Value → Shared → Prop), S src.items.length s.heap → St prog w h₀ μ s.heap σ → Rd σ μ s.heap →
    (∀ h' tk, Keep wr s.heap h' → Q none { s with heap := h', toks := tk }) → wpAny (model prog w) A (pyNext (.ref I)) Q E s
  self : ∀ i (s : Shared) (Q : Value → Shared → Prop) (E : Value → Shared → Prop), S i s.heap → Q (.ref I) s → wpAny (model prog w) A (pyIter (.ref I)) Q E s

theorem fld_seq {o : Obj} (h : ∃ vs, o.data = .fields vs) : ∀ vs n, o.data ≠ .seq vs n := by obtain ⟨vs, e⟩ := h; intro vs' n q; rw [e] at q; cases q
theorem Iter.noseq {prog : Program} {w : World} {h₀ : Heap} {A : Around} {I : Addr} {fp wr : List Addr} {src : Src} {Rd : Sto → List Addr → Heap → Prop} {S : Nat → Heap → Prop} {M : Nat → Value → Heap → Prop} (It : Iter prog w h₀ A I fp wr src Rd S M)
    (hz : src.zip = false) (i : Nat) (h : Heap) (st : S i h) : ∀ b ∈ wr, ∀ o, h.get? b = some o → ∀ vs n, o.data ≠ .seq vs n := fun b hb o ho => fld_seq (It.fld hz i h st b hb o ho)
theorem Iter.noseqI {prog : Program} {w : World} {h₀ : Heap} {A : Around} {I : Addr} {fp wr : List Addr} {src : Src} {Rd : Sto → List Addr → Heap → Prop} {S : Nat → Heap → Prop} {M : Nat → Value → Heap → Prop} (It : Iter prog w h₀ A I fp wr src Rd S M)
    (i : Nat) (v : Value) (h : Heap) (st : M i v h) : ∀ o, h.get? I = some o → ∀ vs n, o.data ≠ .seq vs n := fun o ho => fld_seq (It.fldI i v h st o ho)

section
variable {prog : Program} {w : World} {h₀ : Heap} {A : Around}

/-- a list's, a cell's iterator -/
theorem go_cases (tgt : Expr) (it v : Value) : letOwnedTupleGo tgt it v = pure () ∨ letOwnedTupleGo tgt it v = letOwnedTupleGo (.Tuple [] 0 ⟨0, 0, 0, 0⟩) it v := by
  cases tgt <;> first | exact .inl rfl | exact .inr rfl
theorem noGo {tgt : Expr} {I : Addr} {v : Value} {s : Shared} {o : Obj} {n : String} {vs : Array Value} {Q : Unit → Shared → Prop} {E : Value → Shared → Prop} (ho : s.heap.get? I = some o) (hc : o.cls = .type n) (hd : o.data = .fields vs)
    (hn : (["enumerate", "zip", "dict_itemiterator", "dict_reverseitemiterator", "odict_iterator", "itertools.zip_longest", "itertools.pairwise"].contains n) = false) (hQ : Q () s) :
    wpAny (model prog w) A (letOwnedTupleGo tgt (.ref I) v) Q E s := by
  rcases go_cases tgt (.ref I) v with e | e <;> rw [e]
  · exact wpAny_pure hQ
  cases v with
  | ref a =>
    refine wpAny_bind (wpAny_load ho ?_)
    rw [hc, hd]
    show wpAny _ A (if (["enumerate", "zip", "dict_itemiterator", "dict_reverseitemiterator", "odict_iterator", "itertools.zip_longest", "itertools.pairwise"].contains n && vs[0]? == some (rawInt a)) = true then _ else _) Q E s
    rw [hn]
    exact wpAny_pure hQ
  | _ => exact wpAny_pure hQ
theorem isTup_tuple {e : Expr} (h : isTup e = true) : ∃ es k p, e = .Tuple es k p := by
  cases e with
  | Tuple es k p => exact ⟨es, k, p, rfl⟩
  | _ => exact (Bool.false_ne_true h).elim
theorem fm {α : Type} {p : α → Prop} {a : α} {l : List α} (h : p a) (h' : ∀ x ∈ l, p x) : ∀ x ∈ a :: l, p x := List.forall_mem_cons.mpr ⟨h, h'⟩
theorem fn0 {α : Type} {p : α → Prop} : ∀ x ∈ ([] : List α), p x := fun _ h => absurd h List.not_mem_nil
theorem get_data {h : Heap} {a : Addr} {o' : Obj} {vs : Array Value} (h1 : h.get? a = some o') (hd : o'.data = .fields vs) : ∀ o, h.get? a = some o → ∃ vs, o.data = .fields vs := fun o h2 => ⟨vs, Option.some.inj (h1.symm.trans h2) ▸ hd⟩
theorem li_ex {h : Heap} {I a : Addr} {i : Nat} (st : h.IsListIter I a i) : ∃ o, h.get? I = some o := st.imp fun _ h => h.1
theorem li_fld {h : Heap} {I a : Addr} {i : Nat} (st : h.IsListIter I a i) : ∀ o, h.get? I = some o → ∃ vs, o.data = .fields vs := match st with | ⟨_, h1, _, hd⟩ => get_data h1 hd
theorem ti_fld {h : Heap} {I a : Addr} {i : Nat} (st : h.IsTupleIter I a i) : ∀ o, h.get? I = some o → ∃ vs, o.data = .fields vs := match st with | ⟨_, h1, _, hd⟩ => get_data h1 hd
theorem mem1 {I : Addr} : I ∈ [I] := List.mem_singleton_self I

theorem keep_of_same {a : Addr} {wr : List Addr} {h h' : Heap} (ha : a ∈ wr) (hs : Heap.ExtBut a h h') : Keep wr h h' := fun b o hb e => hs b o (fun x => hb (x ▸ ha)) e

theorem keep_rm {wr μ : List Addr} {h h' : Heap} (hk : Keep wr h h') (hw : ∀ b ∈ wr, ∀ o, h.get? b = some o → ∀ vs n, o.data ≠ .seq vs n) {x : V} {v : Value} (r : RM μ h x v) : RM μ h' x v :=
  RV.go (fun b o ho hq _ => ⟨hk b o (fun hm => by obtain ⟨vs, n, e⟩ := hq; exact hw b hm o ho vs n e) ho, fun _ hX => hX⟩) (fun _ _ e => e) r
theorem keep_rms {wr μ : List Addr} {h h' : Heap} (hk : Keep wr h h') (hw : ∀ b ∈ wr, ∀ o, h.get? b = some o → ∀ vs n, o.data ≠ .seq vs n) {x : List V} {v : List Value} (r : RMs μ h x v) : RMs μ h' x v :=
  RVs.go (fun b o ho hq _ => ⟨hk b o (fun hm => by obtain ⟨vs, n, e⟩ := hq; exact hw b hm o ho vs n e) ho, fun _ hX => hX⟩) (fun _ _ e => e) r

/-- what a source says: it can be read where it stands -/
noncomputable def SrcRd (sv : V) (l : List V) (a : Addr) (σ : Sto) (μ : List Addr) (h : Heap) : Prop := RM μ h sv (.ref a) ∧ itemsOf σ sv = some l

theorem srcRd_next {sv : V} {l : List V} {a : Addr} {src : Src} (hs : (∃ k, sv = .cell k ∧ src.live = some (k, l)) ∨ (∀ k, sv ≠ .cell k)) : ∀ σ μ h σ' μ' h', SrcRd sv l a σ μ h → (∀ x v, RM μ h x v → RM μ' h' x v) → src.still σ' → SrcRd sv l a σ' μ' h' := by
  rintro σ μ h σ' μ' h' ⟨h1, h2⟩ f st
  refine ⟨f _ _ h1, ?_⟩
  rcases hs with ⟨k, rfl, e⟩ | hn
  · unfold Src.still at st
    rw [e] at st
    obtain ⟨c, hc, rfl⟩ := st
    simp [itemsOf, hc]
  · cases sv with
    | cell k => exact absurd rfl (hn k)
    | _ => simp [itemsOf] at h2 ⊢ <;> exact h2

section
variable {h₀ : Heap} {μ : List Addr} {σ : Sto} {s : Shared} {l : List V} {sv : V} {a : Addr}
theorem src_list {live : Option (Nat × List V)} (hs : (∃ k, sv = .cell k ∧ live = some (k, l)) ∨ (∃ l', sv = .lst l')) (S : St prog w h₀ μ s.heap σ) (rd : SrcRd sv l a σ μ s.heap) : ∃ vs, s.heap.IsList a vs ∧ RMs μ s.heap l vs.toList := by
  obtain ⟨a', vs, e, r, hh'⟩ := itemsOf_list rd.2 S rd.1
  cases e
  refine ⟨vs, hh'.elim (fun q => ?_) fun q => q.1, r⟩
  rcases hs with ⟨k, rfl, _⟩ | ⟨l', rfl⟩ <;> cases q.2
theorem src_tup (S : St prog w h₀ μ s.heap σ) (rd : SrcRd (.tup l) l a σ μ s.heap) : ∃ vs, s.heap.IsTuple a vs ∧ RMs μ s.heap l vs.toList := by
  obtain ⟨a', vs, e, r, hh'⟩ := itemsOf_list rd.2 S rd.1
  cases e
  exact ⟨vs, hh'.elim (fun q => q.1) fun q => absurd rfl (q.2 l), r⟩
theorem at_end {vs : Array Value} {n : Nat} {h : Heap} (r : RMs μ h l vs.toList) (hn : l.length ≤ n) : vs[n]? = none := Array.getElem?_eq_none (by have e := r.length; rw [Array.length_toList] at e; rw [e]; exact hn)
end
theorem iterList (hh : A.handled = none) {sv : V} {l : List V} {a I : Addr} {live : Option (Nat × List V)} (hs : (∃ k, sv = .cell k ∧ live = some (k, l)) ∨ (∃ l', sv = .lst l')) :
    Iter prog w h₀ A I [I] [I] ⟨l, live, false, false⟩ (SrcRd sv l a) (fun i h => h.IsListIter I a i) (fun i _ h => h.IsListIter I a (i + 1)) where
  sub := fun b hb => hb
  mem := mem1
  ex := fun i h st => fm (st.imp fun _ h => h.1) fn0
  exM := fun i v h st => fm (st.imp fun _ h => h.1) fn0
  frame := fun i h h' st hk => st.at fun o e => hk I mem1 o e
  fld := fun _ i h st => fm (li_fld st) fn0
  fldI := fun i v h st => li_fld st
  rdn := srcRd_next (hs.imp id fun ⟨l', e⟩ k q => by rw [e] at q; cases q)
  rdz := fun h => by cases h
  item := fun i μ σ s x Q E st S rd hx hQ => by
    obtain ⟨vs, hl, r⟩ := src_list hs S rd
    obtain ⟨v, hv, rv⟩ := r.get hx
    rw [Array.getElem?_toList] at hv
    refine wpAny_pyNext_list_item st hl hv fun h' hit' hs' => ?_
    exact hQ v h' s.toks hit' (keep_rm (keep_of_same mem1 hs'.extBut) (wr := [I]) (fm (fun o ho => fld_seq (li_fld st o ho)) fn0) rv) (keep_of_same mem1 hs'.extBut)
  go := fun i v tgt s Q E _ st hQ => by
    exact match id st with | ⟨o, ho, hc, hd⟩ => noGo ho hc hd rfl (hQ s.heap st fun _ _ _ e => e)
  done := fun μ σ s Q E st S rd hQ => by
    obtain ⟨vs, hl, r⟩ := src_list hs S rd
    exact wpAny_pyNext_list_end hh st hl (at_end r (Nat.le_refl _)) fun h' he' => hQ h' s.toks (keep_of_same mem1 he')
  self := fun _ _ _ _ st hQ => wpAny_pyIter_listiter st hQ

theorem iterTuple (hh : A.handled = none) {l : List V} {a I : Addr} :
    Iter prog w h₀ A I [I] [I] ⟨l, none, false, false⟩ (SrcRd (.tup l) l a) (fun i h => h.IsTupleIter I a i) (fun i _ h => h.IsTupleIter I a (i + 1)) where
  sub := fun b hb => hb
  mem := mem1
  ex := fun i h st => fm (st.imp fun _ h => h.1) fn0
  exM := fun i v h st => fm (st.imp fun _ h => h.1) fn0
  frame := fun i h h' st hk => st.at fun o e => hk I mem1 o e
  fld := fun _ i h st => fm (ti_fld st) fn0
  fldI := fun i v h st => ti_fld st
  rdn := srcRd_next (.inr fun k e => by cases e)
  rdz := fun h => by cases h
  item := fun i μ σ s x Q E st S rd hx hQ => by
    obtain ⟨vs, hl, r⟩ := src_tup S rd
    obtain ⟨v, hv, rv⟩ := r.get hx
    rw [Array.getElem?_toList] at hv
    refine wpAny_pyNext_tuple_item st hl hv fun h' hit' hs' => ?_
    exact hQ v h' s.toks hit' (keep_rm (keep_of_same mem1 hs'.extBut) (wr := [I]) (fm (fun o ho => fld_seq (ti_fld st o ho)) fn0) rv) (keep_of_same mem1 hs'.extBut)
  go := fun i v tgt s Q E _ st hQ => by
    exact match id st with | ⟨o, ho, hc, hd⟩ => noGo ho hc hd rfl (hQ s.heap st fun _ _ _ e => e)
  done := fun μ σ s Q E st S rd hQ => by
    obtain ⟨vs, hl, r⟩ := src_tup S rd
    exact wpAny_pyNext_tuple_end hh st hl (at_end r (Nat.le_refl _)) fun h' he' => hQ h' s.toks (keep_of_same mem1 he')
  self := fun _ _ _ _ st hQ => wpAny_pyIter_tupleiter st hQ

theorem rangeV_len (a c : Int) (n : Nat) : (rangeV a c n).length = n := by
  induction n generalizing a with
  | zero => rfl
  | succ n ih => simp [rangeV, ih]
theorem rangeV_get (a c : Int) (n : Nat) {i : Nat} {x : V} (h : (rangeV a c n)[i]? = some x) : i < n ∧ x = .int (a + i * c) := by
  induction n generalizing a i with
  | zero => simp [rangeV] at h
  | succ n ih =>
    cases i with
    | zero => simp [rangeV] at h; subst h; exact ⟨by omega, by simp⟩
    | succ i =>
      simp only [rangeV, List.getElem?_cons_succ] at h
      obtain ⟨h1, h2⟩ := ih _ h
      refine ⟨by omega, ?_⟩
      rw [h2]
      congr 1
      rw [Int.natCast_add, Int.add_mul]; omega

theorem iterRange (hh : A.handled = none) {I : Addr} {a c : Int} {n : Nat} :
    Iter prog w h₀ A I [I] [I] ⟨rangeV a c n, none, false, false⟩ (fun _ _ _ => True) (fun i h => IsRangeIter h I (a + i * c) ((n : Int) - i) c) (fun i _ h => IsRangeIter h I (a + (i + 1 : Nat) * c) ((n : Int) - (i + 1 : Nat)) c) where
  sub := fun b hb => hb
  mem := mem1
  ex := fun i h st => fm ⟨_, st⟩ fn0
  exM := fun i v h st => fm ⟨_, st⟩ fn0
  frame := fun i h h' st hk => hk I mem1 _ st
  fld := fun _ i h st => fm (get_data st rfl) fn0
  fldI := fun i v h st => get_data st rfl
  rdn := fun _ _ _ _ _ _ _ _ _ => trivial
  rdz := fun h => by cases h
  item := fun i μ σ s x Q E st S rd hx hQ => by
    obtain ⟨hi, rfl⟩ := rangeV_get a c n hx
    refine wpAny_pyNext_range_item st (by omega) fun h' hit' hs' => ?_
    refine hQ _ h' _ ?_ (.int _ _) (keep_of_same mem1 hs'.extBut)
    have e1 : a + (i : Int) * c + c = a + ((i + 1 : Nat) : Int) * c := by rw [Int.natCast_add, Int.add_mul]; omega
    have e2 : (n : Int) - i - 1 = (n : Int) - ((i + 1 : Nat) : Int) := by omega
    rw [← e1, ← e2]; exact hit'
  go := fun i v tgt s Q E _ st hQ => noGo st rfl rfl rfl (hQ s.heap st fun _ _ _ e => e)
  done := fun μ σ s Q E st S rd hQ => by
    rw [rangeV_len] at st
    exact wpAny_pyNext_range_end hh st (by omega) fun h' he' => hQ h' s.toks (keep_of_same mem1 he')
  self := fun _ _ _ _ st hQ => wpAny_pyIter_rangeiter st hQ

theorem enumFrom_len (k : Int) (l : List V) : (enumFrom k l).length = l.length := by
  induction l generalizing k with
  | nil => rfl
  | cons x xs ih => simp [enumFrom, ih]
theorem enumFrom_get (k : Int) (l : List V) {i : Nat} {y : V} (h : (enumFrom k l)[i]? = some y) : ∃ x, l[i]? = some x ∧ y = .tup [.int (k + i), x] := by
  induction l generalizing k i with
  | nil => simp [enumFrom] at h
  | cons x xs ih =>
    cases i with
    | zero => simp [enumFrom] at h; subst h; exact ⟨x, rfl, by simp⟩
    | succ i =>
      simp only [enumFrom, List.getElem?_cons_succ] at h
      obtain ⟨y', h1, h2⟩ := ih _ h
      refine ⟨y', by simpa using h1, ?_⟩
      rw [h2]
      have e : k + 1 + (i : Int) = k + ((i + 1 : Nat) : Int) := by omega
      rw [e]

theorem iterEnum (hh : A.handled = none) {sv : V} {l : List V} {a e it : Addr} {live : Option (Nat × List V)} (hne : e ≠ it) (hs : (∃ k, sv = .cell k ∧ live = some (k, l)) ∨ (∃ l', sv = .lst l')) :
    Iter prog w h₀ A e [e, it] [e, it] ⟨enumFrom 0 l, live, true, false⟩ (SrcRd sv l a) (fun i h => (∃ old, IsEnum h e it i old) ∧ h.IsListIter it a i)
      (fun i v h => ∃ T x, v = .ref T ∧ IsEnumOut h e it ((i : Int) + 1) x T ∧ h.IsListIter it a (i + 1)) where
  sub := fun b hb => hb
  mem := List.mem_cons_self
  ex := fun i h st => fm (st.1.elim fun _ h1 => ⟨_, h1⟩) (fm (li_ex st.2) fn0)
  exM := fun i v h st => match st with | ⟨_, _, _, h1, h2⟩ => fm ⟨_, h1⟩ (fm (li_ex h2) fn0)
  frame := fun i h h' st hk => ⟨st.1.imp fun _ h1 => hk e List.mem_cons_self _ h1, st.2.at fun o q => hk it (List.mem_cons_of_mem _ mem1) o q⟩
  fld := fun _ i h st => fm (st.1.elim fun _ h1 => get_data h1 rfl) (fm (li_fld st.2) fn0)
  fldI := fun i v h st => match st with | ⟨_, _, _, h1, _⟩ => get_data h1 rfl
  rdn := srcRd_next (hs.imp id fun ⟨l', e⟩ k q => by rw [e] at q; cases q)
  rdz := fun h => by cases h
  item := fun i μ σ s y Q E st S rd hy hQ => by
    obtain ⟨⟨old, h1⟩, h2⟩ := st
    obtain ⟨vs, hl, r⟩ := src_list hs S rd
    obtain ⟨x, hx, rfl⟩ := enumFrom_get _ _ hy
    obtain ⟨v, hv, rv⟩ := r.get hx
    rw [Array.getElem?_toList] at hv
    refine wpAny_pyNext_enum_item h1 h2 hl hv hne fun h' ho hit' hT hsz hk => ?_
    have K : Keep [e, it] s.heap h' := fun b o hb q => hk b o (fun x => hb (x ▸ List.mem_cons_self)) (fun x => hb (x ▸ List.mem_cons_of_mem _ mem1)) q
    have rv' : RM μ h' x v := keep_rm K (fm (fun o ho => fld_seq (get_data h1 rfl o ho)) (fm (fun o ho => fld_seq (li_fld h2 o ho)) fn0)) rv
    refine hQ _ h' _ ⟨_, _, rfl, ho, hit'⟩ (.tup hT rfl rfl ?_) K
    have : (0 : Int) + (i : Int) = i := by omega
    rw [this]
    exact .cons (.int _ _) (.cons rv' .nil)
  go := fun i v tgt s Q E ht st hQ => by
    obtain ⟨T, x, rfl, h1, h2⟩ := st
    obtain ⟨es, k, pos, rfl⟩ := isTup_tuple (ht rfl)
    · refine wpAny_letOwnedTupleGo_enum h1 fun h' he' hs' => hQ h' ⟨⟨x, by simpa using he'⟩, h2.extBut hs'.extBut hne.symm⟩ (keep_of_same List.mem_cons_self hs'.extBut)
  done := fun μ σ s Q E st S rd hQ => by
    obtain ⟨⟨old, h1⟩, h2⟩ := st
    obtain ⟨vs, hl, r⟩ := src_list hs S rd
    rw [enumFrom_len] at h1 h2
    exact wpAny_pyNext_enum_end hh h1 h2 hl (at_end r (Nat.le_refl _)) fun h' he' => hQ h' s.toks (keep_of_same (List.mem_cons_of_mem _ mem1) he')
  self := fun _ _ _ _ st hQ => by obtain ⟨⟨old, h1⟩, _⟩ := st; exact wpAny_pyIter_enum h1 hQ

theorem scal_rm {X Y : Addr → Prop} {μ μ' : List Addr} {h h' : Heap} {x : V} {v : Value} (hx : x.scal = true) (r : RV X μ h x v) : RV Y μ' h' x v := by
  cases r with
  | none => exact .none
  | bool => exact .bool _
  | int => exact .int _ _
  | str => exact .str _ _
  | tup => cases hx
  | lst => cases hx
  | cell => cases hx
theorem scal_rms {X Y : Addr → Prop} {μ μ' : List Addr} {h h' : Heap} {x : List V} {v : List Value} (hx : x.all V.scal = true) (r : RVs X μ h x v) : RVs Y μ' h' x v :=
  rvs_map r fun y hy u ru => scal_rm (List.all_eq_true.mp hx y hy) ru

theorem zip_keep {h h' : Heap} {a b c d : Addr} (hk : ∀ x o, x ≠ a → x ≠ b → x ≠ c → x ≠ d → h.get? x = some o → h'.get? x = some o) : Keep [a, b, c, d] h h' := fun x o hb e =>
  hk x o (fun q => hb (q ▸ List.mem_cons_self)) (fun q => hb (q ▸ List.mem_cons_of_mem _ List.mem_cons_self)) (fun q => hb (q ▸ List.mem_cons_of_mem _ (List.mem_cons_of_mem _ List.mem_cons_self))) (fun q => hb (q ▸ List.mem_cons_of_mem _ (List.mem_cons_of_mem _ (List.mem_cons_of_mem _ mem1)))) e
theorem iterZip (hh : A.handled = none) {la lb : List V} {z TI TO i1 i2 l1 l2 : Addr} (D : ZipApart z TI TO i1 i2 l1 l2) (ha : la.all V.scal = true) (hb : lb.all V.scal = true) :
    Iter prog w h₀ A z [z, TI, TO, i1, i2] [z, TO, i1, i2] ⟨List.zipWith (fun x y => .tup [x, y]) la lb, none, true, true⟩ (fun _ μ h => RM μ h (.lst la) (.ref l1) ∧ RM μ h (.lst lb) (.ref l2))
      (fun i h => IsZip h z TI TO .none ∧ IsPair h TI (.ref i1) (.ref i2) ∧ (∃ a b, IsPair h TO a b) ∧ h.IsListIter i1 l1 i ∧ h.IsListIter i2 l2 i)
      (fun i v h => ∃ T : Addr, v = .ref T ∧ IsZip h z TI TO (rawInt T) ∧ IsPair h TI (.ref i1) (.ref i2) ∧ (∃ a b, IsPair h TO a b) ∧ h.IsListIter i1 l1 (i + 1) ∧ h.IsListIter i2 l2 (i + 1)) where
  sub := fun b hb => (List.mem_cons.mp hb).elim (fun e => e ▸ List.mem_cons_self) fun hb => List.mem_cons_of_mem _ (List.mem_cons_of_mem _ hb)
  mem := List.mem_cons_self
  ex := fun i h st => fm ⟨_, st.1⟩ (fm ⟨_, st.2.1⟩ (fm (match st.2.2.1 with | ⟨_, _, h3⟩ => ⟨_, h3⟩) (fm (li_ex st.2.2.2.1) (fm (li_ex st.2.2.2.2) fn0))))
  exM := fun i v h st => match st with | ⟨_, _, h1, h2, ⟨_, _, h3⟩, h4, h5⟩ => fm ⟨_, h1⟩ (fm ⟨_, h2⟩ (fm ⟨_, h3⟩ (fm (li_ex h4) (fm (li_ex h5) fn0))))
  frame := fun i h h' st hk => by
    obtain ⟨k1, hk⟩ := List.forall_mem_cons.mp hk
    obtain ⟨k2, hk⟩ := List.forall_mem_cons.mp hk
    obtain ⟨k3, hk⟩ := List.forall_mem_cons.mp hk
    obtain ⟨k4, hk⟩ := List.forall_mem_cons.mp hk
    exact ⟨k1 _ st.1, k2 _ st.2.1, st.2.2.1.imp fun _ h => h.imp fun _ h => k3 _ h, st.2.2.2.1.at fun o e => k4 o e, st.2.2.2.2.at fun o e => hk i2 mem1 o e⟩
  fld := fun h => by cases h
  fldI := fun i v h st => match st with | ⟨_, _, h1, _⟩ => get_data h1 rfl
  rdn := fun σ μ h σ' μ' h' rd f st => ⟨f _ _ rd.1, f _ _ rd.2⟩
  rdz := fun _ σ μ h h' rd hk => by
    obtain ⟨r1, r2⟩ := rd
    cases r1 with
    | lst a1 a2 a3 a4 a5 =>
    cases r2 with
    | lst b1 b2 b3 b4 b5 =>
      exact ⟨.lst (hk _ _ (by simp; exact ⟨D.l1z, D.l1TO, D.l1i1, D.l1i2⟩) a1) a2 a3 a4 (scal_rms ha a5), .lst (hk _ _ (by simp; exact ⟨D.l2z, D.l2TO, D.l2i1, D.l2i2⟩) b1) b2 b3 b4 (scal_rms hb b5)⟩
  item := fun i μ σ s y Q E st S rd hy hQ => by
    obtain ⟨hz, hTI, ⟨p, q, hTO⟩, h1, h2⟩ := st
    obtain ⟨r1, r2⟩ := rd
    cases r1 with
    | lst a1 a2 a3 a4 a5 =>
    cases r2 with
    | lst b1 b2 b3 b4 b5 =>
      simp only [List.getElem?_zipWith] at hy
      split at hy
      · rename_i x1 x2 e1 e2
        cases hy
        obtain ⟨v1, w1, g1⟩ := a5.get e1
        obtain ⟨v2, w2, g2⟩ := b5.get e2
        rw [Array.getElem?_toList] at w1 w2
        refine wpAny_pyNext_zip_item D hz hTI hTO h1 h2 ⟨_, a1, a2, _, a3⟩ ⟨_, b1, b2, _, b3⟩ w1 w2 fun h' c1 c2 c3 c4 c5 c6 hk => ?_
        have s1 : x1.scal = true := List.all_eq_true.mp ha _ (List.mem_of_getElem? e1)
        have s2 : x2.scal = true := List.all_eq_true.mp hb _ (List.mem_of_getElem? e2)
        refine hQ _ h' s.toks ⟨_, rfl, c1, hk _ _ D.TIz D.TITO D.TIi1 D.TIi2 hTI, ⟨_, _, c2⟩, c3, c4⟩ (.tup c5 rfl rfl (.cons (scal_rm s1 g1) (.cons (scal_rm s2 g2) .nil)))
          (zip_keep hk)
      · cases hy
  go := fun i v tgt s Q E ht st hQ => by
    obtain ⟨T, rfl, hz, hTI, ⟨p, q, hTO⟩, h1, h2⟩ := st
    obtain ⟨es, k, pos, rfl⟩ := isTup_tuple (ht rfl)
    · refine wpAny_letOwnedTupleGo_zip hz fun h' hz' hs' => hQ h' ⟨hz', hs'.extBut _ _ D.TIz hTI, ⟨p, q, hs'.extBut _ _ D.TOz hTO⟩, h1.extBut hs'.extBut D.i1z, h2.extBut hs'.extBut D.i2z⟩ (keep_of_same List.mem_cons_self hs'.extBut)
  done := fun μ σ s Q E st S rd hQ => by
    obtain ⟨hz, hTI, ⟨p, q, hTO⟩, h1, h2⟩ := st
    obtain ⟨r1, r2⟩ := rd
    cases r1 with
    | lst a1 a2 a3 a4 a5 =>
    cases r2 with
    | lst b1 b2 b3 b4 b5 =>
      refine wpAny_pyNext_zip_end hh D hz hTI hTO h1 h2 ⟨_, a1, a2, _, a3⟩ ⟨_, b1, b2, _, b3⟩ ?_ fun h' hk => hQ h' s.toks (zip_keep hk)
      rw [List.length_zipWith]
      exact (Nat.le_total la.length lb.length).imp (fun hc => at_end a5 (Nat.min_eq_left hc ▸ Nat.le_refl _)) fun hc => at_end b5 (Nat.min_eq_right hc ▸ Nat.le_refl _)
  self := fun _ _ _ _ st hQ => wpAny_pyIter_zip st.1 hQ
end
end Mine
end

section
open PySem PySem.W PyProof.Rows PySem.Calls
set_option autoImplicit false
set_option maxRecDepth 100000
namespace Mine

theorem owner_reversed : Manifest.owners.lookup (String.ofList ['d', 'e', 's', 'r', 'e', 'v', 'e', 'r'].reverse) = some Manifest.sig_reversed := by kernel_rfl
theorem slot_reversed_next : Slot "reversed" "__next__" "reversed.__next__" :=
  .of (owner := "reversed") (n := "__next__") (by rw [typeLookup_type, builtinLookup_eq_fast]; kernel_rfl) (by decide +kernel) (by decide +kernel) (by decide +kernel)
    (by first | exact .inl (by decide +kernel) | exact .inr (by decide +kernel)) (by rw [isSubtype_type]; kernel_rfl)
theorem entry_reversed_next : entryFor table "reversed.__next__" = some Builtin.«reversed.__next__» := entryFor_of_tree (by kernel_rfl)
theorem args_reversed_next_1 (a : Value) : argsOk "reversed.__next__" ⟨[a], []⟩ := by
  unfold argsOk; rw [signature?_of (id := "reversed.__next__") (n := ['_', '_', 't', 'x', 'e', 'n', '_', '_']) (o := ['d', 'e', 's', 'r', 'e', 'v', 'e', 'r']) (by kernel_rfl) owner_reversed]; kernel_rfl
theorem slot_reversed_iter : Slot "reversed" "__iter__" "reversed.__iter__" :=
  .of (owner := "reversed") (n := "__iter__") (by rw [typeLookup_type, builtinLookup_eq_fast]; kernel_rfl) (by decide +kernel) (by decide +kernel) (by decide +kernel)
    (by first | exact .inl (by decide +kernel) | exact .inr (by decide +kernel)) (by rw [isSubtype_type]; kernel_rfl)
theorem args_reversed_iter_1 (a : Value) : argsOk "reversed.__iter__" ⟨[a], []⟩ := by
  unfold argsOk; rw [signature?_of (id := "reversed.__iter__") (n := ['_', '_', 'r', 'e', 't', 'i', '_', '_']) (o := ['d', 'e', 's', 'r', 'e', 'v', 'e', 'r']) (by kernel_rfl) owner_reversed]; kernel_rfl
theorem entry_reversed_iter : entryFor table "reversed.__iter__" = some Builtin.«dict_keyiterator.__iter__» :=
  entryFor_alias (id' := "dict_keyiterator.__iter__") (by kernel_rfl) (by first | rfl | decide +kernel | (unfold String.splitOn; simp +decide [String.splitOnAux])) (by decide +kernel) (by kernel_rfl)
/-- the type reversed: what the tables say of it -/
theorem rv_mro : mroOf (.type "reversed") = pure [.type "reversed", .type "object"] := by rw [mroOf_type]; kernel_rfl
theorem rv_made : Bind.madeBy (.type "reversed") = pure (some "reversed.__new__") := madeBy_type rv_mro (by rw [typeLookup_type, builtinLookup_eq_fast]; kernel_rfl) (by decide +kernel)
theorem rv_self : isSubtype (.type "reversed") (.type "reversed") = pure true := by rw [isSubtype_type]; kernel_rfl
theorem rv_type (a : Value) : checkTypeCall "reversed" ⟨[a], []⟩ = pure () := by kernel_rfl
theorem rv_new (a : Value) : checkBuiltinCall "reversed.__new__" ⟨[.type "reversed", a], []⟩ = pure () := by kernel_rfl
theorem rv_entry : entryFor table "reversed.__new__" = some Builtin.«reversed.__new__» := entryFor_of_tree (by kernel_rfl)
theorem rv_plain : plainId "reversed.__new__" = true := by decide +kernel
theorem rv_class (a : Value) : Builtin.SmallTypes.newClass "reversed" ⟨[.type "reversed", a], []⟩ = pure (.type "reversed", [a]) := by
  unfold Builtin.SmallTypes.newClass
  rfl
theorem slot_reversed_init : Slot "reversed" "__init__" "object.__init__" :=
  .of (owner := "object") (n := "__init__") (by rw [typeLookup_type, builtinLookup_eq_fast]; kernel_rfl) (by decide +kernel) (by decide +kernel) (by decide +kernel)
    (by first | exact .inl (by decide +kernel) | exact .inr (by decide +kernel)) (by rw [isSubtype_type]; kernel_rfl)
theorem called_reversed : TypeCalled "reversed" "reversed.__new__" "object.__init__" :=
  ⟨by decide +kernel, by decide +kernel, ⟨_, _, rv_mro⟩, rv_made, by decide +kernel, rv_self, slot_reversed_init⟩
theorem no_tuple_reversed : typeLookup (.type "tuple") "__reversed__" = pure none := by rw [typeLookup_type, builtinLookup_eq_fast]; kernel_rfl
theorem sub_tuple_dict : isSubtype (.type "tuple") (.type "dict") = pure false := by rw [isSubtype_type]; kernel_rfl

section
variable {prog : Program} {w : World} {h₀ : Heap} {A : Around} {E : Value → Shared → Prop} {s : Shared}

noncomputable abbrev IsRevT (h : Heap) (it t : Addr) (i : Int) : Prop := h.get? it = some { cls := .type "reversed", data := .fields #[.ref t, rawInt i] }

theorem code_reversed_new_tuple {t : Addr} {items : Array Value} {Q₁ : Value → Shared → Prop} (ht : PyProof.Rows.IsTup s.heap t items) (hfit : (items.size : Int) < 2 ^ 63)
    (h : ∀ tk, Q₁ (.ref s.heap.objs.size) { s with heap := s.heap.push { cls := .type "reversed", data := .fields #[.ref t, rawInt ((items.size : Int) - 1)] }, toks := tk }) :
    codeAny (model prog w) A (.call (.builtin "reversed.__new__") ⟨[.type "reversed", .ref t], []⟩) (wants Q₁ E) s := by
  refine codeAny_of_tree ?_
  show wpAny _ A.in1 (do checkBuiltinCall "reversed.__new__" ⟨[.type "reversed", .ref t], []⟩; again (.builtin "reversed.__new__" ⟨[.type "reversed", .ref t], []⟩)) _ _ s
  refine wpAny_bind (wpAny_of_eq (rv_new _) (wpAny_pure ⟨plainId_quiet rv_plain _, codeAny_builtin rv_entry ?_⟩))
  rw [Around.under_plainId rv_plain _]
  unfold Builtin.«reversed.__new__»
  refine wpAny_bind (wpAny_of_eq (rv_class _) ?_)
  try dsimp only
  refine wpAny_bind (wpAny_of_eq (a := ()) (by first | rfl | kernel_rfl) ?_)
  refine wpAny_bind (wpAny_of_eq (a := ()) (by first | rfl | kernel_rfl) ?_)
  try dsimp only
  refine wpAny_bind (wpAny_specialOf ht.typeIs no_tuple_reversed ?_)
  try dsimp only
  refine wpAny_bind (wpAny_mono (Q := fun b s' => b = true ∧ s' = s) (E := fun _ _ => False) ?_ (fun b s' hb => ?_) fun _ _ x => x.elim)
  · show wpAny _ _ (isInstance (.ref t) (.type "dict") >>= _) _ _ s
    refine wpAny_bind (wpAny_isInstance (T := "tuple") (b := false) ht.typeIs sub_tuple_dict ?_)
    simp only [Bool.false_eq_true, if_false]
    refine wpAny_bind (wpAny_specialOf ht.typeIs slot_tuple_getitem.lookup ?_)
    try dsimp only
    rw [if_pos (by decide)]
    exact wpAny_pure ⟨rfl, rfl⟩
  · obtain ⟨rfl, rfl⟩ := hb
    simp only [Bool.not_true, Bool.false_eq_true, if_false]
    refine wpAny_bind (len_tuple ht hfit ?_)
    refine wpAny_bind (wpAny_pure ?_)
    try dsimp only
    refine wpAny_bind (m := newObj (.type "reversed") (.fields [.ref t, rawInt ((items.size : Int) - 1)].toArray)) (wpAny_newObj_type ?_ (by size_fits))
    exact wpAny_pure (h _)

theorem call_reversed_tuple {t : Addr} {items : Array Value} {Q : Value → Shared → Prop} (ht : PyProof.Rows.IsTup s.heap t items) (hfit : (items.size : Int) < 2 ^ 63)
    (h : ∀ tk, Q (.ref s.heap.objs.size) { s with heap := s.heap.push { cls := .type "reversed", data := .fields #[.ref t, rawInt ((items.size : Int) - 1)] }, toks := tk }) :
    wpAny (model prog w) A (call (.type "reversed") [.ref t]) Q E s := by
  refine callType_codes (Q₁ := fun obj s₁ => obj = .ref s.heap.objs.size ∧ ∃ tk, s₁ = { s with heap := s.heap.push { cls := .type "reversed", data := .fields #[.ref t, rawInt ((items.size : Int) - 1)] }, toks := tk }) called_reversed
    (rv_type _) PySem.F.entry_object_init (code_reversed_new_tuple ht hfit fun tk => ⟨rfl, tk, rfl⟩) ?_
  rintro obj s₁ ⟨rfl, tk, rfl⟩
  have hT : Shared.TypeIs { s with heap := s.heap.push { cls := .type "reversed", data := .fields #[.ref t, rawInt ((items.size : Int) - 1)] }, toks := tk } (.ref s.heap.objs.size) "reversed" := ⟨_, Heap.get?_push_size _ rfl, rfl⟩
  exact ⟨hT, PySem.F.args_object_init_2 _ _, object_init_meets called_reversed.init.lookup called_reversed.made (by decide) prog w A.in1 (wants (fun r s₂ => r = .none ∧ Q (.ref s.heap.objs.size) s₂) E) _ ⟨hT, rfl, h tk⟩⟩

theorem pyNext_revT_item {it t : Addr} {i : Nat} {items : Array Value} {x : Value} {Q : Option Value → Shared → Prop} (hit : IsRevT s.heap it t (i : Int)) (ht : PyProof.Rows.IsTup s.heap t items) (hx : items[i]? = some x) (hfit : (i : Int) < 2 ^ 62)
    (hQ : ∀ h' tk, IsRevT h' it t ((i : Int) - 1) → Heap.SameBut it s.heap h' → Q (some x) { s with heap := h', toks := tk }) : wpAny (model prog w) A (pyNext (.ref it)) Q E s := by
  have hT : s.TypeIs (.ref it) "reversed" := ⟨_, hit, rfl⟩
  have hlt : i < items.size := (Array.getElem?_eq_some_iff.mp hx).1
  unfold pyNext
  refine wpAny_bind (wpAny_attempt (wpAny_callSpecial?_slot (name := Str.ofString "__next__") hT slot_reversed_next
    (wpAny_call_entry slot_reversed_next hT entry_reversed_next ?_ (args_reversed_next_1 _))))
  unfold Builtin.«reversed.__next__»
  refine wpAny_bind (wpAny_of_eq (a := (Value.ref it, [])) rfl ?_)
  try dsimp only
  refine wpAny_bind (wpAny_field hit rfl (x := .ref t) rfl ?_)
  refine wpAny_bind (wpAny_field hit rfl (x := rawInt (i : Int)) rfl ?_)
  show wpAny _ _ (if (i : Int) < 0 then _ else _) _ _ s
  rw [if_neg (by omega)]
  refine wpAny_bind (wpAny_specialOf ht.typeIs slot_tuple_getitem.lookup ?_)
  simp only [Option.isNone_some, Bool.false_eq_true, if_false]
  refine wpAny_bind (wpAny_mkInt ?_)
  refine wpAny_bind (wpAny_attempt (PyProof.Rows.getItem_tuple (j := i) (s := { s with toks := s.toks + 1 }) ht (by omega) (by omega) ?_ hx ?_))
  · have e1 : ¬ ((i : Int) < 0) := by omega
    simp [seqIndex?, e1, hlt]
  try dsimp only
  refine wpAny_bind (wpAny_field hit rfl (x := rawInt (i : Int)) rfl ?_)
  try dsimp only
  refine wpAny_bind (wpAny_setField_rec hit (by simp) fun h' hz' hs' => ?_)
  exact wpAny_pure ⟨x, rfl, wpAny_pure (hQ h' _ (by simpa using hz') hs')⟩

theorem pyNext_revT_end {it t : Addr} {Q : Option Value → Shared → Prop} (hh : A.handled = none) (hit : IsRevT s.heap it t (-1))
    (hQ : ∀ h', Heap.ExtBut it s.heap h' → Q none { s with heap := h' }) : wpAny (model prog w) A (pyNext (.ref it)) Q E s := by
  have hT : s.TypeIs (.ref it) "reversed" := ⟨_, hit, rfl⟩
  unfold pyNext
  refine wpAny_bind (wpAny_attempt (wpAny_callSpecial?_slot (name := Str.ofString "__next__") hT slot_reversed_next
    (wpAny_call_entry slot_reversed_next hT entry_reversed_next ?_ (args_reversed_next_1 _))))
  unfold Builtin.«reversed.__next__»
  refine wpAny_bind (wpAny_of_eq (a := (Value.ref it, [])) rfl ?_)
  try dsimp only
  refine wpAny_bind (wpAny_field hit rfl (x := .ref t) rfl ?_)
  refine wpAny_bind (wpAny_field hit rfl (x := rawInt (-1)) rfl ?_)
  show wpAny _ _ (if (-1 : Int) < 0 then _ else _) _ _ s
  rw [if_pos (by decide)]
  refine wpAny_bind (wpAny_rule ?_)
  refine wpAny_bind (wpAny_mono (Q := fun _ s' => ∃ h', s' = { s with heap := h' } ∧ Heap.SameBut it s.heap h') (E := fun _ _ => False) ?_ (fun _ s' hb => ?_) fun _ _ x => x.elim)
  · show wpAny _ _ (setField (.ref it) 1 (rawInt (-1)) >>= _) _ _ s
    refine wpAny_bind (wpAny_setField_rec hit (by simp) fun h₁ hz₁ hs₁ => ?_)
    have hz₁' : IsRevT h₁ it t (-1) := by simpa using hz₁
    exact wpAny_setField_rec hz₁' (by simp) fun h₂ hz₂ hs₂ => ⟨h₂, rfl, hs₁.trans hs₂⟩
  obtain ⟨h', rfl, hs'⟩ := hb
  first
  | show wpAny _ _ (newExc (.type "StopIteration") [] >>= _) _ _ _
  | (refine wpAny_bind ?_; show wpAny _ _ (newExc (.type "StopIteration") [] >>= _) _ _ _)
  refine wpAny_bind ?_
  simp only [newExc, newTuple]
  refine wpAny_bind (wpAny_newObj_type ?_ (by size_fits))
  refine wpAny_bind (m := firstArgMember _ _) (wpAny_of_eq (a := Value.none) (by first | rfl | (simp only [firstArgMember]; rfl)) ?_)
  refine wpAny_newObj_type ?_ (by size_fits)
  simp only [raiseNew]
  refine wpAny_bind (wpAny_handled ?_)
  first | rw [show A.in1.handled = none from hh] | rw [hh]
  refine wpAny_bind (wpAny_pure (wpAny_throw ?_))
  refine wpAny_bind (wpAny_isInstance (T := "StopIteration") (b := true) ⟨_, Heap.get?_push_size _ rfl, rfl⟩ isSubtype_stop ?_)
  exact wpAny_pure (hQ _ ((hs'.extBut.push _).push _))

theorem pyIter_revT {it t : Addr} {i : Int} {Q : Value → Shared → Prop} (hit : IsRevT s.heap it t i) (h : Q (.ref it) s) : wpAny (model prog w) A (pyIter (.ref it)) Q E s := by
  have hT : s.TypeIs (.ref it) "reversed" := ⟨_, hit, rfl⟩
  refine wpAny_pyIter_slot hT slot_reversed_iter (wpAny_call_entry slot_reversed_iter hT entry_reversed_iter ?_ (args_reversed_iter_1 _))
  show wpAny _ _ (ret (.ref it)) _ _ s
  exact wpAny_pure ⟨_, rfl, "reversed", _, hT, slot_reversed_next.lookup, h⟩
end

section
variable {prog : Program} {w : World} {h₀ : Heap} {A : Around}

theorem iterRev (hh : A.handled = none) {l : List V} {a I : Addr} (hfit : l.length ≤ sizeLine) :
    Iter prog w h₀ A I [I] [I] ⟨l.reverse, none, false, false⟩ (SrcRd (.tup l) l a) (fun i h => i ≤ l.length ∧ IsRevT h I a ((l.length : Int) - 1 - i)) (fun i _ h => i + 1 ≤ l.length ∧ IsRevT h I a ((l.length : Int) - 1 - (i + 1 : Nat))) where
  sub := fun b hb => hb
  mem := mem1
  ex := fun i h st => fm ⟨_, st.2⟩ fn0
  exM := fun i v h st => fm ⟨_, st.2⟩ fn0
  frame := fun i h h' st hk => ⟨st.1, hk I mem1 _ st.2⟩
  fld := fun _ i h st => fm (get_data st.2 rfl) fn0
  fldI := fun i v h st => get_data st.2 rfl
  rdn := srcRd_next (.inr fun k e => by cases e)
  rdz := fun h => by cases h
  item := fun i μ σ s x Q E st S rd hx hQ => by
    obtain ⟨vs, hl, r⟩ := src_tup S rd
    have hlen := r.length
    have hi : i < l.length := by rw [← List.length_reverse (as := l)]; exact (List.getElem?_eq_some_iff.mp hx).1
    rw [List.getElem?_reverse hi] at hx
    obtain ⟨v, hv, rv⟩ := r.get hx
    rw [Array.getElem?_toList] at hv
    have e1 : (l.length : Int) - 1 - (i : Int) = ((l.length - 1 - i : Nat) : Int) := by omega
    have hit := st.2
    rw [e1] at hit
    have hsz : sizeLine = 16777216 := sizeLine_eq
    refine pyNext_revT_item hit hl hv (by omega) fun h' tk hit' hs' => ?_
    have e2 : ((l.length - 1 - i : Nat) : Int) - 1 = (l.length : Int) - 1 - ((i + 1 : Nat) : Int) := by omega
    rw [e2] at hit'
    refine hQ v h' tk ⟨hi, hit'⟩ (keep_rm (keep_of_same mem1 hs'.extBut) (wr := [I]) (fm (fun o ho => fld_seq (get_data st.2 rfl o ho)) fn0) rv) (keep_of_same mem1 hs'.extBut)
  go := fun i v tgt s Q E _ st hQ => noGo st.2 rfl rfl rfl (hQ s.heap st fun _ _ _ e => e)
  done := fun μ σ s Q E st S rd hQ => by
    rw [List.length_reverse] at st
    have e : (l.length : Int) - 1 - (l.length : Int) = -1 := by omega
    have hit := st.2
    rw [e] at hit
    exact pyNext_revT_end hh hit fun h' he' => hQ h' s.toks (keep_of_same mem1 he')
  self := fun _ _ _ _ st hQ => pyIter_revT st.2 hQ
end
end Mine
end

section
open PySem PySem.W PyProof.Rows PySem.Calls
set_option autoImplicit false
set_option maxRecDepth 100000
set_option genInjectivity false
namespace Mine
/-- what is done with a value and the store -/
class K2 (α R : Type) where
  k : α → Sto → Option R
class Ks (R : Type) where
  k : Fl → Loc → Sto → Option R
section
variable {α R : Type}
/-- nothing; but the kernel does not see through it -/
noncomputable def opq {β : Type} (x : β) : β := Classical.choose (⟨x, rfl⟩ : ∃ y, y = x)
theorem opq_eq {β : Type} (x : β) : opq x = x := Classical.choose_spec (⟨x, rfl⟩ : ∃ y, y = x)
/-- only if it may -/
noncomputable def gd (b : Bool) (x : Option R) : Option R := bif b then x else none
noncomputable def ap [K : K2 α R] (σ : Sto) (a : α) : Option R := K.k a σ
noncomputable def aps [K : Ks R] (fl : Fl) (ρ : Loc) (σ : Sto) : Option R := K.k fl ρ σ
/-- a step that leaves the store; one that always goes through -/
noncomputable def qv [K : K2 α R] (σ : Sto) (o : Option α) : Option R := opq (o.bind fun a => K.k a σ)
noncomputable def qc [K : K2 α R] (σ : Sto) (o : Option α) : Option R := o.bind fun a => K.k a σ
/-- a step that may change it -/
noncomputable def pu [K : K2 α R] (o : Option (α × Sto)) : Option R := opq (o.bind fun p => K.k p.1 p.2)
noncomputable def ps [K : Ks R] (ρ : Loc) (o : Option Sto) : Option R := opq (o.bind fun σ => K.k .next ρ σ)
noncomputable def pl [K : Ks R] (σ : Sto) (o : Option Loc) : Option R := o.bind fun ρ => K.k .next ρ σ
noncomputable def pS [K : Ks R] (o : Option (Fl × Loc × Sto)) : Option R := opq (o.bind fun p => K.k p.1 p.2.1 p.2.2)
end
noncomputable def asInt : V → Option Int
  | .int i => some i
  | _ => none
noncomputable def boolV : V → Option Bool
  | .bool b => some b
  | _ => none
noncomputable def asTup : V → Option (List V)
  | .tup l => some l
  | _ => none
noncomputable def asLst : V → Option (List V)
  | .lst l => some l
  | _ => none
noncomputable def asCell : V → Option Nat
  | .cell k => some k
  | _ => none
noncomputable def intsV : List V → Option (List Int)
  | [] => some []
  | v :: vs => (asInt v).bind fun i => (intsV vs).map fun l => i :: l
noncomputable def arg1 {α : Type} (vs : List V) (f : V → Option α) : Option α := match vs with
  | [x] => f x
  | _ => none
noncomputable def arg2 {α : Type} (vs : List V) (f : V → V → Option α) : Option α := match vs with
  | [x, y] => f x y
  | _ => none
noncomputable def mulV (own : Bool) (l : List V) (b : V) (σ : Sto) : Option (V × Sto) := (asInt b).bind fun k => if mulOk l.length k = true then mk own (.lst (List.replicate k.toNat l).flatten) σ else none
noncomputable def unV (op : UnaryOp) (a : V) : Option V := match op with
  | .USub => (asInt a).map fun i => .int (-i)
  | .Not => (boolV a).map fun b => .bool (!b)
  | _ => none
noncomputable def tupV (vs : List V) : Option V := gd (Nat.ble vs.length 100) (some (.tup vs))
noncomputable def lstV (own : Bool) (vs : List V) (σ : Sto) : Option (V × Sto) := gd (Nat.ble vs.length 100) (mk own (.lst vs) σ)
/-- a tuple's rest, a list's slice -/
noncomputable def tupFrom (lo hi st : Option V) (l : List V) : Option (List V) := if hi.isNone && st.isNone then (lo.bind asInt).bind fun a => if 0 ≤ a ∧ a ≤ l.length ∧ l.length ≤ sizeLine then some (l.drop a.toNat) else none else none
noncomputable def slcL (own : Bool) (o : V) (lo hi st : Option V) (σ : Sto) : Option (V × Sto) := (itemsOf σ o).bind fun l => if l.length ≤ sizeLine then (sliceV lo hi st l).bind fun r => mk own (.lst r) σ else none
noncomputable def slcV (own : Bool) (o : V) (lo hi st : Option V) (σ : Sto) : Option (V × Sto) := match asTup o with
  | some l => (tupFrom lo hi st l).map fun r => (.tup r, σ)
  | none => slcL own o lo hi st σ
noncomputable def lenV (σ : Sto) (vs : List V) : Option V := arg1 vs fun x => (itemsOf σ x).bind fun l => if fits l.length = true then some (.int l.length) else none
noncomputable def minV (vs : List V) : Option V := arg2 vs fun x y => (asInt x).bind fun a => (asInt y).bind fun b => some (.int (if b < a then b else a))
noncomputable def toTupV (σ : Sto) (vs : List V) : Option V := arg1 vs fun x => (asCell x).bind fun k => (itemsOf σ (.cell k)).bind fun l => if l.length ≤ sizeLine then some (.tup l) else none
noncomputable def toLstV (own : Bool) (σ : Sto) (vs : List V) : Option (V × Sto) := arg1 vs fun x => (asTup x).bind fun l => if l.length ≤ sizeLine then mk own (.lst l) σ else none
noncomputable def pureV (g : List V → Option V) (vs : List V) (σ : Sto) : Option V := (rds σ vs).bind g
/-- a call of what a name means -/
noncomputable def calC {R : Type} (own : Bool) (vs : List V) (σ : Sto) (g : Option GV) [K : K2 V R] : Option R := match g with
  | some (.fnP _ g) => @qv _ _ K σ (pureV g vs σ)
  | some (.fnE _ g) => @pu _ _ K (g vs σ)
  | some (.bi id) => if id = "len" then @qv _ _ K σ (lenV σ vs) else if id = "min" then @qv _ _ K σ (minV vs) else none
  | some (.ty id) => if id = "tuple" then @qv _ _ K σ (toTupV σ vs) else if id = "list" then @pu _ _ K (toLstV own σ vs) else none
  | _ => none
noncomputable def isLoc (Φ : Cx) (x : Str) : Bool := isLocN Φ.names x
noncomputable def okG : Option GV → Bool
  | none => false
  | some (.val _) => false
  | _ => true
/-- what a list's loop reads -/
noncomputable def lsrc (σ : Sto) : V → Option (List V × Option (Nat × List V))
  | .lst l => some (l, none)
  | .cell k => (itemsOf σ (.cell k)).map fun l => (l, some (k, l))
  | _ => none
noncomputable def srcV (σ : Sto) (v : V) : Option Src := match asTup v with
  | some l => some ⟨l, none, false, false⟩
  | none => (lsrc σ v).map fun p => ⟨p.1, p.2, false, false⟩
noncomputable def rngI : List Int → Option Src
  | [b] => if small b = true then some ⟨rangeV 0 1 b.toNat, none, false, false⟩ else none
  | [a, b] => if small a = true ∧ small b = true then some ⟨rangeV a 1 (b - a).toNat, none, false, false⟩ else none
  | [a, b, c] => if c = -1 ∧ small a = true ∧ small b = true then some ⟨rangeV a (-1) (a - b).toNat, none, false, false⟩ else none
  | _ => none
noncomputable def enuV (σ : Sto) (vs : List V) : Option Src := arg1 vs fun x => (lsrc σ x).map fun p => ⟨enumFrom 0 p.1, p.2, true, false⟩
noncomputable def zipV (vs : List V) : Option Src := arg2 vs fun x y => (asLst x).bind fun a => (asLst y).bind fun b => if a.all V.scal && b.all V.scal then some ⟨List.zipWith (fun x y => .tup [x, y]) a b, none, true, true⟩ else none
noncomputable def revV (vs : List V) : Option Src := arg1 vs fun x => (asTup x).bind fun l => if l.length ≤ sizeLine then some ⟨l.reverse, none, false, false⟩ else none
/-- the iterators that have a name -/
inductive Ik where
  | rng | enu | zip | rev
noncomputable def ikV (σ : Sto) (vs : List V) : Ik → Option Src
  | .rng => (intsV vs).bind rngI
  | .enu => enuV σ vs
  | .zip => zipV vs
  | .rev => revV vs
noncomputable def ik : Option GV → Option Ik
  | some (.ty id) => if id = "range" then some .rng else if id = "enumerate" then some .enu else if id = "zip" then some .zip else if id = "reversed" then some .rev else none
  | _ => none
noncomputable def augV (op : Operator) (a b : V) : Option V := (asInt a).bind fun x => (asInt b).bind fun y => match op with
  | .Add => some (.int (x + y))
  | .Sub => some (.int (x - y))
  | _ => none
/-- no star, no set, no slice -/
noncomputable def plainE (e : PySem.Expr) : Bool := !(Nat.beq e.ctorIdx 22 || Nat.beq e.ctorIdx 7 || Nat.beq e.ctorIdx 26)
/-- an and's, an or's step: on with it, or stop -/
noncomputable def bstep {R : Type} (op : BoolOp) (last b : Bool) (stop on : Option R) : Option R := match op, b with
  | .And, false => stop
  | .Or, true => stop
  | _, _ => bif last then stop else on
noncomputable def compOk (Φ : Cx) (scope : Scope) : Bool := decide (scope.kind = .function ∧ ∀ p ∈ scope.names, (p.2 = .local → scope.names.lookup p.1 = some .local) ∧ p.2 ≠ .cell ∧ (p.2 = .free → (Φ.cap.lookup p.1).isSome ∧ (Φ.names.lookup p.1 = some .cell ∨ Φ.names.lookup p.1 = some .free)))
mutual
/-- an expression's value, and on with it. `own`: a list made here may be changed later -/
noncomputable def cE {R : Type} (Φ : Cx) (n : Nat) (own : Bool) (e : PySem.Expr) (ρ : Loc) (σ : Sto) [K : K2 V R] : Option R := match n with
  | 0 => none
  | n + 1 => match e with
    | .Constant c _ _ => @qc _ _ K σ (constV c)
    | .Name x _ => gd (!(x == "__debug__")) (bif isLocN Φ.names x then @qv _ _ K σ (ρ.lookup x) else @qc _ _ K σ (Φ.look ρ x))
    | .BinOp (.List es _) .Mult r _ => @cL R Φ n es ρ σ ⟨fun l σ => gd (Nat.ble l.length 100) (@cE R Φ n false r ρ σ ⟨fun b σ => @pu _ _ K (mulV own l b σ)⟩)⟩
    | .BinOp l op r _ => @cE R Φ n false l ρ σ ⟨fun a σ => @cE R Φ n false r ρ σ ⟨fun b σ => @qv _ _ K σ (binV op a b)⟩⟩
    | .UnaryOp op x _ => @cE R Φ n false x ρ σ ⟨fun a σ => @qc _ _ K σ (unV op a)⟩
    | .BoolOp op vs _ => @cB R Φ n op vs ρ σ K
    | .Compare l ops rs _ => match ops, rs with
      | [op], [r] => gd (plainE r) (@cE R Φ n false l ρ σ ⟨fun a σ => @cE R Φ n false r ρ σ ⟨fun b σ => @qv _ _ ⟨fun c σ => K.k (.bool c) σ⟩ σ (cmpV σ op a b)⟩⟩)
      | _, _ => none
    | .IfExp t a b _ => @cT R Φ n t ρ σ ⟨fun c σ => bif c then @cE R Φ n false a ρ σ K else @cE R Φ n false b ρ σ K⟩
    | .Tuple es _ _ => @cL R Φ n es ρ σ ⟨fun vs σ => @qc _ _ K σ (tupV vs)⟩
    | .List es _ => @cL R Φ n es ρ σ ⟨fun vs σ => @pu _ _ K (lstV own vs σ)⟩
    | .Subscript v (.Slice lo hi st _) _ => @cE R Φ n false v ρ σ ⟨fun o σ => @cO R Φ n lo ρ σ ⟨fun lo σ => @cO R Φ n hi ρ σ ⟨fun hi σ => @cO R Φ n st ρ σ ⟨fun st σ => @pu _ _ K (slcV own o lo hi st σ)⟩⟩⟩⟩
    | .Subscript v i _ => @cE R Φ n false v ρ σ ⟨fun o σ => @cE R Φ n false i ρ σ ⟨fun i σ => @qv _ _ K σ (getV σ o i)⟩⟩
    | .Call (.Name f _) args kws _ => gd (kws.isEmpty && (args.all plainE && okG (Φ.glob f))) (@cL R Φ n args ρ σ ⟨fun vs σ => @calC R own vs σ (Φ.glob f) K⟩)
    | .ListComp elt gens scope _ => match gens with
      | [⟨tgt, iter, ifs, 0⟩] => gd (compOk Φ scope) (@pu _ _ K (@cI (V × Sto) Φ n iter ρ σ ⟨fun src σ => gd (!src.tup || isTup tgt)
            ((turns src σ.length (fun it σ => (bindT scope.names tgt it []).bind fun ρ' => match ifs with
              | [] => @cE (Option V × Sto) ⟨Φ.G, scope.names, Φ.cap⟩ n false elt ρ' σ ⟨fun v σ => some (some v, σ)⟩
              | [c] => @cT (Option V × Sto) ⟨Φ.G, scope.names, Φ.cap⟩ n c ρ' σ ⟨fun b σ => bif b then @cE (Option V × Sto) ⟨Φ.G, scope.names, Φ.cap⟩ n false elt ρ' σ ⟨fun v σ => some (some v, σ)⟩ else some (none, σ)⟩
              | _ => none) src.items (σ ++ [.lst []])).map fun σ' => (.cell σ.length, σ'))⟩))
      | _ => none
    | _ => none
/-- a list of expressions -/
noncomputable def cL {R : Type} (Φ : Cx) (n : Nat) (es : List PySem.Expr) (ρ : Loc) (σ : Sto) [K : K2 (List V) R] : Option R := match n, es with
  | _, [] => K.k [] σ
  | 0, _ :: _ => none
  | n + 1, e :: es => @cE R Φ n false e ρ σ ⟨fun v σ => @cL R Φ n es ρ σ ⟨fun vs σ => K.k (v :: vs) σ⟩⟩
/-- a slice's part -/
noncomputable def cO {R : Type} (Φ : Cx) (n : Nat) (e : Option PySem.Expr) (ρ : Loc) (σ : Sto) [K : K2 (Option V) R] : Option R := match n, e with
  | _, none => K.k none σ
  | 0, some _ => none
  | n + 1, some e => @cE R Φ n false e ρ σ ⟨fun v σ => K.k (some v) σ⟩
/-- and, or: bools alone -/
noncomputable def cB {R : Type} (Φ : Cx) (n : Nat) (op : BoolOp) (es : List PySem.Expr) (ρ : Loc) (σ : Sto) [K : K2 V R] : Option R := match n with
  | 0 => none
  | n + 1 => match es with
    | [] => none
    | e :: es => @cE R Φ n false e ρ σ ⟨fun v σ => @qc _ _ ⟨fun b σ => bstep op es.isEmpty b (K.k (.bool b) σ) (@cB R Φ n op es ρ σ K)⟩ σ (boolV v)⟩
/-- a test -/
noncomputable def cT {R : Type} (Φ : Cx) (n : Nat) (e : PySem.Expr) (ρ : Loc) (σ : Sto) [K : K2 Bool R] : Option R := match n with
  | 0 => none
  | n + 1 => match e with
    | .UnaryOp .Not x _ => @cT R Φ n x ρ σ ⟨fun b σ => K.k (!b) σ⟩
    | .BoolOp op vs _ => @cTs R Φ n op vs ρ σ K
    | .IfExp _ _ _ _ => none
    | .Compare l ops rs _ => match ops, rs with
      | [op], [r] => gd (plainE r) (@cE R Φ n false l ρ σ ⟨fun a σ => @cE R Φ n false r ρ σ ⟨fun b σ => @qv _ _ K σ (cmpV σ op a b)⟩⟩)
      | _, _ => none
    | e => @cE R Φ n false e ρ σ ⟨fun v σ => @qc _ _ K σ (boolV v)⟩
noncomputable def cTs {R : Type} (Φ : Cx) (n : Nat) (op : BoolOp) (es : List PySem.Expr) (ρ : Loc) (σ : Sto) [K : K2 Bool R] : Option R := match n, es with
  | _, [] => K.k (op == .And) σ
  | 0, _ :: _ => none
  | n + 1, e :: es => @cT R Φ n e ρ σ ⟨fun b σ => bstep op false b (K.k b σ) (@cTs R Φ n op es ρ σ K)⟩
/-- what a for goes over -/
noncomputable def cI {R : Type} (Φ : Cx) (n : Nat) (e : PySem.Expr) (ρ : Loc) (σ : Sto) [K : K2 Src R] : Option R := match n with
  | 0 => none
  | n + 1 => match e with
    | .Call (.Name f p) args kws p' => match ik (Φ.glob f) with
      | some i => gd (kws.isEmpty && args.all plainE) (@cL R Φ n args ρ σ ⟨fun vs σ => @qv _ _ K σ (ikV σ vs i)⟩)
      | none => @cE R Φ n false (.Call (.Name f p) args kws p') ρ σ ⟨fun v σ => @qc _ _ K σ (srcV σ v)⟩
    | .Set _ _ _ => none
    | e => @cE R Φ n false e ρ σ ⟨fun v σ => @qc _ _ K σ (srcV σ v)⟩
end
/-- a comprehension's turn, its names bound; and from the item on -/
noncomputable def gComp (Φ : Cx) (n : Nat) (elt : PySem.Expr) (ifs : List PySem.Expr) (ρ' : Loc) (σ : Sto) : Option (Option V × Sto) := match ifs with
  | [] => @cE (Option V × Sto) Φ n false elt ρ' σ ⟨fun v σ => some (some v, σ)⟩
  | [c] => @cT (Option V × Sto) Φ n c ρ' σ ⟨fun b σ => bif b then @cE (Option V × Sto) Φ n false elt ρ' σ ⟨fun v σ => some (some v, σ)⟩ else some (none, σ)⟩
  | _ => none
noncomputable def fComp (Φ : Cx) (n : Nat) (tgt elt : PySem.Expr) (ifs : List PySem.Expr) (it : V) (σ : Sto) : Option (Option V × Sto) := (bindT Φ.names tgt it []).bind fun ρ' => gComp Φ n elt ifs ρ' σ
noncomputable def keyOf : Option PySem.Expr → Option Str
  | some (.Constant (.str x) _ _) => some x
  | _ => none
noncomputable def dOk : List (Option PySem.Expr) → List PySem.Expr → Bool
  | [], [] => true
  | k :: ks, _ :: es => (keyOf k).isSome && dOk ks es
  | _, _ => false
/-- a dict's display, by written texts -/
noncomputable def cD {R : Type} (Φ : Cx) (n : Nat) (ks : List (Option PySem.Expr)) (es : List PySem.Expr) (ρ : Loc) (σ : Sto) [K : K2 (List (Str × V)) R] : Option R := match ks, es with
  | [], [] => K.k [] σ
  | k :: ks, e :: es => @cE R Φ n true e ρ σ ⟨fun v σ => @cD R Φ n ks es ρ σ ⟨fun r σ => (keyOf k).bind fun x => gd (r.lookup x).isNone (K.k ((x, v) :: r) σ)⟩⟩
  | _, _ => none
@[reducible] noncomputable def kFl : Ks (Fl × Loc × Sto) := ⟨fun fl ρ σ => some (fl, ρ, σ)⟩
mutual
noncomputable def cS {R : Type} (Φ : Cx) (n : Nat) (st : Stmt) (ρ : Loc) (σ : Sto) [K : Ks R] : Option R := match n with
  | 0 => none
  | n + 1 => match st with
    | .Return (some e) _ => @cE R Φ n true e ρ σ ⟨fun v σ => K.k (.ret v) ρ σ⟩
    | .Continue _ => K.k .cont ρ σ
    | .Break _ => K.k .brk ρ σ
    | .If t a b _ => @cT R Φ n t ρ σ ⟨fun c σ => bif c then @cSs R Φ n a ρ σ K else @cSs R Φ n b ρ σ K⟩
    | .Expr (.Call (.Attribute o m apos) [x] [] pos) _ => gd (m == "append" && plainObj o && apos.endLine == pos.line && plainE x)
        (@cE R Φ n false o ρ σ ⟨fun o σ => @qc _ _ ⟨fun c σ => @qc _ _ ⟨fun _ σ => @cE R Φ n false x ρ σ ⟨fun x σ => @ps _ K ρ (appV σ (.cell c) x)⟩⟩ σ (itemsOf σ (.cell c))⟩ σ (asCell o)⟩)
    | .Expr (.Call (.Name f p) args kws pos) _ => @cE R Φ n false (.Call (.Name f p) args kws pos) ρ σ ⟨fun _ σ => K.k .next ρ σ⟩
    | .Assign [.Name x _] (.Dict ks vs _) _ => gd (isLoc Φ x && (Nat.ble ks.length 15 && (!ks.isEmpty && dOk ks vs))) (@cD R Φ n ks vs ρ σ ⟨fun l σ => K.k .next (lset ρ x (.cell σ.length)) (σ ++ [.dct l])⟩)
    | .Assign [.Name x _] e _ => gd (isLoc Φ x) (@cE R Φ n true e ρ σ ⟨fun v σ => K.k .next (lset ρ x v) σ⟩)
    | .Assign [.Tuple es k p] e _ => gd (notComp e && !isTup e) (@cE R Φ n false e ρ σ ⟨fun v σ => @pl _ K σ (bindT Φ.names (.Tuple es k p) v ρ)⟩)
    | .Assign [.Subscript o i _] e _ => gd (notComp e) (@cE R Φ n false e ρ σ ⟨fun v σ => @cE R Φ n false o ρ σ ⟨fun o σ => @cE R Φ n false i ρ σ ⟨fun i σ => @ps _ K ρ (setV σ o i v)⟩⟩⟩)
    | .AugAssign (.Name x _) op e _ => gd (isLoc Φ x) (@qv _ _ ⟨fun a σ => @cE R Φ n false e ρ σ ⟨fun b σ => @qc _ _ ⟨fun v σ => K.k .next (lset ρ x v) σ⟩ σ (augV op a b)⟩⟩ σ (ρ.lookup x))
    | .AugAssign (.Subscript o i _) op e _ => gd (plainE i) (@cE R Φ n false o ρ σ ⟨fun o σ => @cE R Φ n false i ρ σ ⟨fun i σ => @qv _ _ ⟨fun a σ => @cE R Φ n false e ρ σ ⟨fun b σ => @qc _ _ ⟨fun v σ => @ps _ K ρ (setV σ o i v)⟩ σ (augV op a b)⟩⟩ σ (getV σ o i)⟩⟩)
    | .For tgt iter body [] _ => @pS _ K (@cI (Fl × Loc × Sto) Φ n iter ρ σ ⟨fun src σ => gd ((!src.tup || isTup tgt) && !src.zip)
        (loopF src (fun it ρ σ => (bindT Φ.names tgt it ρ).bind fun ρ => @cSs (Fl × Loc × Sto) Φ n body ρ σ kFl) src.items ρ σ)⟩)
    | .While t body [] _ => @pS _ K (whileF (fun ρ σ => @cT (Bool × Sto) Φ n t ρ σ ⟨fun b σ => some (b, σ)⟩) (fun ρ σ => @cSs (Fl × Loc × Sto) Φ n body ρ σ kFl) 1000 ρ σ)
    | _ => none
noncomputable def cSs {R : Type} (Φ : Cx) (n : Nat) (l : List Stmt) (ρ : Loc) (σ : Sto) [K : Ks R] : Option R := match n, l with
  | _, [] => K.k .next ρ σ
  | 0, _ :: _ => none
  | n + 1, st :: r => @cS R Φ n st ρ σ ⟨fun fl ρ σ => match fl with
    | .next => @cSs R Φ n r ρ σ K
    | _ => K.k fl ρ σ⟩
end
noncomputable def fFor (Φ : Cx) (n : Nat) (tgt : PySem.Expr) (body : List Stmt) (it : V) (ρ : Loc) (σ : Sto) : Option (Fl × Loc × Sto) := (bindT Φ.names tgt it ρ).bind fun ρ => @cSs (Fl × Loc × Sto) Φ n body ρ σ kFl
structure Fn where
  params : List Str
  names : List (Str × NameKind)
  body : List Stmt
@[reducible] noncomputable def kE : Ks (V × Sto) := ⟨fun fl _ σ => match fl with
  | .ret v => some (v, σ)
  | .next => some (.none, σ)
  | _ => none⟩
@[reducible] noncomputable def kP : Ks V := ⟨fun fl _ σ => match fl with
  | .ret v => frz σ v
  | .next => frz σ .none
  | _ => none⟩
/-- the frame's names, the captured names -/
noncomputable def Fn.cx (F : Fn) (G : Str → Option GV) (vs : List V) : Cx := ⟨G, F.names, (F.params.zip vs).filter fun p => F.names.lookup p.1 = some .cell⟩
noncomputable def Fn.loc (F : Fn) (vs : List V) : Loc := (F.params.zip vs).filter fun p => F.names.lookup p.1 = some .local
noncomputable def Fn.run (F : Fn) (G : Str → Option GV) (n : Nat) (vs : List V) (σ : Sto) : Option (V × Sto) :=
  if F.params.length = vs.length then @cSs _ (F.cx G vs) n F.body (F.loc vs) σ kE else none
noncomputable def Fn.runP (F : Fn) (G : Str → Option GV) (n : Nat) (vs : List V) : Option V :=
  if F.params.length = vs.length then @cSs _ (F.cx G vs) n F.body (F.loc vs) [] kP else none
end Mine
end

section
open PySem PySem.W PyProof.Rows PySem.Calls
set_option autoImplicit false
set_option maxRecDepth 10000
namespace Mine
section
variable {α β R : Type} {r : R} {G : Prop} {σ : Sto} {ρ : Loc}
theorem bindK {x : Option α} {f : α → Option R} (h : x.bind f = some r) (k : ∀ a, x = some a → f a = some r → G) : G := (bindX h).elim fun a h => k a h.1 h.2
theorem mapK {x : Option α} {f : α → R} (h : x.map f = some r) (k : ∀ a, x = some a → f a = r → G) : G := (mapX h).elim fun a h => k a h.1 h.2
theorem iteK {c : Prop} {_ : Decidable c} {x : Option α} {a : α} (h : (if c then x else none) = some a) (k : c → x = some a → G) : G := k (iteX h).1 (iteX h).2
theorem gdK {b : Bool} {x : Option α} {a : α} (h : gd b x = some a) (k : b = true → x = some a → G) : G := by
  induction b using Bool.casesOn with
  | false => exact (noneX h).elim
  | true => exact k rfl h
theorem bifK {b : Bool} {x : Option α} {a : α} (h : (bif b then x else none) = some a) (k : b = true → x = some a → G) : G := by
  induction b using Bool.casesOn with
  | false => exact (noneX h).elim
  | true => exact k rfl h
theorem pvK {o : Option α} {K : K2 α R} (h : @qv _ _ K σ o = some r) (k : ∀ a, o = some a → K.k a σ = some r → G) : G := bindK ((opq_eq _).symm.trans h) k
theorem qcK {o : Option α} {K : K2 α R} (h : @qc _ _ K σ o = some r) (k : ∀ a, o = some a → K.k a σ = some r → G) : G := bindK h k
theorem puK {o : Option (α × Sto)} {K : K2 α R} (h : @pu _ _ K o = some r) (k : ∀ a σ, o = some (a, σ) → K.k a σ = some r → G) : G := bindK ((opq_eq _).symm.trans h) fun p => k p.1 p.2
theorem psK {o : Option Sto} {K : Ks R} (h : @ps _ K ρ o = some r) (k : ∀ σ, o = some σ → K.k .next ρ σ = some r → G) : G := bindK ((opq_eq _).symm.trans h) k
theorem plK {o : Option Loc} {K : Ks R} (h : @pl _ K σ o = some r) (k : ∀ ρ, o = some ρ → K.k .next ρ σ = some r → G) : G := bindK h k
theorem pSK {o : Option (Fl × Loc × Sto)} {K : Ks R} (h : @pS _ K o = some r) (k : ∀ fl ρ σ, o = some (fl, ρ, σ) → K.k fl ρ σ = some r → G) : G := bindK ((opq_eq _).symm.trans h) fun p => k p.1 p.2.1 p.2.2
theorem andK {a b : Bool} (h : (a && b) = true) (k : a = true → b = true → G) : G := k (Bool.and_eq_true_iff.mp h).1 (Bool.and_eq_true_iff.mp h).2
theorem asIntK {v : V} {i : Int} (h : asInt v = some i) : v = .int i := by
  revert h
  induction v using V.casesOn with
  | int c => exact fun h => congrArg V.int (Option.some.inj h)
  | _ => exact fun h => (noneX h).elim
theorem asTupK {v : V} {i : List V} (h : asTup v = some i) : v = .tup i := by
  revert h
  induction v using V.casesOn with
  | tup c => exact fun h => congrArg V.tup (Option.some.inj h)
  | _ => exact fun h => (noneX h).elim
theorem asLstK {v : V} {i : List V} (h : asLst v = some i) : v = .lst i := by
  revert h
  induction v using V.casesOn with
  | lst c => exact fun h => congrArg V.lst (Option.some.inj h)
  | _ => exact fun h => (noneX h).elim
theorem asCellK {v : V} {i : Nat} (h : asCell v = some i) : v = .cell i := by
  revert h
  induction v using V.casesOn with
  | cell c => exact fun h => congrArg V.cell (Option.some.inj h)
  | _ => exact fun h => (noneX h).elim
theorem arg1K {vs : List V} {f : V → Option α} {a : α} (h : arg1 vs f = some a) (k : ∀ x, vs = [x] → f x = some a → G) : G := by
  match vs, h with
  | [x], h => exact k x rfl h
theorem arg2K {vs : List V} {f : V → V → Option α} {a : α} (h : arg2 vs f = some a) (k : ∀ x y, vs = [x, y] → f x y = some a → G) : G := by
  match vs, h with
  | [x, y], h => exact k x y rfl h
theorem siE {a b : α} (h : some a = some b) : a = b := Option.some.inj h
theorem locE {Φ : Cx} {x : Str} (h : isLoc Φ x = true) : Φ.names.lookup x = some .local := of_decide_eq_true h
theorem orE {a b : Bool} (h : (!a || b) = true) (ha : a = true) : b = true := by rw [ha] at h; exact h
theorem isE {l : List α} (h : l.isEmpty = true) : l = [] := List.isEmpty_iff.mp h
end
section
variable {R : Type} {r : R} {Φ : Cx} {n : Nat} {own : Bool} {ρ : Loc} {σ : Sto}
theorem plain_of {e : PySem.Expr} {K : K2 V R} (h : @cE R Φ n own e ρ σ K = some r) : plainE e = true := by
  revert h
  induction e using PySem.Expr.casesOn with
  | Starred => intro h; cases n <;> exact (noneX h).elim
  | Set => intro h; cases n <;> exact (noneX h).elim
  | Slice => intro h; cases n <;> exact (noneX h).elim
  | _ => exact fun _ => rfl
theorem starCons {e : PySem.Expr} (h : plainE e = true) (es : List PySem.Expr) (env : Env) : starEach (e :: es) env = (false, eval e env) :: starEach es env := by
  revert h
  induction e using PySem.Expr.casesOn with
  | Starred => exact fun h => nomatch h
  | _ => exact fun _ => rfl
theorem notSet {e : PySem.Expr} (h : plainE e = true) (op : CmpOp) : behindInMarks op e = false := by
  revert h
  induction e using PySem.Expr.casesOn with
  | Set => exact fun h => nomatch h
  | _ => exact fun _ => rfl
theorem notSlice {e : PySem.Expr} (h : plainE e = true) : ∀ ov iv new, augStore e ov iv new = (do holding [new, ov, iv] (setItem ov iv new); release [new, ov, iv] []; pure .next) := by
  revert h
  induction e using PySem.Expr.casesOn with
  | Slice => exact fun h => nomatch h
  | _ => exact fun _ _ _ _ => rfl
theorem starShape {pos : Pos} {env : Env} : ∀ {es : List PySem.Expr}, es.all plainE = true → (backTo pos (starEach es env)).any (·.1) = false
  | [], _ => rfl
  | e :: es, h => by
    have h := Bool.and_eq_true_iff.mp (show (plainE e && es.all plainE) = true from h)
    have := starShape (pos := pos) (env := env) h.2
    rw [starCons h.1]
    simpa [backTo] using this
end
section
variable (prog : Program) (w : World) (h₀ : Heap)

/-- all that stands before a step -/
structure At (Φ : Cx) (ρ : Loc) (env : Env) (A : Around) (d n : Nat) (μ : List Addr) (h : Heap) (σ : Sto) : Prop where
  G : GOK prog w h₀ d Φ.G
  F : FR h₀ Φ ρ env μ h
  S : St prog w h₀ μ h σ
  A : AOk A d n
noncomputable def PV {R : Type} (r : R) (K : K2 V R) (s : Shared) (μ : List Addr) (Q : Value → Shared → Prop) : Prop :=
  ∀ V σ' v h' tk μ', Ext μ s.heap μ' h' → St prog w h₀ μ' h' σ' → RM μ' h' V v → K.k V σ' = some r → Q v { s with heap := h', toks := tk }
noncomputable def PL {R : Type} (r : R) (K : K2 (List V) R) (s : Shared) (μ : List Addr) (Q : List Value → Shared → Prop) : Prop :=
  ∀ V σ' v h' tk μ', Ext μ s.heap μ' h' → St prog w h₀ μ' h' σ' → RMs μ' h' V v → K.k V σ' = some r → Q v { s with heap := h', toks := tk }
noncomputable def PO {R : Type} (r : R) (K : K2 (Option V) R) (s : Shared) (μ : List Addr) (Q : Value → Shared → Prop) : Prop :=
  ∀ V σ' v h' tk μ', Ext μ s.heap μ' h' → St prog w h₀ μ' h' σ' → PartV V v → K.k V σ' = some r → Q v { s with heap := h', toks := tk }
noncomputable def PB {R : Type} (r : R) (K : K2 Bool R) (s : Shared) (μ : List Addr) (Q : Bool → Shared → Prop) : Prop :=
  ∀ b σ' h' tk μ', Ext μ s.heap μ' h' → St prog w h₀ μ' h' σ' → K.k b σ' = some r → Q b { s with heap := h', toks := tk }
/-- what a for's, a comprehension's loop may ask of its iterator -/
noncomputable def PostI (A : Around) (s : Shared) (μ : List Addr) (σ' : Sto) (src : Src) (Q : Value → Shared → Prop) : Prop :=
  ∀ I fp wr Rd S M h' tk μ', Ext μ s.heap μ' h' → St prog w h₀ μ' h' σ' → Iter prog w h₀ A I fp wr src Rd S M → S 0 h' → Rd σ' μ' h' → src.still σ' → (∀ b ∈ fp, s.heap.get? b = none ∧ b ∉ μ') → Q (.ref I) { s with heap := h', toks := tk }
noncomputable def PI {R : Type} (r : R) (K : K2 Src R) (A : Around) (s : Shared) (μ : List Addr) (Q : Value → Shared → Prop) : Prop :=
  ∀ src σ', K.k src σ' = some r → PostI prog w h₀ A s μ σ' src Q

structure Snd (n : Nat) : Prop where
  e : ∀ {R : Type} {r : R} {K : K2 V R} {Φ : Cx} {own : Bool} {e : PySem.Expr} {ρ : Loc} {σ : Sto}, @cE R Φ n own e ρ σ K = some r → ∀ {env : Env} {A : Around} {s : Shared} {μ : List Addr} {d : Nat} {Q : Value → Shared → Prop} {E : Value → Shared → Prop},
    At prog w h₀ Φ ρ env A d n μ s.heap σ → PV prog w h₀ r K s μ Q → wpAny (model prog w) A (eval e env) Q E s
  l : ∀ {R : Type} {r : R} {K : K2 (List V) R} {Φ : Cx} {es : List PySem.Expr} {ρ : Loc} {σ : Sto}, @cL R Φ n es ρ σ K = some r → ∀ {env : Env} {A : Around} {s : Shared} {μ : List Addr} {d : Nat} {Q : List Value → Shared → Prop} {E : Value → Shared → Prop} {pos : Pos},
    At prog w h₀ Φ ρ env A d n μ s.heap σ → PL prog w h₀ r K s μ Q → wpAny (model prog w) A (spliced (backTo pos (starEach es env))) Q E s
  o : ∀ {R : Type} {r : R} {K : K2 (Option V) R} {Φ : Cx} {e : Option PySem.Expr} {ρ : Loc} {σ : Sto}, @cO R Φ n e ρ σ K = some r → ∀ {env : Env} {A : Around} {s : Shared} {μ : List Addr} {d : Nat} {Q : Value → Shared → Prop} {E : Value → Shared → Prop},
    At prog w h₀ Φ ρ env A d n μ s.heap σ → PO prog w h₀ r K s μ Q → wpAny (model prog w) A (evalPart e env) Q E s
  b : ∀ {R : Type} {r : R} {K : K2 V R} {Φ : Cx} {op : BoolOp} {es : List PySem.Expr} {ρ : Loc} {σ : Sto}, @cB R Φ n op es ρ σ K = some r → ∀ {env : Env} {A : Around} {s : Shared} {μ : List Addr} {d : Nat} {Q : Value → Shared → Prop} {E : Value → Shared → Prop} {pos : Pos},
    At prog w h₀ Φ ρ env A d n μ s.heap σ → PV prog w h₀ r K s μ Q → wpAny (model prog w) A (boolOp pos op (evalEach es env)) Q E s
  t : ∀ {R : Type} {r : R} {K : K2 Bool R} {Φ : Cx} {e : PySem.Expr} {ρ : Loc} {σ : Sto}, @cT R Φ n e ρ σ K = some r → ∀ {env : Env} {A : Around} {s : Shared} {μ : List Addr} {d : Nat} {Q : Bool → Shared → Prop} {E : Value → Shared → Prop},
    At prog w h₀ Φ ρ env A d n μ s.heap σ → PB prog w h₀ r K s μ Q → wpAny (model prog w) A (PySem.isTrue e env (eval e env)) Q E s
  ts : ∀ {R : Type} {r : R} {K : K2 Bool R} {Φ : Cx} {op : BoolOp} {es : List PySem.Expr} {ρ : Loc} {σ : Sto}, @cTs R Φ n op es ρ σ K = some r → ∀ {env : Env} {A : Around} {s : Shared} {μ : List Addr} {d : Nat} {Q : Bool → Shared → Prop} {E : Value → Shared → Prop},
    At prog w h₀ Φ ρ env A d n μ s.heap σ → PB prog w h₀ r K s μ Q → wpAny (model prog w) A (allTrue op es env) Q E s
  i : ∀ {R : Type} {r : R} {K : K2 Src R} {Φ : Cx} {e : PySem.Expr} {ρ : Loc} {σ : Sto}, @cI R Φ n e ρ σ K = some r → ∀ {env : Env} {A : Around} {s : Shared} {μ : List Addr} {d : Nat} {Q : Value → Shared → Prop} {E : Value → Shared → Prop},
    At prog w h₀ Φ ρ env A d n μ s.heap σ → PI prog w h₀ r K A s μ Q → wpAny (model prog w) A (eval e env) (fun x s₁ => wpAny (model prog w) A (pyIter x) Q E s₁) E s
end

section
variable {prog : Program} {w : World} {h₀ : Heap} {R : Type} {r : R} {Φ : Cx} {ρ : Loc} {σ : Sto} {env : Env} {A : Around} {d n : Nat} {s : Shared} {μ : List Addr} {E : Value → Shared → Prop}

theorem At.dn {h : Heap} (X : At prog w h₀ Φ ρ env A d (n + 1) μ h σ) : At prog w h₀ Φ ρ env A d n μ h σ := ⟨X.G, X.F, X.S, X.A.succ⟩
theorem At.go {h h' : Heap} {μ' : List Addr} {σ' : Sto} (X : At prog w h₀ Φ ρ env A d n μ h σ) (e : Ext μ h μ' h') (S : St prog w h₀ μ' h' σ') : At prog w h₀ Φ ρ env A d n μ' h' σ' := ⟨X.G, X.F.ext e X.S, S, X.A⟩
theorem At.go' {h h' : Heap} {μ' : List Addr} {σ' : Sto} (X : At prog w h₀ Φ ρ env A d (n + 1) μ h σ) (e : Ext μ h μ' h') (S : St prog w h₀ μ' h' σ') : At prog w h₀ Φ ρ env A d n μ' h' σ' := X.dn.go e S
theorem PV.next {K : K2 V R} {Q : Value → Shared → Prop} {μ₁ : List Addr} {h₁ : Heap} {tk₁ : Nat} {σ₁ : Sto} (P : PV prog w h₀ r K s μ Q) (e : Ext μ s.heap μ₁ h₁) (S₁ : St prog w h₀ μ₁ h₁ σ₁) :
    PV prog w h₀ r K { s with heap := h₁, toks := tk₁ } μ₁ Q := fun V σ' v h' tk μ' e' S' r => P V σ' v h' tk μ' (e.trans S₁ e') S' r
theorem PB.next {K : K2 Bool R} {Q : Bool → Shared → Prop} {μ₁ : List Addr} {h₁ : Heap} {tk₁ : Nat} {σ₁ : Sto} (P : PB prog w h₀ r K s μ Q) (e : Ext μ s.heap μ₁ h₁) (S₁ : St prog w h₀ μ₁ h₁ σ₁) :
    PB prog w h₀ r K { s with heap := h₁, toks := tk₁ } μ₁ Q := fun b σ' h' tk μ' e' S' => P b σ' h' tk μ' (e.trans S₁ e') S'
/-- from where it is, with nothing changed -/
theorem PV.here {K : K2 V R} {Q : Value → Shared → Prop} {V : V} {v : Value} {tk : Nat} (P : PV prog w h₀ r K s μ Q) (S : St prog w h₀ μ s.heap σ) (h : K.k V σ = some r) (rm : RM μ s.heap V v) : Q v { s with toks := tk } :=
  P V σ v s.heap tk μ (Ext.refl _ _) S rm h

theorem snd_l' (ih : Snd prog w h₀ n) {K : K2 (List V) R} {es : List PySem.Expr} {e : PySem.Expr} {Q : List Value → Shared → Prop} {pos : Pos} (h : @cL R Φ (n + 1) (e :: es) ρ σ K = some r)
    (X : At prog w h₀ Φ ρ env A d n μ s.heap σ) (P : PL prog w h₀ r K s μ Q) : wpAny (model prog w) A (spliced (backTo pos (starEach (e :: es) env))) Q E s :=
  wpAny_items_cons (ih.e h X fun _ _ _ _ _ _ e₁ S₁ r₁ h => ih.l h (X.go e₁ S₁) fun _ _ _ h₂ tk₂ μ₂ e₂ S₂ r₂ h => P _ _ _ h₂ tk₂ μ₂ (e₁.trans S₁ e₂) S₂ (.cons (e₂.rv r₁) r₂) h) (starCons (plain_of h) _ _)
theorem snd_l (ih : Snd prog w h₀ n) {K : K2 (List V) R} {es : List PySem.Expr} {Q : List Value → Shared → Prop} {pos : Pos} (h : @cL R Φ (n + 1) es ρ σ K = some r)
    (X : At prog w h₀ Φ ρ env A d (n + 1) μ s.heap σ) (P : PL prog w h₀ r K s μ Q) : wpAny (model prog w) A (spliced (backTo pos (starEach es env))) Q E s := by
  induction es using List.casesOn with
  | nil => exact spliced_nil (P [] _ _ s.heap s.toks μ (Ext.refl _ _) X.S .nil h)
  | cons e es => exact snd_l' ih h X.dn P
theorem snd_o (ih : Snd prog w h₀ n) {K : K2 (Option V) R} {e : Option PySem.Expr} {Q : Value → Shared → Prop} (h : @cO R Φ (n + 1) e ρ σ K = some r)
    (X : At prog w h₀ Φ ρ env A d (n + 1) μ s.heap σ) (P : PO prog w h₀ r K s μ Q) : wpAny (model prog w) A (evalPart e env) Q E s := by
  induction e using Option.casesOn with
  | none => exact wpAny_pure (P _ _ _ s.heap s.toks μ (Ext.refl _ _) X.S .none h)
  | some e => exact ih.e h X.dn fun _ _ _ h₁ tk₁ μ₁ e₁ S₁ r₁ h => P _ _ _ h₁ tk₁ μ₁ e₁ S₁ (partV_of r₁) h
theorem boolK {v : V} {b : Bool} (h : boolV v = some b) : v = .bool b := by
  revert h
  induction v using V.casesOn with
  | bool c => exact fun h => congrArg V.bool (Option.some.inj h)
  | _ => exact fun h => (noneX h).elim
theorem rm_bool {b : Bool} {u : Value} {h : Heap} (r : RM μ h (.bool b) u) : u = .bool b := by cases r; rfl
/-- a bool's truth -/
theorem truth_ok {v : V} {b : Bool} {u : Value} {h₁ : Heap} {Q : Bool → Shared → Prop} (h : boolV v = some b) (ru : RM μ h₁ v u) (hQ : Q b s) : wpAny (model prog w) A (truthy u) Q E s := by
  have e : u = .bool b := rm_bool (μ := μ) (h := h₁) (boolK h ▸ ru)
  rw [e]
  exact wpAny_truthy_bool hQ
theorem snd_b (ih : Snd prog w h₀ n) {K : K2 V R} {op : BoolOp} {es : List PySem.Expr} {Q : Value → Shared → Prop} {pos : Pos} (h : @cB R Φ (n + 1) op es ρ σ K = some r)
    (X : At prog w h₀ Φ ρ env A d (n + 1) μ s.heap σ) (P : PV prog w h₀ r K s μ Q) : wpAny (model prog w) A (boolOp pos op (evalEach es env)) Q E s := by
  match es, h with
  | [], h => exact (noneX h).elim
  | [e], h => exact ih.e h X.dn fun v _ _ h₁ tk₁ μ₁ e₁ S₁ r₁ h => qcK h fun b hb h => P _ _ _ h₁ tk₁ μ₁ e₁ S₁ (boolK hb ▸ r₁) (by revert h; induction op using BoolOp.casesOn <;> induction b using Bool.casesOn <;> exact id)
  | e :: e2 :: es, h =>
    show wpAny _ A (do let v ← eval e env; standAt pos; let t ← holding [v] (truthy v); match op, t with | .And, false | .Or, true => pure v | _, _ => boolOp pos op (evalEach (e2 :: es) env)) Q E s
    refine wpAny_bind (ih.e h X.dn fun v σ₁ v₁ h₁ tk₁ μ₁ e₁ S₁ r₁ h => wpAny_bind (wpAny_standAt (wpAny_bind (wpAny_holding (qcK h fun b hb h => truth_ok hb r₁ ?_)))))
    have on : @cB R Φ n op (e2 :: es) ρ σ₁ K = some r → wpAny (model prog w) A (boolOp pos op (evalEach (e2 :: es) env)) Q E { s with heap := h₁, toks := tk₁ } := fun h => ih.b h (X.go' e₁ S₁) (P.next e₁ S₁)
    have off : K.k (.bool b) σ₁ = some r → wpAny (model prog w) A (pure v₁) Q E { s with heap := h₁, toks := tk₁ } := fun h => wpAny_pure (P _ _ _ h₁ tk₁ μ₁ e₁ S₁ (boolK hb ▸ r₁) h)
    clear hb
    induction op using BoolOp.casesOn <;> induction b using Bool.casesOn
    · exact off h
    · exact on h
    · exact on h
    · exact off h
theorem snd_ts (ih : Snd prog w h₀ n) {K : K2 Bool R} {op : BoolOp} {es : List PySem.Expr} {Q : Bool → Shared → Prop} (h : @cTs R Φ (n + 1) op es ρ σ K = some r)
    (X : At prog w h₀ Φ ρ env A d (n + 1) μ s.heap σ) (P : PB prog w h₀ r K s μ Q) : wpAny (model prog w) A (allTrue op es env) Q E s := by
  match es, h with
  | [], h => exact wpAny_pure (P _ _ s.heap s.toks μ (Ext.refl _ _) X.S h)
  | e :: es, h =>
    show wpAny _ A (do match op, ← PySem.isTrue e env (eval e env) with | .And, false => pure false | .Or, true => pure true | _, _ => allTrue op es env) Q E s
    refine wpAny_bind (ih.t h X.dn fun b σ₁ h₁ tk₁ μ₁ e₁ S₁ h => ?_)
    have on : @cTs R Φ n op es ρ σ₁ K = some r → wpAny (model prog w) A (allTrue op es env) Q E { s with heap := h₁, toks := tk₁ } := fun h => ih.ts h (X.go' e₁ S₁) (P.next e₁ S₁)
    have off : K.k b σ₁ = some r → wpAny (model prog w) A (pure b) Q E { s with heap := h₁, toks := tk₁ } := fun h => wpAny_pure (P _ _ h₁ tk₁ μ₁ e₁ S₁ h)
    induction op using BoolOp.casesOn <;> induction b using Bool.casesOn
    · exact off h
    · exact on h
    · exact on h
    · exact off h
theorem snd_t (ih : Snd prog w h₀ n) {K : K2 Bool R} {e : PySem.Expr} {Q : Bool → Shared → Prop} (h : @cT R Φ (n + 1) e ρ σ K = some r)
    (X : At prog w h₀ Φ ρ env A d (n + 1) μ s.heap σ) (P : PB prog w h₀ r K s μ Q) : wpAny (model prog w) A (PySem.isTrue e env (eval e env)) Q E s := by
  have fb : ∀ e, @cE R Φ n false e ρ σ ⟨fun v σ => @qc _ _ K σ (boolV v)⟩ = some r → wpAny (model prog w) A (eval e env) (fun v s₁ => wpAny (model prog w) A (truthy v) Q E s₁) E s := fun e h =>
    ih.e h X.dn fun v _ _ h₁ tk₁ μ₁ e₁ S₁ r₁ h => qcK h fun b hb h => truth_ok hb r₁ (P _ _ h₁ tk₁ μ₁ e₁ S₁ h)
  induction e using PySem.Expr.casesOn with
  | UnaryOp op x p =>
    induction op using PySem.UnaryOp.casesOn with
    | Not => exact wpAny_isTrue_Not (ih.t h X.dn fun b _ h₁ tk₁ μ₁ e₁ S₁ h => P _ _ h₁ tk₁ μ₁ e₁ S₁ h)
    | _ => exact wpAny_isTrue_value (fb _ h)
  | BoolOp op x p => exact wpAny_isTrue_BoolOp (ih.ts h X.dn P)
  | IfExp a b c p => exact (noneX h).elim
  | Compare l ops rs p =>
    match ops, rs, h with
    | [op], [r'], h =>
      exact gdK h fun hp h => wpAny_isTrue_Compare1 (ih.e h X.dn fun a σ₁ v₁ h₁ tk₁ μ₁ e₁ S₁ r₁ h => ih.e h (X.go' e₁ S₁) fun b σ₂ v₂ h₂ tk₂ μ₂ e₂ S₂ r₂ h => pvK h fun c h3 h =>
        cmpV_ok X.A h3 S₂ (e₂.rv r₁) r₂ (wpAny_truthy_bool (P _ _ h₂ tk₂ μ₂ (e₁.trans S₁ e₂) S₂ h))) (notSet hp op)
    | [], _, h => exact (noneX h).elim
    | [_], [], h => exact (noneX h).elim
    | [_], _ :: _ :: _, h => exact (noneX h).elim
    | _ :: _ :: _, _, h => exact (noneX h).elim
  | _ => exact wpAny_isTrue_value (fb _ h)
theorem snd_zero : Snd prog w h₀ 0 where
  e := fun h => (noneX h).elim
  l := by
    intro R r K Φ es ρ σ h env A s μ d Q E pos X P
    match es, h with
    | [], h => exact spliced_nil (P [] _ _ s.heap s.toks μ (Ext.refl _ _) X.S .nil h)
    | _ :: _, h => exact (noneX h).elim
  o := by
    intro R r K Φ es ρ σ h env A s μ d Q E X P
    match es, h with
    | none, h => exact wpAny_pure (P _ _ _ s.heap s.toks μ (Ext.refl _ _) X.S .none h)
    | some _, h => exact (noneX h).elim
  b := fun h => (noneX h).elim
  t := fun h => (noneX h).elim
  ts := by
    intro R r K Φ op es ρ σ h env A s μ d Q E X P
    match es, h with
    | [], h => exact wpAny_pure (P _ _ s.heap s.toks μ (Ext.refl _ _) X.S h)
    | _ :: _, h => exact (noneX h).elim
  i := fun h => (noneX h).elim
end
end Mine
end

section
open PySem PySem.W PyProof.Rows PySem.Calls
set_option autoImplicit false
set_option maxRecDepth 10000
namespace Mine

section
variable {M : Model} {A : Around} {E : Value → Shared → Prop} {s : Shared}
theorem evalArgs_any {f : Value} {args : List (Bool × Sem Value)} {Q : Args → Shared → Prop} (hp : args.any (·.1) = false) (h : wpAny M A (spliced args) (fun vs s' => Q ⟨vs, []⟩ s') E s) : wpAny M A (evalArgs f true args []) Q E s := by
  match args, hp with
  | [], _ =>
    unfold evalArgs
    show wpAny M A (spliced [] >>= _) Q E s
    refine wpAny_bind (wpAny_mono h (fun vs s' h' => ?_) fun _ _ x => x)
    refine wpAny_holding ?_
    exact wpAny_bind (wpAny_pure (wpAny_bind (wpAny_pure (wpAny_pure h'))))
  | (false, x) :: rest, _ => exact evalArgs_plain h
  | (true, x) :: rest, hp => simp at hp

theorem callTy {pos : Pos} {T : String} {args : List (Bool × Sem Value)} {Q : Value → Shared → Prop} (hp : args.any (·.1) = false) (h : wpAny M A (spliced args) (fun vs s₁ => wpAny M A (call (.type T) vs) Q E s₁) E s) :
    wpAny M A (callWith pos (.type T) [] args []) Q E s :=
  PySem.callWith_type hp (evalArgs_any hp h)
theorem callBi {pos : Pos} {T : String} {args : List (Bool × Sem Value)} {Q : Value → Shared → Prop} (hp : args.any (·.1) = false) (h : wpAny M A (spliced args) (fun vs s₁ => wpAny M A (call (.builtin T) vs) Q E s₁) E s) :
    wpAny M A (callWith pos (.builtin T) [] args []) Q E s :=
  callWith_builtin hp (evalArgs_any hp h)
theorem callFn {pos : Pos} {a : Addr} {o : Obj} {fd : FuncData} {args : List (Bool × Sem Value)} {Q : Value → Shared → Prop} (hp : args.any (·.1) = false)
    (h : wpAny M A (spliced args) (fun vs s₁ => (s₁.heap.get? a = some o ∧ o.data = .func fd) ∧ wpAny M A (call (.ref a) vs) Q E s₁) E s) :
    wpAny M A (callWith pos (.ref a) [] args []) Q E s :=
  callWith_function (o := o) (fd := fd) (evalArgs_any hp h)
end

section
variable {prog : Program} {w : World} {h₀ : Heap}

theorem free_ge {h : Heap} {b : Nat} (hb : h.objs.size ≤ b) : h.get? b = none := by
  cases e : h.get? b with
  | none => rfl
  | some o => exact absurd (Heap.lt_size e) (Nat.not_lt.mpr hb)
theorem zip_fresh {N l1 l2 : Nat} (h1 : l1 < N) (h2 : l2 < N) : ZipApart (N + 4) (N + 2) (N + 3) N (N + 1) l1 l2 := by
  constructor <;> (intro (e : (_ : Nat) = (_ : Nat)); omega)
theorem mem2_ge {N b : Nat} (h : b ∈ [N + 1, N]) : N ≤ b := by simp at h; omega
theorem mem5_ge {N b : Nat} (h : b ∈ [N + 4, N + 2, N + 3, N, N + 1]) : N ≤ b := by simp at h; omega
theorem inv1 {X : Addr → Prop} {μ : List Addr} {h : Heap} {x : V} {ws : List Value} (r : RVs X μ h [x] ws) : ∃ v, ws = [v] ∧ RV X μ h x v := by
  cases r with | cons r1 r2 => cases r2; exact ⟨_, rfl, r1⟩
theorem inv2 {X : Addr → Prop} {μ : List Addr} {h : Heap} {x y : V} {ws : List Value} (r : RVs X μ h [x, y] ws) : ∃ v u, ws = [v, u] ∧ RV X μ h x v ∧ RV X μ h y u := by
  cases r with | cons r1 r2 => obtain ⟨u, rfl, r3⟩ := inv1 r2; exact ⟨_, _, rfl, r1, r3⟩
theorem inv3 {X : Addr → Prop} {μ : List Addr} {h : Heap} {x y z : V} {ws : List Value} (r : RVs X μ h [x, y, z] ws) : ∃ v u t, ws = [v, u, t] ∧ RV X μ h x v ∧ RV X μ h y u ∧ RV X μ h z t := by
  cases r with | cons r1 r2 => obtain ⟨u, t, rfl, r3, r4⟩ := inv2 r2; exact ⟨_, _, _, rfl, r1, r3, r4⟩

theorem small_neg {a b : Int} (h1 : -1073741824 < a) (h2 : a < 1073741824) (h3 : -1073741824 < b) (h4 : b < 1073741824) : Builtin.Range.small a b (-1) = true := by
  unfold Builtin.Range.small Builtin.Range.rangeFitsLong Builtin.Range.rangeSize
  simp
  omega
theorem size_neg (a b : Int) : Builtin.Range.rangeSize a b (-1) = ((a - b).toNat : Int) := by
  unfold Builtin.Range.rangeSize
  simp
  try split <;> omega
theorem size_one (a b : Int) : Builtin.Range.rangeSize a b 1 = ((b - a).toNat : Int) := by
  rw [rangeSize_one]; split <;> omega


/-- what is free later was free before -/
theorem free_back {μ μ' : List Addr} {h h' : Heap} {σ : Sto} (S : St prog w h₀ μ h σ) {σ' : Sto} (S' : St prog w h₀ μ' h' σ') (e : Ext μ h μ' h') : ∀ b, h'.get? b = none → h.get? b = none := by
  intro b hb
  cases ho : h.get? b with
  | none => rfl
  | some o =>
    by_cases hm : b ∈ μ
    · obtain ⟨o', ho', _⟩ := S'.exists (e.2.1.subset hm)
      rw [hb] at ho'; cases ho'
    · rw [e.1 b o ho (.inl hm)] at hb; cases hb
theorem St.noAt {μ : List Addr} {h : Heap} {σ : Sto} (S : St prog w h₀ μ h σ) {b : Addr} (hb : h.get? b = none) : b ∉ μ := fun hm => by
  obtain ⟨o, ho, _⟩ := S.exists hm
  rw [hb] at ho; cases ho
theorem fresh1 {μ : List Addr} {h : Heap} {σ : Sto} (S : St prog w h₀ μ h σ) : ∀ b ∈ [h.objs.size], h.get? b = none ∧ b ∉ μ := fun b hb => by
  rw [List.mem_singleton.mp hb]
  exact ⟨size_none _, S.noAt (size_none _)⟩
theorem fresh_of {μ : List Addr} {h : Heap} {σ : Sto} (S : St prog w h₀ μ h σ) {l : List Addr} (hl : ∀ b ∈ l, h.objs.size ≤ b) : ∀ b ∈ l, h.get? b = none ∧ b ∉ μ := fun b hb => ⟨free_ge (hl b hb), S.noAt (free_ge (hl b hb))⟩

section
variable {R : Type} {r : R} {Φ : Cx} {ρ : Loc} {σ : Sto} {env : Env} {A : Around} {d n : Nat} {s : Shared} {μ : List Addr} {Q E : Value → Shared → Prop}
theorem PostI.next {src : Src} {σ' σ₁ : Sto} {μ₁ : List Addr} {h₁ : Heap} {tk₁ : Nat} (P : PostI prog w h₀ A s μ σ' src Q) (S : St prog w h₀ μ s.heap σ) (e : Ext μ s.heap μ₁ h₁) (S₁ : St prog w h₀ μ₁ h₁ σ₁) : PostI prog w h₀ A { s with heap := h₁, toks := tk₁ } μ₁ σ' src Q :=
  fun I fp wr Rd S' M h' tk μ' e' S'' It st rd still hf => P I fp wr Rd S' M h' tk μ' (e.trans S₁ e') S'' It st rd still fun b hb => ⟨free_back S S₁ e b (hf b hb).1, (hf b hb).2⟩

theorem glob_call (ih : Snd prog w h₀ n) {K : K2 (List V) R} {f : Str} {p p' : Pos} {args : List PySem.Expr} {T : String} (hg : Φ.glob f = some (.ty T)) (hp : args.all plainE = true) (h : @cL R Φ n args ρ σ K = some r) (X : At prog w h₀ Φ ρ env A d n μ s.heap σ)
    (P : PL prog w h₀ r K s μ fun ws s₁ => wpAny (model prog w) A (call (.type T) ws) Q E s₁) : wpAny (model prog w) A (eval (.Call (.Name f p) args [] p') env) Q E s :=
  wpAny_Call_NameR (glob_ok X.G X.F X.S hg (fun v (hv : v = .type T) => hv ▸ callTy (starShape hp) (ih.l h X P)) (fun V e => by cases e))

theorem range_it (hh : A.handled = none) {h₁ : Heap} {tk : Nat} {a b c : Int} {t u v : Tok} {n : Nat} {x : Addr}
    (hr : IsRange h₁ x a b c t u v) (hs : Builtin.Range.small a b c = true) (hn : Builtin.Range.rangeSize a b c = (n : Int)) (S : St prog w h₀ μ s.heap σ) (hz : ∀ b o, s.heap.get? b = some o → h₁.get? b = some o) (hf : ∀ b, h₁.get? b = none → s.heap.get? b = none)
    (P : PostI prog w h₀ A s μ σ ⟨rangeV a c n, none, false, false⟩ Q) : wpAny (model prog w) A (pyIter (.ref x)) Q E { s with heap := h₁, toks := tk } := by
  refine wpAny_pyIter_range hr hs ?_
  rw [hn]
  have hk : ∀ b o, h₁.get? b = some o → (h₁.push { cls := .type "range_iterator", data := .fields #[rawInt a, rawInt n, rawInt c] }).get? b = some o := fun b o e => Heap.get?_push_of_some _ e
  refine P h₁.objs.size _ _ _ _ _ _ tk μ (Ext.grow μ fun b o e => hk b o (hz b o e)) (S.grow fun b o e => hk b o (hz b o e)) (iterRange (h₀ := h₀) hh (a := a) (c := c) (n := n)) ?_ trivial trivial fun b hb => ?_
  · have := Heap.get?_push_size h₁ (o := { cls := .type "range_iterator", data := .fields #[rawInt a, rawInt n, rawInt c] }) rfl
    simpa using this
  · have := hf _ ((List.mem_singleton.mp hb) ▸ size_none _)
    exact ⟨this, S.noAt this⟩
theorem free_push {h : Heap} {o : Obj} {b : Addr} (hb : (h.push o).get? b = none) : h.get? b = none := by
  cases hq : h.get? b with
  | none => rfl
  | some o => rw [Heap.get?_push_of_some _ hq] at hb; cases hb
theorem ints_inv : ∀ {vs : List V} {is : List Int}, intsV vs = some is → vs = is.map V.int
  | [], _, h => by cases h; rfl
  | v :: vs, _, h => bindK h fun _ h1 h => mapK h fun _ h2 e => by rw [← e, asIntK h1, ints_inv h2]; rfl
theorem rng_ok (hh : A.handled = none) {is : List Int} {ws : List Value} {src : Src} (h : rngI is = some src) (S : St prog w h₀ μ s.heap σ) (rs : RMs μ s.heap (is.map V.int) ws) (P : PostI prog w h₀ A s μ σ src Q) :
    wpAny (model prog w) A (call (.type "range") ws) (fun x s₁ => wpAny (model prog w) A (pyIter x) Q E s₁) E s := by
  match is, h, rs with
  | [b], h, rs =>
    refine iteK h fun hb h => ?_
    rw [small_iff] at hb
    obtain ⟨v1, rfl, r1⟩ := inv1 rs
    obtain ⟨t1, rfl⟩ := rm_int r1
    exact call_range_1 (range_it hh (IsRange.new ..) (small_one (by omega) (by omega) (by omega) (by omega)) (by rw [size_one, Int.sub_zero]) S (fun _ _ e => Heap.get?_push_of_some _ e) (fun _ => free_push) (Option.some.inj h ▸ P))
  | [a, b], h, rs =>
    refine iteK h fun hb h => ?_
    rw [small_iff, small_iff] at hb
    obtain ⟨v1, v2, rfl, r1, r2⟩ := inv2 rs
    obtain ⟨t1, rfl⟩ := rm_int r1
    obtain ⟨t2, rfl⟩ := rm_int r2
    exact call_range_2 (range_it hh (IsRange.new ..) (small_one (by omega) (by omega) (by omega) (by omega)) (by rw [size_one]) S (fun _ _ e => Heap.get?_push_of_some _ e) (fun _ => free_push) (Option.some.inj h ▸ P))
  | [a, b, c], h, rs =>
    refine iteK h fun hb h => ?_
    rw [small_iff, small_iff] at hb
    have hs := Option.some.inj h
    clear h
    obtain ⟨rfl, hb⟩ := hb
    obtain ⟨v1, v2, v3, rfl, r1, r2, r3⟩ := inv3 rs
    obtain ⟨t1, rfl⟩ := rm_int r1
    obtain ⟨t2, rfl⟩ := rm_int r2
    obtain ⟨t3, rfl⟩ := rm_int r3
    exact call_range_3 (by decide) (range_it hh (IsRange.new ..) (small_neg (by omega) (by omega) (by omega) (by omega)) (by rw [size_neg]) S (fun _ _ e => Heap.get?_push_of_some _ e) (fun _ => free_push) (hs ▸ P)) (.inl (PyProof.noPylong_small (by decide)))
  | [], h, _ => exact (noneX h).elim
  | _ :: _ :: _ :: _ :: _, h, _ => exact (noneX h).elim

/-- what a list's loop reads: a cell's list, or a list that is a value -/
noncomputable def ListSrc (σ : Sto) (sv : V) (l : List V) (live : Option (Nat × List V)) : Prop := ((∃ k, sv = .cell k ∧ live = some (k, l)) ∨ (∃ l', sv = .lst l' ∧ live = none)) ∧ itemsOf σ sv = some l
theorem ListSrc.still {sv : V} {l : List V} {live : Option (Nat × List V)} (H : ListSrc σ sv l live) (t z : Bool) : (⟨l, live, t, z⟩ : Src).still σ := by
  obtain ⟨⟨k, rfl, rfl⟩ | ⟨l', rfl, rfl⟩, hit⟩ := H
  · unfold itemsOf at hit
    simp only at hit
    split at hit
    · rename_i l2 h2; cases hit; exact ⟨_, h2, rfl⟩
    · cases hit
  · trivial
theorem ListSrc.is {sv : V} {l : List V} {live : Option (Nat × List V)} {h : Heap} {v : Value} (H : ListSrc σ sv l live) (S : St prog w h₀ μ h σ) (rm : RM μ h sv v) : ∃ a vs, v = .ref a ∧ h.IsList a vs := by
  obtain ⟨a, vs, rfl, rs, hh⟩ := itemsOf_list H.2 S rm
  refine ⟨a, vs, rfl, ?_⟩
  rcases hh with ⟨_, e⟩ | ⟨hl, _⟩
  · rcases H.1 with ⟨k, rfl, _⟩ | ⟨l', rfl, _⟩ <;> cases e
  · exact hl
theorem lsrc_ok {v : V} {p : List V × Option (Nat × List V)} (h : lsrc σ v = some p) : ListSrc σ v p.1 p.2 := by
  revert h
  induction v using V.casesOn with
  | lst l => exact fun h => Option.some.inj h ▸ ⟨.inr ⟨_, rfl, rfl⟩, rfl⟩
  | cell k => exact fun h => mapK h fun l hl e => e ▸ ⟨.inl ⟨_, rfl, rfl⟩, hl⟩
  | _ => exact fun h => (noneX h).elim
theorem list_it (hh : A.handled = none) {sv : V} {l : List V} {live : Option (Nat × List V)} (H : ListSrc σ sv l live) {v : Value} (S : St prog w h₀ μ s.heap σ) (rm : RM μ s.heap sv v) (P : PostI prog w h₀ A s μ σ ⟨l, live, false, false⟩ Q) :
    wpAny (model prog w) A (pyIter v) Q E s := by
  obtain ⟨a, vs, rfl, hl⟩ := H.is S rm
  refine wpAny_pyIter_list hl ?_
  have hk : ∀ b o, s.heap.get? b = some o → (s.heap.push { cls := .type "list_iterator", data := .fields #[.ref a, .int 0 0] }).get? b = some o := fun b o e => Heap.get?_push_of_some _ e
  exact P s.heap.objs.size _ _ _ _ _ _ _ μ (Ext.grow μ hk) (S.grow hk) (iterList (h₀ := h₀) hh (sv := sv) (a := a) (H.1.imp id fun ⟨l', e, _⟩ => ⟨l', e⟩)) ⟨_, Heap.get?_push_size _ rfl, rfl, rfl⟩ ⟨grow_rm hk rm, H.2⟩ (H.still _ _) (fresh1 S)
theorem enum_it (hh : A.handled = none) {sv : V} {l : List V} {live : Option (Nat × List V)} (H : ListSrc σ sv l live) {v : Value} (S : St prog w h₀ μ s.heap σ) (rm : RM μ s.heap sv v) (P : PostI prog w h₀ A s μ σ ⟨enumFrom 0 l, live, true, false⟩ Q) :
    wpAny (model prog w) A (call (.type "enumerate") [v]) (fun x s₁ => wpAny (model prog w) A (pyIter x) Q E s₁) E s := by
  obtain ⟨a, vs, rfl, hl⟩ := H.is S rm
  refine call_enumerate_list hl fun h₂ k1 k2 k3 hk => wpAny_pyIter_enum k1 ?_
  exact P (s.heap.objs.size + 1) _ _ _ _ _ _ _ μ (Ext.grow μ hk) (S.grow hk) (iterEnum (h₀ := h₀) hh (sv := sv) (a := a) (Nat.succ_ne_self _) (H.1.imp id fun ⟨l', e, _⟩ => ⟨l', e⟩)) ⟨⟨_, k1⟩, k2⟩ ⟨grow_rm hk rm, H.2⟩ (H.still true false) (fresh_of S fun _ => mem2_ge)
theorem enu_ok (hh : A.handled = none) {vs : List V} {ws : List Value} {src : Src} (h : enuV σ vs = some src) (S : St prog w h₀ μ s.heap σ) (rs : RMs μ s.heap vs ws) (P : PostI prog w h₀ A s μ σ src Q) :
    wpAny (model prog w) A (call (.type "enumerate") ws) (fun x s₁ => wpAny (model prog w) A (pyIter x) Q E s₁) E s :=
  arg1K h fun x hx h => mapK h fun p hp e => (inv1 (show RMs μ s.heap [x] ws from hx ▸ rs)).elim fun v hv => hv.1.symm ▸ enum_it hh (lsrc_ok hp) S hv.2 (e ▸ P)
theorem rm_lst {l : List V} {v : Value} {h : Heap} (rm : RM μ h (.lst l) v) : ∃ a o vs n, v = .ref a ∧ h.get? a = some o ∧ o.cls = .type "list" ∧ o.data = .seq vs n ∧ RMs μ h l vs.toList := by
  cases rm with | lst a b c d e => exact ⟨_, _, _, _, rfl, a, b, c, e⟩
theorem rm_tup {l : List V} {v : Value} {h : Heap} (rm : RM μ h (.tup l) v) : ∃ a o vs n, v = .ref a ∧ h.get? a = some o ∧ o.cls = .type "tuple" ∧ o.data = .seq vs n ∧ RMs μ h l vs.toList := by
  cases rm with | tup a b c d => exact ⟨_, _, _, _, rfl, a, b, c, d⟩
theorem rm_cell {k : Nat} {v : Value} {h : Heap} (rm : RM μ h (.cell k) v) : ∃ a, v = .ref a ∧ μ[k]? = some a := by
  cases rm with | cell a => exact ⟨_, rfl, a⟩
theorem zip_ok (hh : A.handled = none) {vs : List V} {ws : List Value} {src : Src} (h : zipV vs = some src) (S : St prog w h₀ μ s.heap σ) (rs : RMs μ s.heap vs ws) (P : PostI prog w h₀ A s μ σ src Q) :
    wpAny (model prog w) A (call (.type "zip") ws) (fun x s₁ => wpAny (model prog w) A (pyIter x) Q E s₁) E s := by
  refine arg2K h fun x y hv h => bindK h fun a ha h => bindK h fun b hb h => iteK h fun hsc h => andK hsc fun sa sb => ?_
  rw [hv, asLstK ha, asLstK hb] at rs
  rw [← Option.some.inj h] at P
  obtain ⟨v1, v2, e, r1, r2⟩ := inv2 rs
  obtain ⟨p1, o1, u1, n1, e1, a1, b1, c1, _⟩ := rm_lst r1
  obtain ⟨p2, o2, u2, n2, e2, a2, b2, c2, _⟩ := rm_lst r2
  rw [e, e1, e2]
  rw [e1] at r1
  rw [e2] at r2
  refine call_zip_2 ⟨_, a1, b1, _, c1⟩ ⟨_, a2, b2, _, c2⟩ fun h₂ k1 k2 k3 k4 k5 k6 hk => wpAny_pyIter_zip k1 ?_
  exact P (s.heap.objs.size + 4) _ _ _ _ _ _ _ μ (Ext.grow μ hk) (S.grow hk) (iterZip (h₀ := h₀) hh (zip_fresh (Heap.lt_size a1) (Heap.lt_size a2)) sa sb) ⟨k1, k2, ⟨_, _, k3⟩, k4, k5⟩ ⟨grow_rm hk r1, grow_rm hk r2⟩ trivial (fresh_of S fun _ => mem5_ge)
theorem rev_ok (hh : A.handled = none) {vs : List V} {ws : List Value} {src : Src} (h : revV vs = some src) (S : St prog w h₀ μ s.heap σ) (rs : RMs μ s.heap vs ws) (P : PostI prog w h₀ A s μ σ src Q) :
    wpAny (model prog w) A (call (.type "reversed") ws) (fun x s₁ => wpAny (model prog w) A (pyIter x) Q E s₁) E s := by
  refine arg1K h fun x hv h => bindK h fun a ha h => iteK h fun hsz h => ?_
  rw [hv, asTupK ha] at rs
  rw [← Option.some.inj h] at P
  obtain ⟨v1, e, r1⟩ := inv1 rs
  obtain ⟨ta, o, tvs, n, e1, a1, b1, c1, a4⟩ := rm_tup r1
  rw [e, e1]
  rw [e1] at r1
  have hlen := a4.length
  rw [Array.length_toList] at hlen
  refine call_reversed_tuple ⟨_, a1, b1, _, c1⟩ (by rw [sizeLine_eq] at hsz; omega) fun tk₂ => ?_
  have hk : ∀ b o, s.heap.get? b = some o → (s.heap.push { cls := .type "reversed", data := .fields #[.ref ta, rawInt ((tvs.size : Int) - 1)] }).get? b = some o := fun b o e => Heap.get?_push_of_some _ e
  refine pyIter_revT (t := ta) (i := (tvs.size : Int) - 1) (Heap.get?_push_size _ rfl) ?_
  refine P s.heap.objs.size _ _ _ _ _ _ tk₂ μ (Ext.grow μ hk) (S.grow hk) (iterRev (h₀ := h₀) hh hsz (a := ta)) ⟨Nat.zero_le _, ?_⟩ ⟨grow_rm hk r1, rfl⟩ trivial (fresh1 S)
  rw [← hlen]
  have := Heap.get?_push_size s.heap (o := { cls := .type "reversed", data := .fields #[.ref ta, rawInt ((tvs.size : Int) - 1)] }) rfl
  simpa using this
theorem src_ok (hh : A.handled = none) {x : V} {v : Value} {src : Src} (h : srcV σ x = some src) (S : St prog w h₀ μ s.heap σ) (rm : RM μ s.heap x v) (P : PostI prog w h₀ A s μ σ src Q) : wpAny (model prog w) A (pyIter v) Q E s := by
  unfold srcV at h
  cases ht : asTup x with
  | none =>
    rw [ht] at h
    exact mapK h fun p hp e => list_it hh (lsrc_ok hp) S rm (e ▸ P)
  | some l =>
    rw [ht] at h
    rw [← Option.some.inj h] at P
    rw [asTupK ht] at rm
    obtain ⟨a, o, vs, n, e1, a1, b1, c1, a4⟩ := rm_tup rm
    rw [e1] at rm ⊢
    refine wpAny_pyIter_tuple ⟨_, a1, b1, _, c1⟩ ?_
    have hk : ∀ b o, s.heap.get? b = some o → (s.heap.push { cls := .type "tuple_iterator", data := .fields #[.ref a, .int 0 0] }).get? b = some o := fun b o e => Heap.get?_push_of_some _ e
    exact P s.heap.objs.size _ _ _ _ _ _ _ μ (Ext.grow μ hk) (S.grow hk) (iterTuple (h₀ := h₀) hh (a := a)) ⟨_, Heap.get?_push_size _ rfl, rfl, rfl⟩ ⟨grow_rm hk rm, rfl⟩ trivial (fresh1 S)
noncomputable def ikName : Ik → String
  | .rng => "range"
  | .enu => "enumerate"
  | .zip => "zip"
  | .rev => "reversed"
theorem ik_name {g : Option GV} {i : Ik} (h : ik g = some i) : g = some (.ty (ikName i)) := by
  match g, h with
  | some (.ty id), h =>
    by_cases e : id = "range"
    · exact Option.some.inj ((if_pos e).symm.trans h) ▸ e ▸ rfl
    by_cases e2 : id = "enumerate"
    · exact Option.some.inj ((if_pos e2).symm.trans ((if_neg e).symm.trans h)) ▸ e2 ▸ rfl
    by_cases e3 : id = "zip"
    · exact Option.some.inj ((if_pos e3).symm.trans ((if_neg e2).symm.trans ((if_neg e).symm.trans h))) ▸ e3 ▸ rfl
    exact iteK ((if_neg e3).symm.trans ((if_neg e2).symm.trans ((if_neg e).symm.trans h))) fun e4 h => Option.some.inj h ▸ e4 ▸ rfl
theorem ik_ok (hh : A.handled = none) {i : Ik} {vs : List V} {ws : List Value} {src : Src} (h : ikV σ vs i = some src) (S : St prog w h₀ μ s.heap σ) (rs : RMs μ s.heap vs ws) (P : PostI prog w h₀ A s μ σ src Q) :
    wpAny (model prog w) A (call (.type (ikName i)) ws) (fun x s₁ => wpAny (model prog w) A (pyIter x) Q E s₁) E s := by
  induction i using Ik.casesOn with
  | rng => exact bindK h fun is hi h => rng_ok hh h S (ints_inv hi ▸ rs) P
  | enu => exact enu_ok hh h S rs P
  | zip => exact zip_ok hh h S rs P
  | rev => exact rev_ok hh h S rs P
theorem snd_i (ih : Snd prog w h₀ n) {K : K2 Src R} {e : PySem.Expr} (h : @cI R Φ (n + 1) e ρ σ K = some r) (X : At prog w h₀ Φ ρ env A d (n + 1) μ s.heap σ) (P : PI prog w h₀ r K A s μ Q) :
    wpAny (model prog w) A (eval e env) (fun x s₁ => wpAny (model prog w) A (pyIter x) Q E s₁) E s := by
  have dflt : ∀ e, @cE R Φ n false e ρ σ ⟨fun v σ => @qc _ _ K σ (srcV σ v)⟩ = some r → wpAny (model prog w) A (eval e env) (fun x s₁ => wpAny (model prog w) A (pyIter x) Q E s₁) E s := fun e h =>
    ih.e h X.dn fun _ _ _ _ _ _ e₁ S₁ r₁ h => qcK h fun _ hs h => src_ok X.A.1 hs S₁ r₁ ((P _ _ h).next X.S e₁ S₁)
  induction e using PySem.Expr.casesOn with
  | Call f args kws p =>
    induction f using PySem.Expr.casesOn with
    | Name f q =>
      have h : (match ik (Φ.glob f) with
        | some i => gd (kws.isEmpty && args.all plainE) (@cL R Φ n args ρ σ ⟨fun vs σ => @qv _ _ K σ (ikV σ vs i)⟩)
        | none => @cE R Φ n false (.Call (.Name f q) args kws p) ρ σ ⟨fun v σ => @qc _ _ K σ (srcV σ v)⟩) = some r := h
      cases hi : ik (Φ.glob f) with
      | none =>
        rw [hi] at h
        exact ih.e h X.dn fun _ _ _ _ _ _ e₁ S₁ r₁ h => qcK h fun _ hs h => src_ok X.A.1 hs S₁ r₁ ((P _ _ h).next X.S e₁ S₁)
      | some i =>
        rw [hi] at h
        refine gdK h fun hc h => andK hc fun hk hp => ?_
        rw [isE hk]
        exact glob_call ih (ik_name hi) hp h X.dn fun _ _ _ _ _ _ e₁ S₁ rs h => pvK h fun _ hs h => ik_ok X.A.1 hs S₁ rs ((P _ _ h).next X.S e₁ S₁)
    | _ => exact dflt _ h
  | Set => exact (noneX h).elim
  | _ => exact dflt _ h
end
end
end Mine
end

section
open PySem PySem.W PyProof.Rows PySem.Calls
set_option autoImplicit false
set_option maxRecDepth 10000
namespace Mine

theorem lset_look (ρ : Loc) (x : Str) (V : V) (y : Str) : (lset ρ x V).lookup y = if y = x then some V else ρ.lookup y := by
  induction ρ with
  | nil =>
    simp only [lset, List.lookup_cons, List.lookup_nil]
    by_cases h : y = x
    · subst h; simp
    · have : (y == x) = false := by simpa using h
      simp [this, h]
  | cons p r ih =>
    obtain ⟨z, u⟩ := p
    unfold lset
    cases hb : x == z with
    | true =>
      have e : x = z := beq_iff_eq.mp hb
      subst e
      simp only [if_true, List.lookup_cons]
      by_cases h : y = x
      · subst h; simp
      · have : (y == x) = false := by simpa using h
        simp [this, h]
    | false =>
      simp only [Bool.false_eq_true, if_false, List.lookup_cons]
      by_cases h : y = z
      · subst h
        have e : ¬ y = x := fun e => by rw [e, beq_self_eq_true] at hb; cases hb
        simp [e]
      · have : (y == z) = false := by simpa using h
        rw [this]
        exact ih

section
variable {prog : Program} {w : World} {h₀ : Heap} {A : Around} {E : Value → Shared → Prop} {s : Shared} {env : Env} {μ : List Addr} {σ : Sto} {Φ : Cx} {ρ : Loc} {d : Nat}

theorem FR.loc {h : Heap} (F : FR h₀ Φ ρ env μ h) : ∃ o, h.get? env.locals = some o ∧ (∀ vs n, o.data ≠ .seq vs n) ∧ ∀ v, o.data ≠ .cell v := by
  obtain ⟨m, ⟨o, es, ep, ho, hd, _⟩, _⟩ := F.ns
  exact ⟨o, ho, (fun vs n e => by rw [hd] at e; cases e), (fun v e => by rw [hd] at e; cases e)⟩

/-- only the frame's names changed (and things were made) -/
theorem FR.off_rm {h h' : Heap} (F : FR h₀ Φ ρ env μ h) (hs : Heap.ExtBut env.locals h h') {x : V} {v : Value} (r : RM μ h x v) : RM μ h' x v := by
  obtain ⟨o, ho, hd, _⟩ := F.loc
  exact rm_off hs ho hd r
theorem FR.off_rms {h h' : Heap} (F : FR h₀ Φ ρ env μ h) (hs : Heap.ExtBut env.locals h h') {x : List V} {v : List Value} (r : RMs μ h x v) : RMs μ h' x v := by
  obtain ⟨o, ho, hd, _⟩ := F.loc
  exact rms_off hs ho hd r
theorem FR.off_st {h h' : Heap} (F : FR h₀ Φ ρ env μ h) (S : St prog w h₀ μ h σ) (hs : Heap.ExtBut env.locals h h') : St prog w h₀ μ h' σ := by
  obtain ⟨o, ho, hd, _⟩ := F.loc
  exact S.off_change hs ho hd F.out F.off
/-- the frame kept, its names at their new values -/
theorem FR.upd {h h' : Heap} (F : FR h₀ Φ ρ env μ h) (hs : Heap.ExtBut env.locals h h') {ρ' : Loc} (hn : ∃ m, h'.Ns env.locals m ∧ ∀ x V, ρ'.lookup x = some V → ∃ v, m x = some v ∧ RM μ h' V v) : FR h₀ Φ ρ' env μ h' := by
  obtain ⟨o, ho, hd, hc⟩ := F.loc
  refine ⟨F.kind, F.names, F.globals, F.builtins, hn, F.off, F.out, fun x V hk hx => ?_⟩
  obtain ⟨c, v, h1, ⟨oc, hoc, hdc⟩, h3⟩ := F.cap x V hk hx
  refine ⟨c, v, h1, ⟨oc, hs c oc ?_ hoc, hdc⟩, F.off_rm hs h3⟩
  rintro rfl
  rw [ho] at hoc; cases hoc; exact hc _ hdc
theorem FR.grow {h h' : Heap} (F : FR h₀ Φ ρ env μ h) (hk : ∀ b o, h.get? b = some o → h'.get? b = some o) : FR h₀ Φ ρ env μ h' := by
  obtain ⟨m, hn, hm⟩ := F.ns
  exact F.upd (fun b o _ e => hk b o e) ⟨m, hn.keeps hk, fun x V hx => by obtain ⟨v, h1, h2⟩ := hm x V hx; exact ⟨v, h1, grow_rm hk h2⟩⟩

theorem store_ok (F : FR h₀ Φ ρ env μ s.heap) {x : Str} {V : V} {v : Value} (hx : Φ.names.lookup x = some .local) (r : RM μ s.heap V v) {Q : Unit → Shared → Prop}
    (hQ : ∀ h' tk, Heap.ExtBut env.locals s.heap h' → FR h₀ Φ (lset ρ x V) env μ h' → Q () { s with heap := h', toks := tk }) : wpAny (model prog w) A (storeName env x v) Q E s := by
  obtain ⟨m, hn, hm⟩ := F.ns
  have hl : env.kindOf x = some .local := (F.names x _ hx).resolve_right (fun e => by cases e.1)
  refine wpAny_storeName_local hl hn (fun h' hn' hs => hQ h' _ hs.extBut (F.upd hs.extBut ⟨_, hn', fun y U hy => ?_⟩)) (by rw [F.kind]; rfl)
  rw [lset_look] at hy
  by_cases h : y = x
  · subst h
    simp only [if_true] at hy ⊢
    cases hy
    exact ⟨v, rfl, F.off_rm hs.extBut r⟩
  · simp only [if_neg h] at hy ⊢
    obtain ⟨u, h1, h2⟩ := hm y U hy
    exact ⟨u, h1, F.off_rm hs.extBut h2⟩

theorem extBut_trans {a : Addr} {h₁ h₂ h₃ : Heap} (x : Heap.ExtBut a h₁ h₂) (y : Heap.ExtBut a h₂ h₃) : Heap.ExtBut a h₁ h₃ := fun b o hb e => y b o hb (x b o hb e)

theorem bindTs_ok {es : List PySem.Expr} : ∀ {Vs : List V} {vs : List Value} {ρ ρ' : Loc} {s : Shared} {Q : Unit → Shared → Prop}, bindTs Φ.names es Vs ρ = some ρ' → FR h₀ Φ ρ env μ s.heap → RMs μ s.heap Vs vs →
    (∀ h' tk, Heap.ExtBut env.locals s.heap h' → FR h₀ Φ ρ' env μ h' → Q () { s with heap := h', toks := tk }) → wpAny (model prog w) A (assignInOrder ((assignEach es env).map (·.2)) vs) Q E s := by
  induction es with
  | nil =>
    intro Vs vs ρ ρ' s Q h F r hQ
    cases Vs with
    | nil => cases h; exact wpAny_pure (hQ s.heap s.toks (fun _ _ _ e => e) F)
    | cons => exact (noneX h).elim
  | cons e es ih =>
    intro Vs vs ρ ρ' s Q h F r hQ
    cases r with
    | nil => exact (noneX h).elim
    | cons r1 r2 =>
      refine bindK h fun x h1 h => ?_
      obtain ⟨p, rfl⟩ := nameK h1
      exact bifK h fun hx h => wpAny_assignInOrder_more (wpAny_assign_Name (store_ok F (of_decide_eq_true hx) r1 fun h' tk hs F' =>
        ih h F' (F.off_rms hs r2) fun h'' tk'' hs' F'' => hQ h'' tk'' (extBut_trans hs hs') F''))

theorem bindTs_len {names : List (Str × NameKind)} {es : List PySem.Expr} : ∀ {Vs : List V} {ρ ρ' : Loc}, bindTs names es Vs ρ = some ρ' → (assignEach es env).length = Vs.length ∧ (assignEach es env).findIdx? (·.1) = none := by
  induction es with
  | nil => intro Vs ρ ρ' h; cases Vs with | nil => exact ⟨rfl, rfl⟩ | cons => exact (noneX h).elim
  | cons e es ih =>
    intro Vs ρ ρ' h
    cases Vs with
    | nil => exact (noneX h).elim
    | cons V Vs =>
      refine bindK h fun x h1 h => ?_
      obtain ⟨p, rfl⟩ := nameK h1
      refine bifK h fun _ h => ?_
      obtain ⟨a, b⟩ := ih h
      have e : assignEach (.Name x p :: es) env = (false, assign (.Name x p) env) :: assignEach es env := rfl
      rw [e]
      exact ⟨congrArg Nat.succ a, by rw [List.findIdx?_cons, b]; rfl⟩

theorem bindT_ok (hh : A.handled = none) {tgt : PySem.Expr} {V : V} {v : Value} {ρ' : Loc} {Q : Unit → Shared → Prop} (h : bindT Φ.names tgt V ρ = some ρ') (F : FR h₀ Φ ρ env μ s.heap) (r : RM μ s.heap V v)
    (hQ : ∀ h' tk, Heap.ExtBut env.locals s.heap h' → FR h₀ Φ ρ' env μ h' → Q () { s with heap := h', toks := tk }) : wpAny (model prog w) A (assign tgt env v) Q E s := by
  rw [bindT] at h
  cases hn : nameE tgt with
  | some x =>
    rw [hn] at h
    obtain ⟨p, rfl⟩ := nameK hn
    exact bifK h fun hx h => wpAny_assign_Name (store_ok F (of_decide_eq_true hx) r (siE h ▸ hQ))
  | none =>
    rw [hn] at h
    refine bindK h fun es h1 h => bindK h fun vs h2 h => ?_
    obtain ⟨k, p, rfl⟩ := tupK h1
    cases tupVK h2
    cases r with
    | tup h1 h2 h3 h4 =>
      obtain ⟨a, b⟩ := bindTs_len (env := env) h
      have hl := h4.length
      rw [Array.length_toList] at hl
      refine wpAny_assign_Tuple hh ⟨_, h1, h2, _, h3⟩ (by rw [a, hl]) b fun h' hs => ?_
      have hk : ∀ b o, s.heap.get? b = some o → h'.get? b = some o := fun b o e => hs b o (Nat.ne_of_lt (Heap.lt_size e)) e
      exact bindTs_ok h (F.grow hk) (grow_rms hk h4) fun h'' tk'' hs' F'' => hQ h'' tk'' (extBut_trans (fun b o _ e => hk b o e) hs') F''
end

section
variable {prog : Program} {w : World} {A : Around} {R : Result → Shared → Prop} {s : Shared}

/-- one turn of a comprehension -/
theorem comp_step {elt target iter : PySem.Expr} {ifs : List PySem.Expr} {scope : Scope} {pos : Pos} {it acc : Value} {env : Env}
    (turn : ∀ E : Value → Shared → Prop, wpAny (model prog w) A (pyNext it) (fun r s₁ => match r with
      | none => R (.ok .next) s₁
      | some v => wpAny (model prog w) A (letOwnedTupleGo target it v) (fun _ s₁ => wpAny (model prog w) A (assign target env v) (fun _ s₂ =>
          wpAny (model prog w) A (forIn ifs true fun c r => if r = true then do let ok ← PySem.isTrue c env (eval c env); pure (ForInStep.yield ok) else pure (ForInStep.yield r)) (fun ok s₃ =>
            if ok = true then wpAny (model prog w) A (eval elt env) (fun x s₄ =>
              wpAny (model prog w) A (call (.builtin "list.append") [acc, x]) (fun _ s₅ => codeAny (model prog w) A (.compLoop (.ListComp elt [⟨target, iter, ifs, 0⟩] scope pos) 0 it acc env) R s₅) E s₄) E s₃
            else codeAny (model prog w) A (.compLoop (.ListComp elt [⟨target, iter, ifs, 0⟩] scope pos) 0 it acc env) R s₃) E s₂) E s₁) E s₁) E s) :
    codeAny (model prog w) A (.compLoop (.ListComp elt [⟨target, iter, ifs, 0⟩] scope pos) 0 it acc env) R s := by
  refine codeAny_of_tree ?_
  show wpAny _ A ((compTurn (.ListComp elt [⟨target, iter, ifs, 0⟩] scope pos) 0 it acc env).onRaise (fun x => do noteFrame x env; theTreesLotGoes x)) _ _ s
  refine wpAny_noted ?_
  rw [compTurn_list]
  refine wpAny_bind (wpAny_standAt (wpAny_bind (wpAny_mono (turn _) (fun r s₁ h₁ => ?_) fun _ _ h' => h')))
  cases r with
  | none => exact wpAny_pure h₁
  | some v =>
    refine wpAny_bind (wpAny_mono h₁ (fun _ s₁ h₁ => ?_) fun _ _ h' => h')
    refine wpAny_bind (wpAny_mono h₁ (fun _ s₂ h₂ => wpAny_bind (wpAny_mono h₂ (fun ok s₃ h₃ => ?_) fun _ _ h' => h')) fun _ _ h' => h')
    cases ok with
    | false => exact wpAny_pure ⟨rfl, h₃⟩
    | true =>
      exact wpAny_bind (wpAny_bind (wpAny_mono h₃ (fun x s₄ h₄ => wpAny_bind (wpAny_mono h₄ (fun _ s₅ h₅ => wpAny_pure (wpAny_pure ⟨rfl, h₅⟩)) fun _ _ h' => h')) fun _ _ h' => h'))
end
end Mine
end

section
open PySem PySem.W PyProof.Rows PySem.Calls
set_option autoImplicit false
set_option maxRecDepth 10000
namespace Mine

section
variable {prog : Program} {w : World} {h₀ : Heap} {A : Around} {env : Env} {σ : Sto} {Φ : Cx} {d : Nat}

theorem keep_st {wr μ : List Addr} {h h' : Heap} (S : St prog w h₀ μ h σ) (hk : Keep wr h h') (hm : ∀ b ∈ wr, b ∉ μ ∧ h₀.get? b = none) (hq : (∀ b ∈ wr, ∀ o, h.get? b = some o → ∀ vs n, o.data ≠ .seq vs n) ∨ σ.all Cell.scal = true) : St prog w h₀ μ h' σ := by
  refine ⟨fun b o e => hk b o (fun hb => by rw [(hm b hb).2] at e; cases e) (S.base b o e), S.off, S.nd, S.len, fun k a c h1 h2 => ?_⟩
  have hc := S.cells k a c h1 h2
  have ha : a ∉ wr := fun hb => (hm a hb).1 (List.mem_of_getElem? h1)
  cases c with
  | lst l =>
    obtain ⟨n, vs, ho, r, hl⟩ := hc
    refine ⟨n, vs, hk _ _ ha ho, ?_, hl⟩
    rcases hq with hq | hq
    · exact keep_rms hk hq r
    · exact scal_rms (by have := List.all_eq_true.mp hq _ (List.mem_of_getElem? h2); simpa [Cell.scal] using this) r
  | dct l =>
    obtain ⟨kvs, ⟨o, es, ep, ho, r⟩, p, hl⟩ := hc
    rcases hq with hq | hq
    · exact ⟨kvs, ⟨o, es, ep, hk _ _ ha ho, r⟩, p.go (fun x v r => keep_rm hk hq r), hl⟩
    · have := List.all_eq_true.mp hq _ (List.mem_of_getElem? h2); simp [Cell.scal] at this

theorem keep_ext {wr μ : List Addr} {h h' : Heap} (hk : Keep wr h h') {μp : List Addr} {hp : Heap} (e : Ext μp hp μ h) (hw : ∀ b ∈ wr, hp.get? b = none) : Ext μp hp μ h' :=
  ⟨fun b o ho hb => hk b o (fun hm => by rw [hw b hm] at ho; cases ho) (e.1 b o ho hb), e.2⟩

theorem extBut_ext {C : Addr} {μ : List Addr} {h h' : Heap} (hs : Heap.ExtBut C h h') {μp : List Addr} {hp : Heap} (e : Ext μp hp μ h) (hC : hp.get? C = none) : Ext μp hp μ h' :=
  ⟨fun b o ho hb => hs b o (fun hm => by rw [hm, hC] at ho; cases ho) (e.1 b o ho hb), e.2⟩

/-- what a comprehension's frame is, whatever its names hold -/
structure CompFr (Φ : Cx) (cenv : Env) (μp : List Addr) (hp : Heap) : Prop where
  kind : cenv.scope.kind = .function
  names : ∀ x k, Φ.names.lookup x = some k → cenv.kindOf x = some k ∨ (k = .free ∧ cenv.kindOf x = some .cell)
  globals : cenv.globals = mainGlobals
  builtins : cenv.builtins = builtinsNs
  off : h₀.get? cenv.locals = none
  new : hp.get? cenv.locals = none
  cap : ∀ x V, (Φ.names.lookup x = some .cell ∨ Φ.names.lookup x = some .free) → Φ.cap.lookup x = some V → ∃ c v, cenv.cells.lookup x = some c ∧ hp.IsCell c (some v) ∧ RM μp hp V v
  capOff : ∀ c v, hp.IsCell c v → c ∉ μp

theorem CompFr.fr {cenv : Env} {μp μ : List Addr} {hp h : Heap} (F : CompFr (h₀ := h₀) Φ cenv μp hp) (e : Ext μp hp μ h) {m : Str → Option Value} (hn : h.Ns cenv.locals m) (hC : cenv.locals ∉ μ) : FR h₀ Φ [] cenv μ h := by
  refine ⟨F.kind, F.names, F.globals, F.builtins, ⟨m, hn, fun x V hx => by cases hx⟩, F.off, hC, fun x V hk hx => ?_⟩
  obtain ⟨c, v, h1, ⟨o, ho, hd⟩, h3⟩ := F.cap x V hk hx
  exact ⟨c, v, h1, ⟨o, e.1 c o ho (.inl (F.capOff c _ ⟨o, ho, hd⟩)), hd⟩, e.rv h3⟩

theorem tests1 {M : Model} {E : Value → Shared → Prop} {s : Shared} {c : PySem.Expr} {cenv : Env} {Q : Bool → Shared → Prop} (h : wpAny M A (PySem.isTrue c cenv (eval c cenv)) Q E s) :
    wpAny M A (forIn [c] true fun c r => if r = true then do let ok ← PySem.isTrue c cenv (eval c cenv); pure (ForInStep.yield ok) else pure (ForInStep.yield r)) Q E s := by
  simp only [List.forIn_cons, List.forIn_nil, if_true]
  exact wpAny_bind (wpAny_bind (wpAny_mono h (fun b s' hb => wpAny_pure (wpAny_pure hb)) fun _ _ x => x))

theorem comp_turns {n : Nat} (ih : Snd prog w h₀ n) (hG : GOK prog w h₀ d Φ.G) (hA : AOk A d n) {cenv : Env} {μp : List Addr} {hp : Heap} (C : CompFr (h₀ := h₀) Φ cenv μp hp)
    {src : Src} {I : Addr} {fp wr : List Addr} {Rd : Sto → List Addr → Heap → Prop} {S' : Nat → Heap → Prop} {M : Nat → Value → Heap → Prop} (It : Iter prog w h₀ A I fp wr src Rd S' M)
    {elt tgt iter : PySem.Expr} {ifs : List PySem.Expr} {scope : Scope} {pos : Pos} {D : Addr} {k : Nat} (ht : src.tup = true → isTup tgt = true)
    {f : V → Sto → Option (Option V × Sto)}
    (hf : f = fComp Φ n tgt elt ifs)
    (hfp : ∀ b ∈ fp, b ≠ cenv.locals ∧ hp.get? b = none ∧ h₀.get? b = none) :
    ∀ (r : List V) (i : Nat) (σ σ' : Sto) (s : Shared) (μ : List Addr) (R : Result → Shared → Prop), src.items.drop i = r → i + r.length = src.items.length → turns src k f r σ = some σ' → Ext μp hp μ s.heap → St prog w h₀ μ s.heap σ →
      (∃ m, s.heap.Ns cenv.locals m) → cenv.locals ∉ μ → μ[k]? = some D → S' i s.heap → Rd σ μ s.heap → (∀ b ∈ fp, b ∉ μ) →
      (∀ h' tk μ', Ext μp hp μ' h' → St prog w h₀ μ' h' σ' → (∃ m, h'.Ns cenv.locals m) → cenv.locals ∉ μ' → μ'[k]? = some D → R (.ok .next) { s with heap := h', toks := tk }) →
      codeAny (model prog w) A (.compLoop (.ListComp elt [⟨tgt, iter, ifs, 0⟩] scope pos) 0 (.ref I) (.ref D) cenv) R s := by
  have hwr : ∀ (μ : List Addr), (∀ b ∈ fp, b ∉ μ) → ∀ b ∈ wr, b ∉ μ ∧ h₀.get? b = none := fun μ hfm b hb => ⟨hfm b (It.sub b hb), (hfp b (It.sub b hb)).2.2⟩
  have seq : ∀ {i : Nat} {h : Heap} {σ : Sto}, S' i h → src.fit σ = true → (∀ b ∈ wr, ∀ o, h.get? b = some o → ∀ vs n, o.data ≠ .seq vs n) ∨ σ.all Cell.scal = true := fun st hst => by
    cases hz : src.zip with
    | false => exact .inl (It.noseq hz _ _ st)
    | true => right; simpa [Src.fit, hz] using hst
  intro r
  induction r with
  | nil =>
    intro i σ σ' s μ R hr hi h e S hn hC hk st rd hfm hR
    obtain ⟨hst, h⟩ := iteX h
    rw [← Option.some.inj h] at hR
    have hi' : i = src.items.length := hi
    rw [hi'] at st
    refine comp_step fun E => It.done μ σ s _ _ st S rd fun h' tk K => ?_
    obtain ⟨m, hn⟩ := hn
    exact hR h' tk μ (keep_ext K e fun b hb => (hfp b (It.sub b hb)).2.1) (keep_st S K (hwr μ hfm) (seq st hst.2)) ⟨m, hn.at' fun o ho => K _ o (fun hb => (hfp _ (It.sub _ hb)).1 rfl) ho⟩ hC hk
  | cons x r ihr =>
    intro i σ σ' s μ R hr hi h e S hn hC hk st rd hfm hR
    refine iteK h fun hst h => bindK h fun y h1 h2 => ?_
    clear h
    have hx : src.items[i]? = some x := by
      have := congrArg (fun l => l[0]?) hr
      simpa using this
    have hr' : src.items.drop (i + 1) = r := by
      have := congrArg List.tail hr
      simpa using this
    have hi' : i + 1 + r.length = src.items.length := by rw [← hi, List.length_cons, Nat.add_assoc, Nat.add_comm 1]
    refine comp_step fun E => It.item i μ σ s x _ _ st S rd hx fun v h₁ tk₁ m₁ r₁ K => It.go i v tgt _ _ _ ht m₁ fun h₂ st₂ K₂ => ?_
    obtain ⟨m, hn⟩ := hn
    have S₁ : St prog w h₀ μ h₁ σ := keep_st S K (hwr μ hfm) (seq st hst.2)
    have rd₁ : Rd σ μ h₁ := by
      cases hz : src.zip with
      | false => exact It.rdn _ _ _ _ _ _ rd (fun x v r => keep_rm K (It.noseq hz _ _ st) r) hst.1
      | true => exact It.rdz hz _ _ _ _ rd K
    have e₁ : Ext μp hp μ h₁ := keep_ext K e fun b hb => (hfp b (It.sub b hb)).2.1
    have n₁ : h₁.Ns cenv.locals m := hn.at' fun o ho => K _ o (fun hb => (hfp _ (It.sub _ hb)).1 rfl) ho
    have hI : ∀ b ∈ [I], ∀ o, h₁.get? b = some o → ∀ vs n, o.data ≠ .seq vs n := fun b hb o ho => by
      rw [List.mem_singleton.mp hb] at ho; exact It.noseqI i v h₁ m₁ o ho
    have hIm : ∀ b ∈ [I], b ∉ μ ∧ h₀.get? b = none := fun b hb => by rw [List.mem_singleton.mp hb]; exact ⟨hfm I It.mem, (hfp I It.mem).2.2⟩
    have S₂ : St prog w h₀ μ h₂ σ := keep_st S₁ K₂ hIm (.inl hI)
    have rd₂ : Rd σ μ h₂ := It.rdn _ _ _ _ _ _ rd₁ (fun x v r => keep_rm K₂ hI r) hst.1
    have e₂ : Ext μp hp μ h₂ := keep_ext K₂ e₁ fun b hb => by rw [List.mem_singleton.mp hb]; exact (hfp I It.mem).2.1
    have F₂ := C.fr e₂ (n₁.at' fun o ho => K₂ _ o (fun hb => (hfp I It.mem).1 (List.mem_singleton.mp hb).symm) ho) hC
    have r₂ : RM μ h₂ x v := keep_rm K₂ hI r₁
    clear K K₂ S₁ rd₁ e₁ n₁ hI hIm
    rw [hf] at h1
    refine bindK h1 fun ρ' hb h1 => bindT_ok hA.1 hb F₂ r₂ fun h₃ tk₃ hs₃ F₃ => ?_
    clear r₂
    have S₃ : St prog w h₀ μ h₃ σ := F₂.off_st S₂ hs₃
    have rd₃ : Rd σ μ h₃ := It.rdn _ _ _ _ _ _ rd₂ (fun x v r => F₂.off_rm hs₃ r) hst.1
    have e₃ : Ext μp hp μ h₃ := extBut_ext hs₃ e₂ C.new
    have st₃ : S' (i + 1) h₃ := It.frame _ _ _ st₂ fun b hb o ho => hs₃ b o ((hfp b hb).1) ho
    have X : At prog w h₀ Φ ρ' cenv A d n μ h₃ σ := ⟨hG, F₃, S₃, hA⟩
    clear hs₃ e₂ rd₂ st₂ S₂ F₂
    -- the rest of a turn, whatever it left
    have next : ∀ (σ₄ : Sto) (h₄ : Heap) (tk₄ : Nat) (μ₄ : List Addr), Ext μ h₃ μ₄ h₄ → St prog w h₀ μ₄ h₄ σ₄ → turns src k f r σ₄ = some σ' → codeAny (model prog w) A (.compLoop (.ListComp elt [⟨tgt, iter, ifs, 0⟩] scope pos) 0 (.ref I) (.ref D) cenv) R { s with heap := h₄, toks := tk₄ } := by
      intro σ₄ h₄ tk₄ μ₄ e₄ S₄ h4
      have hstill : src.still σ₄ := by
        cases r with
        | nil => exact (iteX h4).1.1
        | cons => exact (iteX h4).1.1
      obtain ⟨m₃, n₃, _⟩ := F₃.ns
      refine ihr (i + 1) σ₄ σ' _ μ₄ R hr' hi' h4 (e₃.trans S₃ e₄) S₄ ⟨m₃, n₃.at' fun o ho => e₄.1 _ o ho (.inl hC)⟩ ?_ (prefix_get e₄.2.1 hk)
        (It.frame _ _ _ st₃ fun b hb o ho => e₄.1 b o ho (.inl (hfm b hb))) (It.rdn _ _ _ _ _ _ rd₃ (fun x v r => e₄.rv r) hstill) (fun b hb hm => ?_) hR
      · obtain ⟨o, _, _, ho, _⟩ := n₃
        exact e₄.out hC ho
      · obtain ⟨o, ho⟩ := It.ex _ _ st₃ b hb
        exact e₄.out (hfm b hb) ho hm
    -- a value goes into the cell
    have put : ∀ (σ₄ : Sto) (h₄ : Heap) (tk₄ : Nat) (μ₄ : List Addr), @cE (Option V × Sto) Φ n false elt ρ' σ₄ ⟨fun v σ => some (some v, σ)⟩ = some y → Ext μ h₃ μ₄ h₄ → St prog w h₀ μ₄ h₄ σ₄ →
        wpAny (model prog w) A (eval elt cenv) (fun x s₄ => wpAny (model prog w) A (call (.builtin "list.append") [.ref D, x]) (fun _ s₅ => codeAny (model prog w) A (.compLoop (.ListComp elt [⟨tgt, iter, ifs, 0⟩] scope pos) 0 (.ref I) (.ref D) cenv) R s₅) E s₄) E { s with heap := h₄, toks := tk₄ } :=
      fun σ₄ h₄ tk₄ μ₄ hev e₄ S₄ => ih.e hev (s := { s with heap := h₄, toks := tk₄ }) (X.go e₄ S₄) fun u σ₁ v₅ h₅ tk₅ μ₅ e₅ S₅ r₅ hu => by
        rw [← Option.some.inj hu] at h2
        exact bindK h2 fun σ₅ ha h2 => appV_ok ha S₅ (prefix_get (e₄.trans S₄ e₅).2.1 hk) r₅ fun h₆ tk₆ e₆ S₆ => next _ h₆ tk₆ μ₅ ((e₄.trans S₄ e₅).trans S₅ e₆) S₆ h2
    clear ihr hR
    generalize codeAny (model prog w) A (.compLoop (.ListComp elt [⟨tgt, iter, ifs, 0⟩] scope pos) 0 (.ref I) (.ref D) cenv) R = W at next put ⊢
    change gComp Φ n elt ifs ρ' σ = _ at h1
    match ifs, h1 with
    | [], h1 => exact wpAny_pure (put σ h₃ tk₃ μ h1 (Ext.refl _ _) S₃)
    | [c], h1 =>
      refine tests1 (ih.t h1 X fun b σ₂ h₄ tk₄ μ₄ e₄ S₄ h4 => ?_)
      induction b using Bool.casesOn with
      | true => exact put σ₂ h₄ tk₄ μ₄ h4 e₄ S₄
      | false =>
        rw [← Option.some.inj h4] at h2
        exact next σ₂ h₄ tk₄ μ₄ e₄ S₄ h2
    | _ :: _ :: _, h1 => exact (noneX h1).elim
end
end Mine
end

section
open PySem PySem.W PyProof.Rows PySem.Calls
set_option autoImplicit false
set_option maxRecDepth 10000
namespace Mine

theorem closure_ok {scope : Scope} {env : Env} (h : ∀ p ∈ scope.names, p.2 = .free → ∃ c, env.cells.lookup p.1 = some c) :
    ∃ cl, closureFor scope env = pure cl ∧ ∀ p ∈ scope.names, p.2 = .free → cl.lookup p.1 = env.cells.lookup p.1 := by
  have key : ∀ (names : List (Str × NameKind)) (acc : List (Str × Addr)), (∀ p ∈ names, p.2 = .free → ∃ c, env.cells.lookup p.1 = some c) → (∀ x c, acc.lookup x = some c → env.cells.lookup x = some c) →
      ∃ cl, (forIn names acc fun (x : Str × NameKind) (cs : List (Str × Addr)) => match x with
        | (name, kind) => if (kind == NameKind.free) = true then do let c ← cellOf env name; pure (ForInStep.yield ((name, c) :: cs)) else pure (ForInStep.yield cs) : Sem (List (Str × Addr))) = pure cl ∧
        (∀ p ∈ names, p.2 = .free → cl.lookup p.1 = env.cells.lookup p.1) ∧ (∀ x c, acc.lookup x = some c → cl.lookup x = some c) := by
    intro names
    induction names with
    | nil => intro acc _ _; exact ⟨acc, rfl, fun p hp => by simp at hp, fun x c e => e⟩
    | cons p r ih =>
      intro acc hp hacc
      obtain ⟨x, k⟩ := p
      rw [List.forIn_cons]
      by_cases hk : k = .free
      · subst hk
        obtain ⟨c, hc⟩ := hp (x, .free) (.head _) rfl
        have hc' : env.cells.lookup x = some c := hc
        have e : cellOf env x = pure c := by unfold cellOf; rw [hc']
        simp only [beq_self_eq_true, if_true, e, pure_bind]
        obtain ⟨cl, h1, h2, h3⟩ := ih ((x, c) :: acc) (fun p hp' => hp p (.tail _ hp')) (fun y b hy => by
          rw [List.lookup_cons] at hy
          cases hb : y == x with
          | true => rw [hb] at hy; cases hy; rw [beq_iff_eq.mp hb]; exact hc'
          | false => rw [hb] at hy; exact hacc y b hy)
        refine ⟨cl, h1, fun p hp' hf => ?_, fun y b hy => ?_⟩
        · rcases List.mem_cons.mp hp' with rfl | hp'
          · have := h3 x c (by simp)
            rw [this]; exact hc'.symm
          · exact h2 p hp' hf
        · by_cases hyx : y = x
          · subst hyx
            have h4 := hacc y b hy
            rw [hc'] at h4; cases h4
            exact h3 y c (by simp)
          · have : (y == x) = false := by simpa using hyx
            exact h3 y b (by rw [List.lookup_cons, this]; exact hy)
      · have : (k == NameKind.free) = false := by simpa using hk
        simp only [this, Bool.false_eq_true, if_false, pure_bind]
        obtain ⟨cl, h1, h2, h3⟩ := ih acc (fun p hp' => hp p (.tail _ hp')) hacc
        refine ⟨cl, h1, fun p hp' hf => ?_, h3⟩
        rcases List.mem_cons.mp hp' with rfl | hp'
        · exact absurd hf hk
        · exact h2 p hp' hf
  obtain ⟨cl, h1, h2, _⟩ := key scope.names [] h (fun x c e => by cases e)
  refine ⟨cl, ?_, h2⟩
  simp only [closureFor]
  first
  | exact h1
  | (rw [h1]; rfl)
  | (have := congrArg (· >>= pure) h1; simpa using this)

theorem relabel_look {scope : Scope} {env : Env} {x : Str} {k : NameKind} (h : scope.names.lookup x = some k) : (relabel scope env).names.lookup x = some k ∨ (k = .free ∧ (relabel scope env).names.lookup x = some .cell) := by
  unfold relabel
  simp only
  generalize scope.names = names at h ⊢
  induction names with
  | nil => cases h
  | cons p r ih =>
    obtain ⟨y, j⟩ := p
    rw [List.lookup_cons] at h
    rw [List.map_cons]
    cases hb : x == y with
    | true =>
      rw [hb] at h
      cases h
      by_cases hc : (k == NameKind.free && env.scope.kind == .function && env.kindOf y == some .cell) = true
      · right
        rw [if_pos hc, List.lookup_cons, hb]
        refine ⟨?_, rfl⟩
        simp only [Bool.and_eq_true] at hc
        exact beq_iff_eq.mp hc.1.1
      · left
        rw [if_neg hc, List.lookup_cons, hb]
    | false =>
      rw [hb] at h
      have := ih h
      split <;> simpa [List.lookup_cons, hb] using this

section
variable {prog : Program} {w : World} {h₀ : Heap}

theorem notSetI {R : Type} {r : R} {K : K2 Src R} {Φ : Cx} {n : Nat} {e : PySem.Expr} {ρ : Loc} {σ : Sto} (h : @cI R Φ n e ρ σ K = some r) (env : Env) (x : Value) : foldedSetIterable e env x = pure x := by
  revert h
  induction e using PySem.Expr.casesOn with
  | Set => intro h; cases n <;> exact (noneX h).elim
  | _ => exact fun _ => rfl
theorem still_more {src : Src} {σ τ : Sto} (h : src.still σ) : src.still (σ ++ τ) := by
  unfold Src.still at h ⊢
  split
  · trivial
  · rename_i k l hl
    rw [hl] at h
    obtain ⟨c, hc, rfl⟩ := h
    exact ⟨_, by rw [List.getElem?_append_left (List.getElem?_eq_some_iff.mp hc).1]; exact hc, rfl⟩
theorem none0 {μ : List Addr} {h : Heap} {σ : Sto} (S : St prog w h₀ μ h σ) {a : Addr} (ha : h.get? a = none) : h₀.get? a = none := by
  cases e : h₀.get? a with
  | none => rfl
  | some o => have := S.base _ _ e; rw [ha] at this; cases this

theorem comp_ok {n : Nat} (ih : Snd prog w h₀ n) {R : Type} {r : R} {K : K2 V R} {Φ : Cx} {own : Bool} {elt : PySem.Expr} {gens : List Comprehension} {scope : Scope} {pos : Pos} {ρ : Loc} {σ : Sto} (h : @cE R Φ (n + 1) own (.ListComp elt gens scope pos) ρ σ K = some r)
    {env : Env} {A : Around} {s : Shared} {μ : List Addr} {d : Nat} {use : Option (Value → Sem Unit)} {Q : Value → Shared → Prop} {E : Value → Shared → Prop} (X : At prog w h₀ Φ ρ env A d n μ s.heap σ)
    (P : ∀ V σ' D C h' tk μ', K.k V σ' = some r → Ext μ s.heap μ' h' → St prog w h₀ μ' h' σ' → RM μ' h' V (.ref D) → (∃ m, h'.Ns C m) → C ∉ μ' → s.heap.get? C = none → h₀.get? C = none → compPost (model prog w) A E use Q (.ref D) C (.ok .next) { s with heap := h', toks := tk }) :
    wpAny (model prog w) A (comprehension (.ListComp elt gens scope pos) scope env (firstIterPos gens pos) (newList []) (firstAsync gens) (firstIter gens env) use) Q E s := by
  match gens, h with
  | [], h => exact (noneX h).elim
  | ⟨_, _, _, .negSucc _⟩ :: _, h => exact (noneX h).elim
  | ⟨_, _, _, .ofNat (_ + 1)⟩ :: _, h => exact (noneX h).elim
  | ⟨_, _, _, .ofNat 0⟩ :: _ :: _, h => exact (noneX h).elim
  | [⟨tgt, iter, ifs, .ofNat 0⟩], h =>
  refine gdK h fun hok h => puK h fun V σ' h1 hK => ?_
  clear h
  obtain ⟨hkind, hnames⟩ := of_decide_eq_true hok
  have hcell : ∀ p ∈ scope.names, p.2 = .free → ∃ c, env.cells.lookup p.1 = some c := fun p hp hf => by
    obtain ⟨hs, hk⟩ := (hnames p hp).2.2 hf
    obtain ⟨V, hV⟩ := Option.isSome_iff_exists.mp hs
    obtain ⟨c, v, hc, _⟩ := X.F.cap p.1 V hk hV
    exact ⟨c, hc⟩
  obtain ⟨cl, hcl, hlook⟩ := closure_ok hcell
  refine wpAny_comprehension_free (g := ⟨tgt, iter, ifs, 0⟩) (gs := []) rfl (fun x => notSetI h1 env x) hcl hkind (fun x hx hl => (hnames x hx).1 hl) ?_
  refine ih.i h1 X fun src σ₁ h2 I fp wr Rd S' M h₁ tk₁ μ₁ e₁ S₁ It st₁ rd₁ still₁ hfp => ?_
  refine gdK h2 fun htup h2 => mapK h2 fun σ₂ h2 he => ?_
  refine wpAny_newObj_type (wpAny_newFunctionEnv (fun x hx => (hnames x hx).2.1) (by intro y hy; simp at hy) (fun h₂ hns₂ hsb₂ => ?_) hkind)
  dsimp only at hns₂ hsb₂ ⊢
  generalize hH : h₁.push { cls := .type "list", dict := none, data := .seq ([] : List Value).toArray } = H at hns₂ hsb₂ ⊢
  have hHsz : H.objs.size = h₁.objs.size + 1 := by rw [← hH, Heap.size_push]
  have k1 : ∀ b o, h₁.get? b = some o → h₂.get? b = some o := fun b o e => hsb₂.extBut b o (by have := Heap.lt_size e; rw [hHsz]; exact Nat.ne_of_lt (Nat.lt_succ_of_lt this)) (Heap.get?_push_of_some _ (hH ▸ Heap.get?_push_of_some _ e))
  have hD : h₂.get? h₁.objs.size = some { cls := .type "list", data := .seq #[] } := hsb₂.extBut _ _ (by rw [hHsz]; exact Nat.ne_of_lt (Nat.lt_succ_self _)) (Heap.get?_push_of_some _ (by rw [← hH]; exact Heap.get?_push_size _ rfl))
  have fC : h₁.get? H.objs.size = none := free_ge (by rw [hHsz]; exact Nat.le_succ _)
  have fD : h₁.get? h₁.objs.size = none := size_none _
  have S₂ := S₁.push k1 fD (c := .lst []) ⟨0, #[], hD, .nil, Nat.zero_le _⟩
  have e₂ : Ext μ₁ h₁ (μ₁ ++ [h₁.objs.size]) h₂ := Ext.push k1 fD
  have hCμ : H.objs.size ∉ μ₁ ++ [h₁.objs.size] := fun hm => (List.mem_append.mp hm).elim (S₁.noAt fC) fun hm => by
    have := List.mem_singleton.mp hm; rw [hHsz] at this; exact absurd this (Nat.ne_of_gt (Nat.lt_succ_self _))
  have sC : s.heap.get? H.objs.size = none := free_back X.S S₁ e₁ _ fC
  have h0C := none0 X.S sC
  have CF : CompFr (h₀ := h₀) ⟨Φ.G, scope.names, Φ.cap⟩ (compEnvC scope cl H.objs.size env) μ s.heap := by
    refine ⟨hkind, fun x k hx => relabel_look hx, X.F.globals, X.F.builtins, h0C, sC, fun x U hk hx => ?_, fun c v hc => X.S.noCell c v hc⟩
    have hfree : (x, NameKind.free) ∈ scope.names := hk.elim (fun hk => absurd rfl ((hnames _ (mem_of_lookup hk)).2.1)) mem_of_lookup
    obtain ⟨c, v, q1, q2, q3⟩ := X.F.cap x U ((hnames _ hfree).2.2 rfl).2 hx
    exact ⟨c, v, (hlook _ hfree rfl).trans q1, q2, q3⟩
  have loop : ∀ s₃ : Shared, s₃ = { s with heap := h₂, toks := tk₁ + ([] : List (Str × Value)).length } →
      codeAny (model prog w) A (.compLoop (.ListComp elt [⟨tgt, iter, ifs, 0⟩] scope pos) 0 (.ref I) (.ref h₁.objs.size) (compEnvC scope cl H.objs.size env)) (compPost (model prog w) A E use Q (.ref h₁.objs.size) H.objs.size) s₃ := by
    rintro s₃ rfl
    refine comp_turns (Φ := ⟨Φ.G, scope.names, Φ.cap⟩) ih X.G X.A CF It (orE htup) rfl (fun b hb => ⟨?_, (hfp b hb).1, none0 X.S (hfp b hb).1⟩) src.items 0 _ σ₂ _ (μ₁ ++ [h₁.objs.size]) _ rfl (Nat.zero_add _) h2 (e₁.trans S₁ e₂) S₂ ⟨_, hns₂⟩ hCμ ?_ ?_ ?_ (fun b hb hm => ?_) ?_
    · obtain ⟨o, ho⟩ := It.ex _ _ st₁ b hb
      have := Heap.lt_size ho
      show b ≠ H.objs.size
      rw [hHsz]; exact Nat.ne_of_lt (Nat.lt_succ_of_lt this)
    · rw [← S₁.len, List.getElem?_append_right (Nat.le_refl _), Nat.sub_self]; rfl
    · exact It.frame _ _ _ st₁ fun b _ o ho => k1 b o ho
    · exact It.rdn _ _ _ _ _ _ rd₁ (fun x v r => e₂.rv r) (still_more still₁)
    · rcases List.mem_append.mp hm with hm | hm
      · exact (hfp b hb).2 hm
      · obtain ⟨o, ho⟩ := It.ex _ _ st₁ b hb
        rw [List.mem_singleton.mp hm, fD] at ho; cases ho
    · intro h' tk μ' e' S' hn' hC' hk'
      have hV := (pairX he).1
      have hσ := (pairX he).2
      exact P _ _ h₁.objs.size H.objs.size h' tk μ' hK e' (hσ ▸ S') (hV ▸ .cell hk') hn' hC' sC h0C
  have st₂ : S' 0 h₂ := It.frame _ _ _ st₁ fun b _ o ho => k1 b o ho
  exact codeAny_compStart_list (loop _ rfl) (It.self 0 _ _ _ st₂ (loop _ rfl))
end
end Mine
end

section
open PySem PySem.W PyProof.Rows PySem.Calls
set_option autoImplicit false
set_option maxRecDepth 10000
namespace Mine

section
variable {prog : Program} {w : World} {h₀ : Heap} {R : Type} {r : R} {Φ : Cx} {ρ : Loc} {σ : Sto} {env : Env} {A : Around} {d n : Nat} {s : Shared} {μ : List Addr} {Q E : Value → Shared → Prop}

theorem room {l : List V} {ws : List Value} {h : Heap} (hl : Nat.ble l.length 100 = true) (rs : RMs μ h l ws) : ws.length ≤ sizeLine := by
  rw [rs.length, sizeLine_eq]; exact Nat.le_trans (Nat.le_of_ble_eq_true hl) (by decide)
theorem look_loc {x : Str} (h : isLocN Φ.names x = true) : Φ.look ρ x = ρ.lookup x := by
  unfold Cx.look
  rw [of_decide_eq_true h]
theorem subTail {value slice : PySem.Expr} {o i : Value} {T id : String} (hT : s.TypeIs o T)
    (hl : typeLookup (.type T) "__getitem__" = pure (some (.builtin id))) (hg : wpAny (model prog w) A (getItem o i) Q E s) : wpAny (model prog w) A (subscriptTail value slice o i) Q E s := by
  have : subscripted slice false o i = operate [o, i] (getItem o i) ∨ subscripted slice false o i = operate [i, o] (getItem o i) := by
    induction slice using PySem.Expr.casesOn with
    | Slice a b c p =>
      induction c using Option.casesOn with
      | none => exact .inr rfl
      | some => exact .inl rfl
    | _ => exact .inl rfl
  exact this.elim (fun h => tail_any hT hl hg h) fun h => tail_any hT hl hg h
theorem rmE {h : Heap} {a b : V} {v : Value} (e : a = b) (rm : RM μ h a v) : RM μ h b v := e ▸ rm
theorem const_ok {c : Const} {k : Nat} {p : Pos} {K : K2 V R} (h : @qc _ _ K σ (constV c) = some r) (S : St prog w h₀ μ s.heap σ) (P : PV prog w h₀ r K s μ Q) : wpAny (model prog w) A (eval (.Constant c k p) env) Q E s := by
  refine qcK h fun v hv h' => ?_
  clear h
  revert hv
  induction c using Const.casesOn with
  | none => exact fun hv => wpAny_Constant_none (P.here S h' (rmE (siE hv) (.none)))
  | bool b => exact fun hv => wpAny_Constant_bool (P.here S h' (rmE (siE hv) (.bool _)))
  | int i => exact fun hv => wpAny_Constant_int (P.here S h' (rmE (siE hv) (.int _ _)))
  | str x => exact fun hv => wpAny_Constant_str (P.here S h' (rmE (siE hv) (.str _ _)))
  | _ => exact fun hv => (noneX hv).elim
theorem un_ok {op : UnaryOp} {a v : V} {u : Value} {K : K2 V R} (hv : unV op a = some v) (h : K.k v σ = some r) (S : St prog w h₀ μ s.heap σ) (rm : RM μ s.heap a u) (P : PV prog w h₀ r K s μ Q) : wpAny (model prog w) A (unaryOp op u) Q E s := by
  induction op using PySem.UnaryOp.casesOn with
  | USub =>
    refine mapK hv fun i hi e => ?_
    obtain ⟨t, rfl⟩ := rm_int (rmE (asIntK hi) rm)
    exact neg_int (P.here S h (rmE e (.int _ _)))
  | Not =>
    refine mapK hv fun b hb e => ?_
    rw [rm_bool (rmE (boolK hb) rm)]
    exact not_of (wpAny_truthy_bool (P.here S h (rmE e (.bool _))))
  | _ => exact (noneX hv).elim
/-- a list just made, with its values -/
theorem newList_ok {own : Bool} {l : List V} {ws : List Value} {v : V} {σ' : Sto} {K : K2 V R} (hv : mk own (.lst l) σ = some (v, σ')) (h : K.k v σ' = some r) (S : St prog w h₀ μ s.heap σ) (rs : RMs μ s.heap l ws) (P : PV prog w h₀ r K s μ Q) :
    Q (.ref s.heap.objs.size) { s with heap := s.heap.push { cls := .type "list", data := .seq ws.toArray } } :=
  mk_ok (tk := s.toks) hv S (fun _ _ e => Heap.get?_push_of_some _ e) (size_none _) (Heap.get?_push_size _ rfl) rs fun v h' tk μ' e S' rm => P _ _ v h' tk μ' e S' rm h
theorem mul_ok {own : Bool} {l : List V} {b v : V} {ws : List Value} {K : K2 V R} {σ₂ σ₃ : Sto} {u : Value} {μ₁ μ₂ : List Addr} {h₁ h₂ : Heap} {tk₂ : Nat}
    (hv : mulV own l b σ₂ = some (v, σ₃)) (h : K.k v σ₃ = some r) (S₁ : St prog w h₀ μ₁ h₁ σ) (rs : RMs μ₁ h₁ l ws) (e₂ : Ext μ₁ (h₁.push { cls := .type "list", data := .seq ws.toArray }) μ₂ h₂) (S₂ : St prog w h₀ μ₂ h₂ σ₂) (rm : RM μ₂ h₂ b u)
    (P : PV prog w h₀ r K { s with heap := h₂, toks := tk₂ } μ₂ Q) : wpAny (model prog w) A (binaryOp .Mult (.ref h₁.objs.size) u) Q E { s with heap := h₂, toks := tk₂ } := by
  refine bindK hv fun k hk hv => iteK hv fun hc hv => ?_
  rw [mulOk_iff] at hc
  have ho : (h₁.push { cls := .type "list", data := .seq ws.toArray }).get? h₁.objs.size = some { cls := .type "list", data := .seq ws.toArray } := Heap.get?_push_size _ rfl
  have hnm : h₁.objs.size ∉ μ₁ := S₁.noAt (size_none _)
  have r₂ : RM μ₁ (h₁.push { cls := .type "list", data := .seq ws.toArray }) (.lst l) (.ref h₁.objs.size) := .lst ho rfl rfl hnm (grow_rms (fun b o e => Heap.get?_push_of_some _ e) rs)
  exact mulList_ok hv S₂ (fun a ea => Value.ref.inj ea ▸ ⟨_, _, e₂.1 _ _ ho (.inl hnm)⟩) hc.2.1 hc.2.2.1 hc.2.2.2 (e₂.rv r₂) (asIntK hk ▸ rm) fun v h' tk μ' e S' rm => P _ _ v h' tk μ' e S' rm h
theorem tupFromK {lo hi st : Option V} {l r : List V} (h : tupFrom lo hi st l = some r) : ∃ k : Nat, lo = some (.int k) ∧ hi = none ∧ st = none ∧ k ≤ l.length ∧ l.length ≤ sizeLine ∧ r = l.drop k := by
  refine iteK h fun hc h => andK hc fun h1 h2 => bindK h fun a ha h => bindK ha fun v hv ha => iteK h fun hb h => ?_
  obtain ⟨k, rfl⟩ := Int.eq_ofNat_of_zero_le hb.1
  exact ⟨k, hv.trans (congrArg some (asIntK ha)), Option.isNone_iff_eq_none.mp h1, Option.isNone_iff_eq_none.mp h2, Int.ofNat_le.mp hb.2.1, hb.2.2, (siE h).symm⟩
theorem slc_ok {own : Bool} {value slice : PySem.Expr} {o : V} {lo hi st : Option V} {v : V} {σ' : Sto} {K : K2 V R} {u a b c : Value} {x : Addr} (hv : slcV own o lo hi st σ = some (v, σ')) (h : K.k v σ' = some r) (S : St prog w h₀ μ s.heap σ) (rm : RM μ s.heap o u)
    (p1 : PartV lo a) (p2 : PartV hi b) (p3 : PartV st c) (hsl : s.heap.IsSliceOf x a b c) (P : PV prog w h₀ r K s μ Q) : wpAny (model prog w) A (subscriptTail value slice u (.ref x)) Q E s := by
  unfold slcV at hv
  cases ht : asTup o with
  | some l =>
    rw [ht] at hv
    refine mapK hv fun m hm he => ?_
    obtain ⟨k, rfl, rfl, rfl, hk, hsz, rfl⟩ := tupFromK hm
    rw [← (pairX he).1, ← (pairX he).2] at h
    obtain ⟨ta, ob, vs, n', rfl, q1, q2, q3, q4⟩ := rm_tup (asTupK ht ▸ rm)
    cases p2; cases p3
    cases p1 with
    | other _ _ hn => exact absurd rfl (hn _)
    | int _ t =>
      have hlen := q4.length
      rw [Array.length_toList] at hlen
      refine subTail (T := "tuple") ⟨_, q1, q2⟩ slot_tuple_getitem.lookup ?_
      by_cases hk0 : k = 0
      · subst hk0
        exact getItem_tuple_all ⟨_, q1, q2, _, q3⟩ hsl (P.here S h (.tup q1 q2 q3 q4))
      · refine getItem_tuple_from ⟨_, q1, q2, _, q3⟩ hsl (Nat.pos_of_ne_zero hk0) (hlen ▸ hk) ?_ (by have := sizeLine_eq; omega)
        have hk' : ∀ b o, s.heap.get? b = some o → (s.heap.push { cls := .type "tuple", data := .seq (vs.toList.drop k).toArray }).get? b = some o := fun b o e => Heap.get?_push_of_some _ e
        exact P _ _ _ _ _ μ (Ext.grow μ hk') (S.grow hk') (rm_newTup (by simpa using q4.drop k)) h
  | none =>
    rw [ht] at hv
    refine bindK hv fun l hl hv => iteK hv fun hsz hv => bindK hv fun m hm hv => ?_
    obtain ⟨a', vs, rfl, rs, hh⟩ := itemsOf_list hl S rm
    have hli : s.heap.IsList a' vs := hh.elim (fun hh => by rw [hh.2] at ht; cases ht) fun hh => hh.1
    have hlen := rs.length
    rw [Array.length_toList] at hlen
    obtain ⟨x1, y1, z1, i1, i2, i3, hz, rr⟩ := pick_ok hm rs p1 p2 p3
    refine subTail (T := "list") hli.typeIs list_getitem_lookup (wpAny_getItem_list_slice hli hsl i1 i2 i3 hz ?_ (by have := sizeLine_eq; omega))
    exact mk_ok (tk := s.toks) hv S (fun b o e => Heap.get?_push_of_some _ e) (size_none _) (Heap.get?_push_size _ rfl) rr fun v h' tk μ' e S' rm => P _ _ v h' tk μ' e S' rm h
theorem getT {o i x : V} {u : Value} (h : getV σ o i = some x) (S : St prog w h₀ μ s.heap σ) (rm : RM μ s.heap o u) : ∃ T id, s.TypeIs u T ∧ typeLookup (.type T) "__getitem__" = pure (some (.builtin id)) := by
  unfold getV at h
  split at h
  · refine bindK h fun its hi h => ?_
    obtain ⟨a, vs, rfl, rs, hh⟩ := itemsOf_list hi S rm
    exact hh.elim (fun ht => ⟨"tuple", _, Heap.IsTuple.typeIs ht.1, slot_tuple_getitem.lookup⟩) fun hl => ⟨"list", _, Heap.IsList.typeIs hl.1, list_getitem_lookup⟩
  · split at h
    · split at h
      · rename_i hl
        cases rm with
        | cell hk =>
          obtain ⟨kvs, hd, _⟩ := S.cells _ _ _ hk hl
          exact ⟨"dict", _, Heap.DictOf.typeIs hd, slot_dict_getitem.lookup⟩
      · cases h
    · cases h
  · cases h
theorem call_ok (ih : Snd prog w h₀ n) {own : Bool} {f : Str} {p p' : Pos} {args : List PySem.Expr} {K : K2 V R} (hp : args.all plainE = true) (hok : okG (Φ.glob f) = true) (h : @cL R Φ n args ρ σ ⟨fun vs σ => @calC R own vs σ (Φ.glob f) K⟩ = some r)
    (X : At prog w h₀ Φ ρ env A d n μ s.heap σ) (P : PV prog w h₀ r K s μ Q) : wpAny (model prog w) A (eval (.Call (.Name f p) args [] p') env) Q E s := by
  match hg : Φ.glob f, hok with
  | some (.fnP a g), _ =>
    refine wpAny_Call_NameR (glob_ok X.G X.F X.S hg (fun v hv => ?_) (fun V e => by cases e))
    obtain ⟨a, rfl, hf⟩ := hv
    obtain ⟨o, fd, ho, hd⟩ := hf.1
    refine callFn (o := o) (fd := fd) (starShape hp) (ih.l h X fun vs σ₁ xs h₁ tk₁ μ₁ e₁ S₁ r₁ h => ⟨⟨S₁.base _ _ ho, hd⟩, ?_⟩)
    rw [hg] at h
    exact pvK h fun v hv h => bindK hv fun ws h3 h4 => fnP_ok (s := { s with heap := h₁, toks := tk₁ }) X.A hf h3 h4 S₁ r₁ fun u h' tk μ' e' S' rm => P _ _ u h' tk μ' (e₁.trans S₁ e') S' rm h
  | some (.fnE a g), _ =>
    refine wpAny_Call_NameR (glob_ok X.G X.F X.S hg (fun v hv => ?_) (fun V e => by cases e))
    obtain ⟨a, rfl, hf⟩ := hv
    obtain ⟨o, fd, ho, hd⟩ := hf.1
    refine callFn (o := o) (fd := fd) (starShape hp) (ih.l h X fun vs σ₁ xs h₁ tk₁ μ₁ e₁ S₁ r₁ h => ⟨⟨S₁.base _ _ ho, hd⟩, ?_⟩)
    rw [hg] at h
    exact puK h fun v σ₂ hv h => fnE_ok (s := { s with heap := h₁, toks := tk₁ }) X.A hf hv S₁ r₁ fun u h' tk μ' e' S' rm => P _ _ u h' tk μ' (e₁.trans S₁ e') S' rm h
  | some (.bi id), _ =>
    refine wpAny_Call_NameR (glob_ok X.G X.F X.S hg (fun v (hv : v = .builtin id) => hv ▸ callBi (starShape hp) (ih.l h X fun vs σ₁ xs h₁ tk₁ μ₁ e₁ S₁ r₁ h => ?_)) (fun V e => by cases e))
    rw [hg] at h
    replace P := P.next (tk₁ := tk₁) e₁ S₁
    by_cases e1 : id = "len"
    · rw [e1]
      refine pvK ((if_pos e1).symm.trans h) fun v hv h => arg1K hv fun x hx hv => bindK hv fun l hl hv => iteK hv fun hz hv => ?_
      rw [hx] at r₁
      obtain ⟨u, rfl, r₂⟩ := inv1 r₁
      exact len_ok (s := { s with heap := h₁, toks := tk₁ }) hl (fits_iff.mp hz) S₁ r₂ fun t tk => P _ _ _ h₁ tk μ₁ (Ext.refl _ _) S₁ (rmE (siE hv) (.int _ _)) h
    · refine iteK ((if_neg e1).symm.trans h) fun e2 h => pvK h fun v hv h => arg2K hv fun x y hx hv => bindK hv fun a ha hv => bindK hv fun b hb hv => ?_
      rw [e2]
      rw [hx, asIntK ha, asIntK hb] at r₁
      obtain ⟨v1, v2, rfl, q1, q2⟩ := inv2 r₁
      obtain ⟨t1, rfl⟩ := rm_int q1
      obtain ⟨t2, rfl⟩ := rm_int q2
      rw [← siE hv] at h
      refine min_two_ints X.A.1 fun h' tk hk => ?_
      have P := fun u rm => P _ _ u h' tk μ₁ (Ext.grow μ₁ hk) (S₁.grow hk) rm h
      split
      · rename_i hlt; rw [if_pos hlt] at P; exact P _ (.int _ _)
      · rename_i hlt; rw [if_neg hlt] at P; exact P _ (.int _ _)
  | some (.ty id), _ =>
    refine glob_call ih hg hp h X fun vs σ₁ xs h₁ tk₁ μ₁ e₁ S₁ r₁ h => ?_
    rw [hg] at h
    replace P := P.next (tk₁ := tk₁) e₁ S₁
    by_cases e1 : id = "tuple"
    · rw [e1]
      refine pvK ((if_pos e1).symm.trans h) fun v hv h => arg1K hv fun x hx hv => bindK hv fun c hc hv => bindK hv fun l hl hv => iteK hv fun hz hv => ?_
      rw [hx, asCellK hc] at r₁
      obtain ⟨u, rfl, r₂⟩ := inv1 r₁
      rw [← siE hv] at h
      exact tupleOf_ok (s := { s with heap := h₁, toks := tk₁ }) hl hz S₁ r₂ fun v h'' tk' hk r' => P _ _ _ h'' tk' μ₁ (Ext.grow μ₁ hk) (S₁.grow hk) r' h
    · refine iteK ((if_neg e1).symm.trans h) fun e2 h => puK h fun v σ₂ hv h => arg1K hv fun x hx hv => bindK hv fun l hl hv => iteK hv fun hz hv => ?_
      rw [e2]
      rw [hx, asTupK hl] at r₁
      obtain ⟨u, rfl, r₂⟩ := inv1 r₁
      exact listOf_ok (s := { s with heap := h₁, toks := tk₁ }) hv hz S₁ r₂ fun v h'' tk' μ'' e₂ S₂ r' => P _ _ _ h'' tk' μ'' e₂ S₂ r' h

theorem snd_e (ih : Snd prog w h₀ n) {own : Bool} {e : PySem.Expr} {K : K2 V R} (h : @cE R Φ (n + 1) own e ρ σ K = some r) (X : At prog w h₀ Φ ρ env A d (n + 1) μ s.heap σ) (P : PV prog w h₀ r K s μ Q) : wpAny (model prog w) A (eval e env) Q E s := by
  have bin : ∀ l op r' p, @cE R Φ n false l ρ σ ⟨fun a σ => @cE R Φ n false r' ρ σ ⟨fun b σ => @qv _ _ K σ (binV op a b)⟩⟩ = some r → wpAny (model prog w) A (eval (.BinOp l op r' p) env) Q E s := fun l op r' p h =>
    wpAny_BinOp (ih.e h X.dn fun a σ₁ v₁ h₁ tk₁ μ₁ e₁ S₁ r₁ h => ih.e h (X.go' e₁ S₁) fun b σ₂ v₂ h₂ tk₂ μ₂ e₂ S₂ r₂ h => pvK h fun c hc h =>
      binV_ok hc (e₂.rv r₁) r₂ fun v h' tk hk rm => P _ _ v h' tk μ₂ ((e₁.trans S₁ e₂).trans S₂ (Ext.grow μ₂ hk)) (S₂.grow hk) rm h)
  have sub : ∀ v i p, @cE R Φ n false v ρ σ ⟨fun o σ => @cE R Φ n false i ρ σ ⟨fun i σ => @qv _ _ K σ (getV σ o i)⟩⟩ = some r → wpAny (model prog w) A (eval (.Subscript v i p) env) Q E s := fun v i p h =>
    Subscript_ (ih.e h X.dn fun a σ₁ v₁ h₁ tk₁ μ₁ e₁ S₁ r₁ h => ih.e h (X.go' e₁ S₁) fun b σ₂ v₂ h₂ tk₂ μ₂ e₂ S₂ r₂ h => pvK h fun x hx h =>
      (getT (s := { s with heap := h₂, toks := tk₂ }) hx S₂ (e₂.rv r₁)).elim fun T hT => hT.elim fun id hT =>
        subTail hT.1 hT.2 (getV_ok (s := { s with heap := h₂, toks := tk₂ }) hx S₂ (e₂.rv r₁) r₂ fun v tk rm => P _ _ v h₂ tk μ₂ (e₁.trans S₁ e₂) S₂ rm h))
  induction e using PySem.Expr.casesOn with
  | Constant c k p => exact const_ok h X.S P
  | Name x p =>
    refine gdK h fun hdb h => ?_
    have D : ∀ v, Φ.look ρ x = some v → K.k v σ = some r → wpAny (model prog w) A (eval (.Name x p) env) Q E s := fun v hv h => wpAny_Name (look_ok X.G X.F X.S hv fun u rm => P.here X.S h rm) (Bool.not_eq_true' _ |>.mp hdb)
    cases hl : isLocN Φ.names x with
    | true =>
      rw [hl] at h
      exact pvK h fun v hv => D v ((look_loc hl).trans hv)
    | false =>
      rw [hl] at h
      exact qcK h D
  | BinOp l op r' p =>
    induction l using PySem.Expr.casesOn with
    | List es q =>
      induction op using PySem.Operator.casesOn with
      | Mult =>
        refine wpAny_BinOp (wpAny_List (ih.l h X.dn fun l σ₁ vs h₁ tk₁ μ₁ e₁ S₁ r₁ h => ?_))
        have hk : ∀ b o, h₁.get? b = some o → (h₁.push { cls := .type "list", data := .seq vs.toArray }).get? b = some o := fun b o e => Heap.get?_push_of_some _ e
        have e₂ := e₁.trans S₁ (Ext.grow μ₁ hk)
        have S₂ := S₁.grow hk
        exact gdK h fun hl h => ⟨room hl r₁, ih.e h (s := { s with heap := h₁.push { cls := .type "list", data := .seq vs.toArray }, toks := tk₁ }) (X.go' e₂ S₂) fun b σ₂ v₂ h₂ tk₂ μ₂ e₃ S₃ r₂ h => puK h fun v σ₃ hv h => mul_ok hv h S₁ r₁ e₃ S₃ r₂ (P.next (e₂.trans S₂ e₃) S₃)⟩
      | _ => exact bin _ _ _ _ h
    | _ => exact bin _ _ _ _ h
  | UnaryOp op x p => exact wpAny_UnaryOp (ih.e h X.dn fun a σ₁ v₁ h₁ tk₁ μ₁ e₁ S₁ r₁ h => qcK h fun v hv h => un_ok hv h S₁ r₁ (P.next e₁ S₁))
  | BoolOp op vs p => exact ih.b h X.dn P
  | Compare l ops rs p =>
    match ops, rs, h with
    | [op], [r'], h =>
      exact gdK h fun hp h => wpAny_Compare1 (ih.e h X.dn fun a σ₁ v₁ h₁ tk₁ μ₁ e₁ S₁ r₁ h => ih.e h (X.go' e₁ S₁) fun b σ₂ v₂ h₂ tk₂ μ₂ e₂ S₂ r₂ h => pvK h fun c h3 h =>
        cmpV_ok X.A h3 S₂ (e₂.rv r₁) r₂ (P _ _ _ h₂ tk₂ μ₂ (e₁.trans S₁ e₂) S₂ (.bool _) h)) (notSet hp op)
    | [], _, h => exact (noneX h).elim
    | [_], [], h => exact (noneX h).elim
    | [_], _ :: _ :: _, h => exact (noneX h).elim
    | _ :: _ :: _, _, h => exact (noneX h).elim
  | IfExp t a b p =>
    refine wpAny_IfExp (ih.t h X.dn fun c σ₁ h₁ tk₁ μ₁ e₁ S₁ h => ?_)
    induction c using Bool.casesOn with
    | true => exact ih.e h (X.go' e₁ S₁) (P.next e₁ S₁)
    | false => exact ih.e h (X.go' e₁ S₁) (P.next e₁ S₁)
  | Tuple es k p => exact wpAny_Tuple (ih.l h X.dn fun vs σ₁ ws h₁ tk₁ μ₁ e₁ S₁ rs h => qcK h fun v hv h => gdK hv fun hl hv => ⟨room hl rs, (P.next e₁ S₁) _ _ _ _ tk₁ μ₁ (Ext.grow μ₁ fun _ _ e => Heap.get?_push_of_some _ e) (S₁.grow fun _ _ e => Heap.get?_push_of_some _ e) (rmE (siE hv) (rm_newTup rs)) h⟩)
  | List es p => exact wpAny_List (ih.l h X.dn fun vs σ₁ ws h₁ tk₁ μ₁ e₁ S₁ rs h => puK h fun v σ₂ hv h => gdK hv fun hl hv => ⟨room hl rs, newList_ok (s := { s with heap := h₁, toks := tk₁ }) hv h S₁ rs (P.next e₁ S₁)⟩)
  | Subscript v i p =>
    induction i using PySem.Expr.casesOn with
    | Slice lo' hi' st' q =>
      refine Subscript_ (ih.e h X.dn fun o σ₁ v₁ h₁ tk₁ μ₁ e₁ S₁ r₁ h => wpAny_Slice (ih.o h (X.go' e₁ S₁) fun lo σ₂ v₂ h₂ tk₂ μ₂ e₂ S₂ p₂ h => ?_))
      refine ih.o h (X.go' (e₁.trans S₁ e₂) S₂) fun hi σ₃ v₃ h₃ tk₃ μ₃ e₃ S₃ p₃ h => ?_
      have e₀ := (e₁.trans S₁ e₂).trans S₂ e₃
      refine ih.o h (X.go' e₀ S₃) fun st σ₄ v₄ h₄ tk₄ μ₄ e₄ S₄ p₄ h => puK h fun v σ₅ hv h => ?_
      have hk : ∀ b o, h₄.get? b = some o → (h₄.push { cls := .type "slice", data := .fields #[v₂, v₃, v₄] }).get? b = some o := fun b o e => Heap.get?_push_of_some _ e
      exact slc_ok (s := { s with heap := h₄.push { cls := .type "slice", data := .fields #[v₂, v₃, v₄] }, toks := tk₄ }) hv h (S₄.grow hk) (grow_rm hk (e₄.rv (e₃.rv (e₂.rv r₁)))) p₂ p₃ p₄ (Heap.IsSliceOf.new ..) (P.next ((e₀.trans S₃ e₄).trans S₄ (Ext.grow μ₄ hk)) (S₄.grow hk))
    | _ => exact sub _ _ _ h
  | Call f args kws p =>
    induction f using PySem.Expr.casesOn with
    | Name f q => exact gdK h fun hc h => andK hc fun hk hc => andK hc fun hp hg => isE hk ▸ call_ok ih hp hg h X.dn P
    | _ => exact (noneX h).elim
  | ListComp elt gens scope p =>
    rw [eval_ListComp]
    exact comp_ok ih h X.dn fun V σ' D C h' tk μ' hK e' S' r' hn hC hs h0 => by
      obtain ⟨m, hn⟩ := hn
      refine ⟨m, hn, fun h'' hsb => ?_⟩
      obtain ⟨o, es, ep, ho, hd, _⟩ := id hn
      have hd' : ∀ vs n, o.data ≠ .seq vs n := fun vs n e => by rw [hd] at e; cases e
      exact P _ _ _ h'' tk μ' (extBut_ext hsb.extBut e' hs) (S'.off_change hsb.extBut ho hd' hC h0) (rm_off hsb.extBut ho hd' r') hK
  | _ => exact (noneX h).elim
theorem snd_all : ∀ n, Snd prog w h₀ n
  | 0 => snd_zero
  | n + 1 =>
    have ih := snd_all n
    ⟨fun h _ _ _ _ _ _ _ X P => snd_e ih h X P, fun h _ _ _ _ _ _ _ _ X P => snd_l ih h X P, fun h _ _ _ _ _ _ _ X P => snd_o ih h X P,
     fun h _ _ _ _ _ _ _ _ X P => snd_b ih h X P, fun h _ _ _ _ _ _ _ X P => snd_t ih h X P, fun h _ _ _ _ _ _ _ X P => snd_ts ih h X P,
     fun h _ _ _ _ _ _ _ X P => snd_i ih h X P⟩
end
end Mine
end

section
open PySem PySem.W PyProof.Rows PySem.Calls
set_option autoImplicit false
set_option maxRecDepth 10000
namespace Mine

/-- as `Ext`, the frame's names beside -/
noncomputable def ExtL (L : Addr) (μ : List Addr) (h : Heap) (μ' : List Addr) (h' : Heap) : Prop :=
  (∀ b o, h.get? b = some o → b ≠ L → (b ∉ μ ∨ o.cls = .type "tuple") → h'.get? b = some o) ∧ μ <+: μ' ∧ ∀ a ∈ μ', a ∈ μ ∨ h.get? a = none

section
variable {L : Addr} {μ μ' μ'' : List Addr} {h h' h'' : Heap}
theorem Ext.toL (e : Ext μ h μ' h') : ExtL L μ h μ' h' := ⟨fun b o ho _ hb => e.1 b o ho hb, e.2⟩
theorem ExtL.refl : ExtL L μ h μ h := (Ext.refl μ h).toL
theorem ExtL.ofBut (hs : Heap.ExtBut L h h') : ExtL L μ h μ h' := ⟨fun b o ho hL _ => hs b o hL ho, List.prefix_rfl, fun _ ha => .inl ha⟩
theorem ExtL.trans {oL : Obj} (hL : h'.get? L = some oL) (x : ExtL L μ h μ' h') (y : ExtL L μ' h' μ'' h'') : ExtL L μ h μ'' h'' := by
  refine ⟨fun b o e hne hb => y.1 b o (x.1 b o e hne hb) hne ?_, x.2.1.trans y.2.1, fun a ha => ?_⟩
  · rcases hb with hb | hb
    · by_cases hm : b ∈ μ'
      · rcases x.2.2 b hm with h1 | h1
        · exact absurd h1 hb
        · rw [h1] at e; cases e
      · exact .inl hm
    · exact .inr hb
  · rcases y.2.2 a ha with h1 | h1
    · exact x.2.2 a h1
    · by_cases hm : a ∈ μ
      · exact .inl hm
      · right
        cases e : h.get? a with
        | none => rfl
        | some o =>
          by_cases hne : a = L
          · rw [hne, hL] at h1; cases h1
          · rw [x.1 a o e hne (.inl hm)] at h1; cases h1
end

theorem tripS {α β γ : Type} {a d : α} {b e : β} {c f : γ} (h : some (a, b, c) = some (d, e, f)) : a = d ∧ b = e ∧ c = f := by cases h; exact ⟨rfl, rfl, rfl⟩
inductive FlR (μ : List Addr) (h : Heap) : Fl → Flow → Prop
  | next : FlR μ h .next .next
  | cont : FlR μ h .cont .cont
  | brk : FlR μ h .brk .brk
  | ret {V : V} {v : Value} : RM μ h V v → FlR μ h (.ret V) (.ret v)

section
variable (prog : Program) (w : World) (h₀ : Heap)
noncomputable def PS (Φ : Cx) (env : Env) {R : Type} (r : R) (K : Ks R) (s : Shared) (μ : List Addr) (Q : Flow → Shared → Prop) : Prop :=
  ∀ fl ρ' σ' f h' tk μ', K.k fl ρ' σ' = some r → FlR μ' h' fl f → ExtL env.locals μ s.heap μ' h' → St prog w h₀ μ' h' σ' → FR h₀ Φ ρ' env μ' h' → Q f { s with heap := h', toks := tk }
noncomputable def SndS (n : Nat) : Prop := ∀ {R : Type} {r : R} {K : Ks R} {Φ : Cx} {st : Stmt} {ρ : Loc} {σ : Sto}, @cS R Φ n st ρ σ K = some r → ∀ {env : Env} {A : Around} {s : Shared} {μ : List Addr} {d : Nat} {Q : Flow → Shared → Prop} {E : Value → Shared → Prop},
    At prog w h₀ Φ ρ env A d n μ s.heap σ → PS prog w h₀ Φ env r K s μ Q → wpAny (model prog w) A (exec st env) Q E s
noncomputable def SndSs (n : Nat) : Prop := ∀ {R : Type} {r : R} {K : Ks R} {Φ : Cx} {st : List Stmt} {ρ : Loc} {σ : Sto}, @cSs R Φ n st ρ σ K = some r → ∀ {env : Env} {A : Around} {s : Shared} {μ : List Addr} {d : Nat} {Q : Flow → Shared → Prop} {E : Value → Shared → Prop},
    At prog w h₀ Φ ρ env A d n μ s.heap σ → PS prog w h₀ Φ env r K s μ Q → wpAny (model prog w) A (execs st env) Q E s
end

section
variable {prog : Program} {w : World} {h₀ : Heap}

theorem PS.next {R : Type} {r : R} {K : Ks R} {Φ : Cx} {env : Env} {s : Shared} {μ μ₁ : List Addr} {Q : Flow → Shared → Prop} {h₁ : Heap} {tk₁ : Nat} (P : PS prog w h₀ Φ env r K s μ Q) {oL : Obj} (hL : h₁.get? env.locals = some oL) (e : ExtL env.locals μ s.heap μ₁ h₁) :
    PS prog w h₀ Φ env r K { s with heap := h₁, toks := tk₁ } μ₁ Q := fun fl ρ' σ' f h' tk μ' hK r e' S' F' => P fl ρ' σ' f h' tk μ' hK r (e.trans hL e') S' F'
theorem FR.here {Φ : Cx} {ρ : Loc} {env : Env} {μ : List Addr} {h : Heap} (F : FR h₀ Φ ρ env μ h) : ∃ o, h.get? env.locals = some o := F.loc.elim fun o h => ⟨o, h.1⟩

/-- one turn of a for -/
theorem for_step {A : Around} {R : Result → Shared → Prop} {s : Shared} {target : PySem.Expr} {it : Value} {body : List Stmt} {env : Env}
    (turn : ∀ E : Value → Shared → Prop, wpAny (model prog w) A (pyNext it) (fun r s₁ => match r with
      | none => R (.ok .next) s₁
      | some v => wpAny (model prog w) A (letOwnedTupleGo target it v) (fun _ s₁ => wpAny (model prog w) A (assign target env v) (fun _ s₂ => wpAny (model prog w) A (execs body env) (fun f s₃ => match f with
          | .next => codeAny (model prog w) A (.forLoop target it body [] env) R s₃
          | .cont => codeAny (model prog w) A (.forLoop target it body [] env) R s₃
          | .brk => R (.ok .next) s₃
          | .ret v => R (.ok (.ret v)) s₃) E s₂) E s₁) E s₁) E s) : codeAny (model prog w) A (.forLoop target it body [] env) R s := by
  refine codeAny_of_tree ?_
  show wpAny _ A ((forTurn target it body [] env).onRaise (fun x => do noteFrame x env; theTreesLotGoes x)) _ _ s
  refine wpAny_noted ?_
  simp only [forTurn]
  refine wpAny_bind (wpAny_standAt (wpAny_bind (wpAny_onRaise (wpAny_mono (turn _) (fun r s₁ h₁ => ?_) fun _ _ h' => wpAny_standAt h'))))
  cases r with
  | none => exact wpAny_pure ⟨rfl, codeAny_block (wpAny_execs_nil h₁)⟩
  | some v =>
    refine wpAny_bind (wpAny_mono h₁ (fun _ s₁ h₁ => ?_) fun _ _ h' => h')
    refine wpAny_bind (wpAny_mono h₁ (fun _ s₂ h₂ => wpAny_bind (wpAny_mono h₂ (fun f s₃ h₃ => ?_) fun _ _ h' => h')) fun _ _ h' => h')
    cases f with
    | next => exact wpAny_pure ⟨rfl, h₃⟩
    | cont => exact wpAny_pure ⟨rfl, h₃⟩
    | brk => exact wpAny_pure h₃
    | ret v => exact wpAny_pure h₃

theorem FR.keep {Φ : Cx} {ρ : Loc} {env : Env} {μ wr : List Addr} {h h' : Heap} (F : FR h₀ Φ ρ env μ h) (K : Keep wr h h') (hw : ∀ b ∈ wr, ∀ o, h.get? b = some o → ∃ vs, o.data = .fields vs) (hL : env.locals ∉ wr) : FR h₀ Φ ρ env μ h' := by
  obtain ⟨m, hn, hm⟩ := F.ns
  refine ⟨F.kind, F.names, F.globals, F.builtins, ⟨m, hn.at' fun o e => K _ o hL e, fun x V hx => ?_⟩, F.off, F.out, fun x V hk hx => ?_⟩
  · obtain ⟨v, h1, h2⟩ := hm x V hx
    exact ⟨v, h1, keep_rm K (fun b hb o ho => fld_seq (hw b hb o ho)) h2⟩
  · obtain ⟨c, v, h1, ⟨o, ho, hd⟩, h3⟩ := F.cap x V hk hx
    refine ⟨c, v, h1, ⟨o, K c o (fun hb => ?_) ho, hd⟩, keep_rm K (fun b hb o ho => fld_seq (hw b hb o ho)) h3⟩
    obtain ⟨vs, e⟩ := hw c hb o ho
    rw [hd] at e; cases e

theorem keep_extL {L : Addr} {wr μ : List Addr} {h h' : Heap} (hk : Keep wr h h') {μp : List Addr} {hp : Heap} (e : ExtL L μp hp μ h) (hw : ∀ b ∈ wr, hp.get? b = none) : ExtL L μp hp μ h' :=
  ⟨fun b o ho hL hb => hk b o (fun hm => by rw [hw b hm] at ho; cases ho) (e.1 b o ho hL hb), e.2⟩

theorem loopF_still {src : Src} {f : V → Loc → Sto → Option (Fl × Loc × Sto)} {r : List V} {ρ : Loc} {σ : Sto} {x : Fl × Loc × Sto} (h : loopF src f r ρ σ = some x) : src.still σ := by
  induction r using List.casesOn with
  | nil => exact (iteX h).1
  | cons => exact (iteX h).1

theorem for_turns {n : Nat} (ih : SndSs prog w h₀ n) {Φ : Cx} {A : Around} {d : Nat} (hG : GOK prog w h₀ d Φ.G) (hA : AOk A d n) {env : Env} {μp : List Addr} {hp : Heap}
    {src : Src} {I : Addr} {fp wr : List Addr} {Rd : Sto → List Addr → Heap → Prop} {S' : Nat → Heap → Prop} {M : Nat → Value → Heap → Prop} (It : Iter prog w h₀ A I fp wr src Rd S' M)
    {tgt : PySem.Expr} {body : List Stmt} (ht : src.tup = true → isTup tgt = true) (hz : src.zip = false) (hfp : ∀ b ∈ fp, b ≠ env.locals ∧ h₀.get? b = none ∧ hp.get? b = none) {R : Result → Shared → Prop} {fl : Fl} {ρ' : Loc} {σ' : Sto} {s : Shared}
    (hR : ∀ g h' tk μ', FlR μ' h' fl g → ExtL env.locals μp hp μ' h' → St prog w h₀ μ' h' σ' → FR h₀ Φ ρ' env μ' h' → R (.ok g) { s with heap := h', toks := tk }) :
    ∀ (r : List V) (i : Nat) (ρ : Loc) (σ : Sto) (h : Heap) (tk : Nat) (μ : List Addr), src.items.drop i = r → i + r.length = src.items.length → loopF src (fFor Φ n tgt body) r ρ σ = some (fl, ρ', σ') → ExtL env.locals μp hp μ h → St prog w h₀ μ h σ → FR h₀ Φ ρ env μ h →
      S' i h → Rd σ μ h → (∀ b ∈ fp, b ∉ μ) → codeAny (model prog w) A (.forLoop tgt (.ref I) body [] env) R { s with heap := h, toks := tk } := by
  have hwr : ∀ (μ : List Addr), (∀ b ∈ fp, b ∉ μ) → ∀ b ∈ wr, b ∉ μ ∧ h₀.get? b = none := fun μ hfm b hb => ⟨hfm b (It.sub b hb), (hfp b (It.sub b hb)).2.1⟩
  have hwp : ∀ b ∈ wr, hp.get? b = none := fun b hb => (hfp b (It.sub b hb)).2.2
  have hwl : env.locals ∉ wr := fun hm => (hfp _ (It.sub _ hm)).1 rfl
  intro r
  induction r with
  | nil =>
    intro i ρ σ h tk μ hr hi h1 e S F st rd hfm
    obtain ⟨hst, h1⟩ := iteX h1
    have hi' : i = src.items.length := hi
    rw [hi'] at st
    refine for_step fun E => It.done μ σ { s with heap := h, toks := tk } _ _ st S rd fun h' tk K => ?_
    obtain ⟨e1, e2, e3⟩ := tripS h1
    exact hR _ h' tk μ (e1 ▸ .next) (keep_extL K e hwp) (e3 ▸ keep_st S K (hwr μ hfm) (.inl (It.noseq hz _ _ st))) (e2 ▸ F.keep K (It.fld hz _ _ st) hwl)
  | cons x r ihr =>
    intro i ρ σ h tk μ hr hi h1 e S F st rd hfm
    refine iteK h1 fun hst h1 => bindK h1 fun y h1 h2 => bindK h1 fun ρ₂ hb h1 => ?_
    have hx : src.items[i]? = some x := by
      have := congrArg (fun l => l[0]?) hr
      simpa using this
    have hr' : src.items.drop (i + 1) = r := by
      have := congrArg List.tail hr
      simpa using this
    have hi' : i + 1 + r.length = src.items.length := by rw [← hi, List.length_cons, Nat.add_assoc, Nat.add_comm 1]
    refine for_step fun E => It.item i μ σ { s with heap := h, toks := tk } x _ _ st S rd hx fun v h₁ tk₁ m₁ r₁ K => It.go i v tgt _ _ _ ht m₁ fun h₂ st₂ K₂ => ?_
    have S₁ : St prog w h₀ μ h₁ σ := keep_st S K (hwr μ hfm) (.inl (It.noseq hz _ _ st))
    have rd₁ : Rd σ μ h₁ := It.rdn _ _ _ _ _ _ rd (fun x v r => keep_rm K (It.noseq hz _ _ st) r) hst
    have hI : ∀ b ∈ [I], ∀ o, h₁.get? b = some o → ∃ vs, o.data = .fields vs := fun b hb o ho => by
      rw [List.mem_singleton.mp hb] at ho; exact It.fldI i v h₁ m₁ o ho
    have hI' : ∀ b ∈ [I], ∀ o, h₁.get? b = some o → ∀ vs n, o.data ≠ .seq vs n := fun b hb o ho => fld_seq (hI b hb o ho)
    have hIm : ∀ b ∈ [I], b ∉ μ ∧ h₀.get? b = none := fun b hb => by rw [List.mem_singleton.mp hb]; exact ⟨hfm I It.mem, (hfp I It.mem).2.1⟩
    have S₂ : St prog w h₀ μ h₂ σ := keep_st S₁ K₂ hIm (.inl hI')
    have rd₂ : Rd σ μ h₂ := It.rdn _ _ _ _ _ _ rd₁ (fun x v r => keep_rm K₂ hI' r) hst
    have e₂ : ExtL env.locals μp hp μ h₂ := keep_extL K₂ (keep_extL K e hwp) fun b hb => by rw [List.mem_singleton.mp hb]; exact (hfp I It.mem).2.2
    have F₂ : FR h₀ Φ ρ env μ h₂ := (F.keep K (It.fld hz _ _ st) hwl).keep K₂ hI fun hm => (hfp I It.mem).1 (List.mem_singleton.mp hm).symm
    have r₂ : RM μ h₂ x v := keep_rm K₂ hI' r₁
    clear hI hI' hIm K K₂ S₁ rd₁ r₁ hx hr hi e S F rd st
    refine bindT_ok (s := { s with heap := h₂, toks := tk₁ }) hA.1 hb F₂ r₂ fun h₃ tk₃ hs₃ F₃ => ?_
    have S₃ : St prog w h₀ μ h₃ σ := F₂.off_st S₂ hs₃
    have rd₃ : Rd σ μ h₃ := It.rdn _ _ _ _ _ _ rd₂ (fun x v r => F₂.off_rm hs₃ r) hst
    have e₃ : ExtL env.locals μp hp μ h₃ := ⟨fun b o ho hL hb => hs₃ b o hL (e₂.1 b o ho hL hb), e₂.2⟩
    have st₃ : S' (i + 1) h₃ := It.frame _ _ _ st₂ fun b hb o ho => hs₃ b o ((hfp b hb).1) ho
    clear hs₃ F₂ S₂ rd₂ e₂ st₂ r₂
    obtain ⟨oL, hoL, hdL, _⟩ := F₃.loc
    refine ih h1 (s := { s with heap := h₃, toks := tk₃ }) ⟨hG, F₃, S₃, hA⟩ fun fl₁ ρ₁ σ₁ g h₄ tk₄ μ₄ hy fr e₄ S₄ F₄ => ?_
    rw [← siE hy] at h2
    have e₅ : ExtL env.locals μp hp μ₄ h₄ := e₃.trans hoL e₄
    have next : loopF src (fFor Φ n tgt body) r ρ₁ σ₁ = some (fl, ρ', σ') → codeAny (model prog w) A (.forLoop tgt (.ref I) body [] env) R { s with heap := h₄, toks := tk₄ } := by
      intro h3
      have hrm : ∀ x v, RM μ h₃ x v → RM μ₄ h₄ x v := fun x v r => by
        refine RV.go (fun b o ho hq hc => ⟨e₄.1 b o ho ?_ (hc.elim .inr fun q => .inl q.2), fun hl hX hm => ?_⟩) (fun k a hk => prefix_get e₄.2.1 hk) r
        · rintro rfl; rw [hoL] at ho; cases ho; obtain ⟨vs, n, q⟩ := hq; exact hdL vs n q
        · rcases e₄.2.2 b hm with h1 | h1
          · exact hX h1
          · rw [h1] at ho; cases ho
      refine ihr (i + 1) ρ₁ σ₁ h₄ tk₄ μ₄ hr' hi' h3 e₅ S₄ F₄ (It.frame _ _ _ st₃ fun b hb o ho => e₄.1 b o ho (hfp b hb).1 (.inl (hfm b hb))) (It.rdn _ _ _ _ _ _ rd₃ hrm (loopF_still h3)) fun b hb hm => ?_
      rcases e₄.2.2 b hm with h5 | h5
      · exact hfm b hb h5
      · obtain ⟨o, ho⟩ := It.ex _ _ st₃ b hb
        rw [h5] at ho; cases ho
    have done : ∀ {fl₂ g'}, some (fl₂, ρ₁, σ₁) = some (fl, ρ', σ') → FlR μ₄ h₄ fl₂ g' → R (.ok g') { s with heap := h₄, toks := tk₄ } := fun h3 f => by
      obtain ⟨e1, e2, e3⟩ := tripS h3
      exact hR _ h₄ tk₄ μ₄ (e1 ▸ f) e₅ (e3 ▸ S₄) (e2 ▸ F₄)
    cases fr with
    | next => exact next h2
    | cont => exact next h2
    | brk => exact done h2 .next
    | ret rv => exact done h2 (.ret rv)

theorem while_turns {n : Nat} (ih : SndSs prog w h₀ n) {Φ : Cx} {A : Around} {d : Nat} (hG : GOK prog w h₀ d Φ.G) (hA : AOk A d n) {env : Env} {μp : List Addr} {hp : Heap} {t : PySem.Expr} {body : List Stmt}
    {R : Result → Shared → Prop} {fl : Fl} {ρ' : Loc} {σ' : Sto} {s : Shared}
    (hR : ∀ g h' tk μ', FlR μ' h' fl g → ExtL env.locals μp hp μ' h' → St prog w h₀ μ' h' σ' → FR h₀ Φ ρ' env μ' h' → R (.ok g) { s with heap := h', toks := tk }) :
    ∀ (k : Nat) (ρ : Loc) (σ : Sto) (h : Heap) (tk : Nat) (μ : List Addr), whileF (fun ρ σ => @cT (Bool × Sto) Φ n t ρ σ ⟨fun b σ => some (b, σ)⟩) (fun ρ σ => @cSs (Fl × Loc × Sto) Φ n body ρ σ kFl) k ρ σ = some (fl, ρ', σ') → ExtL env.locals μp hp μ h → St prog w h₀ μ h σ → FR h₀ Φ ρ env μ h →
      codeAny (model prog w) A (.whileLoop t body [] env) R { s with heap := h, toks := tk } := by
  generalize hT : (fun ρ σ => @cT (Bool × Sto) Φ n t ρ σ ⟨fun b σ => some (b, σ)⟩) = T
  generalize hB : (fun ρ σ => @cSs (Fl × Loc × Sto) Φ n body ρ σ kFl) = B
  intro k ρ σ h tk μ hw e S F
  refine codeAny_whileLoop (fun k s' => ∃ ρ σ h tk μ, s' = { s with heap := h, toks := tk } ∧ whileF T B k ρ σ = some (fl, ρ', σ') ∧ ExtL env.locals μp hp μ h ∧ St prog w h₀ μ h σ ∧ FR h₀ Φ ρ env μ h) ?_ k ⟨ρ, σ, h, tk, μ, rfl, hw, e, S, F⟩
  clear hw e S F
  rintro k s' ⟨ρ, σ, h, tk, μ, rfl, hw, e, S, F⟩
  induction k using Nat.casesOn with
  | zero => exact (noneX hw).elim
  | succ k =>
    refine bindK hw fun y h1 h2 => (snd_all n).t (s := { s with heap := h, toks := tk }) ((congrFun (congrFun hT ρ) σ).trans h1) ⟨hG, F, S, hA⟩ fun b σ₁ h₁ tk₁ μ₁ e₁ S₁ hy => ?_
    rw [← siE hy] at h2
    obtain ⟨oL, hoL⟩ := F.here
    have e₂ : ExtL env.locals μp hp μ₁ h₁ := e.trans hoL e₁.toL
    have F₁ := F.ext e₁ S
    have done : ∀ {fl₂ ρ₁ σ₂ g' h₂ tk₂ μ₂}, some (fl₂, ρ₁, σ₂) = some (fl, ρ', σ') → FlR μ₂ h₂ fl₂ g' → ExtL env.locals μp hp μ₂ h₂ → St prog w h₀ μ₂ h₂ σ₂ → FR h₀ Φ ρ₁ env μ₂ h₂ → R (.ok g') { s with heap := h₂, toks := tk₂ } := fun h3 f e S F => by
      obtain ⟨e1, e2, e3⟩ := tripS h3
      exact hR _ _ _ _ (e1 ▸ f) e (e3 ▸ S) (e2 ▸ F)
    induction b using Bool.casesOn with
    | false => exact wpAny_execs_nil (done h2 .next e₂ S₁ F₁)
    | true =>
      refine bindK h2 fun z h3 h4 => ?_
      obtain ⟨oL₁, hoL₁⟩ := F₁.here
      refine ih (s := { s with heap := h₁, toks := tk₁ }) ((congrFun (congrFun hB ρ) σ₁).trans h3) ⟨hG, F₁, S₁, hA⟩ fun fl₁ ρ₁ σ₂ g h₂ tk₂ μ₂ hz fr e₃ S₂ F₂ => ?_
      rw [← siE hz] at h4
      have e₄ := e₂.trans hoL₁ e₃
      cases fr with
      | next => exact ⟨k, Nat.lt_succ_self _, _, _, _, _, _, rfl, h4, e₄, S₂, F₂⟩
      | cont => exact ⟨k, Nat.lt_succ_self _, _, _, _, _, _, rfl, h4, e₄, S₂, F₂⟩
      | brk => exact done h4 .next e₄ S₂ F₂
      | ret rv => exact done h4 (.ret rv) e₄ S₂ F₂
end
end Mine
end

section
open PySem PySem.W PyProof.Rows PySem.Calls
set_option autoImplicit false
set_option maxRecDepth 10000
namespace Mine

section
variable {prog : Program} {w : World} {h₀ : Heap}

theorem carries_cons {vs : List (Value × Value)} {kvs : List (Str × Value)} {x : Str} {t : Tok} {v : Value} (h : Carries (PySem.strKind prog w) vs kvs) : Carries (PySem.strKind prog w) ((.str x t, v) :: vs) ((x, v) :: kvs) := ⟨is_self x t, rfl, h⟩

theorem lookup_some_of {x : Str} : ∀ (r : List (Str × V)) {p : Str × V}, p.1 = x → p ∈ r → (r.lookup x).isSome
  | [], _, _, hp => by cases hp
  | q :: r, p, hx, hp => by
    rw [List.lookup_cons]
    split
    · rfl
    · rename_i hb
      rcases List.mem_cons.mp hp with rfl | hp
      · rw [hx, beq_self_eq_true] at hb; cases hb
      · exact lookup_some_of r hx hp

theorem keyK {k : Option PySem.Expr} {x : Str} (h : keyOf k = some x) : ∃ kk pp, k = some (.Constant (.str x) kk pp) := by
  revert h
  induction k using Option.casesOn with
  | none => exact fun h => (noneX h).elim
  | some q =>
    induction q using PySem.Expr.casesOn with
    | Constant c kk pp =>
      induction c using Const.casesOn with
      | str x => exact fun h => siE h ▸ ⟨kk, pp, rfl⟩
      | _ => exact fun h => (noneX h).elim
    | _ => exact fun h => (noneX h).elim
theorem cD_ok {n : Nat} (ih : Snd prog w h₀ n) {Φ : Cx} {env : Env} {A : Around} {d : Nat} {ρ : Loc} {pos : Pos} : ∀ (ks : List (Option PySem.Expr)) (es : List PySem.Expr), dOk ks es = true →
    ∃ pairs : List (Sem Value × Sem Value), (evalEachOpt ks env).zip ((evalEach es env).map fun v => do let x ← v; standAt pos; pure x) = pairs.map (fun p => (some p.1, p.2)) ∧ pairs.length = ks.length ∧
      ∀ {R : Type} {r : R} {K : K2 (List (Str × V)) R} {σ : Sto} {s : Shared} {μ : List Addr} {Q : List (Value × Value) → Shared → Prop} {E : Value → Shared → Prop}, @cD R Φ n ks es ρ σ K = some r → At prog w h₀ Φ ρ env A d n μ s.heap σ →
        (∀ l σ' vs kvs h' tk μ', K.k l σ' = some r → l.length = ks.length → (l.map (·.1)).Nodup → Ext μ s.heap μ' h' → St prog w h₀ μ' h' σ' → Carries (PySem.strKind prog w) vs kvs → PairsRV (fun a => a ∈ μ') μ' h' l kvs → Q vs { s with heap := h', toks := tk }) → wpAny (model prog w) A (evalPairs pairs) Q E s := by
  intro ks
  induction ks with
  | nil =>
    intro es h
    induction es using List.casesOn with
    | nil => exact ⟨[], rfl, rfl, fun {R r K σ s μ Q E} h X P => evalPairs_nil (P [] _ [] [] s.heap s.toks μ h rfl List.nodup_nil (Ext.refl _ _) X.S trivial .nil)⟩
    | cons => cases h
  | cons k ks ihk =>
    intro es h
    induction es using List.casesOn with
    | nil => cases h
    | cons e es =>
      refine andK h fun h1 h2 => ?_
      obtain ⟨x, hx⟩ := Option.isSome_iff_exists.mp h1
      obtain ⟨kk, pp, rfl⟩ := keyK hx
      obtain ⟨pairs, e1, e2, e5⟩ := ihk es h2
      refine ⟨(eval (.Constant (.str x) kk pp) env, (do let x ← eval e env; standAt pos; pure x)) :: pairs, ?_, congrArg Nat.succ e2, ?_⟩
      · show _ :: _ = _ :: _
        rw [← e1]; rfl
      · intro R r K σ s μ Q E h X P
        refine evalPairs_cons (wpAny_Constant_str (wpAny_bind (ih.e h (s := { s with toks := s.toks + 1 }) X fun v σ₁ v₁ h₁ tk₁ μ₁ e₁ S₁ r₁ h => wpAny_bind (wpAny_standAt (wpAny_pure ?_)))))
        refine e5 h (s := { s with heap := h₁, toks := tk₁ }) (X.go e₁ S₁) fun l σ' vs kvs h' tk μ' h hl hn e' S' hc hp => gdK h fun hnone h => ?_
        refine P _ _ _ _ h' tk μ' h (congrArg Nat.succ hl) ?_ (e₁.trans S₁ e') S' (carries_cons hc) (.cons (e'.rv r₁) hp)
        rw [List.map_cons, List.nodup_cons]
        refine ⟨fun hm => ?_, hn⟩
        obtain ⟨p, hp, hx⟩ := List.mem_map.mp hm
        have := lookup_some_of l hx hp
        rw [Option.isNone_iff_eq_none.mp hnone] at this; cases this

theorem merged_nodup : ∀ (kvs : List (Str × Value)), (kvs.map (·.1)).Nodup → merged [] kvs = kvs := by
  have key : ∀ (kvs acc : List (Str × Value)), ((acc ++ kvs).map (·.1)).Nodup → merged acc kvs = acc ++ kvs := by
    intro kvs
    induction kvs with
    | nil => intro acc _; simp [merged]
    | cons p r ih =>
      intro acc hn
      have e : merged acc (p :: r) = merged (stored acc p.1 p.2) r := rfl
      have hno : acc.any (fun kv => kv.1 = p.1) = false := by
        rw [List.any_eq_false]
        intro kv hkv
        simp only [decide_eq_true_eq]
        intro e
        rw [List.map_append, List.nodup_append] at hn
        exact hn.2.2 kv.1 (List.mem_map.mpr ⟨kv, hkv, rfl⟩) p.1 (by simp) e
      have es : stored acc p.1 p.2 = acc ++ [p] := by unfold stored; rw [hno]; rfl
      rw [e, es, ih _ (by simpa using hn)]
      simp
  intro kvs hn
  simpa using key kvs [] (by simpa using hn)

/-- an object that is no sequence becomes a cell -/
theorem push2 {μ : List Addr} {h h' : Heap} {σ : Sto} {a : Addr} {c : Cell} {o : Obj} (S : St prog w h₀ μ h σ) (hs : Heap.ExtBut a h h') (ha : a ∉ μ) (h0 : h₀.get? a = none) (ho : h.get? a = some o) (hd : ∀ vs n, o.data ≠ .seq vs n)
    (hc : (∀ x v, RM μ h x v → RM (μ ++ [a]) h' x v) → CellAt prog w (μ ++ [a]) h' a c) : St prog w h₀ (μ ++ [a]) h' (σ ++ [c]) ∧ ∀ x v, RM μ h x v → RM (μ ++ [a]) h' x v := by
  have f : ∀ x v, RM μ h x v → RM (μ ++ [a]) h' x v := fun x v r => RV.go (fun b ob hb hq _ => by
    have hne : b ≠ a := by rintro rfl; rw [ho] at hb; cases hb; obtain ⟨vs, n, e⟩ := hq; exact hd vs n e
    exact ⟨hs b ob hne hb, fun _ hX hm => (List.mem_append.mp hm).elim hX fun e => hne (List.mem_singleton.mp e)⟩) (fun k b hk => prefix_get (List.prefix_append _ _) hk) r
  have fs : ∀ x v, RMs μ h x v → RMs (μ ++ [a]) h' x v := fun x v r => rvs_map r fun y _ u ru => f y u ru
  refine ⟨⟨fun b ob e => hs b ob (by rintro rfl; rw [h0] at e; cases e) (S.base b ob e), fun b hb => ?_, ?_, by simp [S.len], fun k b d h1 h2 => ?_⟩, f⟩
  · rcases List.mem_append.mp hb with h1 | h1
    · exact S.off b h1
    · rw [List.mem_singleton.mp h1]; exact h0
  · rw [List.nodup_append]
    exact ⟨S.nd, by simp, fun b hb d hd e => by rw [List.mem_singleton.mp hd] at e; exact ha (e ▸ hb)⟩
  · by_cases hlt : k < μ.length
    · rw [List.getElem?_append_left hlt] at h1
      rw [List.getElem?_append_left (S.len ▸ hlt)] at h2
      have hne : b ≠ a := fun e => ha (e ▸ List.mem_of_getElem? h1)
      have := S.cells k b d h1 h2
      cases d with
      | lst l => obtain ⟨n, vs, ho, r, hl⟩ := this; exact ⟨n, vs, hs _ _ hne ho, fs _ _ r, hl⟩
      | dct l => obtain ⟨kvs, ⟨o, es, ep, ho, r⟩, p, hl⟩ := this; exact ⟨kvs, ⟨o, es, ep, hs _ _ hne ho, r⟩, p.go (fun x v r => f x v r), hl⟩
    · have hk1 := (List.getElem?_eq_some_iff.mp h1).1
      have hk' : k = μ.length := by simp at hk1; omega
      subst hk'
      rw [List.getElem?_append_right (Nat.le_refl _)] at h1
      rw [S.len, List.getElem?_append_right (Nat.le_refl _)] at h2
      simp at h1 h2
      subst h1; subst h2; exact hc f
end
end Mine
end

section
open PySem PySem.W PyProof.Rows PySem.Calls
set_option autoImplicit false
set_option maxRecDepth 10000
namespace Mine

section
variable {prog : Program} {w : World} {h₀ : Heap} {R : Type} {r : R} {K : Ks R} {Φ : Cx} {ρ : Loc} {σ : Sto} {env : Env} {A : Around} {d n : Nat} {s : Shared} {μ : List Addr} {Q : Flow → Shared → Prop} {E : Value → Shared → Prop}

theorem FR.noInter {h : Heap} (F : FR h₀ Φ ρ env μ h) : interactive env = false := by
  unfold interactive; rw [F.kind]; rfl
theorem swaps_no {e : PySem.Expr} (he : notComp e = true) (t : Option PySem.Expr) (l : Nat) (env : Env) : swapsWith e t l env = pure false := by
  revert he
  induction e using PySem.Expr.casesOn with
  | ListComp => exact fun h => nomatch h
  | SetComp => exact fun h => nomatch h
  | DictComp => exact fun h => nomatch h
  | _ => exact fun _ => rfl
theorem swapsSole_no {e : PySem.Expr} (he : notComp e = true) (t : PySem.Expr) (l : Nat) (env : Env) : swapsWithSole [t] e l env = pure false := by
  revert he
  induction e using PySem.Expr.casesOn with
  | ListComp => exact fun h => nomatch h
  | SetComp => exact fun h => nomatch h
  | DictComp => exact fun h => nomatch h
  | _ => exact fun _ => rfl
theorem comp_of {R : Type} {r : R} {K : K2 V R} {own : Bool} {e : PySem.Expr} (h : @cE R Φ n own e ρ σ K = some r) (hl : ¬ notComp e = true) : ∃ a b c d, e = .ListComp a b c d := by
  revert h hl
  induction e using PySem.Expr.casesOn with
  | ListComp => exact fun _ _ => ⟨_, _, _, _, rfl⟩
  | SetComp => intro h; cases n <;> exact (noneX h).elim
  | DictComp => intro h; cases n <;> exact (noneX h).elim
  | _ => exact fun _ h => absurd rfl h
/-- an object that is no sequence, no cell and not this frame may change -/
theorem FR.off2 {h h' : Heap} (F : FR h₀ Φ ρ env μ h) {C : Addr} {o : Obj} (hs : Heap.ExtBut C h h') (hC : env.locals ≠ C) (ho : h.get? C = some o) (hd : ∀ vs n, o.data ≠ .seq vs n) (hc : ∀ v, o.data ≠ .cell v) : FR h₀ Φ ρ env μ h' := by
  obtain ⟨m, hn, hm⟩ := F.ns
  refine ⟨F.kind, F.names, F.globals, F.builtins, ⟨m, hn.extBut hs hC, fun x V hx => ?_⟩, F.off, F.out, fun x V hk hx => ?_⟩
  · obtain ⟨v, h1, h2⟩ := hm x V hx
    exact ⟨v, h1, rm_off hs ho hd h2⟩
  · obtain ⟨c, v, h1, ⟨oc, hoc, hdc⟩, h3⟩ := F.cap x V hk hx
    refine ⟨c, v, h1, ⟨oc, hs c oc ?_ hoc, hdc⟩, rm_off hs ho hd h3⟩
    rintro rfl
    rw [ho] at hoc; cases hoc; exact hc _ hdc
/-- a step's end where only values were made -/
theorem PS.ext {μ' : List Addr} {h' : Heap} {σ' : Sto} {tk : Nat} {fl : Fl} {f : Flow} (P : PS prog w h₀ Φ env r K s μ Q) (F : FR h₀ Φ ρ env μ s.heap) (S : St prog w h₀ μ s.heap σ) (e : Ext μ s.heap μ' h') (S' : St prog w h₀ μ' h' σ') (hK : K.k fl ρ σ' = some r) (hf : FlR μ' h' fl f) : Q f { s with heap := h', toks := tk } :=
  P fl ρ σ' f h' tk μ' hK hf e.toL S' (F.ext e S)
/-- a value kept under a name -/
theorem thenStore {x : Str} {V : V} {v : Value} {h₁ : Heap} {tk₁ : Nat} {μ₁ : List Addr} {σ' : Sto} (P : PS prog w h₀ Φ env r K s μ Q) (F : FR h₀ Φ ρ env μ s.heap) (S : St prog w h₀ μ s.heap σ) (hx : Φ.names.lookup x = some .local) (e₁ : Ext μ s.heap μ₁ h₁) (S₁ : St prog w h₀ μ₁ h₁ σ') (rm : RM μ₁ h₁ V v)
    (hK : K.k .next (lset ρ x V) σ' = some r) : wpAny (model prog w) A (storeName env x v) (fun _ => Q .next) E { s with heap := h₁, toks := tk₁ } := by
  have F₁ := F.ext e₁ S
  obtain ⟨oL, hoL⟩ := F₁.here
  exact store_ok (s := { s with heap := h₁, toks := tk₁ }) F₁ hx rm fun h' tk hs F' => P _ _ _ _ h' tk μ₁ hK .next (e₁.toL.trans hoL (ExtL.ofBut hs)) (F₁.off_st S₁ hs) F'
theorem items_cell {c : Nat} {l : List V} (h : itemsOf σ (.cell c) = some l) : ∃ l, σ[c]? = some (.lst l) := by
  unfold itemsOf at h
  simp only at h
  split at h
  · exact ⟨_, by assumption⟩
  · cases h
theorem append_ok (X : Snd prog w h₀ n) {o x : PySem.Expr} {m : Str} {apos pos spos : Pos} (hp : plainObj o = true) (hm : m = "append") (hl : apos.endLine = pos.line) (hx : plainE x = true)
    (h : @cE R Φ n false o ρ σ ⟨fun o σ => @qc _ _ ⟨fun c σ => @qc _ _ ⟨fun _ σ => @cE R Φ n false x ρ σ ⟨fun x σ => @ps _ K ρ (appV σ (.cell c) x)⟩⟩ σ (itemsOf σ (.cell c))⟩ σ (asCell o)⟩ = some r)
    (Y : At prog w h₀ Φ ρ env A d n μ s.heap σ) (P : PS prog w h₀ Φ env r K s μ Q) : wpAny (model prog w) A (exec (.Expr (.Call (.Attribute o m apos) [x] [] pos) spos) env) Q E s := by
  refine wpAny_Expr_any ?_ Y.F.noInter rfl
  have hst : backTo pos (starEach [x] env) = [(false, eval x env)] := by rw [starCons hx]; rfl
  rw [hm]
  refine wpAny_Call_append ?_ ?_ (by simp [hl]) hst ?_
  · revert hp
    induction o using PySem.Expr.casesOn with
    | Name => exact fun _ => rfl
    | Subscript => exact fun _ => rfl
    | _ => exact fun h => nomatch h
  · rw [hst]; rfl
  · refine X.e h Y fun ov σ₁ v₁ h₁ tk₁ μ₁ e₁ S₁ r₁ h => qcK h fun c hc h => qcK h fun its hit h => ?_
    obtain ⟨D, rfl, hk⟩ := rm_cell (rmE (asCellK hc) r₁)
    obtain ⟨l, hl⟩ := items_cell hit
    obtain ⟨m, vs, hob, _⟩ := S₁.cells _ _ _ hk hl
    refine ⟨D, vs, rfl, ⟨_, m, hob, rfl, rfl, rfl⟩, X.e h (s := { s with heap := h₁, toks := tk₁ }) (Y.go e₁ S₁) fun xv σ₂ v₂ h₂ tk₂ μ₂ e₂ S₂ r₂ h => psK h fun σ₃ h4 h => appV_ok h4 S₂ (prefix_get e₂.2.1 hk) r₂ fun h' tk e₃ S₃ => ?_⟩
    exact P.ext Y.F Y.S ((e₁.trans S₁ e₂).trans S₂ e₃) S₃ h .next
/-- a dict made and kept under a name -/
theorem dict_ok (X : Snd prog w h₀ n) {x : Str} {px pd spos : Pos} {ks : List (Option PySem.Expr)} {vs : List PySem.Expr} (hx : Φ.names.lookup x = some .local) (hk15 : ks.length ≤ 15) (hne : ks ≠ []) (hd : dOk ks vs = true)
    (h : @cD R Φ n ks vs ρ σ ⟨fun l σ => K.k .next (lset ρ x (.cell σ.length)) (σ ++ [.dct l])⟩ = some r) (Y : At prog w h₀ Φ ρ env A d n μ s.heap σ) (P : PS prog w h₀ Φ env r K s μ Q) : wpAny (model prog w) A (exec (.Assign [.Name x px] (.Dict ks vs pd) spos) env) Q E s := by
  obtain ⟨pairs, e1, e2, e5⟩ := cD_ok X (Φ := Φ) (env := env) (A := A) (d := d) (ρ := ρ) (pos := pd) ks vs hd
  refine wpAny_Assign_Name ?_ rfl
  refine wpAny_Dict_pairs (knd := PySem.strKind prog w) e1 (fun e => hne (List.eq_nil_of_length_eq_zero (by rw [← e2, e]; rfl))) (by rw [e2]; exact hk15) ?_
  have hk : ∀ b o, s.heap.get? b = some o → (s.heap.push { cls := .type "dict", data := .dict #[] }).get? b = some o := fun b o e => Heap.get?_push_of_some _ e
  have hD : (s.heap.push { cls := .type "dict", data := .dict #[] }).get? s.heap.objs.size = some { cls := .type "dict", data := .dict #[] } := Heap.get?_push_size _ rfl
  have fD : s.heap.get? s.heap.objs.size = none := size_none _
  have nD : s.heap.objs.size ∉ μ := Y.S.noAt fD
  refine e5 h (s := { s with heap := s.heap.push { cls := .type "dict", data := .dict #[] } }) ⟨Y.G, Y.F.grow hk, Y.S.grow hk, Y.A⟩ fun l σ' vs kvs h' tk μ' hK hl hn e' S' hcar hp => ⟨kvs, hcar, ?_, fun h'' hd'' hs => ?_⟩
  · obtain ⟨o, es, ep, ho, r⟩ := Heap.DictOf.new (knd := PySem.strKind prog w) s.heap
    exact ⟨o, es, ep, e'.1 _ _ ho (.inl nD), r⟩
  · have nD' : s.heap.objs.size ∉ μ' := e'.out nD hD
    have hkeys : (kvs.map (·.1)).Nodup := by rw [hp.keys]; exact hn
    rw [merged_nodup kvs hkeys] at hd''
    obtain ⟨S'', f⟩ := push2 (c := .dct l) S' hs.extBut nD' (none0 Y.S fD) (e'.1 _ _ hD (.inl nD)) (fun vs n e => by cases e) fun f => ⟨kvs, hd'', hp.go fun x v r => f x v r, by omega⟩
    have e'' : Ext μ s.heap (μ' ++ [s.heap.objs.size]) h'' := by
      refine ⟨fun b o ho hb => hs.extBut b o (fun e => by rw [e, fD] at ho; cases ho) (e'.1 b o (hk b o ho) hb), e'.2.1.trans (List.prefix_append _ _), fun a ha => ?_⟩
      rcases List.mem_append.mp ha with ha | ha
      · refine (e'.2.2 a ha).imp id fun h1 => ?_
        cases e : s.heap.get? a with
        | none => rfl
        | some o => rw [hk a o e] at h1; cases h1
      · rw [List.mem_singleton.mp ha]; exact .inr fD
    exact thenStore (s := s) P Y.F Y.S hx e'' S'' (.cell (by rw [← S'.len, List.getElem?_append_right (Nat.le_refl _), Nat.sub_self]; rfl)) hK
/-- a value kept under a name: a comprehension, it may be, that the name is given to at once -/
theorem name_ok (X : ∀ n, Snd prog w h₀ n) {x : Str} {px spos : Pos} {e : PySem.Expr} (hx : Φ.names.lookup x = some .local) (h : @cE R Φ n true e ρ σ ⟨fun v σ => K.k .next (lset ρ x v) σ⟩ = some r)
    (Y : At prog w h₀ Φ ρ env A d n μ s.heap σ) (P : PS prog w h₀ Φ env r K s μ Q) : wpAny (model prog w) A (exec (.Assign [.Name x px] e spos) env) Q E s := by
  have plain : swapsWith e (some (.Name x px)) spos.line env = pure false → wpAny (model prog w) A (exec (.Assign [.Name x px] e spos) env) Q E s := fun hb =>
    wpAny_Assign_Name ((X n).e h Y fun V σ' v h' tk μ' e S' rm hK => thenStore P Y.F Y.S hx e S' rm hK) hb
  by_cases hl : notComp e = true
  · exact plain (swaps_no hl _ _ _)
  obtain ⟨elt, gens, scope, cpos, rfl⟩ := comp_of h hl
  obtain ⟨b, hb⟩ : ∃ b, swapsWith (.ListComp elt gens scope cpos) (some (.Name x px)) spos.line env = pure b := ⟨_, rfl⟩
  induction b using Bool.casesOn with
  | false => exact plain hb
  | true =>
    clear plain
    rw [exec_Assign_Name_used _ _ _ _ hb]
    refine wpAny_bind (wpAny_standAt (wpAny_bind ?_))
    unfold evalThenUse
    refine wpAny_bind ?_
    induction n using Nat.casesOn with
    | zero => exact (noneX h).elim
    | succ n =>
    refine comp_ok (X n) h Y.dn fun V σ' D C h' tk μ' hK e' S' r' hn hC hs h0 => ?_
    obtain ⟨m, hn⟩ := hn
    have F₁ := Y.F.ext e' Y.S
    obtain ⟨oL, hoL⟩ := F₁.here
    have hne : env.locals ≠ C := by
      rintro rfl
      obtain ⟨o, ho⟩ := Y.F.here
      rw [hs] at ho; cases ho
    refine wpAny_assign_Name (store_ok (s := { s with heap := h', toks := tk }) F₁ hx r' fun h₂ tk₂ hs₂ F₂ => ?_)
    have hn₂ := hn.extBut hs₂ hne.symm
    refine ⟨m, hn₂, fun h₃ hs₃ => wpAny_pure (wpAny_pure ?_)⟩
    obtain ⟨o, es, ep, ho, hd, _⟩ := id hn₂
    have q1 : ∀ vs n, o.data ≠ .seq vs n := fun vs n e => by rw [hd] at e; cases e
    have q2 : ∀ v, o.data ≠ .cell v := fun v e => by rw [hd] at e; cases e
    refine P _ _ _ _ h₃ tk₂ μ' hK .next ?_ ((F₁.off_st S' hs₂).off_change hs₃.extBut ho q1 hC h0) (F₂.off2 hs₃.extBut hne ho q1 q2)
    obtain ⟨e1, e2, e3⟩ := e'.toL (L := env.locals).trans hoL (ExtL.ofBut hs₂)
    exact ⟨fun b o hb hL hm => hs₃.extBut b o (fun e => by rw [e, hs] at hb; cases hb) (e1 b o hb hL hm), e2, e3⟩
theorem tuple_ok (X : Snd prog w h₀ n) {es : List PySem.Expr} {k : Nat} {p spos : Pos} {e : PySem.Expr} (h1 : notComp e = true) (h2 : isTup e = false) (h : @cE R Φ n false e ρ σ ⟨fun v σ => @pl _ K σ (bindT Φ.names (.Tuple es k p) v ρ)⟩ = some r)
    (Y : At prog w h₀ Φ ρ env A d n μ s.heap σ) (P : PS prog w h₀ Φ env r K s μ Q) : wpAny (model prog w) A (exec (.Assign [.Tuple es k p] e spos) env) Q E s := by
  refine wpAny_Assign_stores (X.e h Y fun V σ₁ v h₁ tk₁ μ₁ e₁ S₁ rm h => plK h fun ρ₁ h2 hK => ?_) (swapsSole_no h1 _ _ _) ?_
  · have F₁ := Y.F.ext e₁ Y.S
    obtain ⟨oL, hoL⟩ := F₁.here
    exact bindT_ok (s := { s with heap := h₁, toks := tk₁ }) Y.A.1 h2 F₁ rm fun h' tk hs F' => P _ _ _ _ h' tk μ₁ hK .next (e₁.toL.trans hoL (ExtL.ofBut hs)) (F₁.off_st S₁ hs) F'
  · clear h
    unfold swappedStores
    revert h2
    induction e using PySem.Expr.casesOn with
    | Tuple => exact fun h => nomatch h
    | _ => exact fun _ => rfl
theorem item_ok (X : Snd prog w h₀ n) {o i e : PySem.Expr} {pt spos : Pos} (hc : notComp e = true) (h : @cE R Φ n false e ρ σ ⟨fun v σ => @cE R Φ n false o ρ σ ⟨fun o σ => @cE R Φ n false i ρ σ ⟨fun i σ => @ps _ K ρ (setV σ o i v)⟩⟩⟩ = some r)
    (Y : At prog w h₀ Φ ρ env A d n μ s.heap σ) (P : PS prog w h₀ Φ env r K s μ Q) : wpAny (model prog w) A (exec (.Assign [.Subscript o i pt] e spos) env) Q E s := by
  refine wpAny_Assign_Subscript (X.e h Y fun v σ₁ v₁ h₁ tk₁ μ₁ e₁ S₁ r₁ h => X.e h (s := { s with heap := h₁, toks := tk₁ }) (Y.go e₁ S₁) fun ov σ₂ v₂ h₂ tk₂ μ₂ e₂ S₂ r₂ h => ?_) (swaps_no hc _ _ _)
  have e₁₂ := e₁.trans S₁ e₂
  exact X.e h (s := { s with heap := h₂, toks := tk₂ }) (Y.go e₁₂ S₂) fun iv σ₃ v₃ h₃ tk₃ μ₃ e₃ S₃ r₃ h => psK h fun σ₄ h4 h => setV_ok h4 S₃ (e₃.rv r₂) r₃ (e₃.rv (e₂.rv r₁)) fun h' tk e₄ S₄ => P.ext Y.F Y.S ((e₁₂.trans S₂ e₃).trans S₃ e₄) S₄ h .next
/-- += and -= on ints -/
theorem aug_ok {op : Operator} {a b v : V} {va vb : Value} {Q : Value → Shared → Prop} (h : augV op a b = some v) (ra : RM μ s.heap a va) (rb : RM μ s.heap b vb) (hQ : ∀ u tk, RM μ s.heap v u → Q u { s with toks := tk }) : wpAny (model prog w) A (inplaceOp op va vb) Q E s := by
  refine bindK h fun x hx h => bindK h fun y hy h => ?_
  obtain ⟨t, rfl⟩ := rm_int (rmE (asIntK hx) ra)
  obtain ⟨u, rfl⟩ := rm_int (rmE (asIntK hy) rb)
  clear ra rb hx hy
  revert h
  induction op using PySem.Operator.casesOn with
  | Add => exact fun h => iadd_int (hQ _ _ (rmE (siE h) (.int _ _)))
  | Sub => exact fun h => isub_int (hQ _ _ (rmE (siE h) (.int _ _)))
  | _ => exact fun h => (noneX h).elim
theorem snd_s (ih : SndSs prog w h₀ n) {st : Stmt} (h : @cS R Φ (n + 1) st ρ σ K = some r) (Y : At prog w h₀ Φ ρ env A d (n + 1) μ s.heap σ) (P : PS prog w h₀ Φ env r K s μ Q) : wpAny (model prog w) A (exec st env) Q E s := by
  have X := snd_all (prog := prog) (w := w) (h₀ := h₀) n
  have Z := Y.dn
  induction st using PySem.Stmt.casesOn with
  | Return e p =>
    induction e using Option.casesOn with
    | none => exact (noneX h).elim
    | some e => exact wpAny_Return_some (X.e h Z fun V σ' v h' tk μ' e S' rm hK => P.ext Z.F Z.S e S' hK (.ret rm))
  | Continue p => exact wpAny_Continue (P.ext Z.F Z.S (Ext.refl _ _) Z.S h .cont)
  | Break p => exact wpAny_Break (P.ext Z.F Z.S (Ext.refl _ _) Z.S h .brk)
  | If t a b p =>
    refine wpAny_If (X.t h Z fun c σ₁ h₁ tk₁ μ₁ e₁ S₁ h => ?_)
    obtain ⟨oL, hoL⟩ := (Z.F.ext e₁ Z.S).here
    induction c using Bool.casesOn with
    | true => exact ih h (Z.go e₁ S₁) (P.next hoL e₁.toL)
    | false => exact ih h (Z.go e₁ S₁) (P.next hoL e₁.toL)
  | Expr e p =>
    induction e using PySem.Expr.casesOn with
    | Call f args kws pos =>
      induction f using PySem.Expr.casesOn with
      | Attribute o m apos =>
        match args, kws, h with
        | [x], [], h => exact gdK h fun hc h => andK hc fun hc h4 => andK hc fun hc h3 => andK hc fun h1 h2 => append_ok X h2 (eq_of_beq h1) (eq_of_beq h3) h4 h Z P
        | [], _, h => exact (noneX h).elim
        | _ :: _ :: _, _, h => exact (noneX h).elim
        | [_], _ :: _, h => exact (noneX h).elim
      | Name f q => exact wpAny_Expr_any (X.e h Z fun V σ' v h' tk μ' e S' rm hK => P.ext Z.F Z.S e S' hK .next) Z.F.noInter rfl
      | _ => exact (noneX h).elim
    | _ => exact (noneX h).elim
  | Assign ts e p =>
    match ts, h with
    | [t], h =>
      induction t using PySem.Expr.casesOn with
      | Name x px =>
        have D : ∀ e, gd (isLoc Φ x) (@cE R Φ n true e ρ σ ⟨fun v σ => K.k .next (lset ρ x v) σ⟩) = some r → wpAny (model prog w) A (exec (.Assign [.Name x px] e p) env) Q E s := fun e h => gdK h fun hx h => name_ok snd_all (locE hx) h Z P
        induction e using PySem.Expr.casesOn with
        | Dict ks vs pd => exact gdK h fun hc h => andK hc fun hx hc => andK hc fun h1 hc => andK hc fun h2 h3 => dict_ok X (locE hx) (Nat.le_of_ble_eq_true h1) (fun e => by rw [e] at h2; cases h2) h3 h Z P
        | _ => exact D _ h
      | Tuple es k pt => exact gdK h fun hc h => andK hc fun h1 h2 => tuple_ok X h1 (Bool.not_eq_true' _ |>.mp h2) h Z P
      | Subscript o i pt => exact gdK h fun hc h => item_ok X hc h Z P
      | _ => exact (noneX h).elim
    | [], h => exact (noneX h).elim
    | t :: _ :: _, h => induction t using PySem.Expr.casesOn <;> exact (noneX h).elim
  | AugAssign t op e p =>
    induction t using PySem.Expr.casesOn with
    | Name x px =>
      exact gdK h fun hx h => wpAny_AugAssign_Name (pvK h fun a h1 h => look_ok Z.G Z.F Z.S ((look_loc hx).trans h1) fun v rm => X.e h Z fun b σ₂ v₂ h₂ tk₂ μ₂ e₂ S₂ r₂ h => qcK h fun c hc hK =>
        aug_ok (s := { s with heap := h₂, toks := tk₂ }) hc (e₂.rv rm) r₂ fun u tk rc => thenStore (s := s) P Z.F Z.S (locE hx) e₂ S₂ rc hK)
    | Subscript o i pt =>
      refine gdK h fun hp h => wpAny_AugAssign_SubscriptAny (X.e h Z fun ov σ₁ v₁ h₁ tk₁ μ₁ e₁ S₁ r₁ h => X.e h (s := { s with heap := h₁, toks := tk₁ }) (Z.go e₁ S₁) fun iv σ₂ v₂ h₂ tk₂ μ₂ e₂ S₂ r₂ h => ?_) (notSlice hp)
      have e₁₂ := e₁.trans S₁ e₂
      refine pvK h fun a h3 h => getV_ok h3 S₂ (e₂.rv r₁) r₂ fun old tk ro => X.e h (s := { s with heap := h₂, toks := tk }) (Z.go e₁₂ S₂) fun b σ₃ v₃ h₃ tk₃ μ₃ e₃ S₃ r₃ h => qcK h fun c hc h => psK h fun σ₄ h4 hK => ?_
      exact aug_ok (s := { s with heap := h₃, toks := tk₃ }) hc (e₃.rv ro) r₃ fun u tk' rc => setV_ok (s := { s with heap := h₃, toks := tk' }) h4 S₃ (e₃.rv (e₂.rv r₁)) (e₃.rv r₂) rc fun h' tk'' e₄ S₄ => P.ext Z.F Z.S ((e₁₂.trans S₂ e₃).trans S₃ e₄) S₄ hK .next
    | _ => exact (noneX h).elim
  | For tgt iter body orelse p =>
    induction orelse using List.casesOn with
    | cons => exact (noneX h).elim
    | nil =>
      refine pSK h fun fl ρ' σ' h hK => wpAny_For (X.i h Z fun src σ₁ h2 I fp wr Rd S' M h₁ tk₁ μ₁ e₁ S₁ It st₁ rd₁ still₁ hfp => gdK h2 fun hc h2 => ?_) (notSetI h env)
      have hc := Bool.and_eq_true_iff.mp hc
      refine for_turns ih Z.G Z.A It (orE hc.1) (Bool.not_eq_true' _ |>.mp hc.2) (fun b hb => ⟨?_, none0 Z.S (hfp b hb).1, (hfp b hb).1⟩) (fun g h' tk μ' rm e' S'' F' => P _ _ _ g h' tk μ' hK rm e' S'' F') src.items 0 _ _ h₁ tk₁ μ₁ rfl (Nat.zero_add _) h2 e₁.toL S₁ (Z.F.ext e₁ Z.S) st₁ rd₁ fun b hb => (hfp b hb).2
      rintro rfl
      obtain ⟨o, ho⟩ := Z.F.here
      rw [(hfp _ hb).1] at ho; cases ho
  | While t body orelse p =>
    induction orelse using List.casesOn with
    | cons => exact (noneX h).elim
    | nil => exact pSK h fun fl ρ' σ' h hK => wpAny_While (while_turns ih Z.G Z.A (fun g h' tk μ' rm e' S' F' => P _ _ _ g h' tk μ' hK rm e' S' F') 1000 ρ σ s.heap s.toks μ h (Ext.refl _ _).toL Z.S Z.F)
  | _ => exact (noneX h).elim
theorem snd_ss (ih : SndSs prog w h₀ n) (ihs : SndS prog w h₀ n) {st : List Stmt} (h : @cSs R Φ (n + 1) st ρ σ K = some r) (Y : At prog w h₀ Φ ρ env A d (n + 1) μ s.heap σ) (P : PS prog w h₀ Φ env r K s μ Q) : wpAny (model prog w) A (execs st env) Q E s := by
  induction st using List.casesOn with
  | nil => exact wpAny_execs_nil (P.ext Y.F Y.S (Ext.refl _ _) Y.S h .next)
  | cons st l =>
    refine wpAny_execs_cons (ihs h Y.dn fun fl ρ₁ σ₁ f h₁ tk₁ μ₁ h2 fr e₁ S₁ F₁ => ?_)
    obtain ⟨oL, hoL⟩ := F₁.here
    cases fr with
    | next => exact ih h2 ⟨Y.G, F₁, S₁, Y.A.succ⟩ (P.next hoL e₁)
    | cont => exact P _ _ _ _ h₁ tk₁ μ₁ h2 .cont e₁ S₁ F₁
    | brk => exact P _ _ _ _ h₁ tk₁ μ₁ h2 .brk e₁ S₁ F₁
    | ret rm => exact P _ _ _ _ h₁ tk₁ μ₁ h2 (.ret rm) e₁ S₁ F₁
theorem snd_stmts : ∀ n, SndS prog w h₀ n ∧ SndSs prog w h₀ n
  | 0 => by
    refine ⟨fun h => (noneX h).elim, ?_⟩
    intro R r K Φ st ρ σ h env A s μ d Q E X P
    match st, h with
    | [], h => exact wpAny_execs_nil (P.ext X.F X.S (Ext.refl _ _) X.S h .next)
    | _ :: _, h => exact (noneX h).elim
  | n + 1 => ⟨fun h _ _ _ _ _ _ _ Y P => snd_s (snd_stmts n).2 h Y P, fun h _ _ _ _ _ _ _ Y P => snd_ss (snd_stmts n).2 (snd_stmts n).1 h Y P⟩
end
end Mine
end

section
open PySem PySem.W PyProof.Rows PySem.Calls
set_option autoImplicit false
set_option maxRecDepth 10000
namespace Mine

/-- the function object at `a` is `F` -/
structure FnAt (h₀ : Heap) (a : Addr) (F : Fn) : Prop where
  ex : ∃ o fd, h₀.get? a = some o ∧ o.data = .func fd ∧ h₀.CodeRec fd.code fd.qualname ∧ fd.body = .stmts F.body ∧ fd.closure = [] ∧ fd.scope.names = F.names ∧ fd.scope.kind = .function ∧
    fd.scope.isCoroutine = false ∧ fd.scope.isGenerator = false ∧ fd.globals = mainGlobals ∧ fd.builtins = builtinsNs ∧ (∀ vals : List Value, vals.length = F.params.length → bindArgs fd ⟨vals, []⟩ = pure (F.params.zip vals))
  lim : h₀.NoLimit
  par : ∀ x ∈ F.params, F.names.lookup x = some .local ∨ F.names.lookup x = some .cell
  nd : F.params.Nodup

theorem cells_look (names : List (Str × NameKind)) : ∀ (n : Nat) (acc : List (Str × Addr)) (x : Str), ((x, NameKind.cell) ∈ names ∨ (acc.lookup x).isSome = true) → ((cellsFrom n names acc).lookup x).isSome = true := by
  induction names with
  | nil => exact fun n acc x h => h.elim (fun h => by cases h) id
  | cons p r ih =>
    obtain ⟨y, k⟩ := p
    intro n acc x h
    rw [cellsFrom]
    split
    · rename_i hk
      refine ih _ _ x (h.elim (fun h => (List.mem_cons.mp h).elim (fun e => ?_) .inl) fun h => .inr ?_)
      · cases e; right; rw [List.lookup_cons, beq_self_eq_true]; rfl
      · rw [List.lookup_cons]
        split
        · rfl
        · exact h
    · rename_i hk
      exact ih _ _ x (h.elim (fun h => (List.mem_cons.mp h).elim (fun e => by cases e; exact absurd rfl hk) .inl) .inr)

section
variable {μ : List Addr} {h : Heap}

theorem bindL_not {k : Str → Option NameKind} (ps : List Str) : ∀ (vs : List Value) (m : Str → Option Value) (x : Str), x ∉ ps → bindL k (ps.zip vs) m x = m x := by
  induction ps with
  | nil => exact fun _ _ _ _ => rfl
  | cons p ps ih =>
    intro vs m x hx
    cases vs with
    | nil => rfl
    | cons v vs =>
      rw [List.mem_cons, not_or] at hx
      rw [List.zip_cons_cons, bindL, ih vs _ x hx.2]
      split
      · exact if_neg hx.1
      · rfl
theorem bindC_not {k : Str → Option NameKind} (ps : List Str) : ∀ (vs : List Value) (m : Str → Option Value) (x : Str), x ∉ ps → bindC k (ps.zip vs) m x = m x := by
  induction ps with
  | nil => exact fun _ _ _ _ => rfl
  | cons p ps ih =>
    intro vs m x hx
    cases vs with
    | nil => rfl
    | cons v vs =>
      rw [List.mem_cons, not_or] at hx
      rw [List.zip_cons_cons, bindC, ih vs _ x hx.2]
      split
      · rfl
      · exact if_neg hx.1
theorem mem_zip_look {α : Type} : ∀ {ps : List Str} {Vs : List α} {x : Str} {V : α} {f : Str × α → Bool}, ((ps.zip Vs).filter f).lookup x = some V → x ∈ ps ∧ f (x, V) = true := by
  intro ps Vs x V f h
  have := mem_of_lookup h
  rw [List.mem_filter] at this
  exact ⟨(List.of_mem_zip this.1).1, this.2⟩

theorem bindL_ok {k : Str → Option NameKind} {ps : List Str} : ∀ {Vs : List V} {vs : List Value}, RMs μ h Vs vs → ps.Nodup → ∀ (m : Str → Option Value) (x : Str) (V : Mine.V),
    ((ps.zip Vs).filter fun p => k p.1 = some .local).lookup x = some V → ∃ v, bindL k (ps.zip vs) m x = some v ∧ RM μ h V v := by
  induction ps with
  | nil => intro _ _ _ _ _ _ _ hx; cases hx
  | cons p ps ih =>
    intro _ _ r hn m x V hx
    cases r with
    | nil => cases hx
    | cons r rs =>
      rw [List.nodup_cons] at hn
      rw [List.zip_cons_cons, bindL]
      rw [List.zip_cons_cons, List.filter_cons] at hx
      by_cases hp : k p = some .local
      · simp only [hp, decide_true, if_true] at hx ⊢
        rw [List.lookup_cons] at hx
        by_cases e : x = p
        · subst e
          rw [beq_self_eq_true] at hx
          cases hx
          exact ⟨_, by rw [bindL_not _ _ _ _ hn.1]; simp, r⟩
        · rw [beq_eq_false_iff_ne.mpr e] at hx
          exact ih rs hn.2 _ x V hx
      · simp only [hp, decide_false, Bool.false_eq_true, if_false] at hx ⊢
        exact ih rs hn.2 _ x V hx
theorem bindC_ok {k : Str → Option NameKind} {ps : List Str} : ∀ {Vs : List V} {vs : List Value}, RMs μ h Vs vs → ps.Nodup → ∀ (m : Str → Option Value) (x : Str) (V : Mine.V),
    ((ps.zip Vs).filter fun p => k p.1 = some .cell).lookup x = some V → ∃ v, bindC k (ps.zip vs) m x = some v ∧ RM μ h V v := by
  induction ps with
  | nil => intro _ _ _ _ _ _ _ hx; cases hx
  | cons p ps ih =>
    intro _ _ r hn m x V hx
    cases r with
    | nil => cases hx
    | cons r rs =>
      rw [List.nodup_cons] at hn
      rw [List.zip_cons_cons, bindC]
      rw [List.zip_cons_cons, List.filter_cons] at hx
      by_cases hp : k p = some .cell
      · have hnl : ¬ k p = some .local := by rw [hp]; decide
        simp only [hp, decide_true, if_true] at hx ⊢
        rw [List.lookup_cons] at hx
        by_cases e : x = p
        · subst e
          rw [beq_self_eq_true] at hx
          cases hx
          exact ⟨_, by rw [bindC_not _ _ _ _ hn.1]; simp, r⟩
        · rw [beq_eq_false_iff_ne.mpr e] at hx
          exact ih rs hn.2 _ x V hx
      · simp only [hp, decide_false, Bool.false_eq_true, if_false] at hx ⊢
        exact ih rs hn.2 _ x V hx
end

section
variable {prog : Program} {w : World} {h₀ : Heap}

theorem run_ok {a : Addr} {F : Fn} (hF : FnAt h₀ a F) {d n : Nat} {G : Str → Option GV} (hG : GOK prog w h₀ d G) (hn : n ≤ 150) {A : Around} {s : Shared} {μ : List Addr} {σ : Sto} {vs : List Value} {Vs : List V} {T : Type} {t : T} {K : Ks T} {R : Result → Shared → Prop}
    (hA : AOk A (d + 1) 0) (S : St prog w h₀ μ s.heap σ) (r : RMs μ s.heap Vs vs) (hlen : F.params.length = Vs.length) (hr : @cSs T (F.cx G Vs) n F.body (F.loc Vs) σ K = some t) (hc : ∀ ρ σ, K.k .cont ρ σ = none) (hb : ∀ ρ σ, K.k .brk ρ σ = none)
    (hR : ∀ V fl ρ' σ' v h' tk μ', (fl = .ret V ∨ (fl = .next ∧ V = .none)) → K.k fl ρ' σ' = some t → Ext μ s.heap μ' h' → St prog w h₀ μ' h' σ' → RM μ' h' V v → R (.ok (.ret v)) { s with heap := h', toks := tk }) :
    codeAny (model prog w) A (.call (.ref a) ⟨vs, []⟩) R s := by
  obtain ⟨o, fd, ho, hd, hcode, hbody, hclo, hnames, hkind, hco, hgen, hgl, hbu, hbind⟩ := hF.ex
  have hl : vs.length = F.params.length := by rw [r.length, hlen]
  have hlim : s.heap.NoLimit := by obtain ⟨mc, x, y⟩ := hF.lim; exact ⟨mc, x.keeps S.base, y⟩
  refine codeAny_call_cells (o := o) (fd := fd) (body := F.body) (binds := F.params.zip vs) (by have := hA.2.1; have : recursionLimit = 1000 := rfl; omega) (S.base _ _ ho) hd hlim (hcode.keeps S.base) hbody (hbind vs hl) hclo (fun x hx => ?_) (fun s₁ ic => ?_) hco hgen hkind
  · have hp := (List.of_mem_zip (show (x.1, x.2) ∈ _ from hx)).1
    rw [hnames]
    exact (hF.par _ hp).imp id fun h => ⟨h, cells_look _ _ _ _ (.inl (mem_of_lookup h))⟩
  · obtain ⟨⟨h₁, tk, rfl⟩, ns, keep, fresh⟩ := ic.toInCall
    have hL : s.heap.get? s.heap.objs.size = none := size_none _
    have hk : ∀ x, (callEnvC fd s.heap.objs.size a).kindOf x = F.names.lookup x := fun x => by rw [← hnames]; rfl
    have hloc : (callEnvC fd s.heap.objs.size a).locals = s.heap.objs.size := rfl
    have r₁ : RMs μ h₁ Vs vs := grow_rms keep r
    have S₁ : St prog w h₀ μ h₁ σ := S.grow keep
    have Fr : FR h₀ (F.cx G Vs) (F.loc Vs) (callEnvC fd s.heap.objs.size a) μ h₁ := by
      refine ⟨hkind, fun x k hx => .inl ((hk x).trans hx), hgl, hbu, ⟨_, ns, fun x V hx => ?_⟩, none0 S hL, S.noAt hL, fun x V _ hx => ?_⟩
      · refine bindL_ok r₁ hF.nd _ x V ?_
        simp only [hk]; exact hx
      · obtain ⟨hp, hc⟩ := mem_zip_look hx
        have hc : F.names.lookup x = some .cell := by simpa using hc
        obtain ⟨c, hcl⟩ := Option.isSome_iff_exists.mp (cells_look fd.scope.names (s.heap.objs.size + 1) [] x (.inl (mem_of_lookup (hnames ▸ hc))))
        obtain ⟨v, hv, rv⟩ := bindC_ok (k := (callEnvC fd s.heap.objs.size a).kindOf) r₁ hF.nd (fun _ => none) x V (by simp only [hk]; exact hx)
        exact ⟨c, v, hcl, hv ▸ ic.cell x c hcl, rv⟩
    refine (snd_stmts n).2 (d := d) hr ⟨hG, Fr, S₁, hA.1, ?_, ?_⟩ fun fl ρ' σ' f h' tk' μ' hK fr e' S' F' => ?_
    · have := hA.2.1; show A.depth + 1 + d ≤ 900; omega
    · have := hA.2.2; show A.units + 3 + 200 * d + n ≤ 9000; omega
    · have e : Ext μ s.heap μ' h' := by
        refine ⟨fun b o hb hm => e'.1 b o (keep b o hb) (fun e => by rw [e, hloc, hL] at hb; cases hb) hm, e'.2.1, fun b hb => (e'.2.2 b hb).imp id fun h1 => ?_⟩
        cases e : s.heap.get? b with
        | none => rfl
        | some o => rw [keep b o e] at h1; cases h1
      cases fr with
      | next => exact hR .none _ _ _ _ h' tk' μ' (.inr ⟨rfl, rfl⟩) hK e S' .none
      | cont => exact (noneX ((hc _ _).symm.trans hK)).elim
      | brk => exact (noneX ((hb _ _).symm.trans hK)).elim
      | ret rv => exact hR _ _ _ _ _ h' tk' μ' (.inl rfl) hK e S' rv

theorem eff_ok {a : Addr} {F : Fn} (hF : FnAt h₀ a F) {d n : Nat} {G : Str → Option GV} (hG : GOK prog w h₀ d G) (hn : n ≤ 150) : EffOK prog w h₀ (d + 1) a (F.run G n) := by
  refine ⟨hF.ex.elim fun o h => h.elim fun fd h => ⟨o, fd, h.1, h.2.1⟩, fun A s μ σ σ' vs Vs V R hA S r hr hR => iteK hr fun hl hr => run_ok hF hG hn hA S r hl hr (fun _ _ => rfl) (fun _ _ => rfl) fun U fl ρ' σ₁ v h' tk μ' hfl hK e S' rv => ?_⟩
  rcases hfl with rfl | ⟨rfl, rfl⟩
  · exact hR v h' tk μ' e ((someX hK).2 ▸ S') (rmE (someX hK).1 rv)
  · exact hR v h' tk μ' e ((someX hK).2 ▸ S') (rmE (someX hK).1 rv)

theorem tame_rv {X Y : Addr → Prop} {μ μ' : List Addr} {h : Heap} {n : Nat} : ∀ {x : V} {v : Value}, RV X μ h x v → x.tame n = true → RV Y μ' h x v := by
  induction n with
  | zero =>
    intro x v r ht
    cases r with
    | none => exact .none
    | bool b => exact .bool b
    | int i t => exact .int i t
    | str s t => exact .str s t
    | _ => exact (Bool.false_ne_true ht).elim
  | succ n ih =>
    intro x v r ht
    cases r with
    | none => exact .none
    | bool b => exact .bool b
    | int i t => exact .int i t
    | str s t => exact .str s t
    | tup ho hc hd hr => exact .tup ho hc hd (rvs_map hr fun y hy v r => ih r (List.all_eq_true.mp ht y hy))
    | _ => exact (Bool.false_ne_true ht).elim
theorem tame_rvs {X Y : Addr → Prop} {μ μ' : List Addr} {h : Heap} {n : Nat} {x : List V} {v : List Value} (r : RVs X μ h x v) (ht : ∀ y ∈ x, y.tame n = true) : RVs Y μ' h x v := rvs_map r fun y hy v r => tame_rv r (ht y hy)

theorem frz1_ok {μ' : List Addr} {h h' : Heap} {σ' : Sto} {x y : V} {v : Value} (S' : St prog w h₀ μ' h' σ') (e : Ext [] h μ' h') (hx : frz1 σ' x = some y) (r : RM μ' h' x v) : RV (fun a => (h.get? a).isSome) [] h' y v := by
  unfold frz1 at hx
  split at hx
  · rename_i k
    split at hx
    · rename_i l hl
      split at hx
      · rename_i ht
        cases hx
        cases r with
        | @cell _ a hk =>
        obtain ⟨n, vs, ho, rs, _⟩ := S'.cells _ _ _ hk hl
        refine .lst ho rfl rfl (fun hX => ?_) (tame_rvs (n := 4) rs (by simpa using ht))
        rcases e.2.2 a (List.mem_of_getElem? hk) with h1 | h1
        · cases h1
        · rw [h1] at hX; cases hX
      · cases hx
    · cases hx
  · split at hx
    · rename_i ht; cases hx; exact tame_rv r ht
    · cases hx
theorem frzs_ok {μ' : List Addr} {h h' : Heap} {σ' : Sto} (S' : St prog w h₀ μ' h' σ') (e : Ext [] h μ' h') {x : List V} : ∀ {y : List V} {v : List Value}, frzs σ' x = some y → RMs μ' h' x v → RVs (fun a => (h.get? a).isSome) [] h' y v := by
  induction x with
  | nil => intro _ _ hx r; cases hx; cases r; exact .nil
  | cons a l ih =>
    intro y _ hx r
    cases r with
    | cons r1 r2 => exact bindK hx fun b h1 hx => mapK hx fun m h2 hx => hx ▸ .cons (frz1_ok S' e h1 r1) (ih h2 r2)
theorem frz_ok {μ' : List Addr} {h h' : Heap} {σ' : Sto} {x y : V} {v : Value} (S' : St prog w h₀ μ' h' σ') (e : Ext [] h μ' h') (hx : frz σ' x = some y) (r : RM μ' h' x v) : RV (fun a => (h.get? a).isSome) [] h' y v := by
  unfold frz at hx
  split at hx
  · simp only [Option.map_eq_some_iff] at hx
    obtain ⟨m, h2, rfl⟩ := hx
    cases r with
    | tup ho hc hd hr => exact .tup ho hc hd (frzs_ok S' e h2 hr)
  · exact frz1_ok S' e hx r

theorem pure_ok {a : Addr} {F : Fn} (hF : FnAt h₀ a F) {d n : Nat} {G : Str → Option GV} (hG : GOK prog w h₀ d G) (hn : n ≤ 150) : PureOK prog w h₀ (d + 1) a (F.runP G n) := by
  refine ⟨hF.ex.elim fun o h => h.elim fun fd h => ⟨o, fd, h.1, h.2.1⟩, fun A s vs Vs V R hA hb r hr hR => iteK hr fun hl hr => ?_⟩
  have S : St prog w h₀ [] s.heap [] := ⟨hb, (fun a ha => by cases ha), List.nodup_nil, rfl, (fun k a c hk _ => by cases hk)⟩
  have r' : RMs [] s.heap Vs vs := RVs.go (fun b o ho _ _ => ⟨ho, fun _ _ hm => by cases hm⟩) (fun k a hk => hk) r
  refine run_ok hF hG hn hA S r' hl hr (fun _ _ => rfl) (fun _ _ => rfl) fun U fl ρ' σ₁ v h' tk μ' hfl hK e S' rv => hR v h' tk (fun b o ho => e.1 b o ho (.inl List.not_mem_nil)) ?_
  rcases hfl with rfl | ⟨rfl, rfl⟩
  · exact frz_ok S' e hK rv
  · exact frz_ok S' e hK rv
end
end Mine
end

section
open PySem PySem.W PyProof.Rows PySem.Calls
set_option autoImplicit false
set_option maxRecDepth 100000
set_option warn.classDefReducibility false
namespace Mine
theorem small_of {a : Int} (h : -1000000 < a) (h' : a < 1000000) : small a = true := by rw [small_iff]; omega
theorem idx_of {a : Int} (h : 0 ≤ a) (h' : a < 1000000) : idx a = true := by rw [idx_iff]; omega
theorem fits_of {n : Nat} (h : n ≤ 1000000) : fits n = true := by rw [fits_iff]; omega
theorem divOk_of {b : Int} (h : 0 < b) (h' : b < 1000000) : divOk b = true := by rw [divOk_iff]; omega
theorem mulOk_of {n : Nat} (h : n ≤ 1000000) : mulOk 1 n = true := by rw [mulOk_iff]; simp; omega
/-- a continuation that simp leaves alone till its turn has come -/
class Kt (α β : Type) where
  k : α → Option β
class Km (α β : Type) where
  k : α → β
noncomputable def bd {α β : Type} [c : Kt α β] (x : Option α) : Option β := x.bind c.k
noncomputable def mp {α β : Type} [c : Km α β] (x : Option α) : Option β := x.map c.k
@[simp] theorem bdS {α β : Type} {v : α} {f : α → Option β} : @bd _ _ (Kt.mk f) (some v) = f v := rfl
@[simp] theorem bdN {α β : Type} {f : α → Option β} : @bd _ _ (Kt.mk f) none = none := rfl
@[simp] theorem mpS {α β : Type} {v : α} {f : α → β} : @mp _ _ (Km.mk f) (some v) = some (f v) := rfl
@[simp] theorem mpN {α β : Type} {f : α → β} : @mp _ _ (Km.mk f) none = none := rfl
section
variable {α R : Type} {K : K2 α R} {J : Ks R} {σ : Sto} {ρ : Loc}
@[simp] theorem gdT {x : Option R} : gd true x = x := rfl
@[simp] theorem gdF {x : Option R} : gd false x = none := rfl
/-- no proof by rfl, so that simp says where it went through -/
theorem by0 {α : Type} {a b : α} (h : a = b) : a = b := h
@[simp] theorem qvS {a : α} : @qv _ _ K σ (some a) = @ap _ _ K σ a := by0 (opq_eq _)
@[simp] theorem qvN : @qv _ _ K σ none = none := by0 (opq_eq _)
@[simp] theorem qcS {a : α} : @qc _ _ K σ (some a) = @ap _ _ K σ a := rfl
@[simp] theorem qcN : @qc _ _ K σ none = none := rfl
@[simp] theorem puS {a : α} : @pu _ _ K (some (a, σ)) = @ap _ _ K σ a := by0 (opq_eq _)
@[simp] theorem puN : @pu _ _ K none = none := by0 (opq_eq _)
@[simp] theorem psS : @ps _ J ρ (some σ) = @aps _ J .next ρ σ := by0 (opq_eq _)
@[simp] theorem psN : @ps _ J ρ none = none := by0 (opq_eq _)
@[simp] theorem plS : @pl _ J σ (some ρ) = @aps _ J .next ρ σ := rfl
@[simp] theorem plN : @pl _ J σ none = none := rfl
@[simp] theorem pSS {fl : Fl} : @pS _ J (some (fl, ρ, σ)) = @aps _ J fl ρ σ := by0 (opq_eq _)
@[simp] theorem pSN : @pS _ J none = none := by0 (opq_eq _)
end
section
variable {R : Type} {Φ : Cx} {n : Nat} {own : Bool} {ρ : Loc} {σ : Sto}

@[simp ↓] theorem xConst {K : K2 V R} {c : Const} {k : _} {p : Pos} : @cE R Φ (n + 1) own (.Constant c k p) ρ σ K = @qc _ _ K σ (constV c) := rfl
noncomputable def kBin2 (op : Operator) (a : V) (K : K2 V R) : K2 V R := ⟨fun b σ => @qv _ _ K σ (binV op a b)⟩
@[simp ↓] theorem aBin2 {op : Operator} {a : V} {K : K2 V R} {b : V} : @ap _ _ (kBin2 op a K) σ b = @qv _ _ K σ (binV op a b) := rfl
noncomputable def kBin1 (Φ : Cx) (n : Nat) (op : Operator) (r : PySem.Expr) (ρ : Loc) (K : K2 V R) : K2 V R := ⟨fun a σ => @cE R Φ n false r ρ σ (kBin2 op a K)⟩
@[simp ↓] theorem aBin1 {Φ : Cx} {n : Nat} {op : Operator} {r : PySem.Expr} {ρ : Loc} {K : K2 V R} {a : V} : @ap _ _ (kBin1 Φ n op r ρ K) σ a = @cE R Φ n false r ρ σ (kBin2 op a K) := rfl
@[simp ↓] theorem xBinNm {K : K2 V R} {y : Str} {q : Pos} {op : Operator} {r : PySem.Expr} {p : Pos} : @cE R Φ (n + 1) own (.BinOp (.Name y q) op r p) ρ σ K = @cE R Φ n false (.Name y q) ρ σ (kBin1 Φ n op r ρ K) := rfl
@[simp ↓] theorem xBinSb {K : K2 V R} {a b : PySem.Expr} {q : Pos} {op : Operator} {r : PySem.Expr} {p : Pos} : @cE R Φ (n + 1) own (.BinOp (.Subscript a b q) op r p) ρ σ K = @cE R Φ n false (.Subscript a b q) ρ σ (kBin1 Φ n op r ρ K) := rfl
@[simp ↓] theorem xBinCa {K : K2 V R} {f : PySem.Expr} {args : List PySem.Expr} {kws : List Keyword} {q : Pos} {op : Operator} {r : PySem.Expr} {p : Pos} : @cE R Φ (n + 1) own (.BinOp (.Call f args kws q) op r p) ρ σ K = @cE R Φ n false (.Call f args kws q) ρ σ (kBin1 Φ n op r ρ K) := rfl
@[simp ↓] theorem xBinBo {K : K2 V R} {a b : PySem.Expr} {op2 : Operator} {q : Pos} {op : Operator} {r : PySem.Expr} {p : Pos} : @cE R Φ (n + 1) own (.BinOp (.BinOp a op2 b q) op r p) ρ σ K = @cE R Φ n false (.BinOp a op2 b q) ρ σ (kBin1 Φ n op r ρ K) := rfl
@[simp ↓] theorem xBinCn {K : K2 V R} {c : Const} {k : _} {q : Pos} {op : Operator} {r : PySem.Expr} {p : Pos} : @cE R Φ (n + 1) own (.BinOp (.Constant c k q) op r p) ρ σ K = @cE R Φ n false (.Constant c k q) ρ σ (kBin1 Φ n op r ρ K) := rfl
@[simp ↓] theorem xBinIf {K : K2 V R} {a b c : PySem.Expr} {q : Pos} {op : Operator} {r : PySem.Expr} {p : Pos} : @cE R Φ (n + 1) own (.BinOp (.IfExp a b c q) op r p) ρ σ K = @cE R Φ n false (.IfExp a b c q) ρ σ (kBin1 Φ n op r ρ K) := rfl
noncomputable def kMul2 (own : Bool) (l : List V) (K : K2 V R) : K2 V R := ⟨fun b σ => @pu _ _ K (mulV own l b σ)⟩
@[simp ↓] theorem aMul2 {own : Bool} {l : List V} {K : K2 V R} {b : V} : @ap _ _ (kMul2 own l K) σ b = @pu _ _ K (mulV own l b σ) := rfl
noncomputable def kMul1 (Φ : Cx) (n : Nat) (own : Bool) (r : PySem.Expr) (ρ : Loc) (K : K2 V R) : K2 (List V) R := ⟨fun l σ => gd (Nat.ble l.length 100) (@cE R Φ n false r ρ σ (kMul2 own l K))⟩
@[simp ↓] theorem aMul1 {Φ : Cx} {n : Nat} {own : Bool} {r : PySem.Expr} {ρ : Loc} {K : K2 V R} {l : (List V)} : @ap _ _ (kMul1 Φ n own r ρ K) σ l = gd (Nat.ble l.length 100) (@cE R Φ n false r ρ σ (kMul2 own l K)) := rfl
@[simp ↓] theorem xMul {K : K2 V R} {es : List PySem.Expr} {r : PySem.Expr} {p q : Pos} : @cE R Φ (n + 1) own (.BinOp (.List es q) .Mult r p) ρ σ K = @cL R Φ n es ρ σ (kMul1 Φ n own r ρ K) := rfl
noncomputable def kUn (op : UnaryOp) (K : K2 V R) : K2 V R := ⟨fun a σ => @qc _ _ K σ (unV op a)⟩
@[simp ↓] theorem aUn {op : UnaryOp} {K : K2 V R} {a : V} : @ap _ _ (kUn op K) σ a = @qc _ _ K σ (unV op a) := rfl
@[simp ↓] theorem xUn {K : K2 V R} {op : UnaryOp} {x : PySem.Expr} {p : Pos} : @cE R Φ (n + 1) own (.UnaryOp op x p) ρ σ K = @cE R Φ n false x ρ σ (kUn op K) := rfl
@[simp ↓] theorem xBoolOp {K : K2 V R} {op : BoolOp} {vs : List PySem.Expr} {p : Pos} : @cE R Φ (n + 1) own (.BoolOp op vs p) ρ σ K = @cB R Φ n op vs ρ σ K := rfl
noncomputable def kCmp3 (K : K2 V R) : K2 Bool R := ⟨fun c σ => @ap _ _ K σ (.bool c)⟩
@[simp ↓] theorem aCmp3  {K : K2 V R} {c : Bool} : @ap _ _ (kCmp3 K) σ c = @ap _ _ K σ (.bool c) := rfl
noncomputable def kCmp2 (op : CmpOp) (a : V) (K : K2 V R) : K2 V R := ⟨fun b σ => @qv _ _ (kCmp3 K) σ (cmpV σ op a b)⟩
@[simp ↓] theorem aCmp2 {op : CmpOp} {a : V} {K : K2 V R} {b : V} : @ap _ _ (kCmp2 op a K) σ b = @qv _ _ (kCmp3 K) σ (cmpV σ op a b) := rfl
noncomputable def kCmp1 (Φ : Cx) (n : Nat) (op : CmpOp) (r : PySem.Expr) (ρ : Loc) (K : K2 V R) : K2 V R := ⟨fun a σ => @cE R Φ n false r ρ σ (kCmp2 op a K)⟩
@[simp ↓] theorem aCmp1 {Φ : Cx} {n : Nat} {op : CmpOp} {r : PySem.Expr} {ρ : Loc} {K : K2 V R} {a : V} : @ap _ _ (kCmp1 Φ n op r ρ K) σ a = @cE R Φ n false r ρ σ (kCmp2 op a K) := rfl
@[simp ↓] theorem xCmp {K : K2 V R} {op : CmpOp} {l r : PySem.Expr} {p : Pos} : @cE R Φ (n + 1) own (.Compare l [op] [r] p) ρ σ K = gd (plainE r) (@cE R Φ n false l ρ σ (kCmp1 Φ n op r ρ K)) := rfl
noncomputable def kIfE (Φ : Cx) (n : Nat) (a b : PySem.Expr) (ρ : Loc) (K : K2 V R) : K2 Bool R := ⟨fun c σ => bif c then @cE R Φ n false a ρ σ K else @cE R Φ n false b ρ σ K⟩
@[simp] theorem aIfET {K : K2 V R} {a b : PySem.Expr} : @ap _ _ (kIfE Φ n a b ρ K) σ true = @cE R Φ n false a ρ σ K := rfl
@[simp] theorem aIfEF {K : K2 V R} {a b : PySem.Expr} : @ap _ _ (kIfE Φ n a b ρ K) σ false = @cE R Φ n false b ρ σ K := rfl
@[simp ↓] theorem xIf {K : K2 V R} {t a b : PySem.Expr} {p : Pos} : @cE R Φ (n + 1) own (.IfExp t a b p) ρ σ K = @cT R Φ n t ρ σ (kIfE Φ n a b ρ K) := rfl
noncomputable def kTup (K : K2 V R) : K2 (List V) R := ⟨fun vs σ => @qc _ _ K σ (tupV vs)⟩
@[simp ↓] theorem aTup  {K : K2 V R} {vs : (List V)} : @ap _ _ (kTup K) σ vs = @qc _ _ K σ (tupV vs) := rfl
@[simp ↓] theorem xTuple {K : K2 V R} {es : List PySem.Expr} {k : _} {p : Pos} : @cE R Φ (n + 1) own (.Tuple es k p) ρ σ K = @cL R Φ n es ρ σ (kTup K) := rfl
noncomputable def kLst (own : Bool) (K : K2 V R) : K2 (List V) R := ⟨fun vs σ => @pu _ _ K (lstV own vs σ)⟩
@[simp ↓] theorem aLst {own : Bool} {K : K2 V R} {vs : (List V)} : @ap _ _ (kLst own K) σ vs = @pu _ _ K (lstV own vs σ) := rfl
@[simp ↓] theorem xList {K : K2 V R} {es : List PySem.Expr} {p : Pos} : @cE R Φ (n + 1) own (.List es p) ρ σ K = @cL R Φ n es ρ σ (kLst own K) := rfl
noncomputable def kSl4 (own : Bool) (o : V) (lo hi : Option V) (K : K2 V R) : K2 (Option V) R := ⟨fun st σ => @pu _ _ K (slcV own o lo hi st σ)⟩
@[simp ↓] theorem aSl4 {own : Bool} {o : V} {lo hi : Option V} {K : K2 V R} {st : (Option V)} : @ap _ _ (kSl4 own o lo hi K) σ st = @pu _ _ K (slcV own o lo hi st σ) := rfl
noncomputable def kSl3 (Φ : Cx) (n : Nat) (own : Bool) (o : V) (lo : Option V) (st : Option PySem.Expr) (ρ : Loc) (K : K2 V R) : K2 (Option V) R := ⟨fun hi σ => @cO R Φ n st ρ σ (kSl4 own o lo hi K)⟩
@[simp ↓] theorem aSl3 {Φ : Cx} {n : Nat} {own : Bool} {o : V} {lo : Option V} {st : Option PySem.Expr} {ρ : Loc} {K : K2 V R} {hi : (Option V)} : @ap _ _ (kSl3 Φ n own o lo st ρ K) σ hi = @cO R Φ n st ρ σ (kSl4 own o lo hi K) := rfl
noncomputable def kSl2 (Φ : Cx) (n : Nat) (own : Bool) (o : V) (hi st : Option PySem.Expr) (ρ : Loc) (K : K2 V R) : K2 (Option V) R := ⟨fun lo σ => @cO R Φ n hi ρ σ (kSl3 Φ n own o lo st ρ K)⟩
@[simp ↓] theorem aSl2 {Φ : Cx} {n : Nat} {own : Bool} {o : V} {hi st : Option PySem.Expr} {ρ : Loc} {K : K2 V R} {lo : (Option V)} : @ap _ _ (kSl2 Φ n own o hi st ρ K) σ lo = @cO R Φ n hi ρ σ (kSl3 Φ n own o lo st ρ K) := rfl
noncomputable def kSl1 (Φ : Cx) (n : Nat) (own : Bool) (lo hi st : Option PySem.Expr) (ρ : Loc) (K : K2 V R) : K2 V R := ⟨fun o σ => @cO R Φ n lo ρ σ (kSl2 Φ n own o hi st ρ K)⟩
@[simp ↓] theorem aSl1 {Φ : Cx} {n : Nat} {own : Bool} {lo hi st : Option PySem.Expr} {ρ : Loc} {K : K2 V R} {o : V} : @ap _ _ (kSl1 Φ n own lo hi st ρ K) σ o = @cO R Φ n lo ρ σ (kSl2 Φ n own o hi st ρ K) := rfl
@[simp ↓] theorem xSlice {K : K2 V R} {v : PySem.Expr} {lo hi st : Option PySem.Expr} {p q : Pos} : @cE R Φ (n + 1) own (.Subscript v (.Slice lo hi st q) p) ρ σ K = @cE R Φ n false v ρ σ (kSl1 Φ n own lo hi st ρ K) := rfl
noncomputable def kSub2 (o : V) (K : K2 V R) : K2 V R := ⟨fun i σ => @qv _ _ K σ (getV σ o i)⟩
@[simp ↓] theorem aSub2 {o : V} {K : K2 V R} {i : V} : @ap _ _ (kSub2 o K) σ i = @qv _ _ K σ (getV σ o i) := rfl
noncomputable def kSub1 (Φ : Cx) (n : Nat) (i : PySem.Expr) (ρ : Loc) (K : K2 V R) : K2 V R := ⟨fun o σ => @cE R Φ n false i ρ σ (kSub2 o K)⟩
@[simp ↓] theorem aSub1 {Φ : Cx} {n : Nat} {i : PySem.Expr} {ρ : Loc} {K : K2 V R} {o : V} : @ap _ _ (kSub1 Φ n i ρ K) σ o = @cE R Φ n false i ρ σ (kSub2 o K) := rfl
@[simp ↓] theorem xSubC {K : K2 V R} {c : Const} {k : _} {q : Pos} {v : PySem.Expr} {p : Pos} : @cE R Φ (n + 1) own (.Subscript v (.Constant c k q) p) ρ σ K = @cE R Φ n false v ρ σ (kSub1 Φ n (.Constant c k q) ρ K) := rfl
@[simp ↓] theorem xSubN {K : K2 V R} {x : Str} {q : Pos} {v : PySem.Expr} {p : Pos} : @cE R Φ (n + 1) own (.Subscript v (.Name x q) p) ρ σ K = @cE R Φ n false v ρ σ (kSub1 Φ n (.Name x q) ρ K) := rfl
@[simp ↓] theorem xSubB {K : K2 V R} {op : Operator} {a b : PySem.Expr} {q : Pos} {v : PySem.Expr} {p : Pos} : @cE R Φ (n + 1) own (.Subscript v (.BinOp a op b q) p) ρ σ K = @cE R Φ n false v ρ σ (kSub1 Φ n (.BinOp a op b q) ρ K) := rfl
@[simp ↓] theorem xSubS {K : K2 V R} {a b : PySem.Expr} {q : Pos} {v : PySem.Expr} {p : Pos} : @cE R Φ (n + 1) own (.Subscript v (.Subscript a b q) p) ρ σ K = @cE R Φ n false v ρ σ (kSub1 Φ n (.Subscript a b q) ρ K) := rfl
noncomputable def kCal (own : Bool) (g : Option GV) (K : K2 V R) : K2 (List V) R := ⟨fun vs σ => @calC R own vs σ g K⟩
@[simp ↓] theorem aCal {own : Bool} {g : Option GV} {K : K2 V R} {vs : (List V)} : @ap _ _ (kCal own g K) σ vs = @calC R own vs σ g K := rfl
@[simp ↓] theorem xCall {K : K2 V R} {f : Str} {q p : Pos} {args : List PySem.Expr} : @cE R Φ (n + 1) own (.Call (.Name f q) args [] p) ρ σ K = gd (args.all plainE && okG (Φ.glob f)) (@cL R Φ n args ρ σ (kCal own (Φ.glob f) K)) := rfl
noncomputable def kComp (Φ : Cx) (n : Nat) (tgt elt : PySem.Expr) (ifs : List PySem.Expr) (scope : Scope) : K2 Src (V × Sto) := ⟨fun src σ => gd (!src.tup || isTup tgt) ((turns src σ.length (fComp ⟨Φ.G, scope.names, Φ.cap⟩ n tgt elt ifs) src.items (σ ++ [.lst []])).map fun σ' => (.cell σ.length, σ'))⟩
@[simp ↓] theorem aComp {tgt elt : PySem.Expr} {ifs : List PySem.Expr} {scope : Scope} {src : Src} : @ap _ _ (kComp Φ n tgt elt ifs scope) σ src = gd (!src.tup || isTup tgt) (@mp _ _ (Km.mk fun σ' => (V.cell σ.length, σ')) (turns src σ.length (fComp ⟨Φ.G, scope.names, Φ.cap⟩ n tgt elt ifs) src.items (σ ++ [.lst []]))) := rfl
@[simp ↓] theorem xComp0 {K : K2 V R} {elt tgt iter : PySem.Expr} {scope : Scope} {p : Pos} : @cE R Φ (n + 1) own (.ListComp elt [⟨tgt, iter, [], 0⟩] scope p) ρ σ K = gd (compOk Φ scope) (@pu _ _ K (@cI (V × Sto) Φ n iter ρ σ (kComp Φ n tgt elt [] scope))) := rfl
@[simp ↓] theorem xComp1 {K : K2 V R} {elt tgt iter c : PySem.Expr} {scope : Scope} {p : Pos} : @cE R Φ (n + 1) own (.ListComp elt [⟨tgt, iter, [c], 0⟩] scope p) ρ σ K = gd (compOk Φ scope) (@pu _ _ K (@cI (V × Sto) Φ n iter ρ σ (kComp Φ n tgt elt [c] scope))) := rfl
noncomputable def kSome : K2 V (Option V × Sto) := ⟨fun v σ => some (some v, σ)⟩
@[simp ↓] theorem aSome {v : V} : @ap _ _ kSome σ v = some (some v, σ) := rfl
noncomputable def kTest (Φ : Cx) (n : Nat) (elt : PySem.Expr) (ρ : Loc) : K2 Bool (Option V × Sto) := ⟨fun b σ => bif b then @cE (Option V × Sto) Φ n false elt ρ σ kSome else some (none, σ)⟩
@[simp] theorem aTestT {elt : PySem.Expr} : @ap _ _ (kTest Φ n elt ρ) σ true = @cE (Option V × Sto) Φ n false elt ρ σ kSome := rfl
@[simp] theorem aTestF {elt : PySem.Expr} : @ap _ _ (kTest Φ n elt ρ) σ false = some (none, σ) := rfl
@[simp ↓] theorem gComp0 {elt : PySem.Expr} : gComp Φ n elt [] ρ σ = @cE (Option V × Sto) Φ n false elt ρ σ kSome := rfl
@[simp ↓] theorem gComp1 {elt c : PySem.Expr} : gComp Φ n elt [c] ρ σ = @cT (Option V × Sto) Φ n c ρ σ (kTest Φ n elt ρ) := rfl
@[simp ↓] theorem fCompE {tgt elt : PySem.Expr} {ifs : List PySem.Expr} {it : V} : fComp Φ n tgt elt ifs it σ = @bd _ _ (Kt.mk fun ρ' => gComp Φ n elt ifs ρ' σ) (bindT Φ.names tgt it []) := rfl
@[simp] theorem globMk {G : Str → Option GV} {names : List (Str × NameKind)} {cap : List (Str × V)} {x : Str} : Cx.glob ⟨G, names, cap⟩ x = if x == "__debug__" then none else if names.lookup x = some .globalImplicit then G x else none := rfl
noncomputable def kL2 (v : V) (K : K2 (List V) R) : K2 (List V) R := ⟨fun vs σ => @ap _ _ K σ (v :: vs)⟩
@[simp ↓] theorem aL2 {v : V} {K : K2 (List V) R} {vs : (List V)} : @ap _ _ (kL2 v K) σ vs = @ap _ _ K σ (v :: vs) := rfl
noncomputable def kL1 (Φ : Cx) (n : Nat) (es : List PySem.Expr) (ρ : Loc) (K : K2 (List V) R) : K2 V R := ⟨fun v σ => @cL R Φ n es ρ σ (kL2 v K)⟩
@[simp ↓] theorem aL1 {Φ : Cx} {n : Nat} {es : List PySem.Expr} {ρ : Loc} {K : K2 (List V) R} {v : V} : @ap _ _ (kL1 Φ n es ρ K) σ v = @cL R Φ n es ρ σ (kL2 v K) := rfl
@[simp ↓] theorem xL0 {K : K2 (List V) R} : @cL R Φ (n + 1) [] ρ σ K = @ap _ _ K σ [] := rfl
@[simp ↓] theorem xL1 {K : K2 (List V) R} {e : PySem.Expr} {es : List PySem.Expr} : @cL R Φ (n + 1) (e :: es) ρ σ K = @cE R Φ n false e ρ σ (kL1 Φ n es ρ K) := rfl
noncomputable def kO (K : K2 (Option V) R) : K2 V R := ⟨fun v σ => @ap _ _ K σ (some v)⟩
@[simp ↓] theorem aO  {K : K2 (Option V) R} {v : V} : @ap _ _ (kO K) σ v = @ap _ _ K σ (some v) := rfl
@[simp ↓] theorem xO0 {K : K2 (Option V) R} : @cO R Φ (n + 1) none ρ σ K = @ap _ _ K σ none := rfl
@[simp ↓] theorem xO1 {K : K2 (Option V) R} {e : PySem.Expr} : @cO R Φ (n + 1) (some e) ρ σ K = @cE R Φ n false e ρ σ (kO K) := rfl
noncomputable def kB2 (Φ : Cx) (n : Nat) (op : BoolOp) (es : List PySem.Expr) (ρ : Loc) (K : K2 V R) : K2 Bool R := ⟨fun b σ => bstep op es.isEmpty b (@ap _ _ K σ (.bool b)) (@cB R Φ n op es ρ σ K)⟩
noncomputable def kB1 (Φ : Cx) (n : Nat) (op : BoolOp) (es : List PySem.Expr) (ρ : Loc) (K : K2 V R) : K2 V R := ⟨fun v σ => @qc _ _ (kB2 Φ n op es ρ K) σ (boolV v)⟩
@[simp ↓] theorem aB1 {Φ : Cx} {n : Nat} {op : BoolOp} {es : List PySem.Expr} {ρ : Loc} {K : K2 V R} {v : V} : @ap _ _ (kB1 Φ n op es ρ K) σ v = @qc _ _ (kB2 Φ n op es ρ K) σ (boolV v) := rfl
@[simp ↓] theorem xB {K : K2 V R} {op : BoolOp} {e : PySem.Expr} {es : List PySem.Expr} : @cB R Φ (n + 1) op (e :: es) ρ σ K = @cE R Φ n false e ρ σ (kB1 Φ n op es ρ K) := rfl
@[simp] theorem aB0And {K : K2 V R} {b : Bool} : @ap _ _ (kB2 Φ n .And [] ρ K) σ b = @ap _ _ K σ (.bool b) := by cases b <;> rfl
@[simp] theorem aB0Or {K : K2 V R} {b : Bool} : @ap _ _ (kB2 Φ n .Or [] ρ K) σ b = @ap _ _ K σ (.bool b) := by cases b <;> rfl
@[simp] theorem aBAndf {K : K2 V R} {e : PySem.Expr} {es : List PySem.Expr} : @ap _ _ (kB2 Φ n .And (e :: es) ρ K) σ false = @ap _ _ K σ (.bool false) := rfl
@[simp] theorem aBOrt {K : K2 V R} {e : PySem.Expr} {es : List PySem.Expr} : @ap _ _ (kB2 Φ n .Or (e :: es) ρ K) σ true = @ap _ _ K σ (.bool true) := rfl
@[simp] theorem aBAndt {K : K2 V R} {e : PySem.Expr} {es : List PySem.Expr} : @ap _ _ (kB2 Φ n .And (e :: es) ρ K) σ true = @cB R Φ n .And (e :: es) ρ σ K := rfl
@[simp] theorem aBOrf {K : K2 V R} {e : PySem.Expr} {es : List PySem.Expr} : @ap _ _ (kB2 Φ n .Or (e :: es) ρ K) σ false = @cB R Φ n .Or (e :: es) ρ σ K := rfl
noncomputable def kNot (K : K2 Bool R) : K2 Bool R := ⟨fun b σ => @ap _ _ K σ (!b)⟩
@[simp ↓] theorem aNot  {K : K2 Bool R} {b : Bool} : @ap _ _ (kNot K) σ b = @ap _ _ K σ (!b) := rfl
noncomputable def kTst (K : K2 Bool R) : K2 V R := ⟨fun v σ => @qc _ _ K σ (boolV v)⟩
@[simp ↓] theorem aTst  {K : K2 Bool R} {v : V} : @ap _ _ (kTst K) σ v = @qc _ _ K σ (boolV v) := rfl
noncomputable def kTc2 (op : CmpOp) (a : V) (K : K2 Bool R) : K2 V R := ⟨fun b σ => @qv _ _ K σ (cmpV σ op a b)⟩
@[simp ↓] theorem aTc2 {op : CmpOp} {a : V} {K : K2 Bool R} {b : V} : @ap _ _ (kTc2 op a K) σ b = @qv _ _ K σ (cmpV σ op a b) := rfl
noncomputable def kTc1 (Φ : Cx) (n : Nat) (op : CmpOp) (r : PySem.Expr) (ρ : Loc) (K : K2 Bool R) : K2 V R := ⟨fun a σ => @cE R Φ n false r ρ σ (kTc2 op a K)⟩
@[simp ↓] theorem aTc1 {Φ : Cx} {n : Nat} {op : CmpOp} {r : PySem.Expr} {ρ : Loc} {K : K2 Bool R} {a : V} : @ap _ _ (kTc1 Φ n op r ρ K) σ a = @cE R Φ n false r ρ σ (kTc2 op a K) := rfl
@[simp ↓] theorem xTNot {K : K2 Bool R} {x : PySem.Expr} {p : Pos} : @cT R Φ (n + 1) (.UnaryOp .Not x p) ρ σ K = @cT R Φ n x ρ σ (kNot K) := rfl
@[simp ↓] theorem xTBool {K : K2 Bool R} {op : BoolOp} {vs : List PySem.Expr} {p : Pos} : @cT R Φ (n + 1) (.BoolOp op vs p) ρ σ K = @cTs R Φ n op vs ρ σ K := rfl
@[simp ↓] theorem xTCmp {K : K2 Bool R} {op : CmpOp} {l r : PySem.Expr} {p : Pos} : @cT R Φ (n + 1) (.Compare l [op] [r] p) ρ σ K = gd (plainE r) (@cE R Φ n false l ρ σ (kTc1 Φ n op r ρ K)) := rfl
@[simp ↓] theorem xTN {K : K2 Bool R} {x : Str} {q : Pos} : @cT R Φ (n + 1) (.Name x q) ρ σ K = @cE R Φ n false (.Name x q) ρ σ (kTst K) := rfl
@[simp ↓] theorem xTCall {K : K2 Bool R} {f : PySem.Expr} {args : List PySem.Expr} {kws : List Keyword} {q : Pos} : @cT R Φ (n + 1) (.Call f args kws q) ρ σ K = @cE R Φ n false (.Call f args kws q) ρ σ (kTst K) := rfl
@[simp ↓] theorem xTS {K : K2 Bool R} {a b : PySem.Expr} {q : Pos} : @cT R Φ (n + 1) (.Subscript a b q) ρ σ K = @cE R Φ n false (.Subscript a b q) ρ σ (kTst K) := rfl
noncomputable def kTs (Φ : Cx) (n : Nat) (op : BoolOp) (es : List PySem.Expr) (ρ : Loc) (K : K2 Bool R) : K2 Bool R := ⟨fun b σ => bstep op false b (@ap _ _ K σ b) (@cTs R Φ n op es ρ σ K)⟩
@[simp ↓] theorem xTs0And {K : K2 Bool R} : @cTs R Φ (n + 1) .And [] ρ σ K = @ap _ _ K σ true := rfl
@[simp ↓] theorem xTs0Or {K : K2 Bool R} : @cTs R Φ (n + 1) .Or [] ρ σ K = @ap _ _ K σ false := rfl
@[simp ↓] theorem xTs1 {K : K2 Bool R} {op : BoolOp} {e : PySem.Expr} {es : List PySem.Expr} : @cTs R Φ (n + 1) op (e :: es) ρ σ K = @cT R Φ n e ρ σ (kTs Φ n op es ρ K) := rfl
@[simp] theorem aTs0And {K : K2 Bool R} {b : Bool} : @ap _ _ (kTs Φ (n + 1) .And [] ρ K) σ b = @ap _ _ K σ b := by cases b <;> rfl
@[simp] theorem aTs0Or {K : K2 Bool R} {b : Bool} : @ap _ _ (kTs Φ (n + 1) .Or [] ρ K) σ b = @ap _ _ K σ b := by cases b <;> rfl
@[simp] theorem aTsAndf {K : K2 Bool R} {es : List PySem.Expr} : @ap _ _ (kTs Φ n .And es ρ K) σ false = @ap _ _ K σ false := rfl
@[simp] theorem aTsOrt {K : K2 Bool R} {es : List PySem.Expr} : @ap _ _ (kTs Φ n .Or es ρ K) σ true = @ap _ _ K σ true := rfl
@[simp] theorem aTsAndt {K : K2 Bool R} {es : List PySem.Expr} : @ap _ _ (kTs Φ n .And es ρ K) σ true = @cTs R Φ n .And es ρ σ K := rfl
@[simp] theorem aTsOrf {K : K2 Bool R} {es : List PySem.Expr} : @ap _ _ (kTs Φ n .Or es ρ K) σ false = @cTs R Φ n .Or es ρ σ K := rfl
noncomputable def kIk (i : Ik) (K : K2 Src R) : K2 (List V) R := ⟨fun vs σ => @qv _ _ K σ (ikV σ vs i)⟩
@[simp ↓] theorem aIk {i : Ik} {K : K2 Src R} {vs : (List V)} : @ap _ _ (kIk i K) σ vs = @qv _ _ K σ (ikV σ vs i) := rfl
noncomputable def kSrc (K : K2 Src R) : K2 V R := ⟨fun v σ => @qc _ _ K σ (srcV σ v)⟩
@[simp ↓] theorem aSrc  {K : K2 Src R} {v : V} : @ap _ _ (kSrc K) σ v = @qc _ _ K σ (srcV σ v) := rfl
noncomputable def ciC (Φ : Cx) (n : Nat) (f : Str) (p p2 : Pos) (args : List PySem.Expr) (ρ : Loc) (σ : Sto) (K : K2 Src R) (o : Option Ik) : Option R := match o with
  | some i => gd (args.all plainE) (@cL R Φ n args ρ σ (kIk i K))
  | none => @cE R Φ n false (.Call (.Name f p) args [] p2) ρ σ (kSrc K)
@[simp] theorem ciS {K : K2 Src R} {f : Str} {p p2 : Pos} {args : List PySem.Expr} {i : Ik} : @ciC R Φ n f p p2 args ρ σ K (some i) = gd (args.all plainE) (@cL R Φ n args ρ σ (kIk i K)) := rfl
@[simp] theorem ciN {K : K2 Src R} {f : Str} {p p2 : Pos} {args : List PySem.Expr} : @ciC R Φ n f p p2 args ρ σ K none = @cE R Φ n false (.Call (.Name f p) args [] p2) ρ σ (kSrc K) := rfl
@[simp ↓] theorem xICall {K : K2 Src R} {f : Str} {p p2 : Pos} {args : List PySem.Expr} : @cI R Φ (n + 1) (.Call (.Name f p) args [] p2) ρ σ K = @ciC R Φ n f p p2 args ρ σ K (ik (Φ.glob f)) := rfl
@[simp ↓] theorem xIN {K : K2 Src R} {x : Str} {q : Pos} : @cI R Φ (n + 1) (.Name x q) ρ σ K = @cE R Φ n false (.Name x q) ρ σ (kSrc K) := rfl
@[simp ↓] theorem xIS {K : K2 Src R} {a b : PySem.Expr} {q : Pos} : @cI R Φ (n + 1) (.Subscript a b q) ρ σ K = @cE R Φ n false (.Subscript a b q) ρ σ (kSrc K) := rfl
@[simp ↓] theorem xIT {K : K2 Src R} {es : List PySem.Expr} {k : _} {q : Pos} : @cI R Φ (n + 1) (.Tuple es k q) ρ σ K = @cE R Φ n false (.Tuple es k q) ρ σ (kSrc K) := rfl
noncomputable def kRet (ρ : Loc) (K : Ks R) : K2 V R := ⟨fun v σ => @aps _ K (.ret v) ρ σ⟩
@[simp ↓] theorem aRet {ρ : Loc} {K : Ks R} {v : V} : @ap _ _ (kRet ρ K) σ v = @aps _ K (.ret v) ρ σ := rfl
@[simp ↓] theorem sRet {K : Ks R} {e : PySem.Expr} {p : Pos} : @cS R Φ (n + 1) (.Return (some e) p) ρ σ K = @cE R Φ n true e ρ σ (kRet ρ K) := rfl
@[simp ↓] theorem sCont {K : Ks R} {p : Pos} : @cS R Φ (n + 1) (.Continue p) ρ σ K = @aps _ K .cont ρ σ := rfl
@[simp ↓] theorem sBreak {K : Ks R} {p : Pos} : @cS R Φ (n + 1) (.Break p) ρ σ K = @aps _ K .brk ρ σ := rfl
noncomputable def kIf (Φ : Cx) (n : Nat) (a b : List Stmt) (ρ : Loc) (K : Ks R) : K2 Bool R := ⟨fun c σ => bif c then @cSs R Φ n a ρ σ K else @cSs R Φ n b ρ σ K⟩
@[simp] theorem aIfT {K : Ks R} {a b : List Stmt} : @ap _ _ (kIf Φ n a b ρ K) σ true = @cSs R Φ n a ρ σ K := rfl
@[simp] theorem aIfF {K : Ks R} {a b : List Stmt} : @ap _ _ (kIf Φ n a b ρ K) σ false = @cSs R Φ n b ρ σ K := rfl
@[simp ↓] theorem sIf {K : Ks R} {t : PySem.Expr} {a b : List Stmt} {p : Pos} : @cS R Φ (n + 1) (.If t a b p) ρ σ K = @cT R Φ n t ρ σ (kIf Φ n a b ρ K) := rfl
noncomputable def kA4 (c : Nat) (ρ : Loc) (K : Ks R) : K2 V R := ⟨fun x σ => @ps _ K ρ (appV σ (.cell c) x)⟩
@[simp ↓] theorem aA4 {c : Nat} {ρ : Loc} {K : Ks R} {x : V} : @ap _ _ (kA4 c ρ K) σ x = @ps _ K ρ (appV σ (.cell c) x) := rfl
noncomputable def kA3 (Φ : Cx) (n : Nat) (x : PySem.Expr) (c : Nat) (ρ : Loc) (K : Ks R) : K2 (List V) R := ⟨fun _ σ => @cE R Φ n false x ρ σ (kA4 c ρ K)⟩
@[simp ↓] theorem aA3 {Φ : Cx} {n : Nat} {x : PySem.Expr} {c : Nat} {ρ : Loc} {K : Ks R} {v : (List V)} : @ap _ _ (kA3 Φ n x c ρ K) σ v = @cE R Φ n false x ρ σ (kA4 c ρ K) := rfl
noncomputable def kA2 (Φ : Cx) (n : Nat) (x : PySem.Expr) (ρ : Loc) (K : Ks R) : K2 Nat R := ⟨fun c σ => @qc _ _ (kA3 Φ n x c ρ K) σ (itemsOf σ (.cell c))⟩
@[simp ↓] theorem aA2 {Φ : Cx} {n : Nat} {x : PySem.Expr} {ρ : Loc} {K : Ks R} {c : Nat} : @ap _ _ (kA2 Φ n x ρ K) σ c = @qc _ _ (kA3 Φ n x c ρ K) σ (itemsOf σ (.cell c)) := rfl
noncomputable def kA1 (Φ : Cx) (n : Nat) (x : PySem.Expr) (ρ : Loc) (K : Ks R) : K2 V R := ⟨fun o σ => @qc _ _ (kA2 Φ n x ρ K) σ (asCell o)⟩
@[simp ↓] theorem aA1 {Φ : Cx} {n : Nat} {x : PySem.Expr} {ρ : Loc} {K : Ks R} {o : V} : @ap _ _ (kA1 Φ n x ρ K) σ o = @qc _ _ (kA2 Φ n x ρ K) σ (asCell o) := rfl
@[simp ↓] theorem sApp {K : Ks R} {o x : PySem.Expr} {m : Str} {apos pos q : Pos} : @cS R Φ (n + 1) (.Expr (.Call (.Attribute o m apos) [x] [] pos) q) ρ σ K = gd (m == "append" && plainObj o && apos.endLine == pos.line && plainE x) (@cE R Φ n false o ρ σ (kA1 Φ n x ρ K)) := rfl
noncomputable def kDrop (ρ : Loc) (K : Ks R) : K2 V R := ⟨fun _ σ => @aps _ K .next ρ σ⟩
@[simp ↓] theorem aDrop {ρ : Loc} {K : Ks R} {v : V} : @ap _ _ (kDrop ρ K) σ v = @aps _ K .next ρ σ := rfl
@[simp ↓] theorem sCall {K : Ks R} {f : Str} {p pos q : Pos} {args : List PySem.Expr} {kws : List Keyword} : @cS R Φ (n + 1) (.Expr (.Call (.Name f p) args kws pos) q) ρ σ K = @cE R Φ n false (.Call (.Name f p) args kws pos) ρ σ (kDrop ρ K) := rfl
noncomputable def kD2 (x : Str) (v : V) (K : K2 (List (Str × V)) R) : K2 (List (Str × V)) R := ⟨fun r σ => gd (r.lookup x).isNone (@ap _ _ K σ ((x, v) :: r))⟩
@[simp ↓] theorem aD2 {x : Str} {v : V} {K : K2 (List (Str × V)) R} {r : (List (Str × V))} : @ap _ _ (kD2 x v K) σ r = gd (r.lookup x).isNone (@ap _ _ K σ ((x, v) :: r)) := rfl
noncomputable def kD1 (Φ : Cx) (n : Nat) (x : Str) (ks : List (Option PySem.Expr)) (es : List PySem.Expr) (ρ : Loc) (K : K2 (List (Str × V)) R) : K2 V R := ⟨fun v σ => @cD R Φ n ks es ρ σ (kD2 x v K)⟩
@[simp ↓] theorem aD1 {Φ : Cx} {n : Nat} {x : Str} {ks : List (Option PySem.Expr)} {es : List PySem.Expr} {ρ : Loc} {K : K2 (List (Str × V)) R} {v : V} : @ap _ _ (kD1 Φ n x ks es ρ K) σ v = @cD R Φ n ks es ρ σ (kD2 x v K) := rfl
@[simp ↓] theorem xD0 {K : K2 (List (Str × V)) R} : @cD R Φ n [] [] ρ σ K = @ap _ _ K σ [] := rfl
@[simp ↓] theorem xD1 {K : K2 (List (Str × V)) R} {x : Str} {k : _} {p : Pos} {ks : List (Option PySem.Expr)} {e : PySem.Expr} {es : List PySem.Expr} : @cD R Φ n (some (.Constant (.str x) k p) :: ks) (e :: es) ρ σ K = @cE R Φ n true e ρ σ (kD1 Φ n x ks es ρ K) := rfl
noncomputable def kDct (x : Str) (ρ : Loc) (K : Ks R) : K2 (List (Str × V)) R := ⟨fun l σ => @aps _ K .next (lset ρ x (.cell σ.length)) (σ ++ [.dct l])⟩
@[simp ↓] theorem aDct {x : Str} {ρ : Loc} {K : Ks R} {l : (List (Str × V))} : @ap _ _ (kDct x ρ K) σ l = @aps _ K .next (lset ρ x (.cell σ.length)) (σ ++ [.dct l]) := rfl
@[simp ↓] theorem sDict {K : Ks R} {x : Str} {p q pos : Pos} {ks : List (Option PySem.Expr)} {vs : List PySem.Expr} : @cS R Φ (n + 1) (.Assign [.Name x p] (.Dict ks vs q) pos) ρ σ K = gd (isLoc Φ x && (Nat.ble ks.length 15 && (!ks.isEmpty && dOk ks vs))) (@cD R Φ n ks vs ρ σ (kDct x ρ K)) := rfl
noncomputable def kNm (x : Str) (ρ : Loc) (K : Ks R) : K2 V R := ⟨fun v σ => @aps _ K .next (lset ρ x v) σ⟩
@[simp ↓] theorem aNm {x : Str} {ρ : Loc} {K : Ks R} {v : V} : @ap _ _ (kNm x ρ K) σ v = @aps _ K .next (lset ρ x v) σ := rfl
@[simp ↓] theorem sNameCn {K : Ks R} {x : Str} {p pos : Pos} {c : Const} {k : _} {q : Pos} : @cS R Φ (n + 1) (.Assign [.Name x p] (.Constant c k q) pos) ρ σ K = gd (isLoc Φ x) (@cE R Φ n true (.Constant c k q) ρ σ (kNm x ρ K)) := rfl
@[simp ↓] theorem sNameNm {K : Ks R} {x : Str} {p pos : Pos} {y : Str} {q : Pos} : @cS R Φ (n + 1) (.Assign [.Name x p] (.Name y q) pos) ρ σ K = gd (isLoc Φ x) (@cE R Φ n true (.Name y q) ρ σ (kNm x ρ K)) := rfl
@[simp ↓] theorem sNameBo {K : Ks R} {x : Str} {p pos : Pos} {a b : PySem.Expr} {op : Operator} {q : Pos} : @cS R Φ (n + 1) (.Assign [.Name x p] (.BinOp a op b q) pos) ρ σ K = gd (isLoc Φ x) (@cE R Φ n true (.BinOp a op b q) ρ σ (kNm x ρ K)) := rfl
@[simp ↓] theorem sNameUn {K : Ks R} {x : Str} {p pos : Pos} {a : PySem.Expr} {op : UnaryOp} {q : Pos} : @cS R Φ (n + 1) (.Assign [.Name x p] (.UnaryOp op a q) pos) ρ σ K = gd (isLoc Φ x) (@cE R Φ n true (.UnaryOp op a q) ρ σ (kNm x ρ K)) := rfl
@[simp ↓] theorem sNameBl {K : Ks R} {x : Str} {p pos : Pos} {op : BoolOp} {vs : List PySem.Expr} {q : Pos} : @cS R Φ (n + 1) (.Assign [.Name x p] (.BoolOp op vs q) pos) ρ σ K = gd (isLoc Φ x) (@cE R Φ n true (.BoolOp op vs q) ρ σ (kNm x ρ K)) := rfl
@[simp ↓] theorem sNameCm {K : Ks R} {x : Str} {p pos : Pos} {a : PySem.Expr} {os : List CmpOp} {vs : List PySem.Expr} {q : Pos} : @cS R Φ (n + 1) (.Assign [.Name x p] (.Compare a os vs q) pos) ρ σ K = gd (isLoc Φ x) (@cE R Φ n true (.Compare a os vs q) ρ σ (kNm x ρ K)) := rfl
@[simp ↓] theorem sNameIf {K : Ks R} {x : Str} {p pos : Pos} {a b c : PySem.Expr} {q : Pos} : @cS R Φ (n + 1) (.Assign [.Name x p] (.IfExp a b c q) pos) ρ σ K = gd (isLoc Φ x) (@cE R Φ n true (.IfExp a b c q) ρ σ (kNm x ρ K)) := rfl
@[simp ↓] theorem sNameTu {K : Ks R} {x : Str} {p pos : Pos} {es : List PySem.Expr} {k : _} {q : Pos} : @cS R Φ (n + 1) (.Assign [.Name x p] (.Tuple es k q) pos) ρ σ K = gd (isLoc Φ x) (@cE R Φ n true (.Tuple es k q) ρ σ (kNm x ρ K)) := rfl
@[simp ↓] theorem sNameLi {K : Ks R} {x : Str} {p pos : Pos} {es : List PySem.Expr} {q : Pos} : @cS R Φ (n + 1) (.Assign [.Name x p] (.List es q) pos) ρ σ K = gd (isLoc Φ x) (@cE R Φ n true (.List es q) ρ σ (kNm x ρ K)) := rfl
@[simp ↓] theorem sNameSb {K : Ks R} {x : Str} {p pos : Pos} {a b : PySem.Expr} {q : Pos} : @cS R Φ (n + 1) (.Assign [.Name x p] (.Subscript a b q) pos) ρ σ K = gd (isLoc Φ x) (@cE R Φ n true (.Subscript a b q) ρ σ (kNm x ρ K)) := rfl
@[simp ↓] theorem sNameCa {K : Ks R} {x : Str} {p pos : Pos} {f : PySem.Expr} {args : List PySem.Expr} {kws : List Keyword} {q : Pos} : @cS R Φ (n + 1) (.Assign [.Name x p] (.Call f args kws q) pos) ρ σ K = gd (isLoc Φ x) (@cE R Φ n true (.Call f args kws q) ρ σ (kNm x ρ K)) := rfl
@[simp ↓] theorem sNameLc {K : Ks R} {x : Str} {p pos : Pos} {elt : PySem.Expr} {gs : List Comprehension} {sc : Scope} {q : Pos} : @cS R Φ (n + 1) (.Assign [.Name x p] (.ListComp elt gs sc q) pos) ρ σ K = gd (isLoc Φ x) (@cE R Φ n true (.ListComp elt gs sc q) ρ σ (kNm x ρ K)) := rfl
noncomputable def kTA (Φ : Cx) (es : List PySem.Expr) (k : Nat) (p : Pos) (ρ : Loc) (K : Ks R) : K2 V R := ⟨fun v σ => @pl _ K σ (bindT Φ.names (.Tuple es k p) v ρ)⟩
@[simp ↓] theorem aTA {Φ : Cx} {es : List PySem.Expr} {k : Nat} {p : Pos} {ρ : Loc} {K : Ks R} {v : V} : @ap _ _ (kTA Φ es k p ρ K) σ v = @pl _ K σ (bindT Φ.names (.Tuple es k p) v ρ) := rfl
@[simp ↓] theorem sTup {K : Ks R} {es : List PySem.Expr} {k : _} {p pos : Pos} {e : PySem.Expr} : @cS R Φ (n + 1) (.Assign [.Tuple es k p] e pos) ρ σ K = gd (notComp e && !isTup e) (@cE R Φ n false e ρ σ (kTA Φ es k p ρ K)) := rfl
noncomputable def kIt3 (o v : V) (ρ : Loc) (K : Ks R) : K2 V R := ⟨fun i σ => @ps _ K ρ (setV σ o i v)⟩
@[simp ↓] theorem aIt3 {o v : V} {ρ : Loc} {K : Ks R} {i : V} : @ap _ _ (kIt3 o v ρ K) σ i = @ps _ K ρ (setV σ o i v) := rfl
noncomputable def kIt2 (Φ : Cx) (n : Nat) (i : PySem.Expr) (v : V) (ρ : Loc) (K : Ks R) : K2 V R := ⟨fun o σ => @cE R Φ n false i ρ σ (kIt3 o v ρ K)⟩
@[simp ↓] theorem aIt2 {Φ : Cx} {n : Nat} {i : PySem.Expr} {v : V} {ρ : Loc} {K : Ks R} {o : V} : @ap _ _ (kIt2 Φ n i v ρ K) σ o = @cE R Φ n false i ρ σ (kIt3 o v ρ K) := rfl
noncomputable def kIt1 (Φ : Cx) (n : Nat) (o i : PySem.Expr) (ρ : Loc) (K : Ks R) : K2 V R := ⟨fun v σ => @cE R Φ n false o ρ σ (kIt2 Φ n i v ρ K)⟩
@[simp ↓] theorem aIt1 {Φ : Cx} {n : Nat} {o i : PySem.Expr} {ρ : Loc} {K : Ks R} {v : V} : @ap _ _ (kIt1 Φ n o i ρ K) σ v = @cE R Φ n false o ρ σ (kIt2 Φ n i v ρ K) := rfl
@[simp ↓] theorem sItem {K : Ks R} {o i e : PySem.Expr} {p pos : Pos} : @cS R Φ (n + 1) (.Assign [.Subscript o i p] e pos) ρ σ K = gd (notComp e) (@cE R Φ n false e ρ σ (kIt1 Φ n o i ρ K)) := rfl
noncomputable def kAu2 (x : Str) (op : Operator) (a : V) (ρ : Loc) (K : Ks R) : K2 V R := ⟨fun b σ => @qc _ _ (kNm x ρ K) σ (augV op a b)⟩
@[simp ↓] theorem aAu2 {x : Str} {op : Operator} {a : V} {ρ : Loc} {K : Ks R} {b : V} : @ap _ _ (kAu2 x op a ρ K) σ b = @qc _ _ (kNm x ρ K) σ (augV op a b) := rfl
noncomputable def kAu1 (Φ : Cx) (n : Nat) (x : Str) (op : Operator) (e : PySem.Expr) (ρ : Loc) (K : Ks R) : K2 V R := ⟨fun a σ => @cE R Φ n false e ρ σ (kAu2 x op a ρ K)⟩
@[simp ↓] theorem aAu1 {Φ : Cx} {n : Nat} {x : Str} {op : Operator} {e : PySem.Expr} {ρ : Loc} {K : Ks R} {a : V} : @ap _ _ (kAu1 Φ n x op e ρ K) σ a = @cE R Φ n false e ρ σ (kAu2 x op a ρ K) := rfl
@[simp ↓] theorem sAug {K : Ks R} {x : Str} {op : Operator} {e : PySem.Expr} {p pos : Pos} : @cS R Φ (n + 1) (.AugAssign (.Name x p) op e pos) ρ σ K = gd (isLoc Φ x) (@qv _ _ (kAu1 Φ n x op e ρ K) σ (ρ.lookup x)) := rfl
noncomputable def kAi5 (o i : V) (ρ : Loc) (K : Ks R) : K2 V R := ⟨fun v σ => @ps _ K ρ (setV σ o i v)⟩
@[simp ↓] theorem aAi5 {o i : V} {ρ : Loc} {K : Ks R} {v : V} : @ap _ _ (kAi5 o i ρ K) σ v = @ps _ K ρ (setV σ o i v) := rfl
noncomputable def kAi4 (op : Operator) (o i a : V) (ρ : Loc) (K : Ks R) : K2 V R := ⟨fun b σ => @qc _ _ (kAi5 o i ρ K) σ (augV op a b)⟩
@[simp ↓] theorem aAi4 {op : Operator} {o i a : V} {ρ : Loc} {K : Ks R} {b : V} : @ap _ _ (kAi4 op o i a ρ K) σ b = @qc _ _ (kAi5 o i ρ K) σ (augV op a b) := rfl
noncomputable def kAi3 (Φ : Cx) (n : Nat) (op : Operator) (e : PySem.Expr) (o i : V) (ρ : Loc) (K : Ks R) : K2 V R := ⟨fun a σ => @cE R Φ n false e ρ σ (kAi4 op o i a ρ K)⟩
@[simp ↓] theorem aAi3 {Φ : Cx} {n : Nat} {op : Operator} {e : PySem.Expr} {o i : V} {ρ : Loc} {K : Ks R} {a : V} : @ap _ _ (kAi3 Φ n op e o i ρ K) σ a = @cE R Φ n false e ρ σ (kAi4 op o i a ρ K) := rfl
noncomputable def kAi2 (Φ : Cx) (n : Nat) (op : Operator) (e : PySem.Expr) (o : V) (ρ : Loc) (K : Ks R) : K2 V R := ⟨fun i σ => @qv _ _ (kAi3 Φ n op e o i ρ K) σ (getV σ o i)⟩
@[simp ↓] theorem aAi2 {Φ : Cx} {n : Nat} {op : Operator} {e : PySem.Expr} {o : V} {ρ : Loc} {K : Ks R} {i : V} : @ap _ _ (kAi2 Φ n op e o ρ K) σ i = @qv _ _ (kAi3 Φ n op e o i ρ K) σ (getV σ o i) := rfl
noncomputable def kAi1 (Φ : Cx) (n : Nat) (op : Operator) (i e : PySem.Expr) (ρ : Loc) (K : Ks R) : K2 V R := ⟨fun o σ => @cE R Φ n false i ρ σ (kAi2 Φ n op e o ρ K)⟩
@[simp ↓] theorem aAi1 {Φ : Cx} {n : Nat} {op : Operator} {i e : PySem.Expr} {ρ : Loc} {K : Ks R} {o : V} : @ap _ _ (kAi1 Φ n op i e ρ K) σ o = @cE R Φ n false i ρ σ (kAi2 Φ n op e o ρ K) := rfl
@[simp ↓] theorem sAugI {K : Ks R} {o i e : PySem.Expr} {op : Operator} {p pos : Pos} : @cS R Φ (n + 1) (.AugAssign (.Subscript o i p) op e pos) ρ σ K = gd (plainE i) (@cE R Φ n false o ρ σ (kAi1 Φ n op i e ρ K)) := rfl
noncomputable def kFr (Φ : Cx) (n : Nat) (tgt : PySem.Expr) (body : List Stmt) (ρ : Loc) : K2 Src (Fl × Loc × Sto) := ⟨fun src σ => gd ((!src.tup || isTup tgt) && !src.zip) (loopF src (fFor Φ n tgt body) src.items ρ σ)⟩
@[simp ↓] theorem aFr {tgt : PySem.Expr} {body : List Stmt} {src : Src} : @ap _ _ (kFr Φ n tgt body ρ) σ src = gd ((!src.tup || isTup tgt) && !src.zip) (loopF src (fFor Φ n tgt body) src.items ρ σ) := rfl
/-- a for, a while: what they leave -/
noncomputable def forS (Φ : Cx) (n : Nat) (tgt iter : PySem.Expr) (body : List Stmt) (ρ : Loc) (σ : Sto) : Option (Fl × Loc × Sto) := @cI (Fl × Loc × Sto) Φ n iter ρ σ (kFr Φ n tgt body ρ)
@[simp ↓] theorem sFor {K : Ks R} {tgt iter : PySem.Expr} {body : List Stmt} {p : Pos} : @cS R Φ (n + 1) (.For tgt iter body [] p) ρ σ K = @pS _ K (forS Φ n tgt iter body ρ σ) := rfl
noncomputable def kBs : K2 Bool (Bool × Sto) := ⟨fun b σ => some (b, σ)⟩
@[simp ↓] theorem aBs {b : Bool} : @ap _ _ kBs σ b = some (b, σ) := rfl
noncomputable def whS (Φ : Cx) (n : Nat) (t : PySem.Expr) (body : List Stmt) (ρ : Loc) (σ : Sto) : Option (Fl × Loc × Sto) := whileF (fun ρ σ => @cT (Bool × Sto) Φ n t ρ σ kBs) (fun ρ σ => @cSs (Fl × Loc × Sto) Φ n body ρ σ kFl) 1000 ρ σ
@[simp ↓] theorem sWhile {K : Ks R} {t : PySem.Expr} {body : List Stmt} {p : Pos} : @cS R Φ (n + 1) (.While t body [] p) ρ σ K = @pS _ K (whS Φ n t body ρ σ) := rfl
@[simp ↓] theorem fForE {tgt : PySem.Expr} {body : List Stmt} {it : V} : fFor Φ n tgt body it ρ σ = @bd _ _ (Kt.mk fun ρ => @cSs (Fl × Loc × Sto) Φ n body ρ σ kFl) (bindT Φ.names tgt it ρ) := rfl
noncomputable def kSeq (Φ : Cx) (n : Nat) (r : List Stmt) (K : Ks R) : Ks R := ⟨fun fl ρ σ => match fl with
    | .next => @cSs R Φ n r ρ σ K
    | _ => K.k fl ρ σ⟩
@[simp ↓] theorem ss0 {K : Ks R} : @cSs R Φ (n + 1) [] ρ σ K = @aps _ K .next ρ σ := rfl
@[simp ↓] theorem ss1 {K : Ks R} {st : Stmt} {r : List Stmt} : @cSs R Φ (n + 1) (st :: r) ρ σ K = @cS R Φ n st ρ σ (kSeq Φ n r K) := rfl
@[simp ↓] theorem qN {K : Ks R} {r : List Stmt} : @aps _ (kSeq Φ n r K) .next ρ σ = @cSs R Φ n r ρ σ K := rfl
@[simp ↓] theorem qC {K : Ks R} {r : List Stmt} : @aps _ (kSeq Φ n r K) .cont ρ σ = @aps _ K .cont ρ σ := rfl
@[simp ↓] theorem qB {K : Ks R} {r : List Stmt} : @aps _ (kSeq Φ n r K) .brk ρ σ = @aps _ K .brk ρ σ := rfl
@[simp ↓] theorem qR {K : Ks R} {r : List Stmt} {v : V} : @aps _ (kSeq Φ n r K) (.ret v) ρ σ = @aps _ K (.ret v) ρ σ := rfl
@[simp ↓] theorem aFl {fl : Fl} : @aps _ kFl fl ρ σ = some (fl, ρ, σ) := rfl
@[simp ↓] theorem aER {v : V} : @aps _ kE (.ret v) ρ σ = some (v, σ) := rfl
@[simp ↓] theorem aEN  : @aps _ kE .next ρ σ = some (.none, σ) := rfl
@[simp ↓] theorem aPR {v : V} : @aps _ kP (.ret v) ρ σ = frz σ v := rfl
@[simp ↓] theorem aPN  : @aps _ kP .next ρ σ = some .none := rfl
@[simp] theorem ccP {K : K2 V R} {vs : List V} {a : Addr} {g : List V → Option V} : @calC R own vs σ (some (.fnP a g)) K = @qv _ _ K σ (pureV g vs σ) := rfl
@[simp] theorem okP {a : Addr} {g : List V → Option V} : okG (some (.fnP a g)) = true := rfl
@[simp] theorem ccE {K : K2 V R} {vs : List V} {a : Addr} {g : List V → Sto → Option (V × Sto)} : @calC R own vs σ (some (.fnE a g)) K = @pu _ _ K (g vs σ) := rfl
@[simp] theorem okE {a : Addr} {g : List V → Sto → Option (V × Sto)} : okG (some (.fnE a g)) = true := rfl
@[simp] theorem ccLen {K : K2 V R} {vs : List V} : @calC R own vs σ (some (.bi "len")) K = @qv _ _ K σ (lenV σ vs) := rfl
@[simp] theorem ccMin {K : K2 V R} {vs : List V} : @calC R own vs σ (some (.bi "min")) K = @qv _ _ K σ (minV vs) := rfl
@[simp] theorem ccTup {K : K2 V R} {vs : List V} : @calC R own vs σ (some (.ty "tuple")) K = @qv _ _ K σ (toTupV σ vs) := rfl
@[simp] theorem ccLst {K : K2 V R} {vs : List V} : @calC R own vs σ (some (.ty "list")) K = @pu _ _ K (toLstV own σ vs) := rfl
@[simp] theorem okB {id : String} : okG (some (.bi id)) = true := rfl
@[simp] theorem okT {id : String} : okG (some (.ty id)) = true := rfl
@[simp] theorem ikRng  : ik (some (.ty "range")) = some .rng := rfl
@[simp] theorem ikEnu  : ik (some (.ty "enumerate")) = some .enu := rfl
@[simp] theorem ikZip  : ik (some (.ty "zip")) = some .zip := rfl
@[simp] theorem ikRev  : ik (some (.ty "reversed")) = some .rev := rfl
@[simp] theorem ikP {a : Addr} {g : List V → Option V} : ik (some (.fnP a g)) = none := rfl
@[simp] theorem ikE {a : Addr} {g : List V → Sto → Option (V × Sto)} : ik (some (.fnE a g)) = none := rfl
end
section
variable {σ : Sto}
@[simp] theorem plNm {y : Str} {q : Pos} : plainE (.Name y q) = true := rfl
@[simp] theorem plCn {c : Const} {k : _} {q : Pos} : plainE (.Constant c k q) = true := rfl
@[simp] theorem plCa {f : PySem.Expr} {args : List PySem.Expr} {kws : List Keyword} {q : Pos} : plainE (.Call f args kws q) = true := rfl
@[simp] theorem plSb {a b : PySem.Expr} {q : Pos} : plainE (.Subscript a b q) = true := rfl
@[simp] theorem plBo {a b : PySem.Expr} {op : Operator} {q : Pos} : plainE (.BinOp a op b q) = true := rfl
@[simp] theorem plUn {a : PySem.Expr} {op : UnaryOp} {q : Pos} : plainE (.UnaryOp op a q) = true := rfl
@[simp] theorem plBl {op : BoolOp} {vs : List PySem.Expr} {q : Pos} : plainE (.BoolOp op vs q) = true := rfl
@[simp] theorem plCm {a : PySem.Expr} {os : List CmpOp} {vs : List PySem.Expr} {q : Pos} : plainE (.Compare a os vs q) = true := rfl
@[simp] theorem plIf {a b c : PySem.Expr} {q : Pos} : plainE (.IfExp a b c q) = true := rfl
@[simp] theorem plTu {es : List PySem.Expr} {k : _} {q : Pos} : plainE (.Tuple es k q) = true := rfl
@[simp] theorem plLi {es : List PySem.Expr} {q : Pos} : plainE (.List es q) = true := rfl
@[simp] theorem ncNm {y : Str} {q : Pos} : notComp (.Name y q) = true := rfl
@[simp] theorem ncCn {c : Const} {k : _} {q : Pos} : notComp (.Constant c k q) = true := rfl
@[simp] theorem ncCa {f : PySem.Expr} {args : List PySem.Expr} {kws : List Keyword} {q : Pos} : notComp (.Call f args kws q) = true := rfl
@[simp] theorem ncSb {a b : PySem.Expr} {q : Pos} : notComp (.Subscript a b q) = true := rfl
@[simp] theorem ncBo {a b : PySem.Expr} {op : Operator} {q : Pos} : notComp (.BinOp a op b q) = true := rfl
@[simp] theorem ncUn {a : PySem.Expr} {op : UnaryOp} {q : Pos} : notComp (.UnaryOp op a q) = true := rfl
@[simp] theorem ncBl {op : BoolOp} {vs : List PySem.Expr} {q : Pos} : notComp (.BoolOp op vs q) = true := rfl
@[simp] theorem ncCm {a : PySem.Expr} {os : List CmpOp} {vs : List PySem.Expr} {q : Pos} : notComp (.Compare a os vs q) = true := rfl
@[simp] theorem ncIf {a b c : PySem.Expr} {q : Pos} : notComp (.IfExp a b c q) = true := rfl
@[simp] theorem ncTu {es : List PySem.Expr} {k : _} {q : Pos} : notComp (.Tuple es k q) = true := rfl
@[simp] theorem ncLi {es : List PySem.Expr} {q : Pos} : notComp (.List es q) = true := rfl
@[simp] theorem itNm {y : Str} {q : Pos} : isTup (.Name y q) = false := rfl
@[simp] theorem itCn {c : Const} {k : _} {q : Pos} : isTup (.Constant c k q) = false := rfl
@[simp] theorem itCa {f : PySem.Expr} {args : List PySem.Expr} {kws : List Keyword} {q : Pos} : isTup (.Call f args kws q) = false := rfl
@[simp] theorem itSb {a b : PySem.Expr} {q : Pos} : isTup (.Subscript a b q) = false := rfl
@[simp] theorem itBo {a b : PySem.Expr} {op : Operator} {q : Pos} : isTup (.BinOp a op b q) = false := rfl
@[simp] theorem itUn {a : PySem.Expr} {op : UnaryOp} {q : Pos} : isTup (.UnaryOp op a q) = false := rfl
@[simp] theorem itBl {op : BoolOp} {vs : List PySem.Expr} {q : Pos} : isTup (.BoolOp op vs q) = false := rfl
@[simp] theorem itCm {a : PySem.Expr} {os : List CmpOp} {vs : List PySem.Expr} {q : Pos} : isTup (.Compare a os vs q) = false := rfl
@[simp] theorem itIf {a b c : PySem.Expr} {q : Pos} : isTup (.IfExp a b c q) = false := rfl
@[simp] theorem itTu {es : List PySem.Expr} {k : _} {q : Pos} : isTup (.Tuple es k q) = true := rfl
@[simp] theorem itLi {es : List PySem.Expr} {q : Pos} : isTup (.List es q) = false := rfl
@[simp] theorem poNm {y : Str} {q : Pos} : plainObj (.Name y q) = true := rfl
@[simp] theorem poSb {a b : PySem.Expr} {q : Pos} : plainObj (.Subscript a b q) = true := rfl
@[simp] theorem mulI {own : Bool} {l : List V} {k : Int} : mulV own l (.int k) σ = if mulOk l.length k = true then mk own (.lst (List.replicate k.toNat l).flatten) σ else none := rfl
@[simp] theorem unI {i : Int} : unV .USub (.int i) = some (.int (-i)) := rfl
@[simp] theorem unB {b : Bool} : unV .Not (.bool b) = some (.bool (!b)) := rfl
@[simp] theorem tupV0  : tupV [] = some (.tup []) := rfl
@[simp] theorem lstV0  {own : Bool} : lstV own [] σ = mk own (.lst []) σ := rfl
@[simp] theorem tupV1 {a : V} : tupV [a] = some (.tup [a]) := rfl
@[simp] theorem lstV1 {a : V} {own : Bool} : lstV own [a] σ = mk own (.lst [a]) σ := rfl
@[simp] theorem tupV2 {a b : V} : tupV [a, b] = some (.tup [a, b]) := rfl
@[simp] theorem lstV2 {a b : V} {own : Bool} : lstV own [a, b] σ = mk own (.lst [a, b]) σ := rfl
@[simp] theorem tupV3 {a b c : V} : tupV [a, b, c] = some (.tup [a, b, c]) := rfl
@[simp] theorem lstV3 {a b c : V} {own : Bool} : lstV own [a, b, c] σ = mk own (.lst [a, b, c]) σ := rfl
@[simp] theorem tupV4 {a b c d : V} : tupV [a, b, c, d] = some (.tup [a, b, c, d]) := rfl
@[simp] theorem tupV5 {a b c d e : V} : tupV [a, b, c, d, e] = some (.tup [a, b, c, d, e]) := rfl
@[simp] theorem tupV6 {a b c d e f : V} : tupV [a, b, c, d, e, f] = some (.tup [a, b, c, d, e, f]) := rfl
@[simp] theorem slcT {own : Bool} {l : List V} {k : Int} : slcV own (.tup l) (some (.int k)) none none σ = if 0 ≤ k ∧ k ≤ l.length ∧ l.length ≤ sizeLine then some (.tup (l.drop k.toNat), σ) else none := by
  show Option.map (fun r => (V.tup r, σ)) (if 0 ≤ k ∧ k ≤ l.length ∧ l.length ≤ sizeLine then some (l.drop k.toNat) else none) = _
  by_cases h : 0 ≤ k ∧ k ≤ l.length ∧ l.length ≤ sizeLine
  · rw [if_pos h, if_pos h]; rfl
  · rw [if_neg h, if_neg h]; rfl
@[simp] theorem slcL1 {own : Bool} {l : List V} {lo hi st : Option V} : slcV own (.lst l) lo hi st σ = slcL own (.lst l) lo hi st σ := rfl
@[simp] theorem slcL2 {own : Bool} {k : Nat} {lo hi st : Option V} : slcV own (.cell k) lo hi st σ = slcL own (.cell k) lo hi st σ := rfl
@[simp] theorem slcLE {own : Bool} {o : V} {lo hi st : Option V} : slcL own o lo hi st σ = @bd _ _ (Kt.mk fun l => if l.length ≤ sizeLine then @bd _ _ (Kt.mk fun r => mk own (.lst r) σ) (sliceV lo hi st l) else none) (itemsOf σ o) := rfl
@[simp] theorem lenE {x : V} : lenV σ [x] = @bd _ _ (Kt.mk fun l => if fits l.length = true then some (V.int l.length) else none) (itemsOf σ x) := rfl
@[simp] theorem minE {a b : Int} : minV [.int a, .int b] = some (.int (if b < a then b else a)) := rfl
@[simp] theorem toTupE {k : Nat} : toTupV σ [.cell k] = @bd _ _ (Kt.mk fun l => if l.length ≤ sizeLine then some (V.tup l) else none) (itemsOf σ (.cell k)) := rfl
@[simp] theorem toLstE {own : Bool} {l : List V} : toLstV own σ [.tup l] = if l.length ≤ sizeLine then mk own (.lst l) σ else none := rfl
@[simp] theorem pureE {g : List V → Option V} {vs : List V} : pureV g vs σ = @bd _ _ (Kt.mk g) (rds σ vs) := rfl
@[simp] theorem boolE {b : Bool} : boolV (.bool b) = some b := rfl
@[simp] theorem cellE {c : Nat} : asCell (.cell c) = some c := rfl
@[simp] theorem srcT {l : List V} : srcV σ (.tup l) = some ⟨l, none, false, false⟩ := rfl
@[simp] theorem srcL {l : List V} : srcV σ (.lst l) = some ⟨l, none, false, false⟩ := rfl
@[simp] theorem srcC {k : Nat} : srcV σ (.cell k) = @mp _ _ (Km.mk fun l => ⟨l, some (k, l), false, false⟩) (itemsOf σ (.cell k)) := by unfold srcV; simp only [asTup, lsrc, Option.map_map]; rfl
@[simp] theorem rng1 {b : Int} : ikV σ [.int b] .rng = if small b = true then some ⟨rangeV 0 1 b.toNat, none, false, false⟩ else none := rfl
@[simp] theorem rng2 {a b : Int} : ikV σ [.int a, .int b] .rng = if small a = true ∧ small b = true then some ⟨rangeV a 1 (b - a).toNat, none, false, false⟩ else none := rfl
@[simp] theorem rng3 {a b c : Int} : ikV σ [.int a, .int b, .int c] .rng = if c = -1 ∧ small a = true ∧ small b = true then some ⟨rangeV a (-1) (a - b).toNat, none, false, false⟩ else none := rfl
@[simp] theorem enuL {l : List V} : ikV σ [.lst l] .enu = some ⟨enumFrom 0 l, none, true, false⟩ := rfl
@[simp] theorem enuC {k : Nat} : ikV σ [.cell k] .enu = @mp _ _ (Km.mk fun l => ⟨enumFrom 0 l, some (k, l), true, false⟩) (itemsOf σ (.cell k)) := by unfold ikV enuV arg1; simp only [lsrc, Option.map_map]; rfl
@[simp] theorem zipE {a b : List V} : ikV σ [.lst a, .lst b] .zip = if a.all V.scal && b.all V.scal then some ⟨List.zipWith (fun x y => .tup [x, y]) a b, none, true, true⟩ else none := rfl
@[simp] theorem revE {l : List V} : ikV σ [.tup l] .rev = if l.length ≤ sizeLine then some ⟨l.reverse, none, false, false⟩ else none := rfl
@[simp] theorem augA {a b : Int} : augV .Add (.int a) (.int b) = some (.int (a + b)) := rfl
@[simp] theorem augS {a b : Int} : augV .Sub (.int a) (.int b) = some (.int (a - b)) := rfl
@[simp] theorem cLt {a b : Int} : cmpV σ .Lt (.int a) (.int b) = some (decide (a < b)) := rfl
@[simp] theorem cLtE {a b : Int} : cmpV σ .LtE (.int a) (.int b) = some (decide (a ≤ b)) := rfl
@[simp] theorem cGt {a b : Int} : cmpV σ .Gt (.int a) (.int b) = some (decide (b < a)) := rfl
@[simp] theorem cGtE {a b : Int} : cmpV σ .GtE (.int a) (.int b) = some (decide (b ≤ a)) := rfl
@[simp low] theorem cEq {a b : V} : cmpV σ .Eq a b = eqV σ a b := rfl
@[simp low] theorem cNe {a b : V} : cmpV σ .NotEq a b = (eqV σ a b).map not := rfl
@[simp] theorem cIn {a b : V} : cmpV σ .In a b = inV σ a b := rfl
@[simp] theorem cNi {a b : V} : cmpV σ .NotIn a b = (inV σ a b).map not := rfl
@[simp] theorem cIs1  : cmpV σ .Is .none .none = some true := rfl
@[simp] theorem cIs2 {l : List V} : cmpV σ .Is (.lst l) .none = some false := rfl
 theorem eqv_int (a b : Int) : PyData.eqv (.int a) (.int b) = decide (a = b) := by simp only [PyData.eqv]; rw [Bool.eq_iff_iff]; simp
@[simp] theorem eInt {a b : Int} : eqV σ (.int a) (.int b) = some (decide (a = b)) := (show _ = some (PyData.eqv (V.int a).py (V.int b).py) from rfl).trans (by rw [V.py, V.py, eqv_int])
@[simp] theorem eBool {a b : Bool} : eqV σ (.bool a) (.bool b) = some (a == b) := (show _ = some (PyData.eqv (V.bool a).py (V.bool b).py) from rfl).trans (by rw [V.py, V.py, PyData.eqv])
@[simp] theorem cEqI {a b : Int} : cmpV σ .Eq (.int a) (.int b) = some (decide (a = b)) := cEq.trans eInt
@[simp] theorem cNeI {a b : Int} : cmpV σ .NotEq (.int a) (.int b) = some (!decide (a = b)) := cNe.trans (by rw [eInt]; rfl)
@[simp] theorem divOk2  : divOk 2 = true := divOk_of (by decide) (by decide)
@[simp] theorem divOk4  : divOk 4 = true := divOk_of (by decide) (by decide)
@[simp] theorem divOk5  : divOk 5 = true := divOk_of (by decide) (by decide)
@[simp] theorem divOk6  : divOk 6 = true := divOk_of (by decide) (by decide)
@[simp] theorem divOk7  : divOk 7 = true := divOk_of (by decide) (by decide)
@[simp] theorem divOk8  : divOk 8 = true := divOk_of (by decide) (by decide)
@[simp] theorem divOk21  : divOk 21 = true := divOk_of (by decide) (by decide)
@[simp] theorem divOk40  : divOk 40 = true := divOk_of (by decide) (by decide)
@[simp] theorem divOk63  : divOk 63 = true := divOk_of (by decide) (by decide)
@[simp] theorem divOk126  : divOk 126 = true := divOk_of (by decide) (by decide)
@[simp] theorem idx0  : idx 0 = true := idx_of (by decide) (by decide)
@[simp] theorem idx1  : idx 1 = true := idx_of (by decide) (by decide)
@[simp] theorem idx2  : idx 2 = true := idx_of (by decide) (by decide)
@[simp] theorem idx3  : idx 3 = true := idx_of (by decide) (by decide)
@[simp] theorem idx4  : idx 4 = true := idx_of (by decide) (by decide)
@[simp] theorem idx5  : idx 5 = true := idx_of (by decide) (by decide)
@[simp] theorem idx6  : idx 6 = true := idx_of (by decide) (by decide)
@[simp] theorem smallm1  : small (-1) = true := small_of (by decide) (by decide)
@[simp] theorem small3  : small 3 = true := small_of (by decide) (by decide)
@[simp] theorem small8  : small 8 = true := small_of (by decide) (by decide)
@[simp] theorem gTup {l : List V} {k : Int} : getV σ (.tup l) (.int k) = if idx k = true then l[k.toNat]? else none := rfl
@[simp] theorem gLst {l : List V} {k : Int} : getV σ (.lst l) (.int k) = if idx k = true then l[k.toNat]? else none := rfl
@[simp] theorem gCell {c : Nat} {k : Int} : getV σ (.cell c) (.int k) = @bd _ _ (Kt.mk fun its => if idx k = true then its[k.toNat]? else none) (itemsOf σ (.cell c)) := rfl
@[simp] theorem gCellS {c : Nat} {x : Str} : getV σ (.cell c) (.str x) = match σ[c]? with | some (.dct l) => l.lookup x | _ => none := rfl
@[simp] theorem bAdd {a b : Int} : binV .Add (.int a) (.int b) = some (.int (a + b)) := rfl
@[simp] theorem bSub {a b : Int} : binV .Sub (.int a) (.int b) = some (.int (a - b)) := rfl
@[simp] theorem bDiv {a b : Int} : binV .FloorDiv (.int a) (.int b) = if divOk b = true then some (.int (a.fdiv b)) else none := rfl
@[simp] theorem bMod {a b : Int} : binV .Mod (.int a) (.int b) = if b ≠ 0 then some (.int (a.fmod b)) else none := rfl
@[simp] theorem bStr {a b : Str} : binV .Add (.str a) (.str b) = if a.length + b.length ≤ sizeLine then some (.str (a ++ b)) else none := rfl
@[simp] theorem bTup {a b : List V} : binV .Add (.tup a) (.tup b) = if a.length + b.length ≤ sizeLine then some (.tup (a ++ b)) else none := rfl
@[simp] theorem iTup {l : List V} : itemsOf σ (.tup l) = some l := rfl
@[simp] theorem iLst {l : List V} : itemsOf σ (.lst l) = some l := rfl
@[simp] theorem iCell {k : Nat} : itemsOf σ (.cell k) = match σ[k]? with | some (.lst l) => some l | _ => none := rfl
@[simp] theorem rNone  : rd σ .none = some .none := rfl
@[simp] theorem rBool {b : Bool} : rd σ (.bool b) = some (.bool b) := rfl
@[simp] theorem rInt {i : Int} : rd σ (.int i) = some (.int i) := rfl
@[simp] theorem rStr {x : Str} : rd σ (.str x) = some (.str x) := rfl
@[simp] theorem rTup {l : List V} : rd σ (.tup l) = if (V.tup l).pure 6 = true then some (.tup l) else none := rfl
 theorem rLst {l : List V} : rd σ (.lst l) = if (V.lst l).pure 6 = true then some (.lst l) else none := rfl
@[simp] theorem rCell {k : Nat} : rd σ (.cell k) = match σ[k]? with | some (.lst l) => if l.all (V.pure 6) then some (.lst l) else none | _ => none := rfl
@[simp] theorem rds0  : rds σ [] = some [] := rfl
@[simp] theorem rds1 {v : V} {vs : List V} : rds σ (v :: vs) = @bd _ _ (Kt.mk fun a => @mp _ _ (Km.mk fun r => a :: r) (rds σ vs)) (rd σ v) := rfl
@[simp] theorem mkT {l : List V} : mk true (.lst l) σ = if l.length ≤ sizeLine then some (.cell σ.length, σ ++ [.lst l]) else none := rfl
@[simp] theorem mkF {l : List V} : mk false (.lst l) σ = if l.length ≤ sizeLine then some (.lst l, σ) else none := rfl
@[simp] theorem fNone  : frz σ .none = some .none := rfl
@[simp] theorem fBool {b : Bool} : frz σ (.bool b) = some (.bool b) := rfl
@[simp] theorem fInt {i : Int} : frz σ (.int i) = some (.int i) := rfl
@[simp] theorem fStr {x : Str} : frz σ (.str x) = some (.str x) := rfl
@[simp] theorem fTup {l : List V} : frz σ (.tup l) = @mp _ _ (Km.mk V.tup) (frzs σ l) := rfl
@[simp] theorem fCell {k : Nat} : frz σ (.cell k) = match σ[k]? with | some (.lst l) => if l.all (V.tame 4) then some (.lst l) else none | _ => none := rfl
@[simp] theorem fLst {l : List V} : frz σ (.lst l) = none := rfl
@[simp] theorem f1None  : frz1 σ .none = some .none := rfl
@[simp] theorem f1Bool {b : Bool} : frz1 σ (.bool b) = some (.bool b) := rfl
@[simp] theorem f1Int {i : Int} : frz1 σ (.int i) = some (.int i) := rfl
@[simp] theorem f1Tup {l : List V} : frz1 σ (.tup l) = if (V.tup l).tame 4 = true then some (.tup l) else none := rfl
@[simp] theorem f1Cell {k : Nat} : frz1 σ (.cell k) = match σ[k]? with | some (.lst l) => if l.all (V.tame 4) then some (.lst l) else none | _ => none := rfl
@[simp] theorem frs0  : frzs σ [] = some [] := rfl
@[simp] theorem frs1 {v : V} {vs : List V} : frzs σ (v :: vs) = @bd _ _ (Kt.mk fun a => @mp _ _ (Km.mk fun r => a :: r) (frzs σ vs)) (frz1 σ v) := rfl
@[simp] theorem bifT {α : Type} {a b : α} : (bif true then a else b) = a := rfl
@[simp] theorem locE2 {Φ : Cx} {x : Str} : isLoc Φ x = isLocN Φ.names x := rfl
@[simp low] theorem locD {names : List (Str × NameKind)} {x : Str} : isLocN names x = decide (names.lookup x = some .local) := rfl
@[simp] theorem tName {names : List (Str × NameKind)} {x : Str} {p : Pos} {v : V} {ρ : Loc} : bindT names (.Name x p) v ρ = bif isLocN names x then some (lset ρ x v) else none := rfl
@[simp] theorem tTup {names : List (Str × NameKind)} {es : List PySem.Expr} {k : _} {p : Pos} {vs : List V} {ρ : Loc} : bindT names (.Tuple es k p) (.tup vs) ρ = bindTs names es vs ρ := rfl
@[simp] theorem tTs0 {names : List (Str × NameKind)} {ρ : Loc} : bindTs names [] [] ρ = some ρ := rfl
@[simp] theorem tTs1 {names : List (Str × NameKind)} {x : Str} {p : Pos} {es : List PySem.Expr} {v : V} {vs : List V} {ρ : Loc} : bindTs names (.Name x p :: es) (v :: vs) ρ = bif isLocN names x then bindTs names es vs (lset ρ x v) else none := rfl
 theorem nIf {α : Type} {t : Bool} {a b : α} : (if t = true then a else b) = bif t then a else b := by cases t <;> rfl
@[simp] theorem aCell {c : Nat} {x : V} : appV σ (.cell c) x = match σ[c]? with | some (.lst l) => if l.length + 1 ≤ sizeLine then some (σ.set c (.lst (l ++ [x]))) else none | _ => none := rfl
@[simp] theorem wInt {c : Nat} {k : Int} {x : V} : setV σ (.cell c) (.int k) x = match σ[c]? with | some (.lst l) => if idx k = true ∧ k < l.length then some (σ.set c (.lst (l.set k.toNat x))) else none | _ => none := by unfold setV; simp only; cases σ[c]? with | none => rfl | some d => cases d <;> rfl
@[simp] theorem wStr {c : Nat} {y : Str} {x : V} : setV σ (.cell c) (.str y) x = match σ[c]? with | some (.dct l) => if (l.lookup y).isSome then some (σ.set c (.dct (dset l y x))) else none | _ => none := by unfold setV; simp only; cases σ[c]? with | none => rfl | some d => cases d <;> rfl
@[simp] theorem slN {l : List V} : sliceV none none none l = some l := rfl
@[simp] theorem slA {l : List V} {a : Int} : sliceV (some (.int a)) none none l = if 0 ≤ a then some (l.drop a.toNat) else none := rfl
@[simp] theorem slB {l : List V} {b : Int} : sliceV none (some (.int b)) none l = if 0 ≤ b then some (l.take b.toNat) else none := rfl
@[simp] theorem slC {l : List V} {c : Int} : sliceV none none (some (.int c)) l = if c = -1 then some l.reverse else none := rfl
@[simp] theorem cnN : constV .none = some .none := rfl
@[simp] theorem cnB {b : Bool} : constV (.bool b) = some (.bool b) := rfl
@[simp] theorem cnI {i : Int} : constV (.int i) = some (.int i) := rfl
@[simp] theorem cnS {s : Str} : constV (.str s) = some (.str s) := rfl
@[simp] theorem pureN {n : Nat} : V.pure (n + 1) .none = true := rfl
@[simp] theorem pureB {n : Nat} {b : Bool} : V.pure (n + 1) (.bool b) = true := rfl
@[simp] theorem pureI {n : Nat} {i : Int} : V.pure (n + 1) (.int i) = true := rfl
@[simp] theorem pureS {n : Nat} {s : Str} : V.pure (n + 1) (.str s) = true := rfl
@[simp] theorem pureT {n : Nat} {l : List V} : V.pure (n + 1) (.tup l) = l.all (V.pure n) := rfl
@[simp] theorem pureL {n : Nat} {l : List V} : V.pure (n + 1) (.lst l) = l.all (V.pure n) := rfl
@[simp] theorem okdN {n : Nat} : V.okd (n + 1) .none = true := rfl
@[simp] theorem okdB {n : Nat} {b : Bool} : V.okd (n + 1) (.bool b) = true := rfl
@[simp] theorem okdI {n : Nat} {i : Int} : V.okd (n + 1) (.int i) = true := rfl
@[simp] theorem okdS {n : Nat} {s : Str} : V.okd (n + 1) (.str s) = PyData.strOk s := rfl
@[simp] theorem okdT {n : Nat} {l : List V} : V.okd (n + 1) (.tup l) = l.all (V.okd n) := rfl
@[simp] theorem okdL {n : Nat} {l : List V} : V.okd (n + 1) (.lst l) = l.all (V.okd n) := rfl
@[simp] theorem tameN {n : Nat} : V.tame (n + 1) .none = true := rfl
@[simp] theorem tameB {n : Nat} {b : Bool} : V.tame (n + 1) (.bool b) = true := rfl
@[simp] theorem tameI {n : Nat} {i : Int} : V.tame (n + 1) (.int i) = true := rfl
@[simp] theorem tameS {n : Nat} {s : Str} : V.tame (n + 1) (.str s) = true := rfl
@[simp] theorem tameT {n : Nat} {l : List V} : V.tame (n + 1) (.tup l) = l.all (V.tame n) := rfl
@[simp] theorem scalN : V.scal .none = true := rfl
@[simp] theorem scalB {b : Bool} : V.scal (.bool b) = true := rfl
@[simp] theorem scalI {i : Int} : V.scal (.int i) = true := rfl
@[simp] theorem scalS {s : Str} : V.scal (.str s) = true := rfl
end
end Mine
end

section
open PySem PySem.W PyProof.Rows PySem.Calls
set_option autoImplicit false
set_option maxRecDepth 100000
set_option linter.defProp false
namespace Mine

noncomputable def fnAt (i : Nat) : Fn := match PySem.Challenge.pw_sa0226_01.main.body[i]? with
  | some (.FunctionDef _ args body _ _ _ scope _ _ _) => ⟨args.args.map (·.arg), scope.names, body⟩
  | _ => ⟨[], [], []⟩
noncomputable def stAt (l : List Stmt) (i : Nat) : Stmt := (l[i]?).getD (.Pass ⟨0, 0, 0, 0⟩)
noncomputable def bodyOf : Stmt → List Stmt
  | .For _ _ b _ _ => b
  | .While _ b _ _ => b
  | _ => []

noncomputable def F_parts_of : Fn := fnAt 16
noncomputable def pr_parts_of := @id (F_parts_of.params = [Str.ofString _]) rfl
noncomputable def nm_parts_of := @id (F_parts_of.names = [(_, _), (_, _), (_, _), (_, _), (_, _), (_, _), (_, _), (_, _)]) rfl
noncomputable def bd_parts_of := @id (F_parts_of.body = [_, _, _]) rfl
noncomputable def F_apart : Fn := fnAt 17
noncomputable def pr_apart := @id (F_apart.params = [Str.ofString _, Str.ofString _]) rfl
noncomputable def nm_apart := @id (F_apart.names = [(_, _), (_, _)]) rfl
noncomputable def bd_apart := @id (F_apart.body = [_]) rfl
noncomputable def F_inside : Fn := fnAt 18
noncomputable def pr_inside := @id (F_inside.params = [Str.ofString _, Str.ofString _]) rfl
noncomputable def nm_inside := @id (F_inside.names = [(_, _), (_, _)]) rfl
noncomputable def bd_inside := @id (F_inside.body = [_]) rfl
noncomputable def F_all_apart : Fn := fnAt 19
noncomputable def S_all_apart_0 : Stmt := stAt F_all_apart.body 0
noncomputable def B_all_apart_0 : List Stmt := bodyOf S_all_apart_0
noncomputable def S_all_apart_00 : Stmt := stAt B_all_apart_0 0
noncomputable def B_all_apart_00 : List Stmt := bodyOf S_all_apart_00
noncomputable def bb_all_apart_00 := @id (B_all_apart_00 = [_]) rfl
noncomputable def bs_all_apart_00 := @id (S_all_apart_00 = .For _ _ B_all_apart_00 [] _) rfl
noncomputable def bb_all_apart_0 := @id (B_all_apart_0 = [S_all_apart_00]) rfl
noncomputable def bs_all_apart_0 := @id (S_all_apart_0 = .For _ _ B_all_apart_0 [] _) rfl
noncomputable def pr_all_apart := @id (F_all_apart.params = [Str.ofString _, Str.ofString _]) rfl
noncomputable def nm_all_apart := @id (F_all_apart.names = [(_, _), (_, _), (_, _), (_, _), (_, _)]) rfl
noncomputable def bd_all_apart := @id (F_all_apart.body = [S_all_apart_0, _]) rfl
noncomputable def F_all_inside : Fn := fnAt 20
noncomputable def S_all_inside_0 : Stmt := stAt F_all_inside.body 0
noncomputable def B_all_inside_0 : List Stmt := bodyOf S_all_inside_0
noncomputable def S_all_inside_01 : Stmt := stAt B_all_inside_0 1
noncomputable def B_all_inside_01 : List Stmt := bodyOf S_all_inside_01
noncomputable def bb_all_inside_01 := @id (B_all_inside_01 = [_]) rfl
noncomputable def bs_all_inside_01 := @id (S_all_inside_01 = .For _ _ B_all_inside_01 [] _) rfl
noncomputable def bb_all_inside_0 := @id (B_all_inside_0 = [_, S_all_inside_01, _]) rfl
noncomputable def bs_all_inside_0 := @id (S_all_inside_0 = .For _ _ B_all_inside_0 [] _) rfl
noncomputable def pr_all_inside := @id (F_all_inside.params = [Str.ofString _, Str.ofString _]) rfl
noncomputable def nm_all_inside := @id (F_all_inside.names = [(_, _), (_, _), (_, _), (_, _), (_, _), (_, _)]) rfl
noncomputable def bd_all_inside := @id (F_all_inside.body = [S_all_inside_0, _]) rfl
noncomputable def F_clause_right : Fn := fnAt 21
noncomputable def pr_clause_right := @id (F_clause_right.params = [Str.ofString _, Str.ofString _]) rfl
noncomputable def nm_clause_right := @id (F_clause_right.names = [(_, _), (_, _), (_, _), (_, _), (_, _), (_, _), (_, _), (_, _), (_, _), (_, _), (_, _), (_, _), (_, _), (_, _), (_, _), (_, _), (_, _)]) rfl
noncomputable def bd_clause_right := @id (F_clause_right.body = [_, _, _, _, _, _, _]) rfl
noncomputable def F_filter_right : Fn := fnAt 22
noncomputable def S_filter_right_1 : Stmt := stAt F_filter_right.body 1
noncomputable def B_filter_right_1 : List Stmt := bodyOf S_filter_right_1
noncomputable def bb_filter_right_1 := @id (B_filter_right_1 = [_, _]) rfl
noncomputable def bs_filter_right_1 := @id (S_filter_right_1 = .For _ _ B_filter_right_1 [] _) rfl
noncomputable def pr_filter_right := @id (F_filter_right.params = [Str.ofString _, Str.ofString _, Str.ofString _]) rfl
noncomputable def nm_filter_right := @id (F_filter_right.names = [(_, _), (_, _), (_, _), (_, _), (_, _), (_, _), (_, _)]) rfl
noncomputable def bd_filter_right := @id (F_filter_right.body = [_, S_filter_right_1, _]) rfl
noncomputable def F_is_alone : Fn := fnAt 23
noncomputable def pr_is_alone := @id (F_is_alone.params = [Str.ofString _]) rfl
noncomputable def nm_is_alone := @id (F_is_alone.names = [(_, _), (_, _), (_, _)]) rfl
noncomputable def bd_is_alone := @id (F_is_alone.body = [_]) rfl
noncomputable def F_pair_right : Fn := fnAt 24
noncomputable def pr_pair_right := @id (F_pair_right.params = [Str.ofString _, Str.ofString _]) rfl
noncomputable def nm_pair_right := @id (F_pair_right.names = [(_, _), (_, _), (_, _), (_, _), (_, _), (_, _), (_, _), (_, _), (_, _)]) rfl
noncomputable def bd_pair_right := @id (F_pair_right.body = [_, _, _, _, _]) rfl
noncomputable def F_region_faults : Fn := fnAt 25
noncomputable def S_region_faults_1 : Stmt := stAt F_region_faults.body 1
noncomputable def B_region_faults_1 : List Stmt := bodyOf S_region_faults_1
noncomputable def bb_region_faults_1 := @id (B_region_faults_1 = [_]) rfl
noncomputable def bs_region_faults_1 := @id (S_region_faults_1 = .For _ _ B_region_faults_1 [] _) rfl
noncomputable def S_region_faults_3 : Stmt := stAt F_region_faults.body 3
noncomputable def B_region_faults_3 : List Stmt := bodyOf S_region_faults_3
noncomputable def S_region_faults_30 : Stmt := stAt B_region_faults_3 0
noncomputable def B_region_faults_30 : List Stmt := bodyOf S_region_faults_30
noncomputable def bb_region_faults_30 := @id (B_region_faults_30 = [_]) rfl
noncomputable def bs_region_faults_30 := @id (S_region_faults_30 = .For _ _ B_region_faults_30 [] _) rfl
noncomputable def bb_region_faults_3 := @id (B_region_faults_3 = [S_region_faults_30]) rfl
noncomputable def bs_region_faults_3 := @id (S_region_faults_3 = .For _ _ B_region_faults_3 [] _) rfl
noncomputable def pr_region_faults := @id (F_region_faults.params = [Str.ofString _, Str.ofString _]) rfl
noncomputable def nm_region_faults := @id (F_region_faults.names = [(_, _), (_, _), (_, _), (_, _), (_, _), (_, _), (_, _), (_, _), (_, _), (_, _), (_, _), (_, _), (_, _)]) rfl
noncomputable def bd_region_faults := @id (F_region_faults.body = [_, S_region_faults_1, _, S_region_faults_3, _]) rfl
noncomputable def F_note_fault : Fn := fnAt 26
noncomputable def pr_note_fault := @id (F_note_fault.params = [Str.ofString _, Str.ofString _]) rfl
noncomputable def nm_note_fault := @id (F_note_fault.names = [(_, _), (_, _), (_, _), (_, _)]) rfl
noncomputable def bd_note_fault := @id (F_note_fault.body = [_, _]) rfl
noncomputable def F_part_at : Fn := fnAt 27
noncomputable def pr_part_at := @id (F_part_at.params = [Str.ofString _, Str.ofString _]) rfl
noncomputable def nm_part_at := @id (F_part_at.names = [(_, _), (_, _), (_, _), (_, _), (_, _), (_, _), (_, _), (_, _), (_, _), (_, _), (_, _), (_, _)]) rfl
noncomputable def bd_part_at := @id (F_part_at.body = [_, _, _, _, _]) rfl
noncomputable def F_region_of : Fn := fnAt 28
noncomputable def S_region_of_1 : Stmt := stAt F_region_of.body 1
noncomputable def B_region_of_1 : List Stmt := bodyOf S_region_of_1
noncomputable def bb_region_of_1 := @id (B_region_of_1 = [_, _]) rfl
noncomputable def bs_region_of_1 := @id (S_region_of_1 = .For _ _ B_region_of_1 [] _) rfl
noncomputable def pr_region_of := @id (F_region_of.params = [Str.ofString _, Str.ofString _]) rfl
noncomputable def nm_region_of := @id (F_region_of.names = [(_, _), (_, _), (_, _), (_, _), (_, _), (_, _), (_, _), (_, _), (_, _)]) rfl
noncomputable def bd_region_of := @id (F_region_of.body = [_, S_region_of_1, _]) rfl
noncomputable def F_is_catching : Fn := fnAt 29
noncomputable def pr_is_catching := @id (F_is_catching.params = [Str.ofString _, Str.ofString _]) rfl
noncomputable def nm_is_catching := @id (F_is_catching.names = [(_, _), (_, _), (_, _), (_, _), (_, _)]) rfl
noncomputable def bd_is_catching := @id (F_is_catching.body = [_]) rfl
noncomputable def F_is_last : Fn := fnAt 30
noncomputable def pr_is_last := @id (F_is_last.params = [Str.ofString _, Str.ofString _]) rfl
noncomputable def nm_is_last := @id (F_is_last.names = [(_, _), (_, _), (_, _), (_, _)]) rfl
noncomputable def bd_is_last := @id (F_is_last.body = [_]) rfl
noncomputable def F_enters_right : Fn := fnAt 31
noncomputable def S_enters_right_0 : Stmt := stAt F_enters_right.body 0
noncomputable def B_enters_right_0 : List Stmt := bodyOf S_enters_right_0
noncomputable def bb_enters_right_0 := @id (B_enters_right_0 = [_, _]) rfl
noncomputable def bs_enters_right_0 := @id (S_enters_right_0 = .For _ _ B_enters_right_0 [] _) rfl
noncomputable def pr_enters_right := @id (F_enters_right.params = [Str.ofString _, Str.ofString _, Str.ofString _, Str.ofString _]) rfl
noncomputable def nm_enters_right := @id (F_enters_right.names = [(_, _), (_, _), (_, _), (_, _), (_, _), (_, _), (_, _)]) rfl
noncomputable def bd_enters_right := @id (F_enters_right.body = [S_enters_right_0, _]) rfl
noncomputable def F_exits_right : Fn := fnAt 32
noncomputable def S_exits_right_0 : Stmt := stAt F_exits_right.body 0
noncomputable def B_exits_right_0 : List Stmt := bodyOf S_exits_right_0
noncomputable def bb_exits_right_0 := @id (B_exits_right_0 = [_, _, _]) rfl
noncomputable def bs_exits_right_0 := @id (S_exits_right_0 = .For _ _ B_exits_right_0 [] _) rfl
noncomputable def pr_exits_right := @id (F_exits_right.params = [Str.ofString _, Str.ofString _, Str.ofString _, Str.ofString _]) rfl
noncomputable def nm_exits_right := @id (F_exits_right.names = [(_, _), (_, _), (_, _), (_, _), (_, _), (_, _), (_, _), (_, _)]) rfl
noncomputable def bd_exits_right := @id (F_exits_right.body = [S_exits_right_0, _]) rfl
noncomputable def F_jump_fault : Fn := fnAt 33
noncomputable def pr_jump_fault := @id (F_jump_fault.params = [Str.ofString _, Str.ofString _, Str.ofString _, Str.ofString _, Str.ofString _]) rfl
noncomputable def nm_jump_fault := @id (F_jump_fault.names = [(_, _), (_, _), (_, _), (_, _), (_, _), (_, _), (_, _), (_, _), (_, _), (_, _), (_, _), (_, _), (_, _)]) rfl
noncomputable def bd_jump_fault := @id (F_jump_fault.body = [_, _, _, _, _, _]) rfl
noncomputable def F_stand_fault : Fn := fnAt 34
noncomputable def pr_stand_fault := @id (F_stand_fault.params = [Str.ofString _, Str.ofString _, Str.ofString _]) rfl
noncomputable def nm_stand_fault := @id (F_stand_fault.names = [(_, _), (_, _), (_, _), (_, _), (_, _), (_, _), (_, _), (_, _), (_, _), (_, _), (_, _), (_, _), (_, _)]) rfl
noncomputable def bd_stand_fault := @id (F_stand_fault.body = [_, _, _, _, _]) rfl
noncomputable def F_rethrow_fault : Fn := fnAt 35
noncomputable def S_rethrow_fault_0 : Stmt := stAt F_rethrow_fault.body 0
noncomputable def B_rethrow_fault_0 : List Stmt := bodyOf S_rethrow_fault_0
noncomputable def bb_rethrow_fault_0 := @id (B_rethrow_fault_0 = [_, _, _]) rfl
noncomputable def bs_rethrow_fault_0 := @id (S_rethrow_fault_0 = .For _ _ B_rethrow_fault_0 [] _) rfl
noncomputable def pr_rethrow_fault := @id (F_rethrow_fault.params = [Str.ofString _, Str.ofString _]) rfl
noncomputable def nm_rethrow_fault := @id (F_rethrow_fault.names = [(_, _), (_, _), (_, _), (_, _), (_, _), (_, _), (_, _), (_, _)]) rfl
noncomputable def bd_rethrow_fault := @id (F_rethrow_fault.body = [S_rethrow_fault_0, _]) rfl
noncomputable def F_end_fault : Fn := fnAt 36
noncomputable def pr_end_fault := @id (F_end_fault.params = [Str.ofString _, Str.ofString _, Str.ofString _]) rfl
noncomputable def nm_end_fault := @id (F_end_fault.names = [(_, _), (_, _), (_, _), (_, _), (_, _), (_, _), (_, _), (_, _), (_, _), (_, _), (_, _)]) rfl
noncomputable def bd_end_fault := @id (F_end_fault.body = [_, _, _, _, _]) rfl
noncomputable def F_take : Fn := fnAt 41
noncomputable def pr_take := @id (F_take.params = [Str.ofString _]) rfl
noncomputable def nm_take := @id (F_take.names = [(_, _), (_, _)]) rfl
noncomputable def bd_take := @id (F_take.body = [_, _, _]) rfl
noncomputable def F_put : Fn := fnAt 42
noncomputable def pr_put := @id (F_put.params = [Str.ofString _, Str.ofString _, Str.ofString _]) rfl
noncomputable def nm_put := @id (F_put.names = [(_, _), (_, _), (_, _)]) rfl
noncomputable def bd_put := @id (F_put.body = [_, _]) rfl
noncomputable def F_block : Fn := fnAt 43
noncomputable def pr_block := @id (F_block.params = [Str.ofString _, Str.ofString _, Str.ofString _, Str.ofString _]) rfl
noncomputable def nm_block := @id (F_block.names = [(_, _), (_, _), (_, _), (_, _), (_, _), (_, _), (_, _), (_, _), (_, _), (_, _), (_, _)]) rfl
noncomputable def bd_block := @id (F_block.body = [_, _, _, _, _]) rfl
noncomputable def F_region : Fn := fnAt 44
noncomputable def pr_region := @id (F_region.params = [Str.ofString _, Str.ofString _, Str.ofString _]) rfl
noncomputable def nm_region := @id (F_region.names = [(_, _), (_, _), (_, _), (_, _)]) rfl
noncomputable def bd_region := @id (F_region.body = [_, _]) rfl
noncomputable def F_try : Fn := fnAt 45
noncomputable def S_try_5 : Stmt := stAt F_try.body 5
noncomputable def B_try_5 : List Stmt := bodyOf S_try_5
noncomputable def bb_try_5 := @id (B_try_5 = [_, _, _, _, _, _, _]) rfl
noncomputable def bs_try_5 := @id (S_try_5 = .For _ _ B_try_5 [] _) rfl
noncomputable def pr_try := @id (F_try.params = [Str.ofString _, Str.ofString _, Str.ofString _, Str.ofString _]) rfl
noncomputable def nm_try := @id (F_try.names = [(_, _), (_, _), (_, _), (_, _), (_, _), (_, _), (_, _), (_, _), (_, _), (_, _), (_, _), (_, _), (_, _), (_, _), (_, _), (_, _), (_, _), (_, _), (_, _)]) rfl
noncomputable def bd_try := @id (F_try.body = [_, _, _, _, _, S_try_5]) rfl
noncomputable def F_letters : Fn := fnAt 46
noncomputable def S_letters_4 : Stmt := stAt F_letters.body 4
noncomputable def B_letters_4 : List Stmt := bodyOf S_letters_4
noncomputable def S_letters_41 : Stmt := stAt B_letters_4 1
noncomputable def B_letters_41 : List Stmt := bodyOf S_letters_41
noncomputable def bb_letters_41 := @id (B_letters_41 = [_, _]) rfl
noncomputable def bs_letters_41 := @id (S_letters_41 = .For _ _ B_letters_41 [] _) rfl
noncomputable def bb_letters_4 := @id (B_letters_4 = [_, S_letters_41]) rfl
noncomputable def bs_letters_4 := @id (S_letters_4 = .For _ _ B_letters_4 [] _) rfl
noncomputable def pr_letters := @id (F_letters.params = [Str.ofString _, Str.ofString _]) rfl
noncomputable def nm_letters := @id (F_letters.names = [(_, _), (_, _), (_, _), (_, _), (_, _), (_, _), (_, _), (_, _), (_, _), (_, _), (_, _), (_, _), (_, _), (_, _), (_, _), (_, _), (_, _), (_, _)]) rfl
noncomputable def bd_letters := @id (F_letters.body = [_, _, _, _, S_letters_4, _, _, _]) rfl
noncomputable def F_pair : Fn := fnAt 47
noncomputable def pr_pair := @id (F_pair.params = [Str.ofString _, Str.ofString _, Str.ofString _]) rfl
noncomputable def nm_pair := @id (F_pair.names = [(_, _), (_, _), (_, _), (_, _), (_, _), (_, _), (_, _)]) rfl
noncomputable def bd_pair := @id (F_pair.body = [_, _, _, _]) rfl
noncomputable def F_told : Fn := fnAt 48
noncomputable def S_told_2 : Stmt := stAt F_told.body 2
noncomputable def B_told_2 : List Stmt := bodyOf S_told_2
noncomputable def bb_told_2 := @id (B_told_2 = [_]) rfl
noncomputable def bs_told_2 := @id (S_told_2 = .For _ _ B_told_2 [] _) rfl
noncomputable def S_told_4 : Stmt := stAt F_told.body 4
noncomputable def B_told_4 : List Stmt := bodyOf S_told_4
noncomputable def S_told_40 : Stmt := stAt B_told_4 0
noncomputable def B_told_40 : List Stmt := bodyOf S_told_40
noncomputable def bb_told_40 := @id (B_told_40 = [_, _]) rfl
noncomputable def bs_told_40 := @id (S_told_40 = .For _ _ B_told_40 [] _) rfl
noncomputable def bb_told_4 := @id (B_told_4 = [S_told_40]) rfl
noncomputable def bs_told_4 := @id (S_told_4 = .For _ _ B_told_4 [] _) rfl
noncomputable def pr_told := @id (F_told.params = [Str.ofString _, Str.ofString _]) rfl
noncomputable def nm_told := @id (F_told.names = [(_, _), (_, _), (_, _), (_, _), (_, _), (_, _), (_, _), (_, _), (_, _), (_, _), (_, _), (_, _)]) rfl
noncomputable def bd_told := @id (F_told.body = [_, _, S_told_2, _, S_told_4, _]) rfl
noncomputable def F_turned : Fn := fnAt 49
noncomputable def pr_turned := @id (F_turned.params = [Str.ofString _, Str.ofString _, Str.ofString _]) rfl
noncomputable def nm_turned := @id (F_turned.names = [(_, _), (_, _), (_, _), (_, _), (_, _), (_, _), (_, _), (_, _), (_, _), (_, _), (_, _), (_, _)]) rfl
noncomputable def bd_turned := @id (F_turned.body = [_, _, _, _, _, _, _]) rfl
noncomputable def F_way : Fn := fnAt 50
noncomputable def S_way_4 : Stmt := stAt F_way.body 4
noncomputable def B_way_4 : List Stmt := bodyOf S_way_4
noncomputable def bb_way_4 := @id (B_way_4 = [_]) rfl
noncomputable def bs_way_4 := @id (S_way_4 = .While _ B_way_4 [] _) rfl
noncomputable def S_way_5 : Stmt := stAt F_way.body 5
noncomputable def B_way_5 : List Stmt := bodyOf S_way_5
noncomputable def bb_way_5 := @id (B_way_5 = [_]) rfl
noncomputable def bs_way_5 := @id (S_way_5 = .For _ _ B_way_5 [] _) rfl
noncomputable def S_way_6 : Stmt := stAt F_way.body 6
noncomputable def B_way_6 : List Stmt := bodyOf S_way_6
noncomputable def bb_way_6 := @id (B_way_6 = [_]) rfl
noncomputable def bs_way_6 := @id (S_way_6 = .For _ _ B_way_6 [] _) rfl
noncomputable def pr_way := @id (F_way.params = [Str.ofString _, Str.ofString _, Str.ofString _, Str.ofString _]) rfl
noncomputable def nm_way := @id (F_way.names = [(_, _), (_, _), (_, _), (_, _), (_, _), (_, _), (_, _), (_, _), (_, _)]) rfl
noncomputable def bd_way := @id (F_way.body = [_, _, _, _, S_way_4, S_way_5, S_way_6, _]) rfl
noncomputable def F_stand : Fn := fnAt 51
noncomputable def pr_stand := @id (F_stand.params = [Str.ofString _, Str.ofString _, Str.ofString _]) rfl
noncomputable def nm_stand := @id (F_stand.names = [(_, _), (_, _), (_, _), (_, _), (_, _)]) rfl
noncomputable def bd_stand := @id (F_stand.body = [_, _, _, _, _, _, _]) rfl
noncomputable def F_law : Fn := fnAt 52
noncomputable def S_law_12 : Stmt := stAt F_law.body 12
noncomputable def B_law_12 : List Stmt := bodyOf S_law_12
noncomputable def S_law_121 : Stmt := stAt B_law_12 1
noncomputable def B_law_121 : List Stmt := bodyOf S_law_121
noncomputable def bb_law_121 := @id (B_law_121 = [_]) rfl
noncomputable def bs_law_121 := @id (S_law_121 = .For _ _ B_law_121 [] _) rfl
noncomputable def bb_law_12 := @id (B_law_12 = [_, S_law_121]) rfl
noncomputable def bs_law_12 := @id (S_law_12 = .For _ _ B_law_12 [] _) rfl
noncomputable def S_law_13 : Stmt := stAt F_law.body 13
noncomputable def B_law_13 : List Stmt := bodyOf S_law_13
noncomputable def bb_law_13 := @id (B_law_13 = [_]) rfl
noncomputable def bs_law_13 := @id (S_law_13 = .For _ _ B_law_13 [] _) rfl
noncomputable def S_law_14 : Stmt := stAt F_law.body 14
noncomputable def B_law_14 : List Stmt := bodyOf S_law_14
noncomputable def bb_law_14 := @id (B_law_14 = [_, _]) rfl
noncomputable def bs_law_14 := @id (S_law_14 = .For _ _ B_law_14 [] _) rfl
noncomputable def pr_law := @id (F_law.params = [Str.ofString _]) rfl
noncomputable def nm_law := @id (F_law.names = [(_, _), (_, _), (_, _), (_, _), (_, _), (_, _), (_, _), (_, _), (_, _), (_, _), (_, _), (_, _), (_, _), (_, _), (_, _), (_, _), (_, _), (_, _), (_, _), (_, _), (_, _), (_, _), (_, _), (_, _), (_, _), (_, _), (_, _), (_, _), (_, _)]) rfl
noncomputable def bd_law := @id (F_law.body = [_, _, _, _, _, _, _, _, _, _, _, _, S_law_12, S_law_13, S_law_14, _]) rfl

theorem ofString_inj {a b : String} (h : Str.ofString a = Str.ofString b) : a = b := by
  rw [Str.ofString_eq_toList, Str.ofString_eq_toList, Str.mk.injEq] at h
  have h := congrArg Array.toList h
  simp only at h
  have key : ∀ (l m : List Char), l.map Char.toNat = m.map Char.toNat → l = m := by
    intro l
    induction l with
    | nil => intro m h; cases m <;> simp at h; rfl
    | cons c l ih =>
      intro m h
      cases m with
      | nil => simp at h
      | cons d m =>
        simp only [List.map_cons, List.cons.injEq] at h
        have : c = d := Char.ext (UInt32.toNat_inj.mp h.1)
        rw [this, ih m h.2]
  exact String.ext_iff.mpr (key _ _ h)
@[simp] theorem ofString_beq (a b : String) : (Str.ofString a == Str.ofString b) = (a == b) := by
  rw [Bool.eq_iff_iff, beq_iff_eq, beq_iff_eq]
  exact ⟨ofString_inj, fun h => h ▸ rfl⟩
@[simp] theorem ofString_eq (a b : String) : (Str.ofString a = Str.ofString b) = (a = b) := propext ⟨ofString_inj, fun h => h ▸ rfl⟩
@[simp] theorem lkHit {α : Type} {s : String} {v : α} {r : List (Str × α)} : List.lookup (Str.ofString s) ((Str.ofString s, v) :: r) = some v := by rw [List.lookup_cons, beq_self_eq_true]
@[simp] theorem lkMiss {α : Type} {a b : String} {v : α} {r : List (Str × α)} (h : (a == b) = false) : List.lookup (Str.ofString a) ((Str.ofString b, v) :: r) = List.lookup (Str.ofString a) r := by rw [List.lookup_cons, ofString_beq, h]
@[simp] theorem lsHit {s : String} {v : V} {ρ : Loc} : List.lookup (Str.ofString s) (lset ρ (Str.ofString s) v) = some v := by rw [lset_look, if_pos rfl]
@[simp] theorem lsMiss {a b : String} {v : V} {ρ : Loc} (h : (a == b) = false) : List.lookup (Str.ofString a) (lset ρ (Str.ofString b) v) = List.lookup (Str.ofString a) ρ := by
  rw [lset_look, if_neg (fun e => by rw [ofString_eq] at e; rw [e] at h; simp at h)]

noncomputable def mkG (l : List (Str × GV)) : Str → Option GV := fun x => l.lookup x

theorem loopF_ind {src : Src} {f : V → Loc → Sto → Option (Fl × Loc × Sto)} (P : List V → Loc → Sto → Prop) (Q : Fl → Loc → Sto → Prop)
    (h0 : ∀ ρ σ, P [] ρ σ → src.still σ ∧ Q .next ρ σ)
    (hs : ∀ it r ρ σ, P (it :: r) ρ σ → src.still σ ∧ ∃ fl ρ' σ', f it ρ σ = some (fl, ρ', σ') ∧ (match fl with | .next => P r ρ' σ' | .cont => P r ρ' σ' | .brk => Q .next ρ' σ' | .ret v => Q (.ret v) ρ' σ')) :
    ∀ items ρ σ, P items ρ σ → ∃ fl ρ' σ', loopF src f items ρ σ = some (fl, ρ', σ') ∧ Q fl ρ' σ' := by
  intro items
  induction items with
  | nil => intro ρ σ h; obtain ⟨a, b⟩ := h0 ρ σ h; exact ⟨_, _, _, by rw [loopF, if_pos a], b⟩
  | cons it r ih =>
    intro ρ σ h
    obtain ⟨a, fl, ρ', σ', e, b⟩ := hs it r ρ σ h
    rw [loopF, if_pos a, e]
    cases fl with
    | next => exact ih _ _ b
    | cont => exact ih _ _ b
    | brk => exact ⟨_, _, _, rfl, b⟩
    | ret v => exact ⟨_, _, _, rfl, b⟩

theorem runP_eq (F : Fn) (G : Str → Option GV) (n : Nat) (vs : List V) (cap : List (Str × V)) (ρ : Loc) (hl : F.params.length = vs.length) (hc : ((F.params.zip vs).filter fun p => F.names.lookup p.1 = some .cell) = cap)
    (hρ : ((F.params.zip vs).filter fun p => F.names.lookup p.1 = some .local) = ρ) : F.runP G n vs = @cSs _ ⟨G, F.names, cap⟩ n F.body ρ [] kP := by
  unfold Fn.runP Fn.cx Fn.loc
  rw [if_pos hl, hc, hρ]
theorem run_eq (F : Fn) (G : Str → Option GV) (n : Nat) (vs : List V) (σ : Sto) (cap : List (Str × V)) (ρ : Loc) (hl : F.params.length = vs.length) (hc : ((F.params.zip vs).filter fun p => F.names.lookup p.1 = some .cell) = cap)
    (hρ : ((F.params.zip vs).filter fun p => F.names.lookup p.1 = some .local) = ρ) : F.run G n vs σ = @cSs _ ⟨G, F.names, cap⟩ n F.body ρ σ kE := by
  unfold Fn.run Fn.cx Fn.loc
  rw [if_pos hl, hc, hρ]

noncomputable def evS (Φ : Cx) (n : Nat) (st : Stmt) (ρ : Loc) (σ : Sto) : Option (Fl × Loc × Sto) := @cS (Fl × Loc × Sto) Φ n st ρ σ kFl
noncomputable def evSs (Φ : Cx) (n : Nat) (l : List Stmt) (ρ : Loc) (σ : Sto) : Option (Fl × Loc × Sto) := @cSs (Fl × Loc × Sto) Φ n l ρ σ kFl
section
variable {Φ : Cx} {n : Nat} {st : Stmt} {ρ : Loc} {σ : Sto}
theorem pS_id {o : Option (Fl × Loc × Sto)} : @pS _ kFl o = o := by
  cases o with
  | none => exact pSN
  | some p => exact pSS
@[simp] theorem evSs_c {l : List Stmt} : evSs Φ n l ρ σ = @cSs _ Φ n l ρ σ kFl := rfl
@[simp] theorem evS_for {tgt iter : PySem.Expr} {body : List Stmt} {p : Pos} : evS Φ (n + 1) (.For tgt iter body [] p) ρ σ = @cI _ Φ n iter ρ σ (kFr Φ n tgt body ρ) := pS_id
@[simp] theorem evS_while {t : PySem.Expr} {body : List Stmt} {p : Pos} : evS Φ (n + 1) (.While t body [] p) ρ σ = whileF (fun ρ σ => @cT (Bool × Sto) Φ n t ρ σ kBs) (fun ρ σ => @cSs (Fl × Loc × Sto) Φ n body ρ σ kFl) 1000 ρ σ := pS_id
theorem cs_for {R : Type} {K : Ks R} {tgt iter : PySem.Expr} {body : List Stmt} {p : Pos} (h : st = .For tgt iter body [] p) : @cS R Φ (n + 1) st ρ σ K = @pS R K (evS Φ (n + 1) st ρ σ) := by
  rw [h, evS_for]; rfl
theorem cs_while {R : Type} {K : Ks R} {t : PySem.Expr} {body : List Stmt} {p : Pos} (h : st = .While t body [] p) : @cS R Φ (n + 1) st ρ σ K = @pS R K (evS Φ (n + 1) st ρ σ) := by
  rw [h, evS_while]; rfl
end
section
variable {R : Type} {Φ : Cx} {n : Nat} {ρ : Loc} {σ : Sto} {b c : Bool} {es : List PySem.Expr} {e : PySem.Expr}
/-- an and's, an or's rest, known for every continuation -/
theorem mAnd {K : K2 Bool R} (h : ∀ R (K : K2 Bool R), @cTs R Φ n .And es ρ σ K = @ap _ _ K σ b) : @ap _ _ (kTs Φ n .And es ρ K) σ c = @ap _ _ K σ (c && b) := match c with
  | true => h _ K
  | false => rfl
theorem mOr {K : K2 Bool R} (h : ∀ R (K : K2 Bool R), @cTs R Φ n .Or es ρ σ K = @ap _ _ K σ b) : @ap _ _ (kTs Φ n .Or es ρ K) σ c = @ap _ _ K σ (c || b) := match c with
  | true => rfl
  | false => h _ K
theorem mAndB {K : K2 V R} (h : ∀ R (K : K2 V R), @cB R Φ n .And (e :: es) ρ σ K = @ap _ _ K σ (.bool b)) : @ap _ _ (kB2 Φ n .And (e :: es) ρ K) σ c = @ap _ _ K σ (.bool (c && b)) := match c with
  | true => h _ K
  | false => rfl
theorem mOrB {K : K2 V R} (h : ∀ R (K : K2 V R), @cB R Φ n .Or (e :: es) ρ σ K = @ap _ _ K σ (.bool b)) : @ap _ _ (kB2 Φ n .Or (e :: es) ρ K) σ c = @ap _ _ K σ (.bool (c || b)) := match c with
  | true => rfl
  | false => h _ K
end
theorem ex3 {x : Option (Fl × Loc × Sto)} {C : Fl → Loc → Sto → Prop} (fl : Fl) (ρ : Loc) (σ : Sto) (h : x = some (fl, ρ, σ)) (hC : C fl ρ σ) : ∃ fl ρ σ, x = some (fl, ρ, σ) ∧ C fl ρ σ := ⟨fl, ρ, σ, h, hC⟩

theorem ex3d {x : Option (Fl × Loc × Sto)} {C : Fl → Loc → Sto → Prop} (fl : Fl) (σ : Sto) (D : Loc → Prop) (h : ∃ ρ, x = some (fl, ρ, σ) ∧ D ρ) (hC : ∀ ρ, D ρ → C fl ρ σ) : ∃ fl ρ σ, x = some (fl, ρ, σ) ∧ C fl ρ σ :=
  h.elim fun ρ h => ⟨fl, ρ, σ, h.1, hC ρ h.2⟩

theorem ex3d' {x : Option (Fl × Loc × Sto)} {C : Fl → Loc → Sto → Prop} (fl : Fl) (h : ∃ ρ σ, x = some (fl, ρ, σ)) (hC : ∀ ρ σ, C fl ρ σ) : ∃ fl ρ σ, x = some (fl, ρ, σ) ∧ C fl ρ σ :=
  h.elim fun ρ h => h.elim fun σ h => ⟨fl, ρ, σ, h, hC ρ σ⟩

theorem loopF_use {src : Src} {f : V → Loc → Sto → Option (Fl × Loc × Sto)} {items : List V} {ρ : Loc} {σ : Sto} {X : Option (Fl × Loc × Sto)} (hX : loopF src f items ρ σ = X) (P : List V → Loc → Sto → Prop) (Q : Fl → Loc → Sto → Prop) (hP : P items ρ σ)
    (h0 : ∀ ρ σ, P [] ρ σ → src.still σ ∧ Q .next ρ σ)
    (hs : ∀ it r ρ σ, P (it :: r) ρ σ → src.still σ ∧ ∃ fl ρ' σ', f it ρ σ = some (fl, ρ', σ') ∧ (match fl with | .next => P r ρ' σ' | .cont => P r ρ' σ' | .brk => Q .next ρ' σ' | .ret v => Q (.ret v) ρ' σ')) :
    ∃ fl ρ' σ', X = some (fl, ρ', σ') ∧ Q fl ρ' σ' := hX ▸ loopF_ind P Q h0 hs items ρ σ hP

/-- a frame whose names outside `W` are as they were -/
noncomputable def Kp (W : List Str) (ρ ρ' : Loc) : Prop := ∀ x, W.contains x = false → ρ'.lookup x = ρ.lookup x
theorem Kp.refl {W : List Str} {ρ : Loc} : Kp W ρ ρ := fun _ _ => rfl
theorem Kp.get {W : List Str} {ρ ρ' : Loc} (h : Kp W ρ ρ') {x : Str} {v : V} (hx : ρ.lookup x = some v) (hW : W.contains x = false) : ρ'.lookup x = some v := (h x hW).trans hx
theorem Kp.set {W : List Str} {ρ ρ' : Loc} (h : Kp W ρ ρ') {x : Str} {v : V} (hW : W.contains x = true) : Kp W ρ (lset ρ' x v) := fun y hy => by
  rw [lset_look, if_neg (fun e => by rw [e, hW] at hy; cases hy)]
  exact h y hy
theorem Kp.sub {W W' : List Str} {ρ ρ' : Loc} (h : Kp W ρ ρ') (hW : W.all (W'.contains ·) = true) : Kp W' ρ ρ' := fun x hx => h x (by
  cases e : W.contains x with
  | false => rfl
  | true => rw [List.all_eq_true.mp hW x (List.contains_iff_mem.mp e)] at hx; cases hx)
theorem Kp.trans {W : List Str} {ρ ρ' ρ'' : Loc} (h : Kp W ρ ρ') (k : Kp W ρ' ρ'') : Kp W ρ ρ'' := fun x hx => (k x hx).trans (h x hx)
section
variable {α : Type} {src : Src} {f : V → Loc → Sto → Option (Fl × Loc × Sto)} {it : V} {r : List V} {ρ ρ' : Loc} {σ σ' : Sto}
theorem loop_nil (hs : src.still σ) : loopF src f [] ρ σ = some (.next, ρ, σ) := if_pos hs
theorem loop_next (hs : src.still σ) (h : f it ρ σ = some (.next, ρ', σ')) : loopF src f (it :: r) ρ σ = loopF src f r ρ' σ' := by rw [loopF, if_pos hs, h]; rfl
theorem loop_cont (hs : src.still σ) (h : f it ρ σ = some (.cont, ρ', σ')) : loopF src f (it :: r) ρ σ = loopF src f r ρ' σ' := by rw [loopF, if_pos hs, h]; rfl
theorem loop_ret {v : V} (hs : src.still σ) (h : f it ρ σ = some (.ret v, ρ', σ')) : loopF src f (it :: r) ρ σ = some (.ret v, ρ', σ') := by rw [loopF, if_pos hs, h]; rfl
/-- what a range, an enumeration goes over, as numbers -/
noncomputable def rangeL (a c : Int) : Nat → List Int
  | 0 => []
  | n + 1 => a :: rangeL (a + c) c n
noncomputable def enumL {α : Type} (k : Int) : List α → List (Int × α)
  | [] => []
  | x :: xs => (k, x) :: enumL (k + 1) xs
theorem rangeV_map (c : Int) : ∀ (n : Nat) (a : Int), rangeV a c n = (rangeL a c n).map V.int
  | 0, _ => rfl
  | n + 1, a => congrArg (V.int a :: ·) (rangeV_map c n (a + c))
theorem enumV_map {α : Type} (g : α → V) : ∀ (l : List α) (k : Int), enumFrom k (l.map g) = (enumL k l).map fun p => .tup [.int p.1, g p.2]
  | [], _ => rfl
  | x :: l, k => congrArg (V.tup [.int k, g x] :: ·) (enumV_map g l (k + 1))
theorem rangeL_mem {i : Int} : ∀ {n : Nat} {a : Int}, i ∈ rangeL a 1 n → a ≤ i ∧ i < a + n
  | 0, _, h => by cases h
  | n + 1, a, h => by
    rcases List.mem_cons.mp h with rfl | h
    · exact ⟨Int.le_refl _, by omega⟩
    · have := rangeL_mem h; omega
/-- what one turn does: on, or out with a value -/
inductive Turn (f : V → Loc → Sto → Option (Fl × Loc × Sto)) (C : Loc → Prop) (it : V) (ρ : Loc) (σ σ' : Sto) (out : Option V) : Prop
  | on (ρ' : Loc) (h : f it ρ σ = some (.next, ρ', σ')) (k : C ρ') (e : out = none) : Turn f C it ρ σ σ' out
  | cont (ρ' : Loc) (h : f it ρ σ = some (.cont, ρ', σ')) (k : C ρ') (e : out = none) : Turn f C it ρ σ σ' out
  | ret (v : V) (ρ' : Loc) (h : f it ρ σ = some (.ret v, ρ', σ')) (k : C ρ') (e : out = some v) : Turn f C it ρ σ σ' out
theorem loop_find' (g : α → V) (out : α → Option V) {W : List Str} {ρ₀ : Loc} (hs : src.still σ) (as : List α) : ∀ ρ : Loc,
    (∀ a ∈ as, ∀ ρ, Kp W ρ₀ ρ → Turn f (Kp W ρ₀) (g a) ρ σ σ (out a)) → Kp W ρ₀ ρ → ∃ ρ', loopF src f (as.map g) ρ σ = some ((as.findSome? out).elim .next .ret, ρ', σ) ∧ Kp W ρ₀ ρ' := by
  induction as with
  | nil => exact fun ρ _ k => ⟨ρ, loop_nil hs, k⟩
  | cons a as ih =>
    intro ρ turn k
    have ih := fun ρ' => ih ρ' fun a ha => turn a (List.mem_cons_of_mem _ ha)
    rw [List.findSome?_cons]
    cases turn a List.mem_cons_self ρ k with
    | on ρ' h k' e => rw [e]; exact (ih ρ' k').imp fun _ q => ⟨(loop_next hs h).trans q.1, q.2⟩
    | cont ρ' h k' e => rw [e]; exact (ih ρ' k').imp fun _ q => ⟨(loop_cont hs h).trans q.1, q.2⟩
    | ret u ρ' h k' e => rw [e]; exact ⟨ρ', loop_ret hs h, k'⟩
theorem find_all (ok : α → Bool) (v : V) (as : List α) : (as.findSome? fun a => bif ok a then none else some v).elim Fl.next .ret = bif as.all ok then .next else .ret v := by
  induction as with
  | nil => rfl
  | cons a as ih =>
    rw [List.findSome?_cons, List.all_cons]
    cases ok a with
    | true => exact ih
    | false => rfl
theorem loop_fold' {β : Type} (g : α → V) (S : β → Sto) (st : β → α → β) {W : List Str} {ρ₀ : Loc} (I : List α → β → Prop) (J : β → Loc → Prop) (hs : ∀ b, src.still (S b))
    (turn : ∀ a as b ρ, I (a :: as) b → Kp W ρ₀ ρ → J b ρ → I as (st b a) ∧ Turn f (fun ρ' => Kp W ρ₀ ρ' ∧ J (st b a) ρ') (g a) ρ (S b) (S (st b a)) none) (as : List α) :
    ∀ (b : β) (ρ : Loc), I as b → Kp W ρ₀ ρ → J b ρ → ∃ ρ', loopF src f (as.map g) ρ (S b) = some (.next, ρ', S (as.foldl st b)) ∧ I [] (as.foldl st b) ∧ Kp W ρ₀ ρ' ∧ J (as.foldl st b) ρ' := by
  induction as with
  | nil => exact fun b ρ h k j => ⟨ρ, loop_nil (hs b), h, k, j⟩
  | cons a as ih =>
    intro b ρ hI k j
    obtain ⟨hI', t⟩ := turn a as b ρ hI k j
    cases t with
    | on ρ' h k' e => exact (ih (st b a) ρ' hI' k'.1 k'.2).imp fun _ q => ⟨(loop_next (hs b) h).trans q.1, q.2⟩
    | cont ρ' h k' e => exact (ih (st b a) ρ' hI' k'.1 k'.2).imp fun _ q => ⟨(loop_cont (hs b) h).trans q.1, q.2⟩
    | ret v ρ' h k' e => cases e
/-- a loop that gives back `v` at the first item that is not right -/
theorem loop_all (g : α → V) (ok : α → Bool) (v : V) (W : List Str) {as : List α} {items : List V} {X : Option (Fl × Loc × Sto)} (hX : loopF src f items ρ σ = X) (hi : items = as.map g) (hs : src.still σ)
    (turn : ∀ a ∈ as, ∀ ρ', Kp W ρ ρ' → Turn f (Kp W ρ) (g a) ρ' σ σ (bif ok a then none else some v)) : ∃ ρ', X = some (bif as.all ok then .next else .ret v, ρ', σ) ∧ Kp W ρ ρ' := hX ▸ hi ▸ find_all ok v as ▸ loop_find' g _ hs as ρ turn .refl
/-- a loop that gives back what it finds first -/
theorem loop_find (g : α → V) (out : α → Option V) (W : List Str) {as : List α} {items : List V} {X : Option (Fl × Loc × Sto)} (hX : loopF src f items ρ σ = X) (hi : items = as.map g) (hs : src.still σ)
    (turn : ∀ a ∈ as, ∀ ρ', Kp W ρ ρ' → Turn f (Kp W ρ) (g a) ρ' σ σ (out a)) : ∃ ρ', X = some ((as.findSome? out).elim .next .ret, ρ', σ) ∧ Kp W ρ ρ' := hX ▸ hi ▸ loop_find' g out hs as ρ turn .refl
/-- a loop that only gathers: in the store (S), in names (J) -/
theorem loop_fold {β : Type} (g : α → V) (S : β → Sto) (st : β → α → β) (W : List Str) (I : List α → β → Prop) (J : β → Loc → Prop) {as : List α} {b : β} {items : List V} {X : Option (Fl × Loc × Sto)} (hX : loopF src f items ρ (S b) = X) (hi : items = as.map g) (hs : ∀ b, src.still (S b)) (h : I as b) (j : J b ρ)
    (turn : ∀ a as b ρ', I (a :: as) b → Kp W ρ ρ' → J b ρ' → I as (st b a) ∧ Turn f (fun ρ'' => Kp W ρ ρ'' ∧ J (st b a) ρ'') (g a) ρ' (S b) (S (st b a)) none) : ∃ ρ', X = some (.next, ρ', S (as.foldl st b)) ∧ I [] (as.foldl st b) ∧ Kp W ρ ρ' ∧ J (as.foldl st b) ρ' := hX ▸ hi ▸ loop_fold' g S st I J hs turn as b ρ h .refl j
/-- how a loop ends that goes on as long as it may: with a state, or by giving back `v` -/
noncomputable def Ends {β : Type} (X : Option (Fl × Loc × Sto)) (v : V) (S : β → Sto) (C : β → Loc → Prop) : Option β → Prop
  | none => ∃ ρ σ, X = some (.ret v, ρ, σ)
  | some b => ∃ ρ, X = some (.next, ρ, S b) ∧ C b ρ
theorem loop_try {β : Type} (g : α → V) (S : β → Sto) (st : β → α → Option β) (v : V) (W : List Str) (I : List α → β → Prop) {as : List α} {b : β} {items : List V} {X : Option (Fl × Loc × Sto)} (hX : loopF src f items ρ (S b) = X) (hi : items = as.map g) (hs : ∀ b, src.still (S b)) (h : I as b)
    (turn : ∀ a as b ρ', I (a :: as) b → Kp W ρ ρ' → Ends (f (g a) ρ' (S b)) v S (fun b' ρ'' => I as b' ∧ Kp W ρ ρ'') (st b a)) : Ends X v S (fun b' ρ' => I [] b' ∧ Kp W ρ ρ') (as.foldlM st b) := by
  subst hi
  subst hX
  have key : ∀ (b : β) (ρ' : Loc), I as b → Kp W ρ ρ' → Ends (loopF src f (as.map g) ρ' (S b)) v S (fun b' ρ' => I [] b' ∧ Kp W ρ ρ') (as.foldlM st b) := by
    clear h
    induction as with
    | nil => exact fun b ρ' h k => ⟨ρ', loop_nil (hs b), h, k⟩
    | cons a as ih =>
      intro b ρ' h k
      have t := turn a as b ρ' h k
      rw [List.foldlM_cons]
      cases hb : st b a with
      | none => rw [hb] at t; exact t.imp fun ρ₁ t => t.imp fun σ₁ t => loop_ret (hs b) t
      | some b' =>
        rw [hb] at t
        obtain ⟨ρ₁, e, h', k'⟩ := t
        rw [List.map_cons, loop_next (hs b) e]
        exact ih b' ρ₁ h' k'
  exact key b ρ h .refl
theorem foldl_and (p : α → Bool) : ∀ (as : List α) (h : Bool), as.foldl (fun h a => h && p a) h = (h && as.all p)
  | [], h => (Bool.and_true h).symm
  | a :: as, h => by rw [List.foldl_cons, foldl_and p as, List.all_cons, Bool.and_assoc]
end

section
variable {α : Type} {s : Src} {σ : Sto} {f : V → Sto → Option (Option V × Sto)}
theorem app_end {acc : List V} {v : V} (h : acc.length + 1 ≤ sizeLine) : appV (σ ++ [.lst acc]) (.cell σ.length) v = some (σ ++ [.lst (acc ++ [v])]) := by
  have e : (σ ++ [Cell.lst acc])[σ.length]? = some (.lst acc) := by rw [List.getElem?_append_right (Nat.le_refl _), Nat.sub_self]; rfl
  rw [appV, e]
  dsimp only
  rw [if_pos h, List.set_append_right _ _ (Nat.le_refl _), Nat.sub_self]; rfl
theorem turns_ok (g : α → V) (out : α → Option V) (hst : ∀ acc, s.still (σ ++ [.lst acc])) (hft : ∀ acc, acc.all V.scal = true ∨ s.zip = false → s.fit (σ ++ [.lst acc]) = true) (as : List α) : ∀ (acc : List V), (acc.all V.scal = true ∨ s.zip = false) →
    (∀ a ∈ as, ∀ acc, f (g a) (σ ++ [.lst acc]) = some (out a, σ ++ [.lst acc]) ∧ ∀ v, out a = some v → v.scal = true ∨ s.zip = false) → acc.length + as.length ≤ sizeLine →
      turns s σ.length f (as.map g) (σ ++ [.lst acc]) = some (σ ++ [.lst (acc ++ as.filterMap out)]) := by
  induction as with
  | nil => intro acc ha _ _; rw [List.map_nil, turns, if_pos ⟨hst acc, hft acc ha⟩, List.filterMap_nil, List.append_nil]
  | cons a as ih =>
    intro acc ha hf hl
    have ih := fun acc ha => ih acc ha fun y hy => hf y (List.mem_cons_of_mem _ hy)
    have h2 := hf a List.mem_cons_self
    rw [List.map_cons, turns, if_pos ⟨hst acc, hft acc ha⟩, (h2 acc).1, Option.bind_some, List.filterMap_cons]
    rw [List.length_cons] at hl
    cases hg : out a with
    | none => exact ih acc ha (Nat.le_of_succ_le hl)
    | some v =>
      have hl' : acc.length + 1 + as.length ≤ sizeLine := by rw [Nat.add_right_comm, Nat.add_assoc]; exact hl
      dsimp only
      rw [app_end (Nat.le_trans (Nat.le_add_right _ _) hl'), Option.bind_some, ih (acc ++ [v]) ?_ (by rw [List.length_append]; exact hl'), List.append_assoc]; rfl
      exact ((h2 acc).2 v hg).elim (fun h => ha.elim (fun ha => .inl (by rw [List.all_append, ha, List.all_cons, h]; rfl)) .inr) .inr
/-- for use at a hypothesis; no zip -/
theorem turns_use {k : Nat} {items : List V} {σ₁ : Sto} {T : Option Sto} (hT : turns s k f items σ₁ = T) (σ : Sto) (g : α → V) (out : α → Option V) (as : List α) (hi : items = as.map g) (hk : k = σ.length) (hσ : σ₁ = σ ++ [.lst []]) (hz : s.zip = false)
    (hst : ∀ acc, s.still (σ ++ [.lst acc])) (hf : ∀ a ∈ as, ∀ acc, f (g a) (σ ++ [.lst acc]) = some (out a, σ ++ [.lst acc])) (hl : as.length ≤ sizeLine) : T = some (σ ++ [.lst (as.filterMap out)]) := by
  subst hT; subst hk; subst hσ; subst hi
  exact turns_ok g out hst (fun _ _ => by rw [Src.fit, hz]; rfl) as [] (.inr hz) (fun a ha acc => ⟨hf a ha acc, fun _ _ => .inr hz⟩) (by rw [List.length_nil, Nat.zero_add]; exact hl)
/-- as `turns_use`, for a zip: every cell bears scalars alone -/
theorem turns_zip {k : Nat} {items : List V} {σ₁ : Sto} {T : Option Sto} (hT : turns s k f items σ₁ = T) (σ : Sto) (g : α → V) (out : α → Option V) (as : List α) (hi : items = as.map g) (hk : k = σ.length) (hσ : σ₁ = σ ++ [.lst []]) (hst : ∀ acc, s.still (σ ++ [.lst acc])) (hs : σ.all Cell.scal = true)
    (hz : ∀ a v, out a = some v → v.scal = true) (hf : ∀ a ∈ as, ∀ acc, f (g a) (σ ++ [.lst acc]) = some (out a, σ ++ [.lst acc])) (hl : as.length ≤ sizeLine) : T = some (σ ++ [.lst (as.filterMap out)]) := by
  subst hT; subst hk; subst hσ; subst hi
  refine turns_ok g out hst (fun acc h => ?_) as [] (.inl rfl) (fun a ha acc => ⟨hf a ha acc, fun v h => .inl (hz a v h)⟩) (by rw [List.length_nil, Nat.zero_add]; exact hl)
  rw [Src.fit]
  exact h.elim (fun h => by rw [List.all_append, hs, List.all_cons, Cell.scal, h, Bool.or_comm]; rfl) fun h => by rw [h]; rfl
end

@[simp ↓] theorem cs_all_apart_00 {Φ : Cx} {n : Nat} {ρ : Loc} {σ : Sto} {R : Type} {K : Ks R} : @cS R Φ (n + 1) S_all_apart_00 ρ σ K = @pS R K (evS Φ (n + 1) S_all_apart_00 ρ σ) := cs_for bs_all_apart_00
@[simp ↓] theorem cs_all_apart_0 {Φ : Cx} {n : Nat} {ρ : Loc} {σ : Sto} {R : Type} {K : Ks R} : @cS R Φ (n + 1) S_all_apart_0 ρ σ K = @pS R K (evS Φ (n + 1) S_all_apart_0 ρ σ) := cs_for bs_all_apart_0
@[simp ↓] theorem cs_all_inside_01 {Φ : Cx} {n : Nat} {ρ : Loc} {σ : Sto} {R : Type} {K : Ks R} : @cS R Φ (n + 1) S_all_inside_01 ρ σ K = @pS R K (evS Φ (n + 1) S_all_inside_01 ρ σ) := cs_for bs_all_inside_01
@[simp ↓] theorem cs_all_inside_0 {Φ : Cx} {n : Nat} {ρ : Loc} {σ : Sto} {R : Type} {K : Ks R} : @cS R Φ (n + 1) S_all_inside_0 ρ σ K = @pS R K (evS Φ (n + 1) S_all_inside_0 ρ σ) := cs_for bs_all_inside_0
@[simp ↓] theorem cs_filter_right_1 {Φ : Cx} {n : Nat} {ρ : Loc} {σ : Sto} {R : Type} {K : Ks R} : @cS R Φ (n + 1) S_filter_right_1 ρ σ K = @pS R K (evS Φ (n + 1) S_filter_right_1 ρ σ) := cs_for bs_filter_right_1
@[simp ↓] theorem cs_region_faults_1 {Φ : Cx} {n : Nat} {ρ : Loc} {σ : Sto} {R : Type} {K : Ks R} : @cS R Φ (n + 1) S_region_faults_1 ρ σ K = @pS R K (evS Φ (n + 1) S_region_faults_1 ρ σ) := cs_for bs_region_faults_1
@[simp ↓] theorem cs_region_faults_30 {Φ : Cx} {n : Nat} {ρ : Loc} {σ : Sto} {R : Type} {K : Ks R} : @cS R Φ (n + 1) S_region_faults_30 ρ σ K = @pS R K (evS Φ (n + 1) S_region_faults_30 ρ σ) := cs_for bs_region_faults_30
@[simp ↓] theorem cs_region_faults_3 {Φ : Cx} {n : Nat} {ρ : Loc} {σ : Sto} {R : Type} {K : Ks R} : @cS R Φ (n + 1) S_region_faults_3 ρ σ K = @pS R K (evS Φ (n + 1) S_region_faults_3 ρ σ) := cs_for bs_region_faults_3
@[simp ↓] theorem cs_region_of_1 {Φ : Cx} {n : Nat} {ρ : Loc} {σ : Sto} {R : Type} {K : Ks R} : @cS R Φ (n + 1) S_region_of_1 ρ σ K = @pS R K (evS Φ (n + 1) S_region_of_1 ρ σ) := cs_for bs_region_of_1
@[simp ↓] theorem cs_enters_right_0 {Φ : Cx} {n : Nat} {ρ : Loc} {σ : Sto} {R : Type} {K : Ks R} : @cS R Φ (n + 1) S_enters_right_0 ρ σ K = @pS R K (evS Φ (n + 1) S_enters_right_0 ρ σ) := cs_for bs_enters_right_0
@[simp ↓] theorem cs_exits_right_0 {Φ : Cx} {n : Nat} {ρ : Loc} {σ : Sto} {R : Type} {K : Ks R} : @cS R Φ (n + 1) S_exits_right_0 ρ σ K = @pS R K (evS Φ (n + 1) S_exits_right_0 ρ σ) := cs_for bs_exits_right_0
@[simp ↓] theorem cs_rethrow_fault_0 {Φ : Cx} {n : Nat} {ρ : Loc} {σ : Sto} {R : Type} {K : Ks R} : @cS R Φ (n + 1) S_rethrow_fault_0 ρ σ K = @pS R K (evS Φ (n + 1) S_rethrow_fault_0 ρ σ) := cs_for bs_rethrow_fault_0
@[simp ↓] theorem cs_try_5 {Φ : Cx} {n : Nat} {ρ : Loc} {σ : Sto} {R : Type} {K : Ks R} : @cS R Φ (n + 1) S_try_5 ρ σ K = @pS R K (evS Φ (n + 1) S_try_5 ρ σ) := cs_for bs_try_5
@[simp ↓] theorem cs_letters_41 {Φ : Cx} {n : Nat} {ρ : Loc} {σ : Sto} {R : Type} {K : Ks R} : @cS R Φ (n + 1) S_letters_41 ρ σ K = @pS R K (evS Φ (n + 1) S_letters_41 ρ σ) := cs_for bs_letters_41
@[simp ↓] theorem cs_letters_4 {Φ : Cx} {n : Nat} {ρ : Loc} {σ : Sto} {R : Type} {K : Ks R} : @cS R Φ (n + 1) S_letters_4 ρ σ K = @pS R K (evS Φ (n + 1) S_letters_4 ρ σ) := cs_for bs_letters_4
@[simp ↓] theorem cs_told_2 {Φ : Cx} {n : Nat} {ρ : Loc} {σ : Sto} {R : Type} {K : Ks R} : @cS R Φ (n + 1) S_told_2 ρ σ K = @pS R K (evS Φ (n + 1) S_told_2 ρ σ) := cs_for bs_told_2
@[simp ↓] theorem cs_told_40 {Φ : Cx} {n : Nat} {ρ : Loc} {σ : Sto} {R : Type} {K : Ks R} : @cS R Φ (n + 1) S_told_40 ρ σ K = @pS R K (evS Φ (n + 1) S_told_40 ρ σ) := cs_for bs_told_40
@[simp ↓] theorem cs_told_4 {Φ : Cx} {n : Nat} {ρ : Loc} {σ : Sto} {R : Type} {K : Ks R} : @cS R Φ (n + 1) S_told_4 ρ σ K = @pS R K (evS Φ (n + 1) S_told_4 ρ σ) := cs_for bs_told_4
@[simp ↓] theorem cs_way_4 {Φ : Cx} {n : Nat} {ρ : Loc} {σ : Sto} {R : Type} {K : Ks R} : @cS R Φ (n + 1) S_way_4 ρ σ K = @pS R K (evS Φ (n + 1) S_way_4 ρ σ) := cs_while bs_way_4
@[simp ↓] theorem cs_way_5 {Φ : Cx} {n : Nat} {ρ : Loc} {σ : Sto} {R : Type} {K : Ks R} : @cS R Φ (n + 1) S_way_5 ρ σ K = @pS R K (evS Φ (n + 1) S_way_5 ρ σ) := cs_for bs_way_5
@[simp ↓] theorem cs_way_6 {Φ : Cx} {n : Nat} {ρ : Loc} {σ : Sto} {R : Type} {K : Ks R} : @cS R Φ (n + 1) S_way_6 ρ σ K = @pS R K (evS Φ (n + 1) S_way_6 ρ σ) := cs_for bs_way_6
@[simp ↓] theorem cs_law_121 {Φ : Cx} {n : Nat} {ρ : Loc} {σ : Sto} {R : Type} {K : Ks R} : @cS R Φ (n + 1) S_law_121 ρ σ K = @pS R K (evS Φ (n + 1) S_law_121 ρ σ) := cs_for bs_law_121
@[simp ↓] theorem cs_law_12 {Φ : Cx} {n : Nat} {ρ : Loc} {σ : Sto} {R : Type} {K : Ks R} : @cS R Φ (n + 1) S_law_12 ρ σ K = @pS R K (evS Φ (n + 1) S_law_12 ρ σ) := cs_for bs_law_12
@[simp ↓] theorem cs_law_13 {Φ : Cx} {n : Nat} {ρ : Loc} {σ : Sto} {R : Type} {K : Ks R} : @cS R Φ (n + 1) S_law_13 ρ σ K = @pS R K (evS Φ (n + 1) S_law_13 ρ σ) := cs_for bs_law_13
@[simp ↓] theorem cs_law_14 {Φ : Cx} {n : Nat} {ρ : Loc} {σ : Sto} {R : Type} {K : Ks R} : @cS R Φ (n + 1) S_law_14 ρ σ K = @pS R K (evS Φ (n + 1) S_law_14 ρ σ) := cs_for bs_law_14
end Mine
end

section
open PySem PySem.W PyProof.Rows PySem.Calls
set_option autoImplicit false
set_option maxRecDepth 100000
set_option maxHeartbeats 4000000
set_option linter.unusedSimpArgs false
set_option linter.unusedVariables false
set_option linter.defProp false
namespace Mine

/-- a clause -/
structure Cl where
  sort : Int
  t0 : Int
  t1 : Int
  h0 : Int
  h1 : Int
  extra : Int
noncomputable abbrev Cl.v (c : Cl) : V := .tup [.int c.sort, .int c.t0, .int c.t1, .int c.h0, .int c.h1, .int c.extra]
noncomputable abbrev pv (p : Int × Int) : V := .tup [.int p.1, .int p.2]

noncomputable def apartP (a b : Int × Int) : Bool := decide (a.2 ≤ b.1) || decide (b.2 ≤ a.1)
noncomputable def insideP (a b : Int × Int) : Bool := decide (b.1 ≤ a.1) && decide (a.2 ≤ b.2)
noncomputable def allApart (ps os : List (Int × Int)) : Bool := ps.all fun a => os.all fun b => apartP a b
noncomputable def allInside (ps os : List (Int × Int)) : Bool := os.any fun b => ps.all fun a => insideP a b
noncomputable def partsOf (c : Cl) : List (Int × Int) := if c.sort = 1 then [(c.t0, c.t1), (c.extra, c.h0), (c.h0, c.h1)] else [(c.t0, c.t1), (c.h0, c.h1)]

noncomputable def G_apart : List (Str × GV) := []
noncomputable def X_apart : Cx := ⟨mkG G_apart, F_apart.names, []⟩
noncomputable def xn_apart := @id ((X_apart).names = [(_, _), (_, _)]) nm_apart
@[simp ↓] theorem v_apart_a {n : Nat} {own : Bool} {p : Pos} {ρ : Loc} {σ : Sto} {R : Type} {K : K2 V R} : @cE R (X_apart) (n + 1) own (.Name (Str.ofString "a") p) ρ σ K = @qv _ _ K σ (ρ.lookup (Str.ofString "a")) := rfl
@[simp ↓] theorem v_apart_b {n : Nat} {own : Bool} {p : Pos} {ρ : Loc} {σ : Sto} {R : Type} {K : K2 V R} : @cE R (X_apart) (n + 1) own (.Name (Str.ofString "b") p) ρ σ K = @qv _ _ K σ (ρ.lookup (Str.ofString "b")) := rfl
noncomputable def P_apart : List V → Option V := F_apart.runP (mkG G_apart) 150
theorem rn_apart (ua ub : V) : P_apart [ua, ub] = @cSs _ (X_apart) 150 F_apart.body [(("a" : Str), ua), (("b" : Str), ub)] [] kP := runP_eq F_apart (mkG G_apart) 150 [ua, ub] [] [(("a" : Str), ua), (("b" : Str), ub)] rfl (by kernel_rfl) (by kernel_rfl)
theorem apart_eq (a b : Int × Int) : P_apart [pv a, pv b] = some (.bool (apartP a b)) := by
  rw [rn_apart, bd_apart, apartP]
  by_cases h : a.2 ≤ b.1 <;> simp [mkG, G_apart, h]
noncomputable def G_inside : List (Str × GV) := []
noncomputable def X_inside : Cx := ⟨mkG G_inside, F_inside.names, []⟩
noncomputable def xn_inside := @id ((X_inside).names = [(_, _), (_, _)]) nm_inside
@[simp ↓] theorem v_inside_a {n : Nat} {own : Bool} {p : Pos} {ρ : Loc} {σ : Sto} {R : Type} {K : K2 V R} : @cE R (X_inside) (n + 1) own (.Name (Str.ofString "a") p) ρ σ K = @qv _ _ K σ (ρ.lookup (Str.ofString "a")) := rfl
@[simp ↓] theorem v_inside_b {n : Nat} {own : Bool} {p : Pos} {ρ : Loc} {σ : Sto} {R : Type} {K : K2 V R} : @cE R (X_inside) (n + 1) own (.Name (Str.ofString "b") p) ρ σ K = @qv _ _ K σ (ρ.lookup (Str.ofString "b")) := rfl
noncomputable def P_inside : List V → Option V := F_inside.runP (mkG G_inside) 150
theorem rn_inside (ua ub : V) : P_inside [ua, ub] = @cSs _ (X_inside) 150 F_inside.body [(("a" : Str), ua), (("b" : Str), ub)] [] kP := runP_eq F_inside (mkG G_inside) 150 [ua, ub] [] [(("a" : Str), ua), (("b" : Str), ub)] rfl (by kernel_rfl) (by kernel_rfl)
theorem inside_eq (a b : Int × Int) : P_inside [pv a, pv b] = some (.bool (insideP a b)) := by
  rw [rn_inside, bd_inside, insideP]
  by_cases h : b.1 ≤ a.1 <;> simp [mkG, G_inside, h]
noncomputable def G_parts_of : List (Str × GV) := [("EC_FILTER", .val (.int 1))]
noncomputable def X_parts_of : Cx := ⟨mkG G_parts_of, F_parts_of.names, []⟩
noncomputable def xn_parts_of := @id ((X_parts_of).names = [(_, _), (_, _), (_, _), (_, _), (_, _), (_, _), (_, _), (_, _)]) nm_parts_of
@[simp ↓] theorem v_parts_of_clause {n : Nat} {own : Bool} {p : Pos} {ρ : Loc} {σ : Sto} {R : Type} {K : K2 V R} : @cE R (X_parts_of) (n + 1) own (.Name (Str.ofString "clause") p) ρ σ K = @qv _ _ K σ (ρ.lookup (Str.ofString "clause")) := rfl
@[simp ↓] theorem v_parts_of_sort {n : Nat} {own : Bool} {p : Pos} {ρ : Loc} {σ : Sto} {R : Type} {K : K2 V R} : @cE R (X_parts_of) (n + 1) own (.Name (Str.ofString "sort") p) ρ σ K = @qv _ _ K σ (ρ.lookup (Str.ofString "sort")) := rfl
@[simp] theorem i_parts_of_sort : isLocN (X_parts_of).names (Str.ofString "sort") = true := rfl
@[simp ↓] theorem v_parts_of_t0 {n : Nat} {own : Bool} {p : Pos} {ρ : Loc} {σ : Sto} {R : Type} {K : K2 V R} : @cE R (X_parts_of) (n + 1) own (.Name (Str.ofString "t0") p) ρ σ K = @qv _ _ K σ (ρ.lookup (Str.ofString "t0")) := rfl
@[simp] theorem i_parts_of_t0 : isLocN (X_parts_of).names (Str.ofString "t0") = true := rfl
@[simp ↓] theorem v_parts_of_t1 {n : Nat} {own : Bool} {p : Pos} {ρ : Loc} {σ : Sto} {R : Type} {K : K2 V R} : @cE R (X_parts_of) (n + 1) own (.Name (Str.ofString "t1") p) ρ σ K = @qv _ _ K σ (ρ.lookup (Str.ofString "t1")) := rfl
@[simp] theorem i_parts_of_t1 : isLocN (X_parts_of).names (Str.ofString "t1") = true := rfl
@[simp ↓] theorem v_parts_of_h0 {n : Nat} {own : Bool} {p : Pos} {ρ : Loc} {σ : Sto} {R : Type} {K : K2 V R} : @cE R (X_parts_of) (n + 1) own (.Name (Str.ofString "h0") p) ρ σ K = @qv _ _ K σ (ρ.lookup (Str.ofString "h0")) := rfl
@[simp] theorem i_parts_of_h0 : isLocN (X_parts_of).names (Str.ofString "h0") = true := rfl
@[simp ↓] theorem v_parts_of_h1 {n : Nat} {own : Bool} {p : Pos} {ρ : Loc} {σ : Sto} {R : Type} {K : K2 V R} : @cE R (X_parts_of) (n + 1) own (.Name (Str.ofString "h1") p) ρ σ K = @qv _ _ K σ (ρ.lookup (Str.ofString "h1")) := rfl
@[simp] theorem i_parts_of_h1 : isLocN (X_parts_of).names (Str.ofString "h1") = true := rfl
@[simp ↓] theorem v_parts_of_extra {n : Nat} {own : Bool} {p : Pos} {ρ : Loc} {σ : Sto} {R : Type} {K : K2 V R} : @cE R (X_parts_of) (n + 1) own (.Name (Str.ofString "extra") p) ρ σ K = @qv _ _ K σ (ρ.lookup (Str.ofString "extra")) := rfl
@[simp] theorem i_parts_of_extra : isLocN (X_parts_of).names (Str.ofString "extra") = true := rfl
@[simp ↓] theorem v_parts_of_EC_FILTER {n : Nat} {own : Bool} {p : Pos} {ρ : Loc} {σ : Sto} {R : Type} {K : K2 V R} : @cE R (X_parts_of) (n + 1) own (.Name (Str.ofString "EC_FILTER") p) ρ σ K = @ap _ _ K σ ((.int 1)) := rfl
noncomputable def P_parts_of : List V → Option V := F_parts_of.runP (mkG G_parts_of) 150
theorem rn_parts_of (uclause : V) : P_parts_of [uclause] = @cSs _ (X_parts_of) 150 F_parts_of.body [(("clause" : Str), uclause)] [] kP := runP_eq F_parts_of (mkG G_parts_of) 150 [uclause] [] [(("clause" : Str), uclause)] rfl (by kernel_rfl) (by kernel_rfl)
theorem parts_of_eq (c : Cl) : P_parts_of [c.v] = some (.lst ((partsOf c).map pv)) := by
  rw [rn_parts_of, bd_parts_of, partsOf]
  by_cases h : c.sort = 1 <;> simp [mkG, G_parts_of, h, sizeLine_eq]

theorem rd_map {σ : Sto} (l : List (Int × Int)) : rd σ (.lst (l.map pv)) = some (.lst (l.map pv)) := by
  simp [rLst]
theorem rd_take {σ : Sto} (l : List (Int × Int)) (n : Nat) : rd σ (.lst ((l.map pv).take n)) = some (.lst ((l.map pv).take n)) := by
  rw [← List.map_take, rd_map]
theorem rd_tail {σ : Sto} (l : List (Int × Int)) : rd σ (.lst (l.map pv).tail) = some (.lst (l.map pv).tail) := by
  rw [← List.map_tail, rd_map]
noncomputable def G_all_apart : List (Str × GV) := [("apart", .fnP 28 P_apart)]
noncomputable def X_all_apart : Cx := ⟨mkG G_all_apart, F_all_apart.names, []⟩
noncomputable def xn_all_apart := @id ((X_all_apart).names = [(_, _), (_, _), (_, _), (_, _), (_, _)]) nm_all_apart
@[simp ↓] theorem v_all_apart_parts {n : Nat} {own : Bool} {p : Pos} {ρ : Loc} {σ : Sto} {R : Type} {K : K2 V R} : @cE R (X_all_apart) (n + 1) own (.Name (Str.ofString "parts") p) ρ σ K = @qv _ _ K σ (ρ.lookup (Str.ofString "parts")) := rfl
@[simp ↓] theorem v_all_apart_others {n : Nat} {own : Bool} {p : Pos} {ρ : Loc} {σ : Sto} {R : Type} {K : K2 V R} : @cE R (X_all_apart) (n + 1) own (.Name (Str.ofString "others") p) ρ σ K = @qv _ _ K σ (ρ.lookup (Str.ofString "others")) := rfl
@[simp ↓] theorem v_all_apart_a {n : Nat} {own : Bool} {p : Pos} {ρ : Loc} {σ : Sto} {R : Type} {K : K2 V R} : @cE R (X_all_apart) (n + 1) own (.Name (Str.ofString "a") p) ρ σ K = @qv _ _ K σ (ρ.lookup (Str.ofString "a")) := rfl
@[simp] theorem i_all_apart_a : isLocN (X_all_apart).names (Str.ofString "a") = true := rfl
@[simp ↓] theorem v_all_apart_b {n : Nat} {own : Bool} {p : Pos} {ρ : Loc} {σ : Sto} {R : Type} {K : K2 V R} : @cE R (X_all_apart) (n + 1) own (.Name (Str.ofString "b") p) ρ σ K = @qv _ _ K σ (ρ.lookup (Str.ofString "b")) := rfl
@[simp] theorem i_all_apart_b : isLocN (X_all_apart).names (Str.ofString "b") = true := rfl
@[simp] theorem g_all_apart_apart : Cx.glob (X_all_apart) (Str.ofString "apart") = some (.fnP 28 P_apart) := rfl
noncomputable def P_all_apart : List V → Option V := F_all_apart.runP (mkG G_all_apart) 150
theorem rn_all_apart (uparts uothers : V) : P_all_apart [uparts, uothers] = @cSs _ (X_all_apart) 150 F_all_apart.body [(("parts" : Str), uparts), (("others" : Str), uothers)] [] kP := runP_eq F_all_apart (mkG G_all_apart) 150 [uparts, uothers] [] [(("parts" : Str), uparts), (("others" : Str), uothers)] rfl (by kernel_rfl) (by kernel_rfl)
noncomputable def W_all_apart : List Str := ["a", "b"]
theorem all_apart_in {n : Nat} {ρ : Loc} {X : Option (Fl × Loc × Sto)} {a : Int × Int} {bs : List (Int × Int)} (hX : evS X_all_apart (n + 12) S_all_apart_00 ρ [] = X)
    (h1 : ρ.lookup (Str.ofString "others") = some (.lst (bs.map pv))) (h2 : ρ.lookup (Str.ofString "a") = some (pv a)) :
    ∃ ρ', X = some (bif bs.all (apartP a) then .next else .ret (.bool false), ρ', []) ∧ Kp [Str.ofString "b"] ρ ρ' := by
  rw [bs_all_apart_00] at hX
  simp [mkG, G_all_apart, h1] at hX
  refine loop_all pv (apartP a) (.bool false) _ hX rfl trivial fun c _ ρ' k => ?_
  have k2 := k.get h2 (by kernel_rfl)
  by_cases hb : apartP a c = true
  · exact .on (lset ρ' (Str.ofString "b") (pv c)) (by simp [mkG, G_all_apart, bb_all_apart_00, k2, apart_eq, hb]) (k.set (by kernel_rfl)) (by rw [hb]; rfl)
  · exact .ret (.bool false) (lset ρ' (Str.ofString "b") (pv c)) (by simp [mkG, G_all_apart, bb_all_apart_00, k2, apart_eq, hb]) (k.set (by kernel_rfl)) (by rw [Bool.eq_false_iff.mpr hb]; rfl)
theorem all_apart_eq (ps os : List (Int × Int)) : P_all_apart [.lst (ps.map pv), .lst (os.map pv)] = some (.bool (allApart ps os)) := by
  rw [rn_all_apart, bd_all_apart, ss1, cs_all_apart_0]
  generalize hX : evS _ _ S_all_apart_0 _ _ = X
  rw [bs_all_apart_0] at hX
  simp [mkG, G_all_apart] at hX
  obtain ⟨ρ', e, _⟩ := loop_all pv (fun c => os.all (apartP c)) (.bool false) W_all_apart hX rfl trivial fun c _ ρ' k => by
    have k1 : ρ'.lookup (Str.ofString "others") = some (.lst (os.map pv)) := k.get (by simp) (by kernel_rfl)
    obtain ⟨X, hX⟩ : ∃ X, evS X_all_apart 147 S_all_apart_00 (lset ρ' (Str.ofString "a") (pv c)) [] = X := ⟨_, rfl⟩
    obtain ⟨ρ', e1, e2⟩ := all_apart_in (n := 135) (a := c) (bs := os) hX (by simp [k1]) (by simp)
    have k' : Kp W_all_apart _ ρ' := (k.set (v := pv c) (by kernel_rfl)).trans (e2.sub (by kernel_rfl))
    by_cases hb : os.all (apartP c) = true
    · exact .on ρ' (by rw [bb_all_apart_0]; simp [mkG, G_all_apart, hX, e1, hb]) k' (by rw [hb]; rfl)
    · exact .ret (.bool false) ρ' (by rw [bb_all_apart_0]; simp [mkG, G_all_apart, hX, e1, hb]) k' (by rw [Bool.eq_false_iff.mpr hb]; rfl)
  rw [e]
  unfold allApart
  cases ps.all (fun c => os.all (apartP c)) <;> simp [mkG]
noncomputable def G_all_inside : List (Str × GV) := [("inside", .fnP 35 P_inside)]
noncomputable def X_all_inside : Cx := ⟨mkG G_all_inside, F_all_inside.names, []⟩
noncomputable def xn_all_inside := @id ((X_all_inside).names = [(_, _), (_, _), (_, _), (_, _), (_, _), (_, _)]) nm_all_inside
@[simp ↓] theorem v_all_inside_parts {n : Nat} {own : Bool} {p : Pos} {ρ : Loc} {σ : Sto} {R : Type} {K : K2 V R} : @cE R (X_all_inside) (n + 1) own (.Name (Str.ofString "parts") p) ρ σ K = @qv _ _ K σ (ρ.lookup (Str.ofString "parts")) := rfl
@[simp ↓] theorem v_all_inside_others {n : Nat} {own : Bool} {p : Pos} {ρ : Loc} {σ : Sto} {R : Type} {K : K2 V R} : @cE R (X_all_inside) (n + 1) own (.Name (Str.ofString "others") p) ρ σ K = @qv _ _ K σ (ρ.lookup (Str.ofString "others")) := rfl
@[simp ↓] theorem v_all_inside_b {n : Nat} {own : Bool} {p : Pos} {ρ : Loc} {σ : Sto} {R : Type} {K : K2 V R} : @cE R (X_all_inside) (n + 1) own (.Name (Str.ofString "b") p) ρ σ K = @qv _ _ K σ (ρ.lookup (Str.ofString "b")) := rfl
@[simp] theorem i_all_inside_b : isLocN (X_all_inside).names (Str.ofString "b") = true := rfl
@[simp ↓] theorem v_all_inside_held {n : Nat} {own : Bool} {p : Pos} {ρ : Loc} {σ : Sto} {R : Type} {K : K2 V R} : @cE R (X_all_inside) (n + 1) own (.Name (Str.ofString "held") p) ρ σ K = @qv _ _ K σ (ρ.lookup (Str.ofString "held")) := rfl
@[simp] theorem i_all_inside_held : isLocN (X_all_inside).names (Str.ofString "held") = true := rfl
@[simp ↓] theorem v_all_inside_a {n : Nat} {own : Bool} {p : Pos} {ρ : Loc} {σ : Sto} {R : Type} {K : K2 V R} : @cE R (X_all_inside) (n + 1) own (.Name (Str.ofString "a") p) ρ σ K = @qv _ _ K σ (ρ.lookup (Str.ofString "a")) := rfl
@[simp] theorem i_all_inside_a : isLocN (X_all_inside).names (Str.ofString "a") = true := rfl
@[simp] theorem g_all_inside_inside : Cx.glob (X_all_inside) (Str.ofString "inside") = some (.fnP 35 P_inside) := rfl
noncomputable def P_all_inside : List V → Option V := F_all_inside.runP (mkG G_all_inside) 150
theorem rn_all_inside (uparts uothers : V) : P_all_inside [uparts, uothers] = @cSs _ (X_all_inside) 150 F_all_inside.body [(("parts" : Str), uparts), (("others" : Str), uothers)] [] kP := runP_eq F_all_inside (mkG G_all_inside) 150 [uparts, uothers] [] [(("parts" : Str), uparts), (("others" : Str), uothers)] rfl (by kernel_rfl) (by kernel_rfl)
noncomputable def W_all_inside : List Str := ["a", "b", "held"]
noncomputable def W_all_inside1 : List Str := ["a", "held"]
theorem all_inside_in {n : Nat} {ρ : Loc} {X : Option (Fl × Loc × Sto)} {b : Int × Int} {as : List (Int × Int)} (hX : evS X_all_inside (n + 12) S_all_inside_01 ρ [] = X)
    (h1 : ρ.lookup (Str.ofString "parts") = some (.lst (as.map pv))) (h2 : ρ.lookup (Str.ofString "b") = some (pv b)) (h4 : ρ.lookup (Str.ofString "held") = some (.bool true)) :
    ∃ ρ', X = some (.next, ρ', []) ∧ Kp W_all_inside1 ρ ρ' ∧ ρ'.lookup (Str.ofString "held") = some (.bool (as.all fun a => insideP a b)) := by
  rw [bs_all_inside_01] at hX
  simp [mkG, G_all_inside, h1] at hX
  have key := loop_fold pv (fun _ => []) (fun h a => h && insideP a b) W_all_inside1 (fun _ _ => True) (fun h ρ' => ρ'.lookup (Str.ofString "held") = some (.bool h)) (b := true) hX rfl (fun _ => trivial) trivial h4 fun c cs h ρ' _ k k3 => by
    have k2 := k.get h2 (by kernel_rfl)
    by_cases hb : insideP c b = true
    · exact ⟨trivial, .on (lset ρ' (Str.ofString "a") (pv c)) (by simp [mkG, G_all_inside, bb_all_inside_01, k2, inside_eq, hb]) ⟨k.set (by kernel_rfl), by simp [k3, hb]⟩ rfl⟩
    · exact ⟨trivial, .on (lset (lset ρ' (Str.ofString "a") (pv c)) (Str.ofString "held") (.bool false)) (by simp [mkG, G_all_inside, bb_all_inside_01, k2, inside_eq, hb]) ⟨(k.set (by kernel_rfl)).set (by kernel_rfl), by simp [hb]⟩ rfl⟩
  exact key.imp fun ρ' h => ⟨h.1, h.2.2.1, h.2.2.2.trans (congrArg (fun b => some (V.bool b)) (foldl_and _ as true))⟩

theorem all_inside_eq (ps os : List (Int × Int)) : P_all_inside [.lst (ps.map pv), .lst (os.map pv)] = some (.bool (allInside ps os)) := by
  rw [rn_all_inside, bd_all_inside, ss1, cs_all_inside_0]
  generalize hX : evS _ _ S_all_inside_0 _ _ = X
  rw [bs_all_inside_0] at hX
  simp [mkG, G_all_inside] at hX
  obtain ⟨ρ', e, _⟩ := loop_all pv (fun c => !ps.all fun a => insideP a c) (.bool true) W_all_inside hX rfl trivial fun c _ ρ' k => by
    have k1 : ρ'.lookup (Str.ofString "parts") = some (.lst (ps.map pv)) := k.get (by simp) (by kernel_rfl)
    obtain ⟨X, hX⟩ : ∃ X, evS X_all_inside 146 S_all_inside_01 (lset (lset ρ' (Str.ofString "b") (pv c)) (Str.ofString "held") (.bool true)) [] = X := ⟨_, rfl⟩
    obtain ⟨ρ', e1, e2, e3⟩ := all_inside_in (n := 134) (b := c) (as := ps) hX (by simp [k1]) (by simp) (by simp)
    have k' : Kp W_all_inside _ ρ' := ((k.set (v := pv c) (by kernel_rfl)).set (by kernel_rfl)).trans (e2.sub (by kernel_rfl))
    cases hb : (ps.all fun a => insideP a c) with
    | true => exact .ret (.bool true) ρ' (by rw [bb_all_inside_0]; rw [hb] at e3; simp [mkG, G_all_inside, hX, e1, e3]) k' rfl
    | false => exact .on ρ' (by rw [bb_all_inside_0]; rw [hb] at e3; simp [mkG, G_all_inside, hX, e1, e3]) k' rfl
  rw [e, show allInside ps os = !(os.all fun c => !ps.all fun a => insideP a c) by unfold allInside; rw [List.any_eq_not_all_not]]
  cases (os.all fun c => !ps.all fun a => insideP a c) <;> simp [mkG]

/-- a code: rows (op, 0) -/
noncomputable abbrev cv (o : Int) : V := .tup [.int o, .int 0]
theorem rd_cv {σ : Sto} (l : List Int) : rd σ (.lst (l.map cv)) = some (.lst (l.map cv)) := by
  simp [rLst]
noncomputable def filtFrom (ops : List Int) (h0 : Int) : Int → Nat → Bool
  | _, 0 => true
  | i, m + 1 => ((ops.getD i.toNat 0 == 65041) == decide (i = h0 - 1)) && filtFrom ops h0 (i + 1) m
noncomputable def filterRight (ops : List Int) (f0 h0 : Int) : Bool := decide (0 ≤ f0) && decide (f0 < h0) && filtFrom ops h0 f0 (h0 - f0).toNat

theorem filt_all (ops : List Int) (h0 : Int) (m : Nat) : ∀ i : Int, filtFrom ops h0 i m = (rangeL i 1 m).all fun i => decide (ops.getD i.toNat 0 = 65041) == decide (i = h0 - 1) := by
  induction m with
  | zero => exact fun _ => rfl
  | succ m ih => exact fun i => congrArg (_ && ·) (ih (i + 1))
noncomputable def G_filter_right : List (Str × GV) := [("range", .ty "range"), ("OP_ENDFILTER", .val (.int 65041))]
noncomputable def X_filter_right : Cx := ⟨mkG G_filter_right, F_filter_right.names, []⟩
noncomputable def xn_filter_right := @id ((X_filter_right).names = [(_, _), (_, _), (_, _), (_, _), (_, _), (_, _), (_, _)]) nm_filter_right
@[simp ↓] theorem v_filter_right_code {n : Nat} {own : Bool} {p : Pos} {ρ : Loc} {σ : Sto} {R : Type} {K : K2 V R} : @cE R (X_filter_right) (n + 1) own (.Name (Str.ofString "code") p) ρ σ K = @qv _ _ K σ (ρ.lookup (Str.ofString "code")) := rfl
@[simp ↓] theorem v_filter_right_f0 {n : Nat} {own : Bool} {p : Pos} {ρ : Loc} {σ : Sto} {R : Type} {K : K2 V R} : @cE R (X_filter_right) (n + 1) own (.Name (Str.ofString "f0") p) ρ σ K = @qv _ _ K σ (ρ.lookup (Str.ofString "f0")) := rfl
@[simp ↓] theorem v_filter_right_h0 {n : Nat} {own : Bool} {p : Pos} {ρ : Loc} {σ : Sto} {R : Type} {K : K2 V R} : @cE R (X_filter_right) (n + 1) own (.Name (Str.ofString "h0") p) ρ σ K = @qv _ _ K σ (ρ.lookup (Str.ofString "h0")) := rfl
@[simp ↓] theorem v_filter_right_i {n : Nat} {own : Bool} {p : Pos} {ρ : Loc} {σ : Sto} {R : Type} {K : K2 V R} : @cE R (X_filter_right) (n + 1) own (.Name (Str.ofString "i") p) ρ σ K = @qv _ _ K σ (ρ.lookup (Str.ofString "i")) := rfl
@[simp] theorem i_filter_right_i : isLocN (X_filter_right).names (Str.ofString "i") = true := rfl
@[simp ↓] theorem v_filter_right_is_end {n : Nat} {own : Bool} {p : Pos} {ρ : Loc} {σ : Sto} {R : Type} {K : K2 V R} : @cE R (X_filter_right) (n + 1) own (.Name (Str.ofString "is_end") p) ρ σ K = @qv _ _ K σ (ρ.lookup (Str.ofString "is_end")) := rfl
@[simp] theorem i_filter_right_is_end : isLocN (X_filter_right).names (Str.ofString "is_end") = true := rfl
@[simp] theorem g_filter_right_range : Cx.glob (X_filter_right) (Str.ofString "range") = some (.ty "range") := rfl
@[simp ↓] theorem v_filter_right_OP_ENDFILTER {n : Nat} {own : Bool} {p : Pos} {ρ : Loc} {σ : Sto} {R : Type} {K : K2 V R} : @cE R (X_filter_right) (n + 1) own (.Name (Str.ofString "OP_ENDFILTER") p) ρ σ K = @ap _ _ K σ ((.int 65041)) := rfl
noncomputable def P_filter_right : List V → Option V := F_filter_right.runP (mkG G_filter_right) 150
theorem rn_filter_right (ucode uf0 uh0 : V) : P_filter_right [ucode, uf0, uh0] = @cSs _ (X_filter_right) 150 F_filter_right.body [(("code" : Str), ucode), (("f0" : Str), uf0), (("h0" : Str), uh0)] [] kP := runP_eq F_filter_right (mkG G_filter_right) 150 [ucode, uf0, uh0] [] [(("code" : Str), ucode), (("f0" : Str), uf0), (("h0" : Str), uh0)] rfl (by kernel_rfl) (by kernel_rfl)
noncomputable def W_filter_right : List Str := ["i", "is_end"]
theorem filter_right_eq (ops : List Int) (f0 h0 : Int) (hl : h0 ≤ ops.length) (hz : ops.length < 1000000) : P_filter_right [.lst (ops.map cv), .int f0, .int h0] = some (.bool (filterRight ops f0 h0)) := by
  rw [rn_filter_right, bd_filter_right]
  unfold filterRight
  by_cases g1 : f0 < 0
  · simp [mkG, G_filter_right, g1, Int.not_le.mpr g1]
  have g1' : 0 ≤ f0 := Int.not_lt.mp g1
  by_cases g2 : h0 ≤ f0
  · simp [mkG, G_filter_right, g1, g2, Int.not_lt.mpr g2]
  have g2' : f0 < h0 := Int.not_le.mp g2
  have g4 : small f0 = true := small_of (by omega) (by omega)
  have g6 : small h0 = true := small_of (by omega) (by omega)
  rw [decide_eq_true g1', decide_eq_true g2', filt_all, Bool.true_and, Bool.true_and]
  generalize hB : List.all _ _ = B
  simp [mkG, G_filter_right, g1, g2]
  generalize hX : evS _ _ S_filter_right_1 _ _ = X
  rw [bs_filter_right_1] at hX
  simp [mkG, G_filter_right, g4, g6] at hX
  obtain ⟨ρ', e, _⟩ := loop_all V.int (fun i => decide (ops.getD i.toNat 0 = 65041) == decide (i = h0 - 1)) (.bool false) W_filter_right hX (rangeV_map _ _ _) trivial fun i hi ρ' k => by
    have hi := rangeL_mem hi
    have hi0 : 0 ≤ i := Int.le_trans g1' hi.1
    have g8 : idx i = true := idx_of hi0 (by omega)
    obtain ⟨o, ho⟩ : ∃ o, ops[i.toNat]? = some o := ⟨_, List.getElem?_eq_getElem (by omega)⟩
    have ho' : ops.getD i.toNat 0 = o := by rw [List.getD_eq_getElem?_getD, ho]; rfl
    have k1 : ρ'.lookup (Str.ofString "code") = some (.lst (ops.map cv)) := k.get (by simp) (by kernel_rfl)
    have k2 : ρ'.lookup (Str.ofString "h0") = some (.int h0) := k.get (by simp) (by kernel_rfl)
    have kk : ∀ v w, Kp W_filter_right _ (lset (lset ρ' (Str.ofString "i") v) (Str.ofString "is_end") w) := fun v w => (k.set (by kernel_rfl)).set (by kernel_rfl)
    rw [ho', bb_filter_right_1]
    by_cases q1 : o = 65041 <;> by_cases q2 : i = h0 - 1
    · exact .on _ (by simp [mkG, G_filter_right, k1, k2, hi0, g8, ho, q1, ← q2]; rfl) (kk _ _) (by simp [q1, ← q2])
    · exact .ret (.bool false) _ (by simp [mkG, G_filter_right, k1, k2, hi0, g8, ho, q1, q2]; rfl) (kk _ _) (by simp [q1, q2])
    · exact .ret (.bool false) _ (by simp [mkG, G_filter_right, k1, k2, hi0, g8, ho, q1, ← q2]; rfl) (kk _ _) (by simp [q1, ← q2])
    · exact .on _ (by simp [mkG, G_filter_right, k1, k2, hi0, g8, ho, q1, q2]; rfl) (kk _ _) (by simp [q1, q2])
  rw [hB] at e
  rw [e]
  cases B <;> simp [mkG]
end Mine
end

section
open PySem PySem.W PyProof.Rows PySem.Calls
set_option autoImplicit false
set_option maxRecDepth 100000
set_option maxHeartbeats 4000000
set_option linter.unusedSimpArgs false
set_option linter.unusedVariables false
set_option linter.defProp false
namespace Mine

noncomputable def isAlone (c : Cl) : Bool := decide (c.sort = 2) || decide (c.sort = 4)
noncomputable def G_is_alone : List (Str × GV) := [("EC_FINALLY", .val (.int 2)), ("EC_FAULT", .val (.int 4))]
noncomputable def X_is_alone : Cx := ⟨mkG G_is_alone, F_is_alone.names, []⟩
noncomputable def xn_is_alone := @id ((X_is_alone).names = [(_, _), (_, _), (_, _)]) nm_is_alone
@[simp ↓] theorem v_is_alone_clause {n : Nat} {own : Bool} {p : Pos} {ρ : Loc} {σ : Sto} {R : Type} {K : K2 V R} : @cE R (X_is_alone) (n + 1) own (.Name (Str.ofString "clause") p) ρ σ K = @qv _ _ K σ (ρ.lookup (Str.ofString "clause")) := rfl
@[simp ↓] theorem v_is_alone_EC_FINALLY {n : Nat} {own : Bool} {p : Pos} {ρ : Loc} {σ : Sto} {R : Type} {K : K2 V R} : @cE R (X_is_alone) (n + 1) own (.Name (Str.ofString "EC_FINALLY") p) ρ σ K = @ap _ _ K σ ((.int 2)) := rfl
@[simp ↓] theorem v_is_alone_EC_FAULT {n : Nat} {own : Bool} {p : Pos} {ρ : Loc} {σ : Sto} {R : Type} {K : K2 V R} : @cE R (X_is_alone) (n + 1) own (.Name (Str.ofString "EC_FAULT") p) ρ σ K = @ap _ _ K σ ((.int 4)) := rfl
noncomputable def P_is_alone : List V → Option V := F_is_alone.runP (mkG G_is_alone) 150
theorem rn_is_alone (uclause : V) : P_is_alone [uclause] = @cSs _ (X_is_alone) 150 F_is_alone.body [(("clause" : Str), uclause)] [] kP := runP_eq F_is_alone (mkG G_is_alone) 150 [uclause] [] [(("clause" : Str), uclause)] rfl (by kernel_rfl) (by kernel_rfl)
theorem is_alone_eq (c : Cl) : P_is_alone [c.v] = some (.bool (isAlone c)) := by
  rw [rn_is_alone, bd_is_alone, isAlone]
  by_cases h : c.sort = 2 <;> simp [mkG, G_is_alone, h]

noncomputable def clauseRight (ops : List Int) (c : Cl) : Bool :=
  (decide (c.sort = 0) || decide (c.sort = 1) || decide (c.sort = 2) || decide (c.sort = 4)) && decide (0 ≤ c.t0 ∧ c.t0 < c.t1 ∧ c.t1 ≤ ops.length) && decide (0 ≤ c.h0 ∧ c.h0 < c.h1 ∧ c.h1 ≤ ops.length) &&
    (decide (c.sort ≠ 1) || filterRight ops c.extra c.h0) && allApart ((partsOf c).take 1) (partsOf c).tail

theorem all_apart_eq2 (l : List (Int × Int)) : P_all_apart [.lst ((l.map pv).take 1), .lst (l.map pv).tail] = some (.bool (allApart (l.take 1) l.tail)) := by
  rw [← List.map_take, ← List.map_tail, all_apart_eq]
theorem parts_of_eq2 (s a b c d e : Int) : P_parts_of [.tup [.int s, .int a, .int b, .int c, .int d, .int e]] = some (.lst ((partsOf ⟨s, a, b, c, d, e⟩).map pv)) := parts_of_eq ⟨s, a, b, c, d, e⟩

theorem parts_len (c : Cl) : (partsOf c).length ≤ 3 := by unfold partsOf; split <;> simp
/-- a clause that is not right: its sort, its try part, its handler; and else -/
theorem cr_sort {ops : List Int} {c : Cl} (h : (decide (c.sort = 0) || decide (c.sort = 1) || decide (c.sort = 2) || decide (c.sort = 4)) = false) : clauseRight ops c = false := by
  rw [clauseRight, h]; rfl
theorem span_out {a b : Int} {n : Nat} (h : a < 0 ∨ b ≤ a ∨ n < b) : decide (0 ≤ a ∧ a < b ∧ b ≤ n) = false := decide_eq_false fun k => h.elim (Int.not_lt.mpr k.1) fun h => h.elim (Int.not_le.mpr k.2.1) (Int.not_lt.mpr k.2.2)
theorem cr_try {ops : List Int} {c : Cl} (h : c.t0 < 0 ∨ c.t1 ≤ c.t0 ∨ ops.length < c.t1) : clauseRight ops c = false := by
  rw [clauseRight, span_out h, Bool.and_false]; rfl
theorem cr_hand {ops : List Int} {c : Cl} (h : c.h0 < 0 ∨ c.h1 ≤ c.h0 ∨ ops.length < c.h1) : clauseRight ops c = false := by
  rw [clauseRight, span_out h, Bool.and_false]; rfl
theorem cr_else {ops : List Int} {c : Cl} (h : (decide (c.sort = 0) || decide (c.sort = 1) || decide (c.sort = 2) || decide (c.sort = 4)) = true) (t : 0 ≤ c.t0 ∧ c.t0 < c.t1 ∧ c.t1 ≤ ops.length) (k : 0 ≤ c.h0 ∧ c.h0 < c.h1 ∧ c.h1 ≤ ops.length) :
    clauseRight ops c = ((decide (c.sort ≠ 1) || filterRight ops c.extra c.h0) && allApart ((partsOf c).take 1) (partsOf c).tail) := by
  rw [clauseRight, h, decide_eq_true t, decide_eq_true k]; rfl
noncomputable def G_clause_right : List (Str × GV) := [("EC_CATCH", .val (.int 0)), ("EC_FILTER", .val (.int 1)), ("EC_FINALLY", .val (.int 2)), ("EC_FAULT", .val (.int 4)), ("len", .bi "len"), ("filter_right", .fnP 63 P_filter_right), ("parts_of", .fnP 21 P_parts_of), ("all_apart", .fnP 42 P_all_apart)]
noncomputable def X_clause_right : Cx := ⟨mkG G_clause_right, F_clause_right.names, []⟩
noncomputable def xn_clause_right := @id ((X_clause_right).names = [(_, _), (_, _), (_, _), (_, _), (_, _), (_, _), (_, _), (_, _), (_, _), (_, _), (_, _), (_, _), (_, _), (_, _), (_, _), (_, _), (_, _)]) nm_clause_right
@[simp ↓] theorem v_clause_right_code {n : Nat} {own : Bool} {p : Pos} {ρ : Loc} {σ : Sto} {R : Type} {K : K2 V R} : @cE R (X_clause_right) (n + 1) own (.Name (Str.ofString "code") p) ρ σ K = @qv _ _ K σ (ρ.lookup (Str.ofString "code")) := rfl
@[simp ↓] theorem v_clause_right_clause {n : Nat} {own : Bool} {p : Pos} {ρ : Loc} {σ : Sto} {R : Type} {K : K2 V R} : @cE R (X_clause_right) (n + 1) own (.Name (Str.ofString "clause") p) ρ σ K = @qv _ _ K σ (ρ.lookup (Str.ofString "clause")) := rfl
@[simp ↓] theorem v_clause_right_sort {n : Nat} {own : Bool} {p : Pos} {ρ : Loc} {σ : Sto} {R : Type} {K : K2 V R} : @cE R (X_clause_right) (n + 1) own (.Name (Str.ofString "sort") p) ρ σ K = @qv _ _ K σ (ρ.lookup (Str.ofString "sort")) := rfl
@[simp] theorem i_clause_right_sort : isLocN (X_clause_right).names (Str.ofString "sort") = true := rfl
@[simp ↓] theorem v_clause_right_t0 {n : Nat} {own : Bool} {p : Pos} {ρ : Loc} {σ : Sto} {R : Type} {K : K2 V R} : @cE R (X_clause_right) (n + 1) own (.Name (Str.ofString "t0") p) ρ σ K = @qv _ _ K σ (ρ.lookup (Str.ofString "t0")) := rfl
@[simp] theorem i_clause_right_t0 : isLocN (X_clause_right).names (Str.ofString "t0") = true := rfl
@[simp ↓] theorem v_clause_right_t1 {n : Nat} {own : Bool} {p : Pos} {ρ : Loc} {σ : Sto} {R : Type} {K : K2 V R} : @cE R (X_clause_right) (n + 1) own (.Name (Str.ofString "t1") p) ρ σ K = @qv _ _ K σ (ρ.lookup (Str.ofString "t1")) := rfl
@[simp] theorem i_clause_right_t1 : isLocN (X_clause_right).names (Str.ofString "t1") = true := rfl
@[simp ↓] theorem v_clause_right_h0 {n : Nat} {own : Bool} {p : Pos} {ρ : Loc} {σ : Sto} {R : Type} {K : K2 V R} : @cE R (X_clause_right) (n + 1) own (.Name (Str.ofString "h0") p) ρ σ K = @qv _ _ K σ (ρ.lookup (Str.ofString "h0")) := rfl
@[simp] theorem i_clause_right_h0 : isLocN (X_clause_right).names (Str.ofString "h0") = true := rfl
@[simp ↓] theorem v_clause_right_h1 {n : Nat} {own : Bool} {p : Pos} {ρ : Loc} {σ : Sto} {R : Type} {K : K2 V R} : @cE R (X_clause_right) (n + 1) own (.Name (Str.ofString "h1") p) ρ σ K = @qv _ _ K σ (ρ.lookup (Str.ofString "h1")) := rfl
@[simp] theorem i_clause_right_h1 : isLocN (X_clause_right).names (Str.ofString "h1") = true := rfl
@[simp ↓] theorem v_clause_right_extra {n : Nat} {own : Bool} {p : Pos} {ρ : Loc} {σ : Sto} {R : Type} {K : K2 V R} : @cE R (X_clause_right) (n + 1) own (.Name (Str.ofString "extra") p) ρ σ K = @qv _ _ K σ (ρ.lookup (Str.ofString "extra")) := rfl
@[simp] theorem i_clause_right_extra : isLocN (X_clause_right).names (Str.ofString "extra") = true := rfl
@[simp ↓] theorem v_clause_right_parts {n : Nat} {own : Bool} {p : Pos} {ρ : Loc} {σ : Sto} {R : Type} {K : K2 V R} : @cE R (X_clause_right) (n + 1) own (.Name (Str.ofString "parts") p) ρ σ K = @qv _ _ K σ (ρ.lookup (Str.ofString "parts")) := rfl
@[simp] theorem i_clause_right_parts : isLocN (X_clause_right).names (Str.ofString "parts") = true := rfl
@[simp ↓] theorem v_clause_right_EC_CATCH {n : Nat} {own : Bool} {p : Pos} {ρ : Loc} {σ : Sto} {R : Type} {K : K2 V R} : @cE R (X_clause_right) (n + 1) own (.Name (Str.ofString "EC_CATCH") p) ρ σ K = @ap _ _ K σ ((.int 0)) := rfl
@[simp ↓] theorem v_clause_right_EC_FILTER {n : Nat} {own : Bool} {p : Pos} {ρ : Loc} {σ : Sto} {R : Type} {K : K2 V R} : @cE R (X_clause_right) (n + 1) own (.Name (Str.ofString "EC_FILTER") p) ρ σ K = @ap _ _ K σ ((.int 1)) := rfl
@[simp ↓] theorem v_clause_right_EC_FINALLY {n : Nat} {own : Bool} {p : Pos} {ρ : Loc} {σ : Sto} {R : Type} {K : K2 V R} : @cE R (X_clause_right) (n + 1) own (.Name (Str.ofString "EC_FINALLY") p) ρ σ K = @ap _ _ K σ ((.int 2)) := rfl
@[simp ↓] theorem v_clause_right_EC_FAULT {n : Nat} {own : Bool} {p : Pos} {ρ : Loc} {σ : Sto} {R : Type} {K : K2 V R} : @cE R (X_clause_right) (n + 1) own (.Name (Str.ofString "EC_FAULT") p) ρ σ K = @ap _ _ K σ ((.int 4)) := rfl
@[simp] theorem g_clause_right_len : Cx.glob (X_clause_right) (Str.ofString "len") = some (.bi "len") := rfl
@[simp] theorem g_clause_right_filter_right : Cx.glob (X_clause_right) (Str.ofString "filter_right") = some (.fnP 63 P_filter_right) := rfl
@[simp] theorem g_clause_right_parts_of : Cx.glob (X_clause_right) (Str.ofString "parts_of") = some (.fnP 21 P_parts_of) := rfl
@[simp] theorem g_clause_right_all_apart : Cx.glob (X_clause_right) (Str.ofString "all_apart") = some (.fnP 42 P_all_apart) := rfl
noncomputable def P_clause_right : List V → Option V := F_clause_right.runP (mkG G_clause_right) 150
theorem rn_clause_right (ucode uclause : V) : P_clause_right [ucode, uclause] = @cSs _ (X_clause_right) 150 F_clause_right.body [(("code" : Str), ucode), (("clause" : Str), uclause)] [] kP := runP_eq F_clause_right (mkG G_clause_right) 150 [ucode, uclause] [] [(("code" : Str), ucode), (("clause" : Str), uclause)] rfl (by kernel_rfl) (by kernel_rfl)
theorem clause_right_eq (ops : List Int) (c : Cl) (hz : ops.length < 1000000) : P_clause_right [.lst (ops.map cv), c.v] = some (.bool (clauseRight ops c)) := by
  rw [rn_clause_right, bd_clause_right]
  obtain ⟨s, t0, t1, h0, h1, ex⟩ := c
  have g0 : fits ops.length = true := fits_of (Nat.le_of_lt hz)
  have hp := parts_len ⟨s, t0, t1, h0, h1, ex⟩
  have hp1 : (partsOf ⟨s, t0, t1, h0, h1, ex⟩).length ≤ sizeLine := Nat.le_trans hp (by rw [sizeLine_eq]; decide)
  have hp2 : min 1 (partsOf ⟨s, t0, t1, h0, h1, ex⟩).length ≤ sizeLine := Nat.le_trans (Nat.min_le_right _ _) hp1
  have hp3 : (partsOf ⟨s, t0, t1, h0, h1, ex⟩).length ≤ sizeLine + 1 := Nat.le_succ_of_le hp1
  generalize hB : clauseRight _ _ = B
  simp [mkG, G_clause_right]
  rw [mAnd (b := !decide (s = 1) && (!decide (s = 2) && !decide (s = 4))) (fun R K => by by_cases a : s = 1 <;> by_cases b : s = 2 <;> by_cases c : s = 4 <;> simp [mkG, G_clause_right, a, b, c]), ← Bool.not_or, ← Bool.not_or, ← Bool.not_or, ← Bool.or_assoc, ← Bool.or_assoc]
  cases hQ : (decide (s = 0) || decide (s = 1) || decide (s = 2) || decide (s = 4)) with
  | false => simp [mkG, ← hB, cr_sort (c := ⟨s, t0, t1, h0, h1, ex⟩) hQ]
  | true =>
  by_cases a1 : t0 < 0
  · rw [cr_try (.inl a1)] at hB
    simp [mkG, G_clause_right, a1, ← hB]
  by_cases a2 : t1 ≤ t0
  · rw [cr_try (.inr (.inl a2))] at hB
    simp [mkG, G_clause_right, a1, a2, ← hB]
  by_cases a3 : ops.length < t1
  · rw [cr_try (.inr (.inr a3))] at hB
    simp [mkG, G_clause_right, a1, a2, a3, g0, ← hB]
  simp [mkG, G_clause_right, a1, a2, a3, g0]
  by_cases b1 : h0 < 0
  · rw [cr_hand (.inl b1)] at hB
    simp [mkG, G_clause_right, b1, ← hB]
  by_cases b2 : h1 ≤ h0
  · rw [cr_hand (.inr (.inl b2))] at hB
    simp [mkG, G_clause_right, b1, b2, ← hB]
  by_cases b3 : ops.length < h1
  · rw [cr_hand (.inr (.inr b3))] at hB
    simp [mkG, G_clause_right, b1, b2, b3, g0, ← hB]
  have q3 : 0 ≤ h0 ∧ h0 < h1 ∧ h1 ≤ ops.length := ⟨Int.not_lt.mp b1, Int.not_le.mp b2, Int.not_lt.mp b3⟩
  rw [cr_else hQ ⟨Int.not_lt.mp a1, Int.not_le.mp a2, Int.not_lt.mp a3⟩ q3] at hB
  simp [mkG, G_clause_right, b1, b2, b3, g0]
  have hf := filter_right_eq ops ex h0 (Int.le_trans (Int.le_of_lt q3.2.1) q3.2.2) hz
  rw [← hB]
  by_cases e1 : s = 1
  · cases f : filterRight ops ex h0 with
    | true =>
      rw [f] at hf
      subst e1
      simp [mkG, G_clause_right, hf, rd_cv, parts_of_eq2, hp1, hp2, hp3, rd_take, rd_tail, all_apart_eq2]
    | false => rw [f] at hf; simp [mkG, G_clause_right, e1, hf, rd_cv]
  · simp [mkG, G_clause_right, e1, parts_of_eq2, hp1, hp2, hp3, rd_take, rd_tail, all_apart_eq2]

noncomputable def pairRight (a b : Cl) : Bool :=
  if (a.t0, a.t1) = (b.t0, b.t1) then !isAlone a && (!isAlone b && allApart (partsOf a).tail (partsOf b).tail)
  else allApart (partsOf a) (partsOf b) || allInside (partsOf a) [(b.t0, b.t1), (b.h0, b.h1)]

theorem e_pv {σ : Sto} (a b c d : Int) : eqV σ (.tup [.int a, .int b]) (.tup [.int c, .int d]) = some (decide (a = c) && decide (b = d)) := by
  simp [eqV, rTup, V.py, V.pys, PyData.eqv, PyData.eqvAll]
  rfl

theorem all_apart_eq3 (l m : List (Int × Int)) : P_all_apart [.lst (l.map pv).tail, .lst (m.map pv).tail] = some (.bool (allApart l.tail m.tail)) := by
  rw [← List.map_tail, ← List.map_tail, all_apart_eq]
theorem all_inside_eq2 (l : List (Int × Int)) (a b c d : Int) : P_all_inside [.lst (l.map pv), .lst [.tup [.int a, .int b], .tup [.int c, .int d]]] = some (.bool (allInside l [(a, b), (c, d)])) := all_inside_eq l [(a, b), (c, d)]
theorem parts_head (c : Cl) : (partsOf c)[0]? = some (c.t0, c.t1) := by unfold partsOf; split <;> rfl
theorem parts_last (c : Cl) : ∃ n, (partsOf c).length = n + 1 ∧ (partsOf c)[n]? = some (c.h0, c.h1) := by unfold partsOf; split <;> exact ⟨_, rfl, rfl⟩
noncomputable def G_pair_right : List (Str × GV) := [("parts_of", .fnP 21 P_parts_of), ("is_alone", .fnP 70 P_is_alone), ("all_apart", .fnP 42 P_all_apart), ("all_inside", .fnP 49 P_all_inside), ("len", .bi "len")]
noncomputable def X_pair_right : Cx := ⟨mkG G_pair_right, F_pair_right.names, []⟩
noncomputable def xn_pair_right := @id ((X_pair_right).names = [(_, _), (_, _), (_, _), (_, _), (_, _), (_, _), (_, _), (_, _), (_, _)]) nm_pair_right
@[simp ↓] theorem v_pair_right_first {n : Nat} {own : Bool} {p : Pos} {ρ : Loc} {σ : Sto} {R : Type} {K : K2 V R} : @cE R (X_pair_right) (n + 1) own (.Name (Str.ofString "first") p) ρ σ K = @qv _ _ K σ (ρ.lookup (Str.ofString "first")) := rfl
@[simp ↓] theorem v_pair_right_second {n : Nat} {own : Bool} {p : Pos} {ρ : Loc} {σ : Sto} {R : Type} {K : K2 V R} : @cE R (X_pair_right) (n + 1) own (.Name (Str.ofString "second") p) ρ σ K = @qv _ _ K σ (ρ.lookup (Str.ofString "second")) := rfl
@[simp ↓] theorem v_pair_right_a {n : Nat} {own : Bool} {p : Pos} {ρ : Loc} {σ : Sto} {R : Type} {K : K2 V R} : @cE R (X_pair_right) (n + 1) own (.Name (Str.ofString "a") p) ρ σ K = @qv _ _ K σ (ρ.lookup (Str.ofString "a")) := rfl
@[simp] theorem i_pair_right_a : isLocN (X_pair_right).names (Str.ofString "a") = true := rfl
@[simp ↓] theorem v_pair_right_b {n : Nat} {own : Bool} {p : Pos} {ρ : Loc} {σ : Sto} {R : Type} {K : K2 V R} : @cE R (X_pair_right) (n + 1) own (.Name (Str.ofString "b") p) ρ σ K = @qv _ _ K σ (ρ.lookup (Str.ofString "b")) := rfl
@[simp] theorem i_pair_right_b : isLocN (X_pair_right).names (Str.ofString "b") = true := rfl
@[simp] theorem g_pair_right_parts_of : Cx.glob (X_pair_right) (Str.ofString "parts_of") = some (.fnP 21 P_parts_of) := rfl
@[simp] theorem g_pair_right_is_alone : Cx.glob (X_pair_right) (Str.ofString "is_alone") = some (.fnP 70 P_is_alone) := rfl
@[simp] theorem g_pair_right_all_apart : Cx.glob (X_pair_right) (Str.ofString "all_apart") = some (.fnP 42 P_all_apart) := rfl
@[simp] theorem g_pair_right_all_inside : Cx.glob (X_pair_right) (Str.ofString "all_inside") = some (.fnP 49 P_all_inside) := rfl
@[simp] theorem g_pair_right_len : Cx.glob (X_pair_right) (Str.ofString "len") = some (.bi "len") := rfl
noncomputable def P_pair_right : List V → Option V := F_pair_right.runP (mkG G_pair_right) 150
theorem rn_pair_right (ufirst usecond : V) : P_pair_right [ufirst, usecond] = @cSs _ (X_pair_right) 150 F_pair_right.body [(("first" : Str), ufirst), (("second" : Str), usecond)] [] kP := runP_eq F_pair_right (mkG G_pair_right) 150 [ufirst, usecond] [] [(("first" : Str), ufirst), (("second" : Str), usecond)] rfl (by kernel_rfl) (by kernel_rfl)
theorem pair_right_eq (a b : Cl) : P_pair_right [a.v, b.v] = some (.bool (pairRight a b)) := by
  rw [rn_pair_right, bd_pair_right]
  have s3 : 3 ≤ sizeLine := by rw [sizeLine_eq]; decide
  have ha := Nat.le_trans (parts_len a) s3
  have ha' : (partsOf a).length ≤ sizeLine + 1 := Nat.le_succ_of_le ha
  obtain ⟨n, hn, hl⟩ := parts_last b
  have n3 : n + 1 ≤ 3 := hn ▸ parts_len b
  have hb' := Nat.le_trans n3 s3
  have hb : n ≤ sizeLine := Nat.le_trans (Nat.le_of_lt n3) s3
  have h2 : 2 ≤ sizeLine := Nat.le_of_succ_le s3
  have g5 : fits (n + 1) = true := fits_of (Nat.le_trans n3 (by decide))
  have g6 : idx (n : Int) = true := idx_of (Int.natCast_nonneg n) (Int.ofNat_lt.mpr (Nat.lt_trans n3 (by decide)))
  have h0 := parts_head a
  have h0' := parts_head b
  have hl' : (partsOf b)[n]'(hn ▸ Nat.lt_succ_self n) = _ := Option.some.inj ((List.getElem?_eq_getElem _).symm.trans hl)
  have h0'' : (partsOf b)[0]'(hn ▸ Nat.succ_pos n) = _ := Option.some.inj ((List.getElem?_eq_getElem _).symm.trans h0')
  generalize hB : pairRight _ _ = B
  rw [pairRight] at hB
  simp [mkG, G_pair_right, parts_of_eq, h0, h0', e_pv, rd_map]
  by_cases e : (a.t0, a.t1) = (b.t0, b.t1)
  · rw [if_pos e] at hB
    rw [decide_eq_true (Prod.mk.inj e).1, decide_eq_true (Prod.mk.inj e).2, ← hB]
    cases e1 : isAlone a <;> cases e2 : isAlone b <;> simp [mkG, G_pair_right, is_alone_eq, e1, e2, ha, ha', hn, hb, hb', rd_tail, all_apart_eq3]
  · rw [if_neg e] at hB
    rw [Bool.eq_false_iff.mpr fun h : (decide (a.t0 = b.t0) && decide (a.t1 = b.t1)) = true => e (by rw [Bool.and_eq_true, decide_eq_true_eq, decide_eq_true_eq] at h; rw [h.1, h.2]), ← hB]
    cases e1 : allApart (partsOf a) (partsOf b) <;> simp [mkG, G_pair_right, rd_map, all_apart_eq, e1, hn, g5, g6, hl', h0'', all_inside_eq2, rLst, h2]
end Mine
end

section
open PySem PySem.W PyProof.Rows PySem.Calls
set_option autoImplicit false
set_option maxRecDepth 100000
set_option maxHeartbeats 4000000
set_option linter.unusedSimpArgs false
set_option linter.unusedVariables false
set_option linter.defProp false
namespace Mine

noncomputable abbrev f8 (t : Int) : V := .tup [.int 8, .int t]
noncomputable def addF (fs : List Int) (t : Int) : List Int := if t ∈ fs then fs else fs ++ [t]

theorem eqv_pair (a b c d : Int) : PyData.eqv (V.py (.tup [.int a, .int b])) (V.py (.tup [.int c, .int d])) = decide ((a, b) = (c, d)) := by
  simp [V.py, V.pys, PyData.eqv, PyData.eqvAll]
  rw [Bool.eq_iff_iff]; simp
theorem in_f8 (fs : List Int) (t : Int) : inV [.lst (fs.map f8)] (f8 t) (.cell 0) = some (decide (t ∈ fs)) := by
  have h1 : (fs.map f8).all (V.pure 6) = true := by simp
  have h2 : (fs.map f8).all (V.okd 6) = true := by simp
  unfold inV
  simp only [rCell, List.getElem?_cons_zero, h1, if_true, Option.bind_some, iLst, h2]
  have h3 : (f8 t).okd 6 = true := by simp
  simp only [h3, Bool.and_self, if_true]
  congr 1
  rw [Bool.eq_iff_iff, List.any_map]
  simp only [List.any_eq_true, Function.comp, eqv_pair, decide_eq_true_eq, Prod.mk.injEq, true_and]
  exact ⟨fun ⟨x, h, e⟩ => e ▸ h, fun h => ⟨t, h, rfl⟩⟩

noncomputable def G_note_fault : List (Str × GV) := [("VF_HANDLER", .val (.int 8))]
noncomputable def X_note_fault : Cx := ⟨mkG G_note_fault, F_note_fault.names, []⟩
noncomputable def xn_note_fault := @id ((X_note_fault).names = [(_, _), (_, _), (_, _), (_, _)]) nm_note_fault
@[simp ↓] theorem v_note_fault_faults {n : Nat} {own : Bool} {p : Pos} {ρ : Loc} {σ : Sto} {R : Type} {K : K2 V R} : @cE R (X_note_fault) (n + 1) own (.Name (Str.ofString "faults") p) ρ σ K = @qv _ _ K σ (ρ.lookup (Str.ofString "faults")) := rfl
@[simp ↓] theorem v_note_fault_clause {n : Nat} {own : Bool} {p : Pos} {ρ : Loc} {σ : Sto} {R : Type} {K : K2 V R} : @cE R (X_note_fault) (n + 1) own (.Name (Str.ofString "clause") p) ρ σ K = @qv _ _ K σ (ρ.lookup (Str.ofString "clause")) := rfl
@[simp ↓] theorem v_note_fault_row {n : Nat} {own : Bool} {p : Pos} {ρ : Loc} {σ : Sto} {R : Type} {K : K2 V R} : @cE R (X_note_fault) (n + 1) own (.Name (Str.ofString "row") p) ρ σ K = @qv _ _ K σ (ρ.lookup (Str.ofString "row")) := rfl
@[simp] theorem i_note_fault_row : isLocN (X_note_fault).names (Str.ofString "row") = true := rfl
@[simp ↓] theorem v_note_fault_VF_HANDLER {n : Nat} {own : Bool} {p : Pos} {ρ : Loc} {σ : Sto} {R : Type} {K : K2 V R} : @cE R (X_note_fault) (n + 1) own (.Name (Str.ofString "VF_HANDLER") p) ρ σ K = @ap _ _ K σ ((.int 8)) := rfl
noncomputable def E_note_fault : List V → Sto → Option (V × Sto) := F_note_fault.run (mkG G_note_fault) 150
theorem rn_note_fault (ufaults uclause : V) (σ : Sto) : E_note_fault [ufaults, uclause] σ = @cSs _ (X_note_fault) 150 F_note_fault.body [(("faults" : Str), ufaults), (("clause" : Str), uclause)] σ kE := run_eq F_note_fault (mkG G_note_fault) 150 [ufaults, uclause] σ [] [(("faults" : Str), ufaults), (("clause" : Str), uclause)] rfl (by kernel_rfl) (by kernel_rfl)
theorem note_fault_eq (fs : List Int) (c : Cl) (hl : fs.length ≤ 2000) : E_note_fault [.cell 0, c.v] [.lst (fs.map f8)] = some (.none, [.lst ((addF fs c.t0).map f8)]) := by
  rw [rn_note_fault, bd_note_fault, addF]
  have g : fs.length + 1 ≤ sizeLine := by rw [sizeLine_eq]; exact Nat.le_trans (Nat.succ_le_succ hl) (by decide)
  by_cases h : c.t0 ∈ fs <;> simp [mkG, G_note_fault, in_f8, h, g]

noncomputable def faults1 (ops : List Int) (cs : List Cl) (fs : List Int) : List Int := cs.foldl (fun fs c => if clauseRight ops c then fs else addF fs c.t0) fs
noncomputable def faults2 (c : Cl) (ds : List Cl) (fs : List Int) : List Int := ds.foldl (fun fs d => if pairRight c d then fs else addF fs c.t0) fs
noncomputable def faults3 : List Cl → List Int → List Int
  | [], fs => fs
  | c :: cs, fs => faults3 cs (faults2 c cs fs)
noncomputable def regionFaults (ops : List Int) (cs : List Cl) : List Int :=
  let fs := faults1 ops cs []
  if fs = [] then faults3 cs [] else fs

theorem addF_len (fs : List Int) (t : Int) : (addF fs t).length ≤ fs.length + 1 := by unfold addF; split <;> simp
theorem rd_clv {σ : Sto} (c : Cl) : rd σ c.v = some c.v := by simp [rTup]
theorem rd_cls {σ : Sto} (l : List Cl) : rd σ (.lst (l.map Cl.v)) = some (.lst (l.map Cl.v)) := by
  simp [rLst]

/-- an enumeration: what stands in it; its numbers alone; a fold over its items alone -/
theorem enumL_mem {α : Type} {p : Int × α} {l : List α} : ∀ {k : Nat}, p ∈ enumL k l → ∃ m : Nat, p.1 = (k + m : Nat) ∧ l[m]? = some p.2 := by
  induction l with
  | nil => intro _ h; cases h
  | cons x l ih =>
    intro k h
    rcases List.mem_cons.mp h with rfl | h
    · exact ⟨0, rfl, rfl⟩
    · exact (ih (k := k + 1) h).elim fun m h => ⟨m + 1, by rw [h.1, Nat.add_assoc, Nat.add_comm 1], h.2⟩
theorem rangeV_enum {α : Type} (l : List α) : ∀ (k : Int), rangeV k 1 l.length = (enumL k l).map fun p => V.int p.1 := by
  induction l with
  | nil => exact fun _ => rfl
  | cons _ l ih => exact fun k => congrArg (V.int k :: ·) (ih (k + 1))
theorem enumL_len {α : Type} (l : List α) : ∀ k : Int, (enumL k l).length = l.length := by
  induction l with
  | nil => exact fun _ => rfl
  | cons _ l ih => exact fun k => congrArg (· + 1) (ih (k + 1))
theorem foldl_enumL {α β : Type} (st : β → α → β) (l : List α) : ∀ (k : Int) (b : β), (enumL k l).foldl (fun b p => st b p.2) b = l.foldl st b := by
  induction l with
  | nil => exact fun _ _ => rfl
  | cons x l ih => exact fun k b => ih (k + 1) (st b x)

/-- the faults while one clause's pairs are tried: it is noted once at the most -/
noncomputable def Inv2 (fs : List Int) (t : Int) (gs : List Int) : Prop := gs.length ≤ fs.length + 1 ∧ (gs ≠ fs → t ∈ gs)
theorem Inv2.add {fs : List Int} {t : Int} {gs : List Int} (h : Inv2 fs t gs) : Inv2 fs t (addF gs t) := by
  unfold addF
  split
  · exact h
  · rename_i hn
    have : gs = fs := Classical.byContradiction fun k => hn (h.2 k)
    exact ⟨by rw [List.length_append, this]; exact Nat.le_refl _, fun _ => List.mem_append_right _ (List.mem_singleton_self t)⟩

noncomputable def G_region_faults : List (Str × GV) := [("clause_right", .fnP 56 P_clause_right), ("note_fault", .fnE 91 E_note_fault), ("len", .bi "len"), ("enumerate", .ty "enumerate"), ("range", .ty "range"), ("pair_right", .fnP 77 P_pair_right)]
noncomputable def X_region_faults : Cx := ⟨mkG G_region_faults, F_region_faults.names, []⟩
noncomputable def xn_region_faults := @id ((X_region_faults).names = [(_, _), (_, _), (_, _), (_, _), (_, _), (_, _), (_, _), (_, _), (_, _), (_, _), (_, _), (_, _), (_, _)]) nm_region_faults
@[simp ↓] theorem v_region_faults_code {n : Nat} {own : Bool} {p : Pos} {ρ : Loc} {σ : Sto} {R : Type} {K : K2 V R} : @cE R (X_region_faults) (n + 1) own (.Name (Str.ofString "code") p) ρ σ K = @qv _ _ K σ (ρ.lookup (Str.ofString "code")) := rfl
@[simp ↓] theorem v_region_faults_clauses {n : Nat} {own : Bool} {p : Pos} {ρ : Loc} {σ : Sto} {R : Type} {K : K2 V R} : @cE R (X_region_faults) (n + 1) own (.Name (Str.ofString "clauses") p) ρ σ K = @qv _ _ K σ (ρ.lookup (Str.ofString "clauses")) := rfl
@[simp ↓] theorem v_region_faults_faults {n : Nat} {own : Bool} {p : Pos} {ρ : Loc} {σ : Sto} {R : Type} {K : K2 V R} : @cE R (X_region_faults) (n + 1) own (.Name (Str.ofString "faults") p) ρ σ K = @qv _ _ K σ (ρ.lookup (Str.ofString "faults")) := rfl
@[simp] theorem i_region_faults_faults : isLocN (X_region_faults).names (Str.ofString "faults") = true := rfl
@[simp ↓] theorem v_region_faults_clause {n : Nat} {own : Bool} {p : Pos} {ρ : Loc} {σ : Sto} {R : Type} {K : K2 V R} : @cE R (X_region_faults) (n + 1) own (.Name (Str.ofString "clause") p) ρ σ K = @qv _ _ K σ (ρ.lookup (Str.ofString "clause")) := rfl
@[simp] theorem i_region_faults_clause : isLocN (X_region_faults).names (Str.ofString "clause") = true := rfl
@[simp ↓] theorem v_region_faults_c {n : Nat} {own : Bool} {p : Pos} {ρ : Loc} {σ : Sto} {R : Type} {K : K2 V R} : @cE R (X_region_faults) (n + 1) own (.Name (Str.ofString "c") p) ρ σ K = @qv _ _ K σ (ρ.lookup (Str.ofString "c")) := rfl
@[simp] theorem i_region_faults_c : isLocN (X_region_faults).names (Str.ofString "c") = true := rfl
@[simp ↓] theorem v_region_faults_first {n : Nat} {own : Bool} {p : Pos} {ρ : Loc} {σ : Sto} {R : Type} {K : K2 V R} : @cE R (X_region_faults) (n + 1) own (.Name (Str.ofString "first") p) ρ σ K = @qv _ _ K σ (ρ.lookup (Str.ofString "first")) := rfl
@[simp] theorem i_region_faults_first : isLocN (X_region_faults).names (Str.ofString "first") = true := rfl
@[simp ↓] theorem v_region_faults_d {n : Nat} {own : Bool} {p : Pos} {ρ : Loc} {σ : Sto} {R : Type} {K : K2 V R} : @cE R (X_region_faults) (n + 1) own (.Name (Str.ofString "d") p) ρ σ K = @qv _ _ K σ (ρ.lookup (Str.ofString "d")) := rfl
@[simp] theorem i_region_faults_d : isLocN (X_region_faults).names (Str.ofString "d") = true := rfl
@[simp] theorem g_region_faults_clause_right : Cx.glob (X_region_faults) (Str.ofString "clause_right") = some (.fnP 56 P_clause_right) := rfl
@[simp] theorem g_region_faults_note_fault : Cx.glob (X_region_faults) (Str.ofString "note_fault") = some (.fnE 91 E_note_fault) := rfl
@[simp] theorem g_region_faults_len : Cx.glob (X_region_faults) (Str.ofString "len") = some (.bi "len") := rfl
@[simp] theorem g_region_faults_enumerate : Cx.glob (X_region_faults) (Str.ofString "enumerate") = some (.ty "enumerate") := rfl
@[simp] theorem g_region_faults_range : Cx.glob (X_region_faults) (Str.ofString "range") = some (.ty "range") := rfl
@[simp] theorem g_region_faults_pair_right : Cx.glob (X_region_faults) (Str.ofString "pair_right") = some (.fnP 77 P_pair_right) := rfl
noncomputable def P_region_faults : List V → Option V := F_region_faults.runP (mkG G_region_faults) 150
theorem rn_region_faults (ucode uclauses : V) : P_region_faults [ucode, uclauses] = @cSs _ (X_region_faults) 150 F_region_faults.body [(("code" : Str), ucode), (("clauses" : Str), uclauses)] [] kP := runP_eq F_region_faults (mkG G_region_faults) 150 [ucode, uclauses] [] [(("code" : Str), ucode), (("clauses" : Str), uclauses)] rfl (by kernel_rfl) (by kernel_rfl)
theorem region_faults_in {n : Nat} {ρ : Loc} {X : Option (Fl × Loc × Sto)} {c : Cl} {cs : List Cl} {i : Nat} {fs : List Int} (hX : evS X_region_faults (n + 20) S_region_faults_30 ρ [.lst (fs.map f8)] = X)
    (hcs : cs.length ≤ 1000) (hi : i < cs.length) (hfs : fs.length ≤ 1000) (h1 : ρ.lookup (Str.ofString "c") = some (.int i)) (h2 : ρ.lookup (Str.ofString "first") = some c.v) (h3 : ρ.lookup (Str.ofString "clauses") = some (.lst (cs.map Cl.v))) (h4 : ρ.lookup (Str.ofString "faults") = some (.cell 0)) :
    ∃ ρ', X = some (.next, ρ', [.lst ((faults2 c (cs.drop (i + 1)) fs).map f8)]) ∧ (faults2 c (cs.drop (i + 1)) fs).length ≤ fs.length + 1 ∧ Kp [Str.ofString "d"] ρ ρ' := by
  have s2 : fits cs.length = true := fits_of (Nat.le_trans hcs (by decide))
  have g1 : small ((i : Int) + 1) = true := small_of (by omega) (by omega)
  have g2 : small (cs.length : Int) = true := small_of (by omega) (by omega)
  rw [bs_region_faults_30] at hX
  simp [mkG, G_region_faults, h1, h3, s2, g1, g2] at hX
  have hl : ((cs.length : Int) - ((i : Int) + 1)).toNat = (cs.drop (i + 1)).length := (Int.toNat_sub cs.length (i + 1)).trans List.length_drop.symm
  obtain ⟨ρ', e, ⟨_, q⟩, k, _⟩ := loop_fold (fun p : Int × Cl => .int p.1) (fun gs => [.lst (gs.map f8)]) (fun gs p => if pairRight c p.2 then gs else addF gs c.t0) [Str.ofString "d"]
    (fun as gs => (∀ p ∈ as, p ∈ enumL (i + 1 : Nat) (cs.drop (i + 1))) ∧ Inv2 fs c.t0 gs) (fun _ _ => True) (b := fs) hX (by rw [hl]; exact rangeV_enum _ _) (fun _ => trivial) ⟨fun _ h => h, Nat.le_succ _, fun h => absurd rfl h⟩ trivial
    fun p as gs ρ' ⟨hm, hg⟩ k _ => by
      obtain ⟨m, hj, hd⟩ := enumL_mem (hm p List.mem_cons_self)
      rw [List.getElem?_drop] at hd
      generalize i + 1 + m = j at hj hd
      have g8 : idx (j : Int) = true := idx_of (Int.natCast_nonneg _) (by have := (List.getElem?_eq_some_iff.mp hd).1; omega)
      have hm' : ∀ q ∈ as, q ∈ enumL (i + 1 : Nat) (cs.drop (i + 1)) := fun q h => hm q (List.mem_cons_of_mem _ h)
      have k1 := k.get h2 (by kernel_rfl)
      have k2 := k.get h3 (by kernel_rfl)
      have k3 := k.get h4 (by kernel_rfl)
      rw [bb_region_faults_30]
      cases hb : pairRight c p.2 with
      | true => exact ⟨⟨hm', hg⟩, .on (lset ρ' (Str.ofString "d") (.int p.1)) (by simp [mkG, G_region_faults, k1, k2, hj, g8, hd, rd_clv, pair_right_eq, hb]) ⟨k.set (by kernel_rfl), trivial⟩ rfl⟩
      | false => exact ⟨⟨hm', hg.add⟩, .on (lset ρ' (Str.ofString "d") (.int p.1)) (by simp [mkG, G_region_faults, k1, k2, k3, hj, g8, hd, rd_clv, pair_right_eq, hb, note_fault_eq gs c (Nat.le_trans hg.1 (by omega))]) ⟨k.set (by kernel_rfl), trivial⟩ rfl⟩
  rw [foldl_enumL (fun gs d => if pairRight c d then gs else addF gs c.t0)] at e q
  exact ⟨ρ', e, q.1, k⟩

theorem faults3_fold (cs ds : List Cl) : ∀ (i : Nat) (fs : List Int), cs.drop i = ds → (enumL i ds).foldl (fun fs p => faults2 p.2 (cs.drop (p.1.toNat + 1)) fs) fs = faults3 ds fs := by
  induction ds with
  | nil => exact fun _ _ _ => rfl
  | cons d ds ih =>
    intro i fs h
    have h' : cs.drop (i + 1) = ds := by rw [← List.tail_drop, h]; rfl
    exact (congrArg (fun l => (enumL (i + 1 : Nat) ds).foldl (fun fs p => faults2 p.2 (cs.drop (p.1.toNat + 1)) fs) (faults2 d l fs)) h').trans (ih (i + 1) _ h')
theorem region_faults_eq (ops : List Int) (cs : List Cl) (hz : ops.length < 1000000) (hc : cs.length ≤ 1000) : P_region_faults [.lst (ops.map cv), .lst (cs.map Cl.v)] = some (.lst ((regionFaults ops cs).map f8)) := by
  rw [rn_region_faults, bd_region_faults, regionFaults]
  have s0 : 0 ≤ sizeLine := Nat.zero_le _
  have s1 : cs.length ≤ sizeLine := Nat.le_trans hc (by rw [sizeLine_eq]; decide)
  simp [mkG, G_region_faults, s0]
  generalize hX : evS _ _ S_region_faults_1 _ _ = X
  rw [bs_region_faults_1] at hX
  simp [mkG, G_region_faults] at hX
  obtain ⟨ρ', e, hl, k, _⟩ := loop_fold Cl.v (fun fs => [.lst (fs.map f8)]) (fun fs c => if clauseRight ops c then fs else addF fs c.t0) [Str.ofString "clause"]
    (fun as fs => fs.length + as.length ≤ 1000) (fun _ _ => True) (b := []) hX rfl (by exact fun _ => trivial) (by rw [List.length_nil, Nat.zero_add]; exact hc) trivial fun c as fs ρ' hI k _ => by
      have k1 : ρ'.lookup (Str.ofString "code") = some (.lst (ops.map cv)) := k.get (by simp) (by kernel_rfl)
      have k3 : ρ'.lookup (Str.ofString "faults") = some (.cell 0) := k.get (by simp) (by kernel_rfl)
      rw [List.length_cons] at hI
      rw [bb_region_faults_1]
      cases hb : clauseRight ops c with
      | true => exact ⟨by show _ ≤ _; rw [if_pos rfl]; omega, .on (lset ρ' (Str.ofString "clause") c.v) (by simp [mkG, G_region_faults, k1, rd_cv, clause_right_eq _ _ hz, hb]) ⟨k.set (by kernel_rfl), trivial⟩ rfl⟩
      | false => exact ⟨by have := addF_len fs c.t0; show (addF fs c.t0).length + _ ≤ _; omega, .on (lset ρ' (Str.ofString "clause") c.v) (by simp [mkG, G_region_faults, k1, k3, rd_cv, clause_right_eq _ _ hz, hb, note_fault_eq fs c (by omega)]) ⟨k.set (by kernel_rfl), trivial⟩ rfl⟩
  replace e : X = some (Fl.next, ρ', [Cell.lst ((faults1 ops cs []).map f8)]) := e
  rw [e]
  clear e hX
  replace hl : (faults1 ops cs []).length ≤ 1000 := hl
  have s3 : fits (faults1 ops cs []).length = true := fits_of (Nat.le_trans hl (by decide))
  have ht : ((faults1 ops cs []).map f8).all (V.tame 4) = true := by simp
  have e4 : ρ'.lookup (Str.ofString "clauses") = some (.lst (cs.map Cl.v)) := k.get (by simp) (by kernel_rfl)
  have e5 : ρ'.lookup (Str.ofString "faults") = some (.cell 0) := k.get (by simp) (by kernel_rfl)
  cases hf : faults1 ops cs [] with
  | cons a l =>
    rw [hf] at s3 ht
    have s4 : fits (l.length + 1) = true := s3
    simp [mkG, G_region_faults, e5, s4, ht]
  | nil =>
    have s4 : fits 0 = true := fits_of (by decide)
    simp [mkG, G_region_faults, e5, s4]
    generalize hX2 : evS _ _ S_region_faults_3 _ _ = X2
    rw [bs_region_faults_3] at hX2
    simp [mkG, G_region_faults, e4, s1] at hX2
    obtain ⟨ρ'', e, _, k', _⟩ := loop_fold (fun p : Int × Cl => .tup [.int p.1, p.2.v]) (fun fs => [.lst (fs.map f8)]) (fun fs p => faults2 p.2 (cs.drop (p.1.toNat + 1)) fs) [Str.ofString "c", Str.ofString "first", Str.ofString "d"]
      (fun as fs => (∀ p ∈ as, p ∈ enumL (0 : Nat) cs) ∧ fs.length + as.length ≤ 1000) (fun _ _ => True) (b := []) hX2 (enumV_map Cl.v cs 0) (by exact fun _ => trivial) ⟨fun _ h => h, by rw [List.length_nil, Nat.zero_add, enumL_len]; exact hc⟩ trivial fun ⟨pi, d⟩ as fs ρ2 ⟨hm, hl⟩ k2 _ => by
        obtain ⟨j, hj, hd⟩ := enumL_mem (hm _ List.mem_cons_self)
        rw [Nat.zero_add] at hj
        obtain rfl : pi = j := hj
        have k1 := k2.get e4 (by kernel_rfl)
        have k3 := k2.get e5 (by kernel_rfl)
        rw [List.length_cons] at hl
        obtain ⟨Y, hY⟩ : ∃ Y, evS X_region_faults 144 S_region_faults_30 (lset (lset ρ2 (Str.ofString "c") (.int j)) (Str.ofString "first") d.v) [.lst (fs.map f8)] = Y := ⟨_, rfl⟩
        obtain ⟨ρ3, rfl, hl', k4⟩ := region_faults_in (n := 124) (c := d) (cs := cs) (i := j) hY hc (List.getElem?_eq_some_iff.mp hd).1 (by omega) (by simp) (by simp) (by simp [k1]) (by simp [k3])
        exact ⟨⟨fun q h => hm q (List.mem_cons_of_mem _ h), by show (faults2 d (cs.drop (j + 1)) fs).length + _ ≤ _; omega⟩, .on ρ3 (by rw [bb_region_faults_3]; simp [mkG, G_region_faults, hY]) ⟨((k2.set (by kernel_rfl)).set (by kernel_rfl)).trans (k4.sub (by kernel_rfl)), trivial⟩ rfl⟩
    have f3 : (enumL 0 cs).foldl (fun fs p => faults2 p.2 (cs.drop (p.1.toNat + 1)) fs) [] = faults3 cs [] := faults3_fold cs cs 0 [] rfl
    rw [e, f3]
    have ht2 : ((faults3 cs []).map f8).all (V.tame 4) = true := by simp
    simp [mkG, G_region_faults, k'.get e5 (by kernel_rfl), ht2]
end Mine
end

section
open PySem PySem.W PyProof.Rows PySem.Calls
set_option autoImplicit false
set_option maxRecDepth 100000
set_option maxHeartbeats 4000000
set_option linter.unusedSimpArgs false
set_option linter.unusedVariables false
set_option linter.defProp false
namespace Mine

noncomputable def partAt (c : Cl) (i : Int) : Int :=
  if c.t0 ≤ i ∧ i < c.t1 then 0 else if c.h0 ≤ i ∧ i < c.h1 then 2 else if c.sort = 1 ∧ c.extra ≤ i ∧ i < c.h0 then 1 else -1
noncomputable def G_part_at : List (Str × GV) := [("RP_TRY", .val (.int 0)), ("RP_HANDLER", .val (.int 2)), ("EC_FILTER", .val (.int 1)), ("RP_FILTER", .val (.int 1))]
noncomputable def X_part_at : Cx := ⟨mkG G_part_at, F_part_at.names, []⟩
noncomputable def xn_part_at := @id ((X_part_at).names = [(_, _), (_, _), (_, _), (_, _), (_, _), (_, _), (_, _), (_, _), (_, _), (_, _), (_, _), (_, _)]) nm_part_at
@[simp ↓] theorem v_part_at_clause {n : Nat} {own : Bool} {p : Pos} {ρ : Loc} {σ : Sto} {R : Type} {K : K2 V R} : @cE R (X_part_at) (n + 1) own (.Name (Str.ofString "clause") p) ρ σ K = @qv _ _ K σ (ρ.lookup (Str.ofString "clause")) := rfl
@[simp ↓] theorem v_part_at_i {n : Nat} {own : Bool} {p : Pos} {ρ : Loc} {σ : Sto} {R : Type} {K : K2 V R} : @cE R (X_part_at) (n + 1) own (.Name (Str.ofString "i") p) ρ σ K = @qv _ _ K σ (ρ.lookup (Str.ofString "i")) := rfl
@[simp ↓] theorem v_part_at_sort {n : Nat} {own : Bool} {p : Pos} {ρ : Loc} {σ : Sto} {R : Type} {K : K2 V R} : @cE R (X_part_at) (n + 1) own (.Name (Str.ofString "sort") p) ρ σ K = @qv _ _ K σ (ρ.lookup (Str.ofString "sort")) := rfl
@[simp] theorem i_part_at_sort : isLocN (X_part_at).names (Str.ofString "sort") = true := rfl
@[simp ↓] theorem v_part_at_t0 {n : Nat} {own : Bool} {p : Pos} {ρ : Loc} {σ : Sto} {R : Type} {K : K2 V R} : @cE R (X_part_at) (n + 1) own (.Name (Str.ofString "t0") p) ρ σ K = @qv _ _ K σ (ρ.lookup (Str.ofString "t0")) := rfl
@[simp] theorem i_part_at_t0 : isLocN (X_part_at).names (Str.ofString "t0") = true := rfl
@[simp ↓] theorem v_part_at_t1 {n : Nat} {own : Bool} {p : Pos} {ρ : Loc} {σ : Sto} {R : Type} {K : K2 V R} : @cE R (X_part_at) (n + 1) own (.Name (Str.ofString "t1") p) ρ σ K = @qv _ _ K σ (ρ.lookup (Str.ofString "t1")) := rfl
@[simp] theorem i_part_at_t1 : isLocN (X_part_at).names (Str.ofString "t1") = true := rfl
@[simp ↓] theorem v_part_at_h0 {n : Nat} {own : Bool} {p : Pos} {ρ : Loc} {σ : Sto} {R : Type} {K : K2 V R} : @cE R (X_part_at) (n + 1) own (.Name (Str.ofString "h0") p) ρ σ K = @qv _ _ K σ (ρ.lookup (Str.ofString "h0")) := rfl
@[simp] theorem i_part_at_h0 : isLocN (X_part_at).names (Str.ofString "h0") = true := rfl
@[simp ↓] theorem v_part_at_h1 {n : Nat} {own : Bool} {p : Pos} {ρ : Loc} {σ : Sto} {R : Type} {K : K2 V R} : @cE R (X_part_at) (n + 1) own (.Name (Str.ofString "h1") p) ρ σ K = @qv _ _ K σ (ρ.lookup (Str.ofString "h1")) := rfl
@[simp] theorem i_part_at_h1 : isLocN (X_part_at).names (Str.ofString "h1") = true := rfl
@[simp ↓] theorem v_part_at_extra {n : Nat} {own : Bool} {p : Pos} {ρ : Loc} {σ : Sto} {R : Type} {K : K2 V R} : @cE R (X_part_at) (n + 1) own (.Name (Str.ofString "extra") p) ρ σ K = @qv _ _ K σ (ρ.lookup (Str.ofString "extra")) := rfl
@[simp] theorem i_part_at_extra : isLocN (X_part_at).names (Str.ofString "extra") = true := rfl
@[simp ↓] theorem v_part_at_RP_TRY {n : Nat} {own : Bool} {p : Pos} {ρ : Loc} {σ : Sto} {R : Type} {K : K2 V R} : @cE R (X_part_at) (n + 1) own (.Name (Str.ofString "RP_TRY") p) ρ σ K = @ap _ _ K σ ((.int 0)) := rfl
@[simp ↓] theorem v_part_at_RP_HANDLER {n : Nat} {own : Bool} {p : Pos} {ρ : Loc} {σ : Sto} {R : Type} {K : K2 V R} : @cE R (X_part_at) (n + 1) own (.Name (Str.ofString "RP_HANDLER") p) ρ σ K = @ap _ _ K σ ((.int 2)) := rfl
@[simp ↓] theorem v_part_at_EC_FILTER {n : Nat} {own : Bool} {p : Pos} {ρ : Loc} {σ : Sto} {R : Type} {K : K2 V R} : @cE R (X_part_at) (n + 1) own (.Name (Str.ofString "EC_FILTER") p) ρ σ K = @ap _ _ K σ ((.int 1)) := rfl
@[simp ↓] theorem v_part_at_RP_FILTER {n : Nat} {own : Bool} {p : Pos} {ρ : Loc} {σ : Sto} {R : Type} {K : K2 V R} : @cE R (X_part_at) (n + 1) own (.Name (Str.ofString "RP_FILTER") p) ρ σ K = @ap _ _ K σ ((.int 1)) := rfl
noncomputable def P_part_at : List V → Option V := F_part_at.runP (mkG G_part_at) 150
theorem rn_part_at (uclause ui : V) : P_part_at [uclause, ui] = @cSs _ (X_part_at) 150 F_part_at.body [(("clause" : Str), uclause), (("i" : Str), ui)] [] kP := runP_eq F_part_at (mkG G_part_at) 150 [uclause, ui] [] [(("clause" : Str), uclause), (("i" : Str), ui)] rfl (by kernel_rfl) (by kernel_rfl)
theorem part_at_eq (c : Cl) (i : Int) : P_part_at [c.v, .int i] = some (.int (partAt c i)) := by
  rw [rn_part_at, bd_part_at]
  obtain ⟨s, t0, t1, h0, h1, ex⟩ := c
  generalize hB : partAt _ _ = B
  dsimp only [partAt] at hB
  simp [mkG, G_part_at]
  rw [mAnd (b := decide (i < t1)) (fun R K => by simp [mkG, G_part_at]), ← Bool.decide_and]
  by_cases a : t0 ≤ i ∧ i < t1
  · rw [if_pos a] at hB
    rw [decide_eq_true a]; simp [mkG, G_part_at, hB]
  rw [if_neg a] at hB
  rw [decide_eq_false a]
  simp [mkG, G_part_at]
  rw [mAnd (b := decide (i < h1)) (fun R K => by simp [mkG, G_part_at]), ← Bool.decide_and]
  by_cases b : h0 ≤ i ∧ i < h1
  · rw [if_pos b] at hB
    rw [decide_eq_true b]; simp [mkG, G_part_at, hB]
  rw [if_neg b] at hB
  rw [decide_eq_false b]
  simp [mkG, G_part_at]
  rw [mAnd (b := decide (ex ≤ i) && decide (i < h0)) (fun R K => by by_cases x : ex ≤ i <;> simp [mkG, G_part_at, x]), ← Bool.decide_and, ← Bool.decide_and]
  by_cases d : s = 1 ∧ ex ≤ i ∧ i < h0
  · rw [if_pos d] at hB
    rw [decide_eq_true d]; simp [mkG, G_part_at, hB]
  rw [if_neg d] at hB
  rw [decide_eq_false d]; simp [mkG, G_part_at, hB]

noncomputable def regOf (cs : List Cl) (i : Int) : Nat → List (Int × Int)
  | 0 => []
  | k + 1 => (match cs[k]? with | some c => if 0 ≤ partAt c i then [((k : Int), partAt c i)] else [] | none => []) ++ regOf cs i k
noncomputable def regionOf (cs : List Cl) (i : Int) : List (Int × Int) := regOf cs i cs.length

theorem frzs_pv {σ : Sto} (l : List (Int × Int)) : frzs σ (l.map pv) = some (l.map pv) := by
  induction l with
  | nil => rfl
  | cons p l ih => simp [frs1, f1Tup, ih]

/-- a turn of the search for a place's regions; all of them -/
noncomputable def regAdd (cs : List Cl) (i : Int) (fs : List (Int × Int)) (k : Int) : List (Int × Int) := fs ++ match cs[k.toNat]? with | some c => if 0 ≤ partAt c i then [(k, partAt c i)] else [] | none => []
theorem down_step (n : Nat) : rangeL ((n + 1 : Nat) - 1) (-1) (n + 1) = (n : Int) :: rangeL ((n : Int) - 1) (-1) n := by
  rw [rangeL, Int.natCast_succ, Int.add_sub_cancel]; rfl
theorem regOf_fold (cs : List Cl) (i : Int) (n : Nat) : ∀ fs, (rangeL ((n : Int) - 1) (-1) n).foldl (regAdd cs i) fs = fs ++ regOf cs i n := by
  induction n with
  | zero => exact fun fs => (List.append_nil fs).symm
  | succ n ih => intro fs; rw [down_step, List.foldl_cons, ih, regAdd, List.append_assoc]; rfl
theorem down_len (n : Nat) : (rangeL ((n : Int) - 1) (-1) n).length = n := by
  induction n with
  | zero => rfl
  | succ n ih => rw [down_step, List.length_cons, ih]
theorem down_mem {k : Int} {n : Nat} : k ∈ rangeL ((n : Int) - 1) (-1) n → ∃ j : Nat, k = j ∧ j < n := by
  induction n with
  | zero => intro h; cases h
  | succ n ih =>
    intro h
    rw [down_step] at h
    exact (List.mem_cons.mp h).elim (fun e => ⟨n, e, Nat.lt_succ_self n⟩) fun h => (ih h).imp fun j h => ⟨h.1, Nat.lt_succ_of_lt h.2⟩
theorem regAdd_len (cs : List Cl) (i k : Int) (fs : List (Int × Int)) : (regAdd cs i fs k).length ≤ fs.length + 1 := by
  rw [regAdd, List.length_append]
  refine Nat.add_le_add_left ?_ _
  split
  · split
    · exact Nat.le_refl 1
    · exact Nat.zero_le 1
  · exact Nat.zero_le 1
noncomputable def G_region_of : List (Str × GV) := [("range", .ty "range"), ("len", .bi "len"), ("part_at", .fnP 98 P_part_at), ("tuple", .ty "tuple")]
noncomputable def X_region_of : Cx := ⟨mkG G_region_of, F_region_of.names, []⟩
noncomputable def xn_region_of := @id ((X_region_of).names = [(_, _), (_, _), (_, _), (_, _), (_, _), (_, _), (_, _), (_, _), (_, _)]) nm_region_of
@[simp ↓] theorem v_region_of_clauses {n : Nat} {own : Bool} {p : Pos} {ρ : Loc} {σ : Sto} {R : Type} {K : K2 V R} : @cE R (X_region_of) (n + 1) own (.Name (Str.ofString "clauses") p) ρ σ K = @qv _ _ K σ (ρ.lookup (Str.ofString "clauses")) := rfl
@[simp ↓] theorem v_region_of_i {n : Nat} {own : Bool} {p : Pos} {ρ : Loc} {σ : Sto} {R : Type} {K : K2 V R} : @cE R (X_region_of) (n + 1) own (.Name (Str.ofString "i") p) ρ σ K = @qv _ _ K σ (ρ.lookup (Str.ofString "i")) := rfl
@[simp ↓] theorem v_region_of_found {n : Nat} {own : Bool} {p : Pos} {ρ : Loc} {σ : Sto} {R : Type} {K : K2 V R} : @cE R (X_region_of) (n + 1) own (.Name (Str.ofString "found") p) ρ σ K = @qv _ _ K σ (ρ.lookup (Str.ofString "found")) := rfl
@[simp] theorem i_region_of_found : isLocN (X_region_of).names (Str.ofString "found") = true := rfl
@[simp ↓] theorem v_region_of_c {n : Nat} {own : Bool} {p : Pos} {ρ : Loc} {σ : Sto} {R : Type} {K : K2 V R} : @cE R (X_region_of) (n + 1) own (.Name (Str.ofString "c") p) ρ σ K = @qv _ _ K σ (ρ.lookup (Str.ofString "c")) := rfl
@[simp] theorem i_region_of_c : isLocN (X_region_of).names (Str.ofString "c") = true := rfl
@[simp ↓] theorem v_region_of_part {n : Nat} {own : Bool} {p : Pos} {ρ : Loc} {σ : Sto} {R : Type} {K : K2 V R} : @cE R (X_region_of) (n + 1) own (.Name (Str.ofString "part") p) ρ σ K = @qv _ _ K σ (ρ.lookup (Str.ofString "part")) := rfl
@[simp] theorem i_region_of_part : isLocN (X_region_of).names (Str.ofString "part") = true := rfl
@[simp] theorem g_region_of_range : Cx.glob (X_region_of) (Str.ofString "range") = some (.ty "range") := rfl
@[simp] theorem g_region_of_len : Cx.glob (X_region_of) (Str.ofString "len") = some (.bi "len") := rfl
@[simp] theorem g_region_of_part_at : Cx.glob (X_region_of) (Str.ofString "part_at") = some (.fnP 98 P_part_at) := rfl
@[simp] theorem g_region_of_tuple : Cx.glob (X_region_of) (Str.ofString "tuple") = some (.ty "tuple") := rfl
noncomputable def P_region_of : List V → Option V := F_region_of.runP (mkG G_region_of) 150
theorem rn_region_of (uclauses ui : V) : P_region_of [uclauses, ui] = @cSs _ (X_region_of) 150 F_region_of.body [(("clauses" : Str), uclauses), (("i" : Str), ui)] [] kP := runP_eq F_region_of (mkG G_region_of) 150 [uclauses, ui] [] [(("clauses" : Str), uclauses), (("i" : Str), ui)] rfl (by kernel_rfl) (by kernel_rfl)
theorem region_of_eq (cs : List Cl) (i : Int) (hc : cs.length ≤ 1000) : P_region_of [.lst (cs.map Cl.v), .int i] = some (.tup ((regionOf cs i).map pv)) := by
  rw [rn_region_of, bd_region_of]
  have s2 : fits cs.length = true := fits_of (Nat.le_trans hc (by decide))
  have s3 : small ((cs.length : Int) - 1) = true := small_of (by omega) (by omega)
  have s0 : 0 ≤ sizeLine := Nat.zero_le _
  simp [mkG, G_region_of, s0]
  generalize hX : evS _ _ S_region_of_1 _ _ = X
  rw [bs_region_of_1] at hX
  simp [mkG, G_region_of, s2, s3] at hX
  obtain ⟨ρ', e, hl, k, _⟩ := loop_fold V.int (fun fs : List (Int × Int) => [.lst (fs.map pv)]) (regAdd cs i) [Str.ofString "c", Str.ofString "part"]
    (fun as fs => (∀ k ∈ as, k ∈ rangeL ((cs.length : Int) - 1) (-1) cs.length) ∧ fs.length + as.length ≤ 1000) (fun _ _ => True) (b := []) hX (rangeV_map _ _ _) (by exact fun _ => trivial) ⟨fun _ h => h, by rw [List.length_nil, Nat.zero_add, down_len]; exact hc⟩ trivial
    fun k as fs ρ' ⟨hm, hl⟩ k' _ => by
      obtain ⟨j, rfl, hj⟩ := down_mem (hm k List.mem_cons_self)
      have g8 : idx (j : Int) = true := idx_of (Int.natCast_nonneg _) (by omega)
      have hcl : cs[j]? = some cs[j] := List.getElem?_eq_getElem hj
      have k1 : ρ'.lookup (Str.ofString "i") = some (.int i) := k'.get (by simp) (by kernel_rfl)
      have k2 : ρ'.lookup (Str.ofString "clauses") = some (.lst (cs.map Cl.v)) := k'.get (by simp) (by kernel_rfl)
      have k3 : ρ'.lookup (Str.ofString "found") = some (.cell 0) := k'.get (by simp) (by kernel_rfl)
      rw [List.length_cons] at hl
      have g9 : fs.length + 1 ≤ sizeLine := by rw [sizeLine_eq]; omega
      have hA : regAdd cs i fs j = fs ++ if 0 ≤ partAt cs[j] i then [((j : Int), partAt cs[j] i)] else [] := by rw [regAdd, Int.toNat_natCast, hcl]
      refine ⟨⟨fun q h => hm q (List.mem_cons_of_mem _ h), Nat.le_trans (Nat.add_le_add_right (regAdd_len cs i j fs) _) (by omega)⟩, .on (lset (lset ρ' (Str.ofString "c") (.int j)) (Str.ofString "part") (.int (partAt cs[j] i))) ?_ ⟨(k'.set (by kernel_rfl)).set (by kernel_rfl), trivial⟩ rfl⟩
      rw [bb_region_of_1, hA]
      by_cases hb : 0 ≤ partAt cs[j] i <;> simp [mkG, G_region_of, k1, k2, k3, g8, hj, rd_clv, part_at_eq, hb, g9]
  rw [regOf_fold] at e hl
  replace hl : (regionOf cs i).length ≤ sizeLine := Nat.le_trans (Nat.le_trans (Nat.le_add_right _ _) hl.2) (by rw [sizeLine_eq]; decide)
  replace e : X = some (Fl.next, ρ', [Cell.lst ((regionOf cs i).map pv)]) := e
  rw [e]
  have e3 : ρ'.lookup (Str.ofString "found") = some (.cell 0) := k.get (by simp) (by kernel_rfl)
  simp [mkG, G_region_of, e3, hl, frzs_pv]

noncomputable def isCatching (c : Cl) (part : Int) : Bool := decide (part = 2) && (decide (c.sort = 0) || decide (c.sort = 1))
noncomputable def isLast (c : Cl) (part : Int) : Bool := decide (part = 2) && isAlone c
noncomputable def G_is_catching : List (Str × GV) := [("RP_HANDLER", .val (.int 2)), ("EC_CATCH", .val (.int 0)), ("EC_FILTER", .val (.int 1))]
noncomputable def X_is_catching : Cx := ⟨mkG G_is_catching, F_is_catching.names, []⟩
noncomputable def xn_is_catching := @id ((X_is_catching).names = [(_, _), (_, _), (_, _), (_, _), (_, _)]) nm_is_catching
@[simp ↓] theorem v_is_catching_clause {n : Nat} {own : Bool} {p : Pos} {ρ : Loc} {σ : Sto} {R : Type} {K : K2 V R} : @cE R (X_is_catching) (n + 1) own (.Name (Str.ofString "clause") p) ρ σ K = @qv _ _ K σ (ρ.lookup (Str.ofString "clause")) := rfl
@[simp ↓] theorem v_is_catching_part {n : Nat} {own : Bool} {p : Pos} {ρ : Loc} {σ : Sto} {R : Type} {K : K2 V R} : @cE R (X_is_catching) (n + 1) own (.Name (Str.ofString "part") p) ρ σ K = @qv _ _ K σ (ρ.lookup (Str.ofString "part")) := rfl
@[simp ↓] theorem v_is_catching_RP_HANDLER {n : Nat} {own : Bool} {p : Pos} {ρ : Loc} {σ : Sto} {R : Type} {K : K2 V R} : @cE R (X_is_catching) (n + 1) own (.Name (Str.ofString "RP_HANDLER") p) ρ σ K = @ap _ _ K σ ((.int 2)) := rfl
@[simp ↓] theorem v_is_catching_EC_CATCH {n : Nat} {own : Bool} {p : Pos} {ρ : Loc} {σ : Sto} {R : Type} {K : K2 V R} : @cE R (X_is_catching) (n + 1) own (.Name (Str.ofString "EC_CATCH") p) ρ σ K = @ap _ _ K σ ((.int 0)) := rfl
@[simp ↓] theorem v_is_catching_EC_FILTER {n : Nat} {own : Bool} {p : Pos} {ρ : Loc} {σ : Sto} {R : Type} {K : K2 V R} : @cE R (X_is_catching) (n + 1) own (.Name (Str.ofString "EC_FILTER") p) ρ σ K = @ap _ _ K σ ((.int 1)) := rfl
noncomputable def P_is_catching : List V → Option V := F_is_catching.runP (mkG G_is_catching) 150
theorem rn_is_catching (uclause upart : V) : P_is_catching [uclause, upart] = @cSs _ (X_is_catching) 150 F_is_catching.body [(("clause" : Str), uclause), (("part" : Str), upart)] [] kP := runP_eq F_is_catching (mkG G_is_catching) 150 [uclause, upart] [] [(("clause" : Str), uclause), (("part" : Str), upart)] rfl (by kernel_rfl) (by kernel_rfl)
theorem is_catching_eq (c : Cl) (p : Int) : P_is_catching [c.v, .int p] = some (.bool (isCatching c p)) := by
  rw [rn_is_catching, bd_is_catching, isCatching]
  by_cases h : p = 2 <;> by_cases h' : c.sort = 0 <;> simp [mkG, G_is_catching, h, h']
noncomputable def G_is_last : List (Str × GV) := [("RP_HANDLER", .val (.int 2)), ("is_alone", .fnP 70 P_is_alone)]
noncomputable def X_is_last : Cx := ⟨mkG G_is_last, F_is_last.names, []⟩
noncomputable def xn_is_last := @id ((X_is_last).names = [(_, _), (_, _), (_, _), (_, _)]) nm_is_last
@[simp ↓] theorem v_is_last_clause {n : Nat} {own : Bool} {p : Pos} {ρ : Loc} {σ : Sto} {R : Type} {K : K2 V R} : @cE R (X_is_last) (n + 1) own (.Name (Str.ofString "clause") p) ρ σ K = @qv _ _ K σ (ρ.lookup (Str.ofString "clause")) := rfl
@[simp ↓] theorem v_is_last_part {n : Nat} {own : Bool} {p : Pos} {ρ : Loc} {σ : Sto} {R : Type} {K : K2 V R} : @cE R (X_is_last) (n + 1) own (.Name (Str.ofString "part") p) ρ σ K = @qv _ _ K σ (ρ.lookup (Str.ofString "part")) := rfl
@[simp ↓] theorem v_is_last_RP_HANDLER {n : Nat} {own : Bool} {p : Pos} {ρ : Loc} {σ : Sto} {R : Type} {K : K2 V R} : @cE R (X_is_last) (n + 1) own (.Name (Str.ofString "RP_HANDLER") p) ρ σ K = @ap _ _ K σ ((.int 2)) := rfl
@[simp] theorem g_is_last_is_alone : Cx.glob (X_is_last) (Str.ofString "is_alone") = some (.fnP 70 P_is_alone) := rfl
noncomputable def P_is_last : List V → Option V := F_is_last.runP (mkG G_is_last) 150
theorem rn_is_last (uclause upart : V) : P_is_last [uclause, upart] = @cSs _ (X_is_last) 150 F_is_last.body [(("clause" : Str), uclause), (("part" : Str), upart)] [] kP := runP_eq F_is_last (mkG G_is_last) 150 [uclause, upart] [] [(("clause" : Str), uclause), (("part" : Str), upart)] rfl (by kernel_rfl) (by kernel_rfl)
theorem is_last_eq (c : Cl) (p : Int) : P_is_last [c.v, .int p] = some (.bool (isLast c p)) := by
  rw [rn_is_last, bd_is_last, isLast]
  by_cases h : p = 2 <;> simp [mkG, G_is_last, is_alone_eq, h]

noncomputable def clAt (cs : List Cl) (c : Int) : Cl := cs.getD c.toNat ⟨0, 0, 0, 0, 0, 0⟩
noncomputable def InCs (cs : List Cl) (l : List (Int × Int)) : Prop := ∀ p ∈ l, 0 ≤ p.1 ∧ p.1 < cs.length
theorem in_pv {σ : Sto} (a b : Int) (l : List (Int × Int)) : inV σ (.tup [.int a, .int b]) (.tup (l.map pv)) = some (decide ((a, b) ∈ l)) := by
  have h1 : (V.tup (l.map pv)).pure 6 = true := by simp
  have h2 : (l.map pv).all (V.okd 6) = true := by simp
  have h3 : (V.tup [.int a, .int b]).okd 6 = true := by simp
  unfold inV
  simp only [rTup, h1, if_true, Option.bind_some, iTup, h2, h3, Bool.and_self]
  congr 1
  rw [Bool.eq_iff_iff, List.any_map]
  simp only [List.any_eq_true, Function.comp, eqv_pair, decide_eq_true_eq]
  exact ⟨fun ⟨x, h, e⟩ => e ▸ h, fun h => ⟨_, h, rfl⟩⟩
theorem clAt_get {cs : List Cl} {c : Int} (h : 0 ≤ c ∧ c < cs.length) : cs[c.toNat]? = some (clAt cs c) := by
  rw [clAt, List.getD_eq_getElem?_getD, List.getElem?_eq_getElem (by omega)]; rfl

noncomputable def entersRight (cs : List Cl) (was now : List (Int × Int)) (goal : Int) : Bool := now.all fun p => decide (p ∈ was) || (decide (p.2 = 0) && decide ((clAt cs p.1).t0 = goal))
noncomputable def W_cp : List Str := [Str.ofString "c", Str.ofString "part"]
noncomputable def G_enters_right : List (Str × GV) := [("RP_TRY", .val (.int 0))]
noncomputable def X_enters_right : Cx := ⟨mkG G_enters_right, F_enters_right.names, []⟩
noncomputable def xn_enters_right := @id ((X_enters_right).names = [(_, _), (_, _), (_, _), (_, _), (_, _), (_, _), (_, _)]) nm_enters_right
@[simp ↓] theorem v_enters_right_clauses {n : Nat} {own : Bool} {p : Pos} {ρ : Loc} {σ : Sto} {R : Type} {K : K2 V R} : @cE R (X_enters_right) (n + 1) own (.Name (Str.ofString "clauses") p) ρ σ K = @qv _ _ K σ (ρ.lookup (Str.ofString "clauses")) := rfl
@[simp ↓] theorem v_enters_right_was {n : Nat} {own : Bool} {p : Pos} {ρ : Loc} {σ : Sto} {R : Type} {K : K2 V R} : @cE R (X_enters_right) (n + 1) own (.Name (Str.ofString "was") p) ρ σ K = @qv _ _ K σ (ρ.lookup (Str.ofString "was")) := rfl
@[simp ↓] theorem v_enters_right_now {n : Nat} {own : Bool} {p : Pos} {ρ : Loc} {σ : Sto} {R : Type} {K : K2 V R} : @cE R (X_enters_right) (n + 1) own (.Name (Str.ofString "now") p) ρ σ K = @qv _ _ K σ (ρ.lookup (Str.ofString "now")) := rfl
@[simp ↓] theorem v_enters_right_goal {n : Nat} {own : Bool} {p : Pos} {ρ : Loc} {σ : Sto} {R : Type} {K : K2 V R} : @cE R (X_enters_right) (n + 1) own (.Name (Str.ofString "goal") p) ρ σ K = @qv _ _ K σ (ρ.lookup (Str.ofString "goal")) := rfl
@[simp ↓] theorem v_enters_right_c {n : Nat} {own : Bool} {p : Pos} {ρ : Loc} {σ : Sto} {R : Type} {K : K2 V R} : @cE R (X_enters_right) (n + 1) own (.Name (Str.ofString "c") p) ρ σ K = @qv _ _ K σ (ρ.lookup (Str.ofString "c")) := rfl
@[simp] theorem i_enters_right_c : isLocN (X_enters_right).names (Str.ofString "c") = true := rfl
@[simp ↓] theorem v_enters_right_part {n : Nat} {own : Bool} {p : Pos} {ρ : Loc} {σ : Sto} {R : Type} {K : K2 V R} : @cE R (X_enters_right) (n + 1) own (.Name (Str.ofString "part") p) ρ σ K = @qv _ _ K σ (ρ.lookup (Str.ofString "part")) := rfl
@[simp] theorem i_enters_right_part : isLocN (X_enters_right).names (Str.ofString "part") = true := rfl
@[simp ↓] theorem v_enters_right_RP_TRY {n : Nat} {own : Bool} {p : Pos} {ρ : Loc} {σ : Sto} {R : Type} {K : K2 V R} : @cE R (X_enters_right) (n + 1) own (.Name (Str.ofString "RP_TRY") p) ρ σ K = @ap _ _ K σ ((.int 0)) := rfl
noncomputable def P_enters_right : List V → Option V := F_enters_right.runP (mkG G_enters_right) 150
theorem rn_enters_right (uclauses uwas unow ugoal : V) : P_enters_right [uclauses, uwas, unow, ugoal] = @cSs _ (X_enters_right) 150 F_enters_right.body [(("clauses" : Str), uclauses), (("was" : Str), uwas), (("now" : Str), unow), (("goal" : Str), ugoal)] [] kP := runP_eq F_enters_right (mkG G_enters_right) 150 [uclauses, uwas, unow, ugoal] [] [(("clauses" : Str), uclauses), (("was" : Str), uwas), (("now" : Str), unow), (("goal" : Str), ugoal)] rfl (by kernel_rfl) (by kernel_rfl)
theorem enters_right_eq (cs : List Cl) (was now : List (Int × Int)) (goal : Int) (hcs : cs.length ≤ 1000) (hin : InCs cs now) : P_enters_right [.lst (cs.map Cl.v), .tup (was.map pv), .tup (now.map pv), .int goal] = some (.bool (entersRight cs was now goal)) := by
  rw [rn_enters_right, bd_enters_right, ss1, cs_enters_right_0]
  generalize hX : evS _ _ S_enters_right_0 _ _ = X
  rw [bs_enters_right_0] at hX
  simp [mkG, G_enters_right] at hX
  obtain ⟨ρ', e, _⟩ := loop_all pv (fun p => decide (p ∈ was) || (decide (p.2 = 0) && decide ((clAt cs p.1).t0 = goal))) (.bool false) W_cp hX rfl (by exact trivial) fun ⟨c, q⟩ hm ρ' k => by
    have hc := hin (c, q) hm
    have g8 : idx c = true := idx_of hc.1 (Int.lt_of_lt_of_le hc.2 (by omega))
    have k1 : ρ'.lookup (Str.ofString "clauses") = some (.lst (cs.map Cl.v)) := k.get (by simp) (by kernel_rfl)
    have k2 : ρ'.lookup (Str.ofString "was") = some (.tup (was.map pv)) := k.get (by simp) (by kernel_rfl)
    have k3 : ρ'.lookup (Str.ofString "goal") = some (.int goal) := k.get (by simp) (by kernel_rfl)
    have k' : Kp W_cp _ (lset (lset ρ' (Str.ofString "c") (.int c)) (Str.ofString "part") (.int q)) := (k.set (by kernel_rfl)).set (by kernel_rfl)
    rw [bb_enters_right_0]
    by_cases hw : (c, q) ∈ was
    · exact .cont _ (by simp [mkG, G_enters_right, k2, in_pv, hw]) k' (by simp [hw])
    by_cases hq : q = 0
    · subst hq
      by_cases hg : (clAt cs c).t0 = goal
      · exact .on _ (by simp [mkG, G_enters_right, k1, k2, k3, in_pv, hw, g8, clAt_get hc, hg]) k' (by simp [hg])
      · exact .ret (.bool false) _ (by simp [mkG, G_enters_right, k1, k2, k3, in_pv, hw, g8, clAt_get hc, hg]) k' (by simp [hw, hg])
    · exact .ret (.bool false) _ (by simp [mkG, G_enters_right, k2, in_pv, hw, hq]) k' (by simp [hw, hq])
  rw [e, show now.all _ = entersRight cs was now goal from rfl]
  cases entersRight cs was now goal <;> simp [mkG]

noncomputable def exitsRight (cs : List Cl) (was now : List (Int × Int)) (lv : Bool) : Bool := was.all fun p => decide (p ∈ now) || (lv && (decide (p.2 = 0) || isCatching (clAt cs p.1) p.2))
noncomputable def G_exits_right : List (Str × GV) := [("RP_TRY", .val (.int 0)), ("is_catching", .fnP 112 P_is_catching)]
noncomputable def X_exits_right : Cx := ⟨mkG G_exits_right, F_exits_right.names, []⟩
noncomputable def xn_exits_right := @id ((X_exits_right).names = [(_, _), (_, _), (_, _), (_, _), (_, _), (_, _), (_, _), (_, _)]) nm_exits_right
@[simp ↓] theorem v_exits_right_clauses {n : Nat} {own : Bool} {p : Pos} {ρ : Loc} {σ : Sto} {R : Type} {K : K2 V R} : @cE R (X_exits_right) (n + 1) own (.Name (Str.ofString "clauses") p) ρ σ K = @qv _ _ K σ (ρ.lookup (Str.ofString "clauses")) := rfl
@[simp ↓] theorem v_exits_right_was {n : Nat} {own : Bool} {p : Pos} {ρ : Loc} {σ : Sto} {R : Type} {K : K2 V R} : @cE R (X_exits_right) (n + 1) own (.Name (Str.ofString "was") p) ρ σ K = @qv _ _ K σ (ρ.lookup (Str.ofString "was")) := rfl
@[simp ↓] theorem v_exits_right_now {n : Nat} {own : Bool} {p : Pos} {ρ : Loc} {σ : Sto} {R : Type} {K : K2 V R} : @cE R (X_exits_right) (n + 1) own (.Name (Str.ofString "now") p) ρ σ K = @qv _ _ K σ (ρ.lookup (Str.ofString "now")) := rfl
@[simp ↓] theorem v_exits_right_is_leave {n : Nat} {own : Bool} {p : Pos} {ρ : Loc} {σ : Sto} {R : Type} {K : K2 V R} : @cE R (X_exits_right) (n + 1) own (.Name (Str.ofString "is_leave") p) ρ σ K = @qv _ _ K σ (ρ.lookup (Str.ofString "is_leave")) := rfl
@[simp ↓] theorem v_exits_right_c {n : Nat} {own : Bool} {p : Pos} {ρ : Loc} {σ : Sto} {R : Type} {K : K2 V R} : @cE R (X_exits_right) (n + 1) own (.Name (Str.ofString "c") p) ρ σ K = @qv _ _ K σ (ρ.lookup (Str.ofString "c")) := rfl
@[simp] theorem i_exits_right_c : isLocN (X_exits_right).names (Str.ofString "c") = true := rfl
@[simp ↓] theorem v_exits_right_part {n : Nat} {own : Bool} {p : Pos} {ρ : Loc} {σ : Sto} {R : Type} {K : K2 V R} : @cE R (X_exits_right) (n + 1) own (.Name (Str.ofString "part") p) ρ σ K = @qv _ _ K σ (ρ.lookup (Str.ofString "part")) := rfl
@[simp] theorem i_exits_right_part : isLocN (X_exits_right).names (Str.ofString "part") = true := rfl
@[simp ↓] theorem v_exits_right_RP_TRY {n : Nat} {own : Bool} {p : Pos} {ρ : Loc} {σ : Sto} {R : Type} {K : K2 V R} : @cE R (X_exits_right) (n + 1) own (.Name (Str.ofString "RP_TRY") p) ρ σ K = @ap _ _ K σ ((.int 0)) := rfl
@[simp] theorem g_exits_right_is_catching : Cx.glob (X_exits_right) (Str.ofString "is_catching") = some (.fnP 112 P_is_catching) := rfl
noncomputable def P_exits_right : List V → Option V := F_exits_right.runP (mkG G_exits_right) 150
theorem rn_exits_right (uclauses uwas unow uis_leave : V) : P_exits_right [uclauses, uwas, unow, uis_leave] = @cSs _ (X_exits_right) 150 F_exits_right.body [(("clauses" : Str), uclauses), (("was" : Str), uwas), (("now" : Str), unow), (("is_leave" : Str), uis_leave)] [] kP := runP_eq F_exits_right (mkG G_exits_right) 150 [uclauses, uwas, unow, uis_leave] [] [(("clauses" : Str), uclauses), (("was" : Str), uwas), (("now" : Str), unow), (("is_leave" : Str), uis_leave)] rfl (by kernel_rfl) (by kernel_rfl)
theorem exits_right_eq (cs : List Cl) (was now : List (Int × Int)) (lv : Bool) (hcs : cs.length ≤ 1000) (hin : InCs cs was) : P_exits_right [.lst (cs.map Cl.v), .tup (was.map pv), .tup (now.map pv), .bool lv] = some (.bool (exitsRight cs was now lv)) := by
  rw [rn_exits_right, bd_exits_right, ss1, cs_exits_right_0]
  generalize hX : evS _ _ S_exits_right_0 _ _ = X
  rw [bs_exits_right_0] at hX
  simp [mkG, G_exits_right] at hX
  obtain ⟨ρ', e, _⟩ := loop_all pv (fun p => decide (p ∈ now) || (lv && (decide (p.2 = 0) || isCatching (clAt cs p.1) p.2))) (.bool false) W_cp hX rfl (by exact trivial) fun ⟨c, q⟩ hm ρ' k => by
    have hc := hin (c, q) hm
    have g8 : idx c = true := idx_of hc.1 (Int.lt_of_lt_of_le hc.2 (by omega))
    have k1 : ρ'.lookup (Str.ofString "clauses") = some (.lst (cs.map Cl.v)) := k.get (by simp) (by kernel_rfl)
    have k2 : ρ'.lookup (Str.ofString "now") = some (.tup (now.map pv)) := k.get (by simp) (by kernel_rfl)
    have k3 : ρ'.lookup (Str.ofString "is_leave") = some (.bool lv) := k.get (by simp) (by kernel_rfl)
    have k' : Kp W_cp _ (lset (lset ρ' (Str.ofString "c") (.int c)) (Str.ofString "part") (.int q)) := (k.set (by kernel_rfl)).set (by kernel_rfl)
    rw [bb_exits_right_0]
    by_cases hw : (c, q) ∈ now
    · exact .cont _ (by simp [mkG, G_exits_right, k2, in_pv, hw]) k' (by simp [hw])
    cases lv with
    | false => exact .ret (.bool false) _ (by simp [mkG, G_exits_right, k2, k3, in_pv, hw]) k' (by simp [hw])
    | true =>
    by_cases hq : q = 0
    · subst hq; exact .on _ (by simp [mkG, G_exits_right, k2, k3, in_pv, hw]) k' (by simp)
    cases hcat : isCatching (clAt cs c) q with
    | true => exact .on _ (by simp [mkG, G_exits_right, k1, k2, k3, in_pv, hw, hq, g8, clAt_get hc, rd_clv, is_catching_eq, hcat]) k' (by simp [hcat])
    | false => exact .ret (.bool false) _ (by simp [mkG, G_exits_right, k1, k2, k3, in_pv, hw, hq, g8, clAt_get hc, rd_clv, is_catching_eq, hcat]) k' (by simp [hw, hq, hcat])
  rw [e, show was.all _ = exitsRight cs was now lv from rfl]
  cases exitsRight cs was now lv <;> simp [mkG]

theorem regOf_in (cs : List Cl) (i : Int) (k : Nat) : k ≤ cs.length → InCs cs (regOf cs i k) := by
  induction k with
  | zero => intro _ p hp; cases hp
  | succ k ih =>
    intro h p hp
    rw [regOf, List.mem_append] at hp
    refine hp.elim (fun hp => ?_) fun hp => ih (Nat.le_of_succ_le h) p hp
    split at hp
    · split at hp
      · rw [List.mem_singleton.mp hp]; exact ⟨Int.natCast_nonneg k, Int.ofNat_lt.mpr h⟩
      · cases hp
    · cases hp
theorem regionOf_in (cs : List Cl) (i : Int) : InCs cs (regionOf cs i) := regOf_in cs i _ (Nat.le_refl _)
theorem rd_tpv {σ : Sto} (l : List (Int × Int)) : rd σ (.tup (l.map pv)) = some (.tup (l.map pv)) := by
  rw [rTup, if_pos (by simp)]

noncomputable def jumpFault (ops : List Int) (cs : List Cl) (i goal : Int) (lv : Bool) : Int :=
  if goal < 0 ∨ (ops.length : Int) ≤ goal then 5
  else if exitsRight cs (regionOf cs i) (regionOf cs goal) lv = true ∧ entersRight cs (regionOf cs i) (regionOf cs goal) goal = true then 0
  else if lv then 6 else 5
noncomputable def G_jump_fault : List (Str × GV) := [("len", .bi "len"), ("VF_JUMP", .val (.int 5)), ("region_of", .fnP 105 P_region_of), ("exits_right", .fnP 133 P_exits_right), ("enters_right", .fnP 126 P_enters_right), ("VF_LEAVE", .val (.int 6))]
noncomputable def X_jump_fault : Cx := ⟨mkG G_jump_fault, F_jump_fault.names, []⟩
noncomputable def xn_jump_fault := @id ((X_jump_fault).names = [(_, _), (_, _), (_, _), (_, _), (_, _), (_, _), (_, _), (_, _), (_, _), (_, _), (_, _), (_, _), (_, _)]) nm_jump_fault
@[simp ↓] theorem v_jump_fault_code {n : Nat} {own : Bool} {p : Pos} {ρ : Loc} {σ : Sto} {R : Type} {K : K2 V R} : @cE R (X_jump_fault) (n + 1) own (.Name (Str.ofString "code") p) ρ σ K = @qv _ _ K σ (ρ.lookup (Str.ofString "code")) := rfl
@[simp ↓] theorem v_jump_fault_clauses {n : Nat} {own : Bool} {p : Pos} {ρ : Loc} {σ : Sto} {R : Type} {K : K2 V R} : @cE R (X_jump_fault) (n + 1) own (.Name (Str.ofString "clauses") p) ρ σ K = @qv _ _ K σ (ρ.lookup (Str.ofString "clauses")) := rfl
@[simp ↓] theorem v_jump_fault_i {n : Nat} {own : Bool} {p : Pos} {ρ : Loc} {σ : Sto} {R : Type} {K : K2 V R} : @cE R (X_jump_fault) (n + 1) own (.Name (Str.ofString "i") p) ρ σ K = @qv _ _ K σ (ρ.lookup (Str.ofString "i")) := rfl
@[simp ↓] theorem v_jump_fault_goal {n : Nat} {own : Bool} {p : Pos} {ρ : Loc} {σ : Sto} {R : Type} {K : K2 V R} : @cE R (X_jump_fault) (n + 1) own (.Name (Str.ofString "goal") p) ρ σ K = @qv _ _ K σ (ρ.lookup (Str.ofString "goal")) := rfl
@[simp ↓] theorem v_jump_fault_is_leave {n : Nat} {own : Bool} {p : Pos} {ρ : Loc} {σ : Sto} {R : Type} {K : K2 V R} : @cE R (X_jump_fault) (n + 1) own (.Name (Str.ofString "is_leave") p) ρ σ K = @qv _ _ K σ (ρ.lookup (Str.ofString "is_leave")) := rfl
@[simp ↓] theorem v_jump_fault_was {n : Nat} {own : Bool} {p : Pos} {ρ : Loc} {σ : Sto} {R : Type} {K : K2 V R} : @cE R (X_jump_fault) (n + 1) own (.Name (Str.ofString "was") p) ρ σ K = @qv _ _ K σ (ρ.lookup (Str.ofString "was")) := rfl
@[simp] theorem i_jump_fault_was : isLocN (X_jump_fault).names (Str.ofString "was") = true := rfl
@[simp ↓] theorem v_jump_fault_now {n : Nat} {own : Bool} {p : Pos} {ρ : Loc} {σ : Sto} {R : Type} {K : K2 V R} : @cE R (X_jump_fault) (n + 1) own (.Name (Str.ofString "now") p) ρ σ K = @qv _ _ K σ (ρ.lookup (Str.ofString "now")) := rfl
@[simp] theorem i_jump_fault_now : isLocN (X_jump_fault).names (Str.ofString "now") = true := rfl
@[simp] theorem g_jump_fault_len : Cx.glob (X_jump_fault) (Str.ofString "len") = some (.bi "len") := rfl
@[simp ↓] theorem v_jump_fault_VF_JUMP {n : Nat} {own : Bool} {p : Pos} {ρ : Loc} {σ : Sto} {R : Type} {K : K2 V R} : @cE R (X_jump_fault) (n + 1) own (.Name (Str.ofString "VF_JUMP") p) ρ σ K = @ap _ _ K σ ((.int 5)) := rfl
@[simp] theorem g_jump_fault_region_of : Cx.glob (X_jump_fault) (Str.ofString "region_of") = some (.fnP 105 P_region_of) := rfl
@[simp] theorem g_jump_fault_exits_right : Cx.glob (X_jump_fault) (Str.ofString "exits_right") = some (.fnP 133 P_exits_right) := rfl
@[simp] theorem g_jump_fault_enters_right : Cx.glob (X_jump_fault) (Str.ofString "enters_right") = some (.fnP 126 P_enters_right) := rfl
@[simp ↓] theorem v_jump_fault_VF_LEAVE {n : Nat} {own : Bool} {p : Pos} {ρ : Loc} {σ : Sto} {R : Type} {K : K2 V R} : @cE R (X_jump_fault) (n + 1) own (.Name (Str.ofString "VF_LEAVE") p) ρ σ K = @ap _ _ K σ ((.int 6)) := rfl
noncomputable def P_jump_fault : List V → Option V := F_jump_fault.runP (mkG G_jump_fault) 150
theorem rn_jump_fault (ucode uclauses ui ugoal uis_leave : V) : P_jump_fault [ucode, uclauses, ui, ugoal, uis_leave] = @cSs _ (X_jump_fault) 150 F_jump_fault.body [(("code" : Str), ucode), (("clauses" : Str), uclauses), (("i" : Str), ui), (("goal" : Str), ugoal), (("is_leave" : Str), uis_leave)] [] kP := runP_eq F_jump_fault (mkG G_jump_fault) 150 [ucode, uclauses, ui, ugoal, uis_leave] [] [(("code" : Str), ucode), (("clauses" : Str), uclauses), (("i" : Str), ui), (("goal" : Str), ugoal), (("is_leave" : Str), uis_leave)] rfl (by kernel_rfl) (by kernel_rfl)
theorem jump_fault_eq (ops : List Int) (cs : List Cl) (i goal : Int) (lv : Bool) (hcs : cs.length ≤ 1000) (hz : ops.length < 1000000) : P_jump_fault [.lst (ops.map cv), .lst (cs.map Cl.v), .int i, .int goal, .bool lv] = some (.int (jumpFault ops cs i goal lv)) := by
  rw [rn_jump_fault, bd_jump_fault]
  have s1 : fits ops.length = true := fits_of (Nat.le_of_lt hz)
  have q1 := regionOf_in cs i
  have q2 := regionOf_in cs goal
  generalize hB : jumpFault ops cs i goal lv = B
  unfold jumpFault at hB
  by_cases a : goal < 0
  · rw [if_pos (.inl a)] at hB
    simp [mkG, G_jump_fault, a, ← hB]
  by_cases b : (ops.length : Int) ≤ goal
  · rw [if_pos (.inr b)] at hB
    simp [mkG, G_jump_fault, a, b, s1, ← hB]
  rw [if_neg (fun h => h.elim a b)] at hB
  simp [mkG, G_jump_fault, a, b, s1, rd_cls, region_of_eq _ _ hcs, -rTup, rd_tpv, exits_right_eq cs _ _ _ hcs q1]
  cases h1 : exitsRight cs (regionOf cs i) (regionOf cs goal) lv with
  | true =>
    cases h2 : entersRight cs (regionOf cs i) (regionOf cs goal) goal with
    | true =>
      rw [if_pos ⟨h1, h2⟩] at hB
      simp [mkG, G_jump_fault, rd_cls, -rTup, rd_tpv, enters_right_eq cs _ _ _ hcs q2, h2, ← hB]
    | false =>
      rw [if_neg (fun h => by rw [h2] at h; cases h.2)] at hB
      cases lv <;> simp [mkG, G_jump_fault, rd_cls, -rTup, rd_tpv, enters_right_eq cs _ _ _ hcs q2, h2, ← hB]
  | false =>
    rw [if_neg (fun h => by rw [h1] at h; cases h.1)] at hB
    cases lv <;> simp [mkG, G_jump_fault, ← hB]
end Mine
end

section
open PySem PySem.W PyProof.Rows PySem.Calls
set_option autoImplicit false
set_option maxRecDepth 100000
set_option maxHeartbeats 4000000
set_option linter.unusedSimpArgs false
set_option linter.unusedVariables false
set_option linter.defProp false
namespace Mine

theorem regOf_len (cs : List Cl) (i : Int) (k : Nat) : (regOf cs i k).length ≤ k := by
  induction k with
  | zero => exact Nat.le_refl 0
  | succ k ih =>
    rw [regOf, List.length_append, Nat.add_comm k]
    refine Nat.add_le_add ?_ ih
    split
    · split
      · exact Nat.le_refl 1
      · exact Nat.zero_le 1
    · exact Nat.zero_le 1
noncomputable def rethrowFault (cs : List Cl) (ar : List (Int × Int)) : Int :=
  match ar.reverse.find? (fun p => decide (p.2 ≠ 0)) with
  | some p => if isCatching (clAt cs p.1) p.2 then 0 else 5
  | none => 5
/-- what a part says about it: nothing, or the answer -/
noncomputable def rethrowOut (cs : List Cl) (p : Int × Int) : Option V := if p.2 = 0 then none else some (.int (if isCatching (clAt cs p.1) p.2 then 0 else 5))
theorem rethrow_find (cs : List Cl) (l : List (Int × Int)) : l.findSome? (rethrowOut cs) = (l.find? fun p => decide (p.2 ≠ 0)).map fun p => .int (if isCatching (clAt cs p.1) p.2 then 0 else 5) := by
  induction l with
  | nil => rfl
  | cons p l ih =>
    rw [List.findSome?_cons, List.find?_cons, rethrowOut]
    by_cases h : p.2 = 0
    · rw [if_pos h, decide_eq_false (fun k => k h)]; exact ih
    · rw [if_neg h, decide_eq_true h]; rfl

noncomputable def G_rethrow_fault : List (Str × GV) := [("reversed", .ty "reversed"), ("RP_TRY", .val (.int 0)), ("is_catching", .fnP 112 P_is_catching), ("VF_JUMP", .val (.int 5))]
noncomputable def X_rethrow_fault : Cx := ⟨mkG G_rethrow_fault, F_rethrow_fault.names, []⟩
noncomputable def xn_rethrow_fault := @id ((X_rethrow_fault).names = [(_, _), (_, _), (_, _), (_, _), (_, _), (_, _), (_, _), (_, _)]) nm_rethrow_fault
@[simp ↓] theorem v_rethrow_fault_clauses {n : Nat} {own : Bool} {p : Pos} {ρ : Loc} {σ : Sto} {R : Type} {K : K2 V R} : @cE R (X_rethrow_fault) (n + 1) own (.Name (Str.ofString "clauses") p) ρ σ K = @qv _ _ K σ (ρ.lookup (Str.ofString "clauses")) := rfl
@[simp ↓] theorem v_rethrow_fault_around {n : Nat} {own : Bool} {p : Pos} {ρ : Loc} {σ : Sto} {R : Type} {K : K2 V R} : @cE R (X_rethrow_fault) (n + 1) own (.Name (Str.ofString "around") p) ρ σ K = @qv _ _ K σ (ρ.lookup (Str.ofString "around")) := rfl
@[simp ↓] theorem v_rethrow_fault_c {n : Nat} {own : Bool} {p : Pos} {ρ : Loc} {σ : Sto} {R : Type} {K : K2 V R} : @cE R (X_rethrow_fault) (n + 1) own (.Name (Str.ofString "c") p) ρ σ K = @qv _ _ K σ (ρ.lookup (Str.ofString "c")) := rfl
@[simp] theorem i_rethrow_fault_c : isLocN (X_rethrow_fault).names (Str.ofString "c") = true := rfl
@[simp ↓] theorem v_rethrow_fault_part {n : Nat} {own : Bool} {p : Pos} {ρ : Loc} {σ : Sto} {R : Type} {K : K2 V R} : @cE R (X_rethrow_fault) (n + 1) own (.Name (Str.ofString "part") p) ρ σ K = @qv _ _ K σ (ρ.lookup (Str.ofString "part")) := rfl
@[simp] theorem i_rethrow_fault_part : isLocN (X_rethrow_fault).names (Str.ofString "part") = true := rfl
@[simp] theorem g_rethrow_fault_reversed : Cx.glob (X_rethrow_fault) (Str.ofString "reversed") = some (.ty "reversed") := rfl
@[simp ↓] theorem v_rethrow_fault_RP_TRY {n : Nat} {own : Bool} {p : Pos} {ρ : Loc} {σ : Sto} {R : Type} {K : K2 V R} : @cE R (X_rethrow_fault) (n + 1) own (.Name (Str.ofString "RP_TRY") p) ρ σ K = @ap _ _ K σ ((.int 0)) := rfl
@[simp] theorem g_rethrow_fault_is_catching : Cx.glob (X_rethrow_fault) (Str.ofString "is_catching") = some (.fnP 112 P_is_catching) := rfl
@[simp ↓] theorem v_rethrow_fault_VF_JUMP {n : Nat} {own : Bool} {p : Pos} {ρ : Loc} {σ : Sto} {R : Type} {K : K2 V R} : @cE R (X_rethrow_fault) (n + 1) own (.Name (Str.ofString "VF_JUMP") p) ρ σ K = @ap _ _ K σ ((.int 5)) := rfl
noncomputable def P_rethrow_fault : List V → Option V := F_rethrow_fault.runP (mkG G_rethrow_fault) 150
theorem rn_rethrow_fault (uclauses uaround : V) : P_rethrow_fault [uclauses, uaround] = @cSs _ (X_rethrow_fault) 150 F_rethrow_fault.body [(("clauses" : Str), uclauses), (("around" : Str), uaround)] [] kP := runP_eq F_rethrow_fault (mkG G_rethrow_fault) 150 [uclauses, uaround] [] [(("clauses" : Str), uclauses), (("around" : Str), uaround)] rfl (by kernel_rfl) (by kernel_rfl)
theorem rethrow_fault_eq (cs : List Cl) (ar : List (Int × Int)) (hcs : cs.length ≤ 1000) (hl : ar.length ≤ 1000) (hin : InCs cs ar) : P_rethrow_fault [.lst (cs.map Cl.v), .tup (ar.map pv)] = some (.int (rethrowFault cs ar)) := by
  rw [rn_rethrow_fault, bd_rethrow_fault, ss1, cs_rethrow_fault_0]
  generalize hX : evS _ _ S_rethrow_fault_0 _ _ = X
  rw [bs_rethrow_fault_0] at hX
  have s1 : ar.length ≤ sizeLine := Nat.le_trans hl (by rw [sizeLine_eq]; decide)
  simp [mkG, G_rethrow_fault, s1] at hX
  obtain ⟨ρ', e, _⟩ := loop_find pv (rethrowOut cs) W_cp hX List.map_reverse.symm (by exact trivial) fun ⟨c, q⟩ hm ρ' k => by
    have hc := hin (c, q) (List.mem_reverse.mp hm)
    have g8 : idx c = true := idx_of hc.1 (Int.lt_of_lt_of_le hc.2 (by omega))
    have k1 : ρ'.lookup (Str.ofString "clauses") = some (.lst (cs.map Cl.v)) := k.get (by simp) (by kernel_rfl)
    have k' : Kp W_cp _ (lset (lset ρ' (Str.ofString "c") (.int c)) (Str.ofString "part") (.int q)) := (k.set (by kernel_rfl)).set (by kernel_rfl)
    rw [bb_rethrow_fault_0]
    by_cases hq : q = 0
    · exact .cont _ (by simp [mkG, G_rethrow_fault, hq]) k' (if_pos hq)
    have ho : rethrowOut cs (c, q) = _ := if_neg hq
    cases hcat : isCatching (clAt cs c) q with
    | true => exact .ret (.int 0) _ (by simp [mkG, G_rethrow_fault, k1, hq, g8, clAt_get hc, rd_clv, is_catching_eq, hcat]) k' (by rw [ho, hcat]; rfl)
    | false => exact .ret (.int 5) _ (by simp [mkG, G_rethrow_fault, k1, hq, g8, clAt_get hc, rd_clv, is_catching_eq, hcat]) k' (by rw [ho, hcat]; rfl)
  rw [e, rethrow_find, rethrowFault]
  cases ar.reverse.find? _ <;> simp [mkG, G_rethrow_fault]

noncomputable def endFault (cs : List Cl) (ar : List (Int × Int)) (op : Int) : Int :=
  match ar.getLast? with
  | none => 5
  | some p => if op = 220 ∧ isLast (clAt cs p.1) p.2 = true then 0 else if op = 65041 ∧ p.2 = 1 then 0 else 5
noncomputable def G_end_fault : List (Str × GV) := [("len", .bi "len"), ("VF_JUMP", .val (.int 5)), ("OP_ENDFINALLY", .val (.int 220)), ("is_last", .fnP 119 P_is_last), ("OP_ENDFILTER", .val (.int 65041)), ("RP_FILTER", .val (.int 1))]
noncomputable def X_end_fault : Cx := ⟨mkG G_end_fault, F_end_fault.names, []⟩
noncomputable def xn_end_fault := @id ((X_end_fault).names = [(_, _), (_, _), (_, _), (_, _), (_, _), (_, _), (_, _), (_, _), (_, _), (_, _), (_, _)]) nm_end_fault
@[simp ↓] theorem v_end_fault_clauses {n : Nat} {own : Bool} {p : Pos} {ρ : Loc} {σ : Sto} {R : Type} {K : K2 V R} : @cE R (X_end_fault) (n + 1) own (.Name (Str.ofString "clauses") p) ρ σ K = @qv _ _ K σ (ρ.lookup (Str.ofString "clauses")) := rfl
@[simp ↓] theorem v_end_fault_around {n : Nat} {own : Bool} {p : Pos} {ρ : Loc} {σ : Sto} {R : Type} {K : K2 V R} : @cE R (X_end_fault) (n + 1) own (.Name (Str.ofString "around") p) ρ σ K = @qv _ _ K σ (ρ.lookup (Str.ofString "around")) := rfl
@[simp ↓] theorem v_end_fault_op {n : Nat} {own : Bool} {p : Pos} {ρ : Loc} {σ : Sto} {R : Type} {K : K2 V R} : @cE R (X_end_fault) (n + 1) own (.Name (Str.ofString "op") p) ρ σ K = @qv _ _ K σ (ρ.lookup (Str.ofString "op")) := rfl
@[simp ↓] theorem v_end_fault_c {n : Nat} {own : Bool} {p : Pos} {ρ : Loc} {σ : Sto} {R : Type} {K : K2 V R} : @cE R (X_end_fault) (n + 1) own (.Name (Str.ofString "c") p) ρ σ K = @qv _ _ K σ (ρ.lookup (Str.ofString "c")) := rfl
@[simp] theorem i_end_fault_c : isLocN (X_end_fault).names (Str.ofString "c") = true := rfl
@[simp ↓] theorem v_end_fault_part {n : Nat} {own : Bool} {p : Pos} {ρ : Loc} {σ : Sto} {R : Type} {K : K2 V R} : @cE R (X_end_fault) (n + 1) own (.Name (Str.ofString "part") p) ρ σ K = @qv _ _ K σ (ρ.lookup (Str.ofString "part")) := rfl
@[simp] theorem i_end_fault_part : isLocN (X_end_fault).names (Str.ofString "part") = true := rfl
@[simp] theorem g_end_fault_len : Cx.glob (X_end_fault) (Str.ofString "len") = some (.bi "len") := rfl
@[simp ↓] theorem v_end_fault_VF_JUMP {n : Nat} {own : Bool} {p : Pos} {ρ : Loc} {σ : Sto} {R : Type} {K : K2 V R} : @cE R (X_end_fault) (n + 1) own (.Name (Str.ofString "VF_JUMP") p) ρ σ K = @ap _ _ K σ ((.int 5)) := rfl
@[simp ↓] theorem v_end_fault_OP_ENDFINALLY {n : Nat} {own : Bool} {p : Pos} {ρ : Loc} {σ : Sto} {R : Type} {K : K2 V R} : @cE R (X_end_fault) (n + 1) own (.Name (Str.ofString "OP_ENDFINALLY") p) ρ σ K = @ap _ _ K σ ((.int 220)) := rfl
@[simp] theorem g_end_fault_is_last : Cx.glob (X_end_fault) (Str.ofString "is_last") = some (.fnP 119 P_is_last) := rfl
@[simp ↓] theorem v_end_fault_OP_ENDFILTER {n : Nat} {own : Bool} {p : Pos} {ρ : Loc} {σ : Sto} {R : Type} {K : K2 V R} : @cE R (X_end_fault) (n + 1) own (.Name (Str.ofString "OP_ENDFILTER") p) ρ σ K = @ap _ _ K σ ((.int 65041)) := rfl
@[simp ↓] theorem v_end_fault_RP_FILTER {n : Nat} {own : Bool} {p : Pos} {ρ : Loc} {σ : Sto} {R : Type} {K : K2 V R} : @cE R (X_end_fault) (n + 1) own (.Name (Str.ofString "RP_FILTER") p) ρ σ K = @ap _ _ K σ ((.int 1)) := rfl
noncomputable def P_end_fault : List V → Option V := F_end_fault.runP (mkG G_end_fault) 150
theorem rn_end_fault (uclauses uaround uop : V) : P_end_fault [uclauses, uaround, uop] = @cSs _ (X_end_fault) 150 F_end_fault.body [(("clauses" : Str), uclauses), (("around" : Str), uaround), (("op" : Str), uop)] [] kP := runP_eq F_end_fault (mkG G_end_fault) 150 [uclauses, uaround, uop] [] [(("clauses" : Str), uclauses), (("around" : Str), uaround), (("op" : Str), uop)] rfl (by kernel_rfl) (by kernel_rfl)
theorem end_fault_eq (cs : List Cl) (ar : List (Int × Int)) (op : Int) (hcs : cs.length ≤ 1000) (hl : ar.length ≤ 1000) (hin : InCs cs ar) : P_end_fault [.lst (cs.map Cl.v), .tup (ar.map pv), .int op] = some (.int (endFault cs ar op)) := by
  rw [rn_end_fault, bd_end_fault, endFault]
  rcases List.eq_nil_or_concat ar with rfl | ⟨l, ⟨c, q⟩, h⟩
  · simp [mkG, G_end_fault, fits_of]
  rw [List.concat_eq_append] at h
  subst h
  rw [List.length_append] at hl
  have s1 : fits (l.length + 1) = true := fits_of (Nat.le_trans hl (by decide))
  have g1 : idx (l.length : Int) = true := idx_of (Int.natCast_nonneg _) (Int.ofNat_lt.mpr (Nat.lt_of_lt_of_le hl (by decide)))
  have g0 : ¬ (l.length : Int) + 1 = 0 := Int.ne_of_gt (Int.natCast_succ_pos _)
  have hc := hin (c, q) List.mem_concat_self
  have g8 : idx c = true := idx_of hc.1 (Int.lt_of_lt_of_le hc.2 (by omega))
  have hcl := clAt_get hc
  rw [List.getLast?_concat]
  dsimp only at hcl ⊢
  generalize hB : (if op = 220 ∧ isLast (clAt cs c) q = true then (0 : Int) else if op = 65041 ∧ q = 1 then 0 else 5) = B
  simp [mkG, G_end_fault, s1, g1, g0]
  by_cases h1 : op = 220
  · cases h2 : isLast (clAt cs c) q with
    | true => rw [if_pos ⟨h1, h2⟩] at hB; simp [mkG, G_end_fault, g8, hcl, rd_clv, h1, is_last_eq, h2, ← hB]
    | false =>
      rw [if_neg (fun h => by rw [h2] at h; cases h.2), if_neg (fun h => by rw [h1] at h; cases h.1)] at hB
      simp [mkG, G_end_fault, g8, hcl, rd_clv, h1, is_last_eq, h2, ← hB]
  rw [if_neg (fun h => h1 h.1)] at hB
  by_cases h3 : op = 65041
  · by_cases h4 : q = 1
    · rw [if_pos ⟨h3, h4⟩] at hB; simp [mkG, G_end_fault, h3, h4, ← hB]
    · rw [if_neg (fun h => h4 h.2)] at hB; simp [mkG, G_end_fault, h3, h4, ← hB]
  · rw [if_neg (fun h => h3 h.1)] at hB; simp [mkG, G_end_fault, h1, h3, ← hB]

noncomputable def standFault (ops : List Int) (cs : List Cl) (i : Nat) : Int :=
  let op := ops.getD i 0
  if op = 42 then (if (regionOf cs i) = [] then 0 else 9)
  else if op = 65050 then rethrowFault cs (regionOf cs i)
  else if op = 220 ∨ op = 65041 then endFault cs (regionOf cs i) op
  else 0
noncomputable def G_stand_fault : List (Str × GV) := [("OP_RET", .val (.int 42)), ("len", .bi "len"), ("region_of", .fnP 105 P_region_of), ("VF_RET", .val (.int 9)), ("OP_RETHROW", .val (.int 65050)), ("rethrow_fault", .fnP 154 P_rethrow_fault), ("OP_ENDFINALLY", .val (.int 220)), ("OP_ENDFILTER", .val (.int 65041)), ("end_fault", .fnP 161 P_end_fault)]
noncomputable def X_stand_fault : Cx := ⟨mkG G_stand_fault, F_stand_fault.names, []⟩
noncomputable def xn_stand_fault := @id ((X_stand_fault).names = [(_, _), (_, _), (_, _), (_, _), (_, _), (_, _), (_, _), (_, _), (_, _), (_, _), (_, _), (_, _), (_, _)]) nm_stand_fault
@[simp ↓] theorem v_stand_fault_code {n : Nat} {own : Bool} {p : Pos} {ρ : Loc} {σ : Sto} {R : Type} {K : K2 V R} : @cE R (X_stand_fault) (n + 1) own (.Name (Str.ofString "code") p) ρ σ K = @qv _ _ K σ (ρ.lookup (Str.ofString "code")) := rfl
@[simp ↓] theorem v_stand_fault_clauses {n : Nat} {own : Bool} {p : Pos} {ρ : Loc} {σ : Sto} {R : Type} {K : K2 V R} : @cE R (X_stand_fault) (n + 1) own (.Name (Str.ofString "clauses") p) ρ σ K = @qv _ _ K σ (ρ.lookup (Str.ofString "clauses")) := rfl
@[simp ↓] theorem v_stand_fault_i {n : Nat} {own : Bool} {p : Pos} {ρ : Loc} {σ : Sto} {R : Type} {K : K2 V R} : @cE R (X_stand_fault) (n + 1) own (.Name (Str.ofString "i") p) ρ σ K = @qv _ _ K σ (ρ.lookup (Str.ofString "i")) := rfl
@[simp ↓] theorem v_stand_fault_op {n : Nat} {own : Bool} {p : Pos} {ρ : Loc} {σ : Sto} {R : Type} {K : K2 V R} : @cE R (X_stand_fault) (n + 1) own (.Name (Str.ofString "op") p) ρ σ K = @qv _ _ K σ (ρ.lookup (Str.ofString "op")) := rfl
@[simp] theorem i_stand_fault_op : isLocN (X_stand_fault).names (Str.ofString "op") = true := rfl
@[simp ↓] theorem v_stand_fault_OP_RET {n : Nat} {own : Bool} {p : Pos} {ρ : Loc} {σ : Sto} {R : Type} {K : K2 V R} : @cE R (X_stand_fault) (n + 1) own (.Name (Str.ofString "OP_RET") p) ρ σ K = @ap _ _ K σ ((.int 42)) := rfl
@[simp] theorem g_stand_fault_len : Cx.glob (X_stand_fault) (Str.ofString "len") = some (.bi "len") := rfl
@[simp] theorem g_stand_fault_region_of : Cx.glob (X_stand_fault) (Str.ofString "region_of") = some (.fnP 105 P_region_of) := rfl
@[simp ↓] theorem v_stand_fault_VF_RET {n : Nat} {own : Bool} {p : Pos} {ρ : Loc} {σ : Sto} {R : Type} {K : K2 V R} : @cE R (X_stand_fault) (n + 1) own (.Name (Str.ofString "VF_RET") p) ρ σ K = @ap _ _ K σ ((.int 9)) := rfl
@[simp ↓] theorem v_stand_fault_OP_RETHROW {n : Nat} {own : Bool} {p : Pos} {ρ : Loc} {σ : Sto} {R : Type} {K : K2 V R} : @cE R (X_stand_fault) (n + 1) own (.Name (Str.ofString "OP_RETHROW") p) ρ σ K = @ap _ _ K σ ((.int 65050)) := rfl
@[simp] theorem g_stand_fault_rethrow_fault : Cx.glob (X_stand_fault) (Str.ofString "rethrow_fault") = some (.fnP 154 P_rethrow_fault) := rfl
@[simp ↓] theorem v_stand_fault_OP_ENDFINALLY {n : Nat} {own : Bool} {p : Pos} {ρ : Loc} {σ : Sto} {R : Type} {K : K2 V R} : @cE R (X_stand_fault) (n + 1) own (.Name (Str.ofString "OP_ENDFINALLY") p) ρ σ K = @ap _ _ K σ ((.int 220)) := rfl
@[simp ↓] theorem v_stand_fault_OP_ENDFILTER {n : Nat} {own : Bool} {p : Pos} {ρ : Loc} {σ : Sto} {R : Type} {K : K2 V R} : @cE R (X_stand_fault) (n + 1) own (.Name (Str.ofString "OP_ENDFILTER") p) ρ σ K = @ap _ _ K σ ((.int 65041)) := rfl
@[simp] theorem g_stand_fault_end_fault : Cx.glob (X_stand_fault) (Str.ofString "end_fault") = some (.fnP 161 P_end_fault) := rfl
noncomputable def P_stand_fault : List V → Option V := F_stand_fault.runP (mkG G_stand_fault) 150
theorem rn_stand_fault (ucode uclauses ui : V) : P_stand_fault [ucode, uclauses, ui] = @cSs _ (X_stand_fault) 150 F_stand_fault.body [(("code" : Str), ucode), (("clauses" : Str), uclauses), (("i" : Str), ui)] [] kP := runP_eq F_stand_fault (mkG G_stand_fault) 150 [ucode, uclauses, ui] [] [(("code" : Str), ucode), (("clauses" : Str), uclauses), (("i" : Str), ui)] rfl (by kernel_rfl) (by kernel_rfl)
theorem stand_fault_eq (ops : List Int) (cs : List Cl) (i : Nat) (hi : i < ops.length) (hz : ops.length < 1000000) (hcs : cs.length ≤ 1000) : P_stand_fault [.lst (ops.map cv), .lst (cs.map Cl.v), .int i] = some (.int (standFault ops cs i)) := by
  rw [rn_stand_fault, bd_stand_fault, standFault, List.getD_eq_getElem?_getD]
  have q1 := regionOf_in cs i
  have hl : (regionOf cs i).length ≤ 1000 := Nat.le_trans (regOf_len cs i _) hcs
  have g8 : idx (i : Int) = true := idx_of (Int.natCast_nonneg i) (Int.ofNat_lt.mpr (Nat.lt_trans hi hz))
  obtain ⟨op, hop⟩ : ∃ op, ops[i]? = some op := ⟨_, List.getElem?_eq_getElem hi⟩
  rw [hop]
  have hm : (ops.map cv)[i]? = some (cv op) := by rw [List.getElem?_map, hop]; rfl
  have e1 := region_of_eq cs i hcs
  dsimp only [Option.getD_some]
  simp [mkG, G_stand_fault, g8, hm, -List.getElem?_map]
  by_cases h1 : op = 42
  · rw [if_pos h1, h1]
    cases h2 : regionOf cs i with
    | nil => rw [h2] at e1; simp [mkG, G_stand_fault, rd_cls, e1, fits_of]
    | cons p l =>
      rw [h2] at e1 hl
      have s1 : fits (l.length + 1) = true := fits_of (Nat.le_trans hl (by decide))
      simp [mkG, G_stand_fault, rd_cls, e1, s1]
  rw [if_neg h1]
  by_cases h2 : op = 65050
  · rw [if_pos h2]; simp [mkG, G_stand_fault, h2, rd_cls, e1, -rTup, rd_tpv, rethrow_fault_eq cs _ hcs hl q1]
  rw [if_neg h2]
  by_cases h3 : op = 220
  · rw [if_pos (.inl h3)]; simp [mkG, G_stand_fault, h3, rd_cls, e1, -rTup, rd_tpv, end_fault_eq cs _ _ hcs hl q1]
  by_cases h4 : op = 65041
  · rw [if_pos (.inr h4)]; simp [mkG, G_stand_fault, h4, rd_cls, e1, -rTup, rd_tpv, end_fault_eq cs _ _ hcs hl q1]
  · rw [if_neg (fun h => h.elim h3 h4)]; simp [mkG, G_stand_fault, h1, h2, h3, h4]
end Mine
end

section
open PySem PySem.W PyProof.Rows PySem.Calls
set_option autoImplicit false
set_option maxRecDepth 100000
set_option maxHeartbeats 4000000
set_option linter.unusedSimpArgs false
set_option linter.unusedVariables false
set_option linter.defProp false
namespace Mine

theorem ok_str (s : String) : PyData.strOk (Str.ofString s) = true := by
  unfold PyData.strOk
  rw [Str.ofString_eq_toList, Array.all_eq_true]
  intro i hi
  simp only [List.getElem_toArray, List.getElem_map, decide_eq_true_eq]
  have := s.toList[i]'(by simpa using hi) |>.valid
  rcases this with h | ⟨_, h⟩
  · exact Nat.lt_trans h (by decide)
  · exact h
noncomputable abbrev sv (s : String) : V := .str (Str.ofString s)
theorem e_str {σ : Sto} (a b : String) : eqV σ (sv a) (sv b) = some (decide (a = b)) := by
  simp [eqV, rStr, ok_str, V.py, PyData.eqv]
  rw [Bool.eq_iff_iff]; simp [ofString_eq]
theorem eqvAll_int (l : List Int) : ∀ m : List Int, PyData.eqvAll (V.pys (l.map V.int)) (V.pys (m.map V.int)) = decide (l = m) := by
  induction l with
  | nil => intro m; cases m <;> simp [V.pys, PyData.eqvAll]
  | cons a l ih =>
    intro m
    cases m with
    | nil => simp [V.pys, PyData.eqvAll]
    | cons b m =>
      simp only [List.map_cons, V.pys, V.py, PyData.eqvAll, eqv_int, ih]
      rw [Bool.eq_iff_iff]; simp
theorem pure_ints (l : List Int) (n : Nat) : (l.map V.int).all (V.pure n) = true := by
  simp only [List.all_map, List.all_eq_true]; intro x _; cases n <;> rfl
theorem okd_ints (l : List Int) (n : Nat) : (l.map V.int).all (V.okd n) = true := by
  simp only [List.all_map, List.all_eq_true]; intro x _; cases n <;> rfl
theorem e_ints {σ : Sto} {k : Nat} (l m : List Int) (h : σ[k]? = some (.lst (l.map V.int))) : eqV σ (.cell k) (.lst (m.map V.int)) = some (decide (l = m)) := by
  have h2 : (V.lst (m.map V.int)).pure 6 = true := pure_ints m 5
  simp only [eqV, rCell, h, pure_ints, if_true, Option.bind_some, rLst, h2]
  have h3 : ∀ l : List Int, (V.lst (l.map V.int)).okd 6 = true := fun l => okd_ints l 5
  simp only [h3, Bool.and_self, if_true, V.py, PyData.eqv, eqvAll_int]
theorem in_3 {σ : Sto} (s a b c : Int) : inV σ (.int s) (.tup [.int a, .int b, .int c]) = some (decide (s = a) || (decide (s = b) || decide (s = c))) := by
  simp [inV, rTup, V.py, eqv_int, iTup]
  rw [Bool.eq_iff_iff]; simp
  constructor
  · rintro (h | h | h) <;> simp [h]
  · rintro (h | h | h) <;> simp [h]

noncomputable def spansOf (c : Cl) : List (String × Int × Int) := [("T", c.t0, c.t1), ("H", c.h0, c.h1)] ++ if c.sort = 1 then [("F", c.extra, c.h0)] else []
noncomputable abbrev tv (p : String × Int × Int) : V := .tup [sv p.1, .int p.2.1, .int p.2.2]
noncomputable def fill (l : String) : Nat → Nat → List String → Option (List String)
  | _, 0, row => some row
  | i, m + 1, row => if row.getD i "" = "." then fill l (i + 1) m (row.set i l) else none
noncomputable def fillAll (n : Nat) : List (String × Int × Int) → List String → Option (List String)
  | [], row => some row
  | (l, lo, hi) :: r, row => if lo < 0 ∨ hi ≤ lo ∨ (n : Int) < hi then none else (fill l lo.toNat (hi - lo).toNat row).bind (fillAll n r)
theorem fill_len (l : String) (m : Nat) : ∀ (i : Nat) (row r : List String), fill l i m row = some r → r.length = row.length := by
  induction m with
  | zero => intro i row r h; cases h; rfl
  | succ m ih =>
    intro i row r h
    rw [fill] at h
    split at h
    · exact (ih _ _ _ h).trans List.length_set
    · cases h
/-- a fill, all fills, as folds -/
noncomputable def fillSt (l : String) (row : List String) (k : Int) : Option (List String) := if row.getD k.toNat "" = "." then some (row.set k.toNat l) else none
theorem fill_fold (l : String) (m : Nat) : ∀ (i : Nat) (row : List String), (rangeL i 1 m).foldlM (fillSt l) row = fill l i m row := by
  induction m with
  | zero => exact fun _ _ => rfl
  | succ m ih =>
    intro i row
    rw [rangeL, List.foldlM_cons, fillSt, fill, Int.toNat_natCast]
    split
    · exact ih (i + 1) _
    · rfl
noncomputable def spanSt (n : Nat) (row : List String) (p : String × Int × Int) : Option (List String) := if p.2.1 < 0 ∨ p.2.2 ≤ p.2.1 ∨ (n : Int) < p.2.2 then none else fill p.1 p.2.1.toNat (p.2.2 - p.2.1).toNat row
theorem fillAll_fold (n : Nat) (sp : List (String × Int × Int)) : ∀ row, sp.foldlM (spanSt n) row = fillAll n sp row := by
  induction sp with
  | nil => exact fun _ => rfl
  | cons p sp ih =>
    intro row
    rw [List.foldlM_cons, fillAll, spanSt]
    split
    · rfl
    · exact congrArg _ (funext ih)
noncomputable def closeF (ops : List Int) : Nat → List String → List Int
  | _, [] => []
  | i, s :: r => if s = "F" ∧ ops.getD i 0 = 65041 then (i : Int) :: closeF ops (i + 1) r else closeF ops (i + 1) r
noncomputable def letters (ops : List Int) (c : Cl) : Option (List String) :=
  if c.sort = 0 ∨ c.sort = 1 ∨ c.sort = 2 ∨ c.sort = 4 then
    (fillAll ops.length (spansOf c) (List.replicate ops.length ".")).bind fun row =>
      if c.sort = 1 ∧ closeF ops 0 row ≠ [c.h0 - 1] then none else some row
  else none
noncomputable def lv : Option (List String) → V
  | none => .none
  | some row => .lst (row.map sv)

theorem Ends.imp {β : Type} {X : Option (Fl × Loc × Sto)} {v : V} {S : β → Sto} {C C' : β → Loc → Prop} (h : ∀ b ρ, C b ρ → C' b ρ) : ∀ {o : Option β}, Ends X v S C o → Ends X v S C' o
  | none, t => t
  | some b, t => Exists.imp (fun ρ t => ⟨t.1, h b ρ t.2⟩) t

noncomputable def G_letters : List (Str × GV) := [("len", .bi "len"), ("range", .ty "range"), ("enumerate", .ty "enumerate")]
noncomputable def X_letters (uops : V) : Cx := ⟨mkG G_letters, F_letters.names, [(("ops" : Str), uops)]⟩
noncomputable def xn_letters (uops : V) := @id ((X_letters uops).names = [(_, _), (_, _), (_, _), (_, _), (_, _), (_, _), (_, _), (_, _), (_, _), (_, _), (_, _), (_, _), (_, _), (_, _), (_, _), (_, _), (_, _), (_, _)]) nm_letters
@[simp ↓] theorem v_letters_ops {uops : V} {n : Nat} {own : Bool} {p : Pos} {ρ : Loc} {σ : Sto} {R : Type} {K : K2 V R} : @cE R (X_letters uops) (n + 1) own (.Name (Str.ofString "ops") p) ρ σ K = @ap _ _ K σ (uops) := rfl
@[simp] theorem l_letters_ops {uops : V} : (X_letters uops).names.lookup (Str.ofString "ops") = some .cell := rfl
@[simp ↓] theorem v_letters_clause {uops : V} {n : Nat} {own : Bool} {p : Pos} {ρ : Loc} {σ : Sto} {R : Type} {K : K2 V R} : @cE R (X_letters uops) (n + 1) own (.Name (Str.ofString "clause") p) ρ σ K = @qv _ _ K σ (ρ.lookup (Str.ofString "clause")) := rfl
@[simp ↓] theorem v_letters_sort {uops : V} {n : Nat} {own : Bool} {p : Pos} {ρ : Loc} {σ : Sto} {R : Type} {K : K2 V R} : @cE R (X_letters uops) (n + 1) own (.Name (Str.ofString "sort") p) ρ σ K = @qv _ _ K σ (ρ.lookup (Str.ofString "sort")) := rfl
@[simp] theorem i_letters_sort {uops : V} : isLocN (X_letters uops).names (Str.ofString "sort") = true := rfl
@[simp ↓] theorem v_letters_t0 {uops : V} {n : Nat} {own : Bool} {p : Pos} {ρ : Loc} {σ : Sto} {R : Type} {K : K2 V R} : @cE R (X_letters uops) (n + 1) own (.Name (Str.ofString "t0") p) ρ σ K = @qv _ _ K σ (ρ.lookup (Str.ofString "t0")) := rfl
@[simp] theorem i_letters_t0 {uops : V} : isLocN (X_letters uops).names (Str.ofString "t0") = true := rfl
@[simp ↓] theorem v_letters_t1 {uops : V} {n : Nat} {own : Bool} {p : Pos} {ρ : Loc} {σ : Sto} {R : Type} {K : K2 V R} : @cE R (X_letters uops) (n + 1) own (.Name (Str.ofString "t1") p) ρ σ K = @qv _ _ K σ (ρ.lookup (Str.ofString "t1")) := rfl
@[simp] theorem i_letters_t1 {uops : V} : isLocN (X_letters uops).names (Str.ofString "t1") = true := rfl
@[simp ↓] theorem v_letters_h0 {uops : V} {n : Nat} {own : Bool} {p : Pos} {ρ : Loc} {σ : Sto} {R : Type} {K : K2 V R} : @cE R (X_letters uops) (n + 1) own (.Name (Str.ofString "h0") p) ρ σ K = @qv _ _ K σ (ρ.lookup (Str.ofString "h0")) := rfl
@[simp] theorem i_letters_h0 {uops : V} : isLocN (X_letters uops).names (Str.ofString "h0") = true := rfl
@[simp ↓] theorem v_letters_h1 {uops : V} {n : Nat} {own : Bool} {p : Pos} {ρ : Loc} {σ : Sto} {R : Type} {K : K2 V R} : @cE R (X_letters uops) (n + 1) own (.Name (Str.ofString "h1") p) ρ σ K = @qv _ _ K σ (ρ.lookup (Str.ofString "h1")) := rfl
@[simp] theorem i_letters_h1 {uops : V} : isLocN (X_letters uops).names (Str.ofString "h1") = true := rfl
@[simp ↓] theorem v_letters_extra {uops : V} {n : Nat} {own : Bool} {p : Pos} {ρ : Loc} {σ : Sto} {R : Type} {K : K2 V R} : @cE R (X_letters uops) (n + 1) own (.Name (Str.ofString "extra") p) ρ σ K = @qv _ _ K σ (ρ.lookup (Str.ofString "extra")) := rfl
@[simp] theorem i_letters_extra {uops : V} : isLocN (X_letters uops).names (Str.ofString "extra") = true := rfl
@[simp ↓] theorem v_letters_spans {uops : V} {n : Nat} {own : Bool} {p : Pos} {ρ : Loc} {σ : Sto} {R : Type} {K : K2 V R} : @cE R (X_letters uops) (n + 1) own (.Name (Str.ofString "spans") p) ρ σ K = @qv _ _ K σ (ρ.lookup (Str.ofString "spans")) := rfl
@[simp] theorem i_letters_spans {uops : V} : isLocN (X_letters uops).names (Str.ofString "spans") = true := rfl
@[simp ↓] theorem v_letters_row {uops : V} {n : Nat} {own : Bool} {p : Pos} {ρ : Loc} {σ : Sto} {R : Type} {K : K2 V R} : @cE R (X_letters uops) (n + 1) own (.Name (Str.ofString "row") p) ρ σ K = @qv _ _ K σ (ρ.lookup (Str.ofString "row")) := rfl
@[simp] theorem i_letters_row {uops : V} : isLocN (X_letters uops).names (Str.ofString "row") = true := rfl
@[simp ↓] theorem v_letters_letter {uops : V} {n : Nat} {own : Bool} {p : Pos} {ρ : Loc} {σ : Sto} {R : Type} {K : K2 V R} : @cE R (X_letters uops) (n + 1) own (.Name (Str.ofString "letter") p) ρ σ K = @qv _ _ K σ (ρ.lookup (Str.ofString "letter")) := rfl
@[simp] theorem i_letters_letter {uops : V} : isLocN (X_letters uops).names (Str.ofString "letter") = true := rfl
@[simp ↓] theorem v_letters_low {uops : V} {n : Nat} {own : Bool} {p : Pos} {ρ : Loc} {σ : Sto} {R : Type} {K : K2 V R} : @cE R (X_letters uops) (n + 1) own (.Name (Str.ofString "low") p) ρ σ K = @qv _ _ K σ (ρ.lookup (Str.ofString "low")) := rfl
@[simp] theorem i_letters_low {uops : V} : isLocN (X_letters uops).names (Str.ofString "low") = true := rfl
@[simp ↓] theorem v_letters_high {uops : V} {n : Nat} {own : Bool} {p : Pos} {ρ : Loc} {σ : Sto} {R : Type} {K : K2 V R} : @cE R (X_letters uops) (n + 1) own (.Name (Str.ofString "high") p) ρ σ K = @qv _ _ K σ (ρ.lookup (Str.ofString "high")) := rfl
@[simp] theorem i_letters_high {uops : V} : isLocN (X_letters uops).names (Str.ofString "high") = true := rfl
@[simp ↓] theorem v_letters_i {uops : V} {n : Nat} {own : Bool} {p : Pos} {ρ : Loc} {σ : Sto} {R : Type} {K : K2 V R} : @cE R (X_letters uops) (n + 1) own (.Name (Str.ofString "i") p) ρ σ K = @qv _ _ K σ (ρ.lookup (Str.ofString "i")) := rfl
@[simp] theorem i_letters_i {uops : V} : isLocN (X_letters uops).names (Str.ofString "i") = true := rfl
@[simp ↓] theorem v_letters_closing {uops : V} {n : Nat} {own : Bool} {p : Pos} {ρ : Loc} {σ : Sto} {R : Type} {K : K2 V R} : @cE R (X_letters uops) (n + 1) own (.Name (Str.ofString "closing") p) ρ σ K = @qv _ _ K σ (ρ.lookup (Str.ofString "closing")) := rfl
@[simp] theorem i_letters_closing {uops : V} : isLocN (X_letters uops).names (Str.ofString "closing") = true := rfl
@[simp] theorem g_letters_len {uops : V} : Cx.glob (X_letters uops) (Str.ofString "len") = some (.bi "len") := rfl
@[simp] theorem g_letters_range {uops : V} : Cx.glob (X_letters uops) (Str.ofString "range") = some (.ty "range") := rfl
@[simp] theorem g_letters_enumerate {uops : V} : Cx.glob (X_letters uops) (Str.ofString "enumerate") = some (.ty "enumerate") := rfl
noncomputable def Y_letters_0 (uops : V) : Cx := ⟨(X_letters uops).G, [(Str.ofString ".0", .local), (Str.ofString "i", .local), (Str.ofString "letter", .local), (Str.ofString "ops", .free)], (X_letters uops).cap⟩
@[simp] theorem c_letters_0 {uops : V} : compOk (X_letters uops) ⟨.function, [(Str.ofString ".0", .local), (Str.ofString "i", .local), (Str.ofString "letter", .local), (Str.ofString "ops", .free)], false, false, []⟩ = true := by kernel_rfl
@[simp ↓ high] theorem q_letters_0 {uops : V} {n : Nat} {σ : Sto} {tgt elt : PySem.Expr} {ifs : List PySem.Expr} {src : Src} : @ap _ _ (kComp (X_letters uops) n tgt elt ifs ⟨.function, [(Str.ofString ".0", .local), (Str.ofString "i", .local), (Str.ofString "letter", .local), (Str.ofString "ops", .free)], false, false, []⟩) σ src = gd (!src.tup || isTup tgt) (@mp _ _ (Km.mk fun σ' => (V.cell σ.length, σ')) (turns src σ.length (fComp (Y_letters_0 uops) n tgt elt ifs) src.items (σ ++ [.lst []]))) := rfl
@[simp ↓] theorem v_letters_0_i {uops : V} {n : Nat} {own : Bool} {p : Pos} {ρ : Loc} {σ : Sto} {R : Type} {K : K2 V R} : @cE R (Y_letters_0 uops) (n + 1) own (.Name (Str.ofString "i") p) ρ σ K = @qv _ _ K σ (ρ.lookup (Str.ofString "i")) := rfl
@[simp] theorem i_letters_0_i {uops : V} : isLocN (Y_letters_0 uops).names (Str.ofString "i") = true := rfl
@[simp ↓] theorem v_letters_0_letter {uops : V} {n : Nat} {own : Bool} {p : Pos} {ρ : Loc} {σ : Sto} {R : Type} {K : K2 V R} : @cE R (Y_letters_0 uops) (n + 1) own (.Name (Str.ofString "letter") p) ρ σ K = @qv _ _ K σ (ρ.lookup (Str.ofString "letter")) := rfl
@[simp] theorem i_letters_0_letter {uops : V} : isLocN (Y_letters_0 uops).names (Str.ofString "letter") = true := rfl
@[simp ↓] theorem v_letters_0_ops {uops : V} {n : Nat} {own : Bool} {p : Pos} {ρ : Loc} {σ : Sto} {R : Type} {K : K2 V R} : @cE R (Y_letters_0 uops) (n + 1) own (.Name (Str.ofString "ops") p) ρ σ K = @ap _ _ K σ (uops) := rfl
noncomputable def P_letters : List V → Option V := F_letters.runP (mkG G_letters) 150
theorem rn_letters (uops uclause : V) : P_letters [uops, uclause] = @cSs _ (X_letters uops) 150 F_letters.body [(("clause" : Str), uclause)] [] kP := runP_eq F_letters (mkG G_letters) 150 [uops, uclause] [(("ops" : Str), uops)] [(("clause" : Str), uclause)] rfl (by kernel_rfl) (by kernel_rfl)
theorem letters_in {n : Nat} {uops : V} {ρ : Loc} {X : Option (Fl × Loc × Sto)} {l : String} {i m : Nat} {row : List String} {sp : List V} (hX : evS (X_letters uops) (n + 20) S_letters_41 ρ [.lst sp, .lst (row.map sv)] = X)
    (hi : i + m ≤ row.length) (hl : row.length ≤ 100000) (h1 : ρ.lookup (Str.ofString "low") = some (.int i)) (h2 : ρ.lookup (Str.ofString "high") = some (.int (i + m : Nat))) (h3 : ρ.lookup (Str.ofString "row") = some (.cell 1)) (h4 : ρ.lookup (Str.ofString "letter") = some (sv l)) :
    Ends X .none (fun row => [.lst sp, .lst (row.map sv)]) (fun _ ρ' => Kp [Str.ofString "i"] ρ ρ') (fill l i m row) := by
  have s1 : small (i : Int) = true := small_of (by omega) (by omega)
  have s2 : small ((i + m : Nat) : Int) = true := small_of (by omega) (by omega)
  rw [bs_letters_41] at hX
  simp [mkG, G_letters, h1, h2, s1, s2, -Int.natCast_add] at hX
  have t := loop_try V.int (fun row => [.lst sp, .lst (row.map sv)]) (fillSt l) .none [Str.ofString "i"] (fun as r => r.length = row.length ∧ ∀ k ∈ as, ∃ j : Nat, k = j ∧ j < row.length) hX (rangeV_map _ _ _) (by exact fun _ => trivial)
    ⟨rfl, fun k h => ⟨k.toNat, by have := rangeL_mem h; omega⟩⟩ fun k as r ρ' ⟨hr, hm⟩ k' => by
      obtain ⟨j, rfl, hj⟩ := hm k List.mem_cons_self
      have hj : j < r.length := hr.symm ▸ hj
      have g8 : idx (j : Int) = true := idx_of (Int.natCast_nonneg j) (by omega)
      obtain ⟨s, hs⟩ : ∃ s, r[j] = s := ⟨_, rfl⟩
      have k3 := k'.get h3 (by kernel_rfl)
      have k4 := k'.get h4 (by kernel_rfl)
      rw [fillSt, Int.toNat_natCast, List.getD_eq_getElem?_getD, List.getElem?_eq_getElem hj, Option.getD_some, hs, bb_letters_41]
      by_cases hd : s = "."
      · rw [if_pos hd]
        exact ⟨lset ρ' (Str.ofString "i") (.int j), by simp [mkG, G_letters, k3, k4, g8, hs, e_str, hd, hj], ⟨List.length_set.trans hr, fun k h => hm k (List.mem_cons_of_mem _ h)⟩, k'.set (by kernel_rfl)⟩
      · rw [if_neg hd]
        exact ⟨lset ρ' (Str.ofString "i") (.int j), [.lst sp, .lst (r.map sv)], by simp [mkG, G_letters, k3, g8, hs, e_str, hd, hj]⟩
  rw [fill_fold] at t
  exact t.imp fun _ _ h => h.2

noncomputable def W_letters : List Str := [Str.ofString "i", Str.ofString "letter", Str.ofString "low", Str.ofString "high"]
theorem letters_spans {n : Nat} {ol : List V} {N : Nat} {ρ : Loc} {X : Option (Fl × Loc × Sto)} {sp : List (String × Int × Int)} {row : List String} (hX : evS (X_letters (.lst ol)) (n + 40) S_letters_4 ρ [.lst (sp.map tv), .lst (row.map sv)] = X)
    (hN : row.length = N) (hl : row.length ≤ 100000) (h1 : ρ.lookup (Str.ofString "spans") = some (.cell 0)) (h3 : ρ.lookup (Str.ofString "row") = some (.cell 1)) (ho : ol.length = N) :
    Ends X .none (fun r => [.lst (sp.map tv), .lst (r.map sv)]) (fun r ρ' => r.length = N ∧ Kp W_letters ρ ρ') (fillAll N sp row) := by
  rw [bs_letters_4] at hX
  simp [mkG, G_letters, h1] at hX
  have sN : fits N = true := fits_of (by omega)
  have t := loop_try tv (fun r => [.lst (sp.map tv), .lst (r.map sv)]) (spanSt N) .none W_letters (fun _ r => r.length = N) hX rfl (by exact fun _ => ⟨_, rfl, rfl⟩) hN fun ⟨l, lo, hi⟩ as r ρ' hr k' => by
    have k3 := k'.get h3 (by kernel_rfl)
    rw [spanSt, bb_letters_4]
    dsimp only
    by_cases b1 : lo < 0
    · rw [if_pos (.inl b1)]
      exact ⟨_, [.lst (sp.map tv), .lst (r.map sv)], by simp [mkG, G_letters, b1]; rfl⟩
    by_cases b2 : hi ≤ lo
    · rw [if_pos (.inr (.inl b2))]
      exact ⟨_, [.lst (sp.map tv), .lst (r.map sv)], by simp [mkG, G_letters, b1, b2]; rfl⟩
    by_cases b3 : (N : Int) < hi
    · rw [if_pos (.inr (.inr b3))]
      exact ⟨_, [.lst (sp.map tv), .lst (r.map sv)], by simp [mkG, G_letters, b1, b2, b3, sN, ho]; rfl⟩
    rw [if_neg (fun h => h.elim b1 fun h => h.elim b2 b3)]
    obtain ⟨a, rfl⟩ := Int.eq_ofNat_of_zero_le (Int.not_lt.mp b1)
    obtain ⟨m, rfl⟩ : ∃ m : Nat, hi = (a + m : Nat) := ⟨(hi - a).toNat, by omega⟩
    obtain ⟨Y, hY⟩ : ∃ Y, evS (X_letters (.lst ol)) (n + 37) S_letters_41 (lset (lset (lset ρ' (Str.ofString "letter") (sv l)) (Str.ofString "low") (.int a)) (Str.ofString "high") (.int (a + m : Nat))) [.lst (sp.map tv), .lst (r.map sv)] = Y := ⟨_, rfl⟩
    have t := letters_in (l := l) (i := a) (m := m) (row := r) hY (by omega) (by omega) (by simp) (by simp) (by simp [k3]) (by simp)
    have hw : ∀ ρ₁, Kp [Str.ofString "i"] (lset (lset (lset ρ' (Str.ofString "letter") (sv l)) (Str.ofString "low") (.int a)) (Str.ofString "high") (.int (a + m : Nat))) ρ₁ → Kp W_letters ρ ρ₁ := fun ρ₁ h => (((k'.set (by kernel_rfl)).set (by kernel_rfl)).set (by kernel_rfl)).trans (h.sub (by kernel_rfl))
    rw [Int.toNat_natCast, show (((a + m : Nat) : Int) - (a : Int)).toNat = m by omega]
    simp [mkG, G_letters, b1, b2, b3, sN, ho, hY, -Int.natCast_add]
    cases hf : fill l a m r with
    | none =>
      rw [hf] at t
      obtain ⟨ρ₁, σ₁, rfl⟩ := t
      exact ⟨ρ₁, σ₁, by simp⟩
    | some r' =>
      rw [hf] at t
      obtain ⟨ρ₁, rfl, k1⟩ := t
      exact ⟨ρ₁, by simp, (fill_len _ _ _ _ _ hf).trans hr, hw _ k1⟩
  rw [fillAll_fold] at t
  exact t
noncomputable def clOut (ops : List Int) (p : Int × String) : Option V := if p.2 = "F" ∧ ops.getD p.1.toNat 0 = 65041 then some (.int p.1) else none
theorem close_ok (ops : List Int) (row : List String) : ∀ i : Nat, (enumL (i : Int) row).filterMap (clOut ops) = (closeF ops i row).map V.int := by
  induction row with
  | nil => exact fun _ => rfl
  | cons s row ih =>
    intro i
    have ih := ih (i + 1)
    rw [enumL, List.filterMap_cons, clOut, closeF, Int.toNat_natCast]
    by_cases h : s = "F" ∧ ops.getD i 0 = 65041
    · rw [if_pos h, if_pos h]; exact congrArg (V.int i :: ·) ih
    · rw [if_neg h, if_neg h]; exact ih
theorem tame_sv (l : List String) (n : Nat) : (l.map sv).all (V.tame n) = true := by
  rw [List.all_map, List.all_eq_true]; intro x _; cases n <;> rfl
noncomputable def S_letters_1 : Stmt := stAt F_letters.body 1
noncomputable def R_letters_1 : List Stmt := F_letters.body.drop 1
noncomputable def R_letters_2 : List Stmt := F_letters.body.drop 2
noncomputable def R_letters_3 : List Stmt := F_letters.body.drop 3
noncomputable def R_letters_5 : List Stmt := F_letters.body.drop 5
noncomputable def br_letters_0 := @id (F_letters.body = _ :: R_letters_1) rfl
noncomputable def br_letters_1 := @id (R_letters_1 = S_letters_1 :: R_letters_2) rfl
noncomputable def br_letters_2 := @id (R_letters_2 = _ :: R_letters_3) rfl
noncomputable def br_letters_3 := @id (R_letters_3 = _ :: S_letters_4 :: R_letters_5) rfl
noncomputable def br_letters_5 := @id (R_letters_5 = [_, _, _]) rfl
theorem sizeOk {n : Nat} (h : n ≤ 100000) : n ≤ sizeLine := Nat.le_trans h (by rw [sizeLine_eq]; decide)
section
variable {ops : List Int} {n : Nat} {ρ : Loc} {s h0 : Int}
/-- the end of the text: the closing points -/
noncomputable def endL (ops : List Int) (s h0 : Int) (r : List String) : Option (List String) := if s = 1 ∧ closeF ops 0 r ≠ [h0 - 1] then none else some r
theorem letters_tail {sp : List V} {r : List String} (hr : r.length = ops.length) (hz : ops.length ≤ 100000) (k1 : ρ.lookup (Str.ofString "sort") = some (.int s)) (k2 : ρ.lookup (Str.ofString "h0") = some (.int h0)) (k3 : ρ.lookup (Str.ofString "row") = some (.cell 1)) :
    @cSs V (X_letters (.lst (ops.map .int))) (n + 40) R_letters_5 ρ [.lst sp, .lst (r.map sv)] kP = some (lv (endL ops s h0 r)) := by
  rw [br_letters_5]
  simp [mkG, G_letters, k3]
  generalize hT : turns _ _ _ _ _ = T
  have := turns_use hT [.lst sp, .lst (r.map sv)] (fun p : Int × String => .tup [.int p.1, sv p.2]) (clOut ops) (enumL 0 r) (enumV_map sv r 0) rfl rfl rfl (fun acc => ⟨_, rfl, rfl⟩) (fun p hp acc => by
      obtain ⟨i, t⟩ := p
      obtain ⟨k, e, hk⟩ := enumL_mem hp
      have e : i = k := e.trans (congrArg _ (Nat.zero_add k))
      have hk' : k < ops.length := hr ▸ (List.getElem?_eq_some_iff.mp hk).1
      have g8 : idx (k : Int) = true := idx_of (Int.natCast_nonneg k) (by omega)
      obtain ⟨o, ho⟩ : ∃ o, ops[k] = o := ⟨_, rfl⟩
      rw [clOut, e, Int.toNat_natCast, List.getD_eq_getElem?_getD, List.getElem?_eq_getElem hk', Option.getD_some, ho]
      by_cases ht : t = "F"
      · by_cases h : o = 65041
        · rw [if_pos ⟨ht, h⟩]; simp [mkG, G_letters, e_str, ht, g8, hk', ho, h]
        · rw [if_neg fun c => h c.2]; simp [mkG, G_letters, e_str, ht, g8, hk', ho, h]
      · rw [if_neg fun c => ht c.1]; simp [mkG, G_letters, e_str, ht]) (by rw [enumL_len, hr]; exact sizeOk hz)
  rw [this, show (0 : Int) = (0 : Nat) from rfl, close_ok ops r 0, endL]
  by_cases hs : s = 1
  · subst hs
    generalize closeF ops 0 r = C
    have he := e_ints (σ := [.lst sp, .lst (r.map sv), .lst (C.map V.int)]) (k := 2) C [h0 - 1] rfl
    rw [List.map_cons, List.map_nil] at he
    have z1 : 1 ≤ sizeLine := sizeOk (by decide)
    by_cases hc : C = [h0 - 1]
    · rw [if_neg fun h => h.2 hc]; rw [hc, List.map_cons, List.map_nil] at he; simp [mkG, G_letters, k1, k2, k3, he, hc, lv, tame_sv, z1]
    · rw [if_pos ⟨rfl, hc⟩]; simp [mkG, G_letters, k1, k2, k3, he, hc, lv, z1]
  · rw [if_neg fun h => hs h.1]; simp [mkG, G_letters, k1, k3, hs, lv, tame_sv]
theorem gd1 {R : Type} {x : Option R} : gd (Nat.ble 1 100) x = x := rfl
/-- from the filling of the row on -/
theorem letters_spanned {sp : List (String × Int × Int)} (hz : ops.length ≤ 100000) (k1 : ρ.lookup (Str.ofString "sort") = some (.int s)) (k2 : ρ.lookup (Str.ofString "h0") = some (.int h0)) (k4 : ρ.lookup (Str.ofString "spans") = some (.cell 0)) :
    @cSs V (X_letters (.lst (ops.map .int))) (n + 60) R_letters_3 ρ [.lst (sp.map tv)] kP = some (lv ((fillAll ops.length sp (List.replicate ops.length ".")).bind (endL ops s h0))) := by
  have hl0 : (List.replicate ops.length ".").length = ops.length := List.length_replicate
  have zf : fits ops.length = true := fits_of (by omega)
  have zm : mulOk 1 (ops.length : Int) = true := mulOk_of (by omega)
  have z := sizeOk hz
  have hrep : (List.replicate ops.length [sv "."]).flatten = (List.replicate ops.length ".").map sv := by rw [List.map_replicate, List.flatten_replicate_singleton]
  rw [br_letters_3]
  simp [mkG, G_letters, zf, zm, hrep, z, gd1, -List.map_replicate]
  generalize hX : evS _ _ S_letters_4 _ _ = X
  have t := letters_spans (n := n + 18) hX hl0 (by rw [hl0]; exact hz) (by simp [k4]) (by simp) (List.length_map _)
  cases hf : fillAll ops.length sp (List.replicate ops.length ".") with
  | none =>
    rw [hf] at t
    obtain ⟨ρ₁, σ₁, rfl⟩ := t
    simp [lv]
  | some r =>
    rw [hf] at t
    obtain ⟨ρ₁, rfl, hr, k⟩ := t
    exact pSS.trans (letters_tail (n := n + 17) hr hz (k.get ((lsMiss (by kernel_rfl)).trans k1) (by kernel_rfl)) (k.get ((lsMiss (by kernel_rfl)).trans k2) (by kernel_rfl)) (k.get lsHit (by kernel_rfl)))
/-- from the test of the sort on -/
theorem letters_if {t0 t1 h1 ex : Int} (hz : ops.length ≤ 100000) (k1 : ρ.lookup (Str.ofString "sort") = some (.int s)) (k4 : ρ.lookup (Str.ofString "h0") = some (.int h0)) (k6 : ρ.lookup (Str.ofString "extra") = some (.int ex)) (k7 : ρ.lookup (Str.ofString "spans") = some (.cell 0)) :
    @cSs V (X_letters (.lst (ops.map .int))) (n + 70) R_letters_2 ρ [.lst [tv ("T", t0, t1), tv ("H", h0, h1)]] kP = some (lv (letters ops ⟨s, t0, t1, h0, h1, ex⟩)) := by
  have z3 : 3 ≤ sizeLine := sizeOk (by decide)
  have sp := fun sp => @letters_spanned ops (n + 9) ρ s h0 sp hz k1 k4 k7
  rw [br_letters_2, letters]
  by_cases hs : s = 1
  · subst hs
    rw [if_pos (.inr (.inl rfl))]
    refine Eq.trans ?_ (sp [("T", t0, t1), ("H", h0, h1), ("F", ex, h0)])
    simp [mkG, G_letters, k1, k4, k6, k7, z3]
  · by_cases h3 : s = 0 ∨ s = 2 ∨ s = 4
    · rw [if_pos (h3.imp_right .inr)]
      refine Eq.trans ?_ ((sp [("T", t0, t1), ("H", h0, h1)]).trans (by rw [spansOf, if_neg hs]; rfl))
      have h3' : (!decide (s = 0) && (!decide (s = 2) && !decide (s = 4))) = false := by rcases h3 with h | h | h <;> simp [h]
      simp [mkG, G_letters, k1, hs, in_3, h3']
    · have h3' : (!decide (s = 0) && (!decide (s = 2) && !decide (s = 4))) = true := by simpa using h3
      rw [if_neg fun h => h3 (h.imp_right fun h => h.resolve_left hs)]
      simp [mkG, G_letters, k1, hs, in_3, h3', lv]
noncomputable def bs_letters_1 := @id (S_letters_1 = .Assign _ _ _) rfl
theorem letters_sp {K : Ks V} {t0 t1 h1 : Int} (k2 : ρ.lookup (Str.ofString "t0") = some (.int t0)) (k3 : ρ.lookup (Str.ofString "t1") = some (.int t1)) (k4 : ρ.lookup (Str.ofString "h0") = some (.int h0)) (k5 : ρ.lookup (Str.ofString "h1") = some (.int h1)) :
    @cS V (X_letters (.lst (ops.map .int))) (n + 60) S_letters_1 ρ [] K = @aps _ K .next (lset ρ (Str.ofString "spans") (.cell 0)) [.lst [tv ("T", t0, t1), tv ("H", h0, h1)]] := by
  have z2 : 2 ≤ sizeLine := sizeOk (by decide)
  rw [bs_letters_1]
  simp [mkG, G_letters, k2, k3, k4, k5, z2]
/-- from the spans on -/
theorem letters_mid {t0 t1 h1 ex : Int} (hz : ops.length ≤ 100000) (k1 : ρ.lookup (Str.ofString "sort") = some (.int s)) (k2 : ρ.lookup (Str.ofString "t0") = some (.int t0)) (k3 : ρ.lookup (Str.ofString "t1") = some (.int t1)) (k4 : ρ.lookup (Str.ofString "h0") = some (.int h0)) (k5 : ρ.lookup (Str.ofString "h1") = some (.int h1)) (k6 : ρ.lookup (Str.ofString "extra") = some (.int ex)) :
    @cSs V (X_letters (.lst (ops.map .int))) (n + 71) R_letters_1 ρ [] kP = some (lv (letters ops ⟨s, t0, t1, h0, h1, ex⟩)) := by
  rw [br_letters_1, ss1, letters_sp (n := n + 10) k2 k3 k4 k5, qN]
  exact letters_if hz ((lsMiss (by kernel_rfl)).trans k1) ((lsMiss (by kernel_rfl)).trans k4) ((lsMiss (by kernel_rfl)).trans k6) lsHit
end
theorem letters_eq (ops : List Int) (c : Cl) (hz : ops.length ≤ 100000) : P_letters [.lst (ops.map .int), c.v] = some (lv (letters ops c)) := by
  have sp := fun {ρ : Loc} => @letters_mid ops 78 ρ c.sort c.h0 c.t0 c.t1 c.h1 c.extra hz
  rw [rn_letters, br_letters_0]
  simp [mkG, G_letters]
  apply sp <;> simp
end Mine
end

section
open PySem PySem.W PyProof.Rows PySem.Calls
set_option autoImplicit false
set_option maxRecDepth 100000
set_option maxHeartbeats 4000000
set_option linter.unusedSimpArgs false
set_option linter.unusedVariables false
set_option linter.defProp false
namespace Mine

theorem ofString_app (a b : String) : Str.ofString a ++ Str.ofString b = Str.ofString (a ++ b) := by
  show (⟨_⟩ : Str) = _
  simp only [Str.ofString_eq_toList, Str.mk.injEq, String.toList_append, List.map_append]
  simp
theorem ofString_len (a : String) : (Str.ofString a).length = a.length := by
  rw [Str.ofString_eq_toList, Str.length, List.size_toArray, List.length_map, String.length_toList]
theorem eqvAll_map {α : Type} [DecidableEq α] (g : α → V) (h : ∀ a b : α, PyData.eqv (g a).py (g b).py = decide (a = b)) (l : List α) : ∀ m : List α, PyData.eqvAll (V.pys (l.map g)) (V.pys (m.map g)) = decide (l = m) := by
  induction l with
  | nil => intro m; cases m <;> simp [V.pys, PyData.eqvAll]
  | cons a l ih =>
    intro m
    cases m with
    | nil => simp [V.pys, PyData.eqvAll]
    | cons b m =>
      rw [List.map_cons, List.map_cons, V.pys, V.pys, PyData.eqvAll, ih, h, Bool.eq_iff_iff]; simp
theorem eqvAll_str (l m : List String) : PyData.eqvAll (V.pys (l.map sv)) (V.pys (m.map sv)) = decide (l = m) := eqvAll_map sv (fun a b => by rw [V.py, V.py, PyData.eqv, ofString_beq]; rfl) l m
theorem eqvAll_bool (l m : List Bool) : PyData.eqvAll (V.pys (l.map V.bool)) (V.pys (m.map V.bool)) = decide (l = m) := eqvAll_map V.bool (fun a b => by rw [V.py, V.py, PyData.eqv]; cases a <;> cases b <;> rfl) l m
theorem pure_sv (l : List String) (n : Nat) : (l.map sv).all (V.pure n) = true := by
  rw [List.all_map, List.all_eq_true]; intro x _; cases n <;> rfl
theorem okd_sv (l : List String) (n : Nat) : (l.map sv).all (V.okd n) = true := by
  rw [List.all_map, List.all_eq_true]; intro x _; cases n <;> exact ok_str x
theorem pure_bs (l : List Bool) (n : Nat) : (l.map V.bool).all (V.pure n) = true := by
  rw [List.all_map, List.all_eq_true]; intro x _; cases n <;> rfl
theorem okd_bs (l : List Bool) (n : Nat) : (l.map V.bool).all (V.okd n) = true := by
  rw [List.all_map, List.all_eq_true]; intro x _; cases n <;> rfl
theorem e_svs {σ : Sto} {k : Nat} (l m : List String) (h : σ[k]? = some (.lst (l.map sv))) : eqV σ (.cell k) (.lst (m.map sv)) = some (decide (l = m)) := by
  have h2 : (V.lst (m.map sv)).pure 6 = true := pure_sv m 5
  simp only [eqV, rCell, h, pure_sv, if_true, Option.bind_some, rLst, h2]
  have h3 : ∀ l : List String, (V.lst (l.map sv)).okd 6 = true := fun l => okd_sv l 5
  simp only [h3, Bool.and_self, if_true, V.py, PyData.eqv, eqvAll_str]
theorem e_rep {σ : Sto} {k : Nat} (l : List String) (s : String) (h : σ[k]? = some (.lst (l.map sv))) : eqV σ (.cell k) (.lst (List.replicate l.length (sv s))) = some (l.all fun x => decide (x = s)) := by
  have : List.replicate l.length (sv s) = (List.replicate l.length s).map sv := by simp
  rw [this, e_svs l _ h]
  congr 1
  rw [Bool.eq_iff_iff, decide_eq_true_eq, List.all_eq_true, List.eq_replicate_iff]
  simp
theorem e_nil {σ : Sto} {k : Nat} (l : List String) (h : σ[k]? = some (.lst (l.map sv))) : eqV σ (.cell k) (.lst []) = some (decide (l = [])) := e_svs l [] h
theorem e_bss {σ : Sto} {k j : Nat} (l m : List Bool) (h : σ[k]? = some (.lst (l.map V.bool))) (h' : σ[j]? = some (.lst (m.map V.bool))) : eqV σ (.cell k) (.cell j) = some (decide (l = m)) := by
  simp only [eqV, rCell, h, h', pure_bs, if_true, Option.bind_some]
  have h3 : ∀ l : List Bool, (V.lst (l.map V.bool)).okd 6 = true := fun l => okd_bs l 5
  simp only [h3, Bool.and_self, if_true, V.py, PyData.eqv, eqvAll_bool]

noncomputable def crossF (p : String × String) : Option String := if p.1 ≠ "." ∧ p.2 ≠ "." then some (p.1 ++ p.2) else none
noncomputable def underF (p : String × String) : Option String := if p.1 ≠ "." then some p.2 else none
noncomputable def crossedOf (a b : List String) : List String := (a.zip b).filterMap crossF
noncomputable def underOf (a b : List String) : List String := (a.zip b).filterMap underF
noncomputable def lawPair (a b : List String) (catching : Bool) : Bool :=
  if (a.map fun x => decide (x = "T")) = (b.map fun x => decide (x = "T")) then catching && (crossedOf a b).all fun x => decide (x = "TT")
  else decide (crossedOf a b = []) || (((underOf a b).all fun x => decide (x = "T")) || ((underOf a b).all fun x => decide (x = "H")))

noncomputable abbrev zv (p : String × String) : V := .tup [sv p.1, sv p.2]
theorem zip_items (a : List String) : ∀ b : List String, List.zipWith (fun x y => V.tup [sv x, sv y]) a b = (a.zip b).map zv := by
  induction a with
  | nil => exact fun _ => rfl
  | cons x a ih => exact fun b => b.casesOn rfl fun y b => congrArg (zv (x, y) :: ·) (ih b)
theorem scal_sv (l : List String) : (l.map sv).all V.scal = true := by simp
theorem scal_bs (l : List Bool) : (l.map V.bool).all V.scal = true := by simp
theorem scal_map {α : Type} {f : α → Option String} {p : α} {v : V} (h : (f p).map sv = some v) : v.scal = true := by
  cases hf : f p with
  | none => rw [hf] at h; cases h
  | some x => rw [hf] at h; cases h; rfl
theorem isT_all (a : List String) : (a.filterMap fun x => some (V.bool (decide (x = "T")))) = (a.map fun x => decide (x = "T")).map V.bool := by
  rw [List.map_map]; exact congrFun List.filterMap_eq_map a
noncomputable def G_pair : List (Str × GV) := [("zip", .ty "zip"), ("len", .bi "len")]
noncomputable def X_pair : Cx := ⟨mkG G_pair, F_pair.names, []⟩
noncomputable def xn_pair := @id ((X_pair).names = [(_, _), (_, _), (_, _), (_, _), (_, _), (_, _), (_, _)]) nm_pair
@[simp ↓] theorem v_pair_a {n : Nat} {own : Bool} {p : Pos} {ρ : Loc} {σ : Sto} {R : Type} {K : K2 V R} : @cE R (X_pair) (n + 1) own (.Name (Str.ofString "a") p) ρ σ K = @qv _ _ K σ (ρ.lookup (Str.ofString "a")) := rfl
@[simp ↓] theorem v_pair_b {n : Nat} {own : Bool} {p : Pos} {ρ : Loc} {σ : Sto} {R : Type} {K : K2 V R} : @cE R (X_pair) (n + 1) own (.Name (Str.ofString "b") p) ρ σ K = @qv _ _ K σ (ρ.lookup (Str.ofString "b")) := rfl
@[simp ↓] theorem v_pair_catching {n : Nat} {own : Bool} {p : Pos} {ρ : Loc} {σ : Sto} {R : Type} {K : K2 V R} : @cE R (X_pair) (n + 1) own (.Name (Str.ofString "catching") p) ρ σ K = @qv _ _ K σ (ρ.lookup (Str.ofString "catching")) := rfl
@[simp ↓] theorem v_pair_crossed {n : Nat} {own : Bool} {p : Pos} {ρ : Loc} {σ : Sto} {R : Type} {K : K2 V R} : @cE R (X_pair) (n + 1) own (.Name (Str.ofString "crossed") p) ρ σ K = @qv _ _ K σ (ρ.lookup (Str.ofString "crossed")) := rfl
@[simp] theorem i_pair_crossed : isLocN (X_pair).names (Str.ofString "crossed") = true := rfl
@[simp ↓] theorem v_pair_under {n : Nat} {own : Bool} {p : Pos} {ρ : Loc} {σ : Sto} {R : Type} {K : K2 V R} : @cE R (X_pair) (n + 1) own (.Name (Str.ofString "under") p) ρ σ K = @qv _ _ K σ (ρ.lookup (Str.ofString "under")) := rfl
@[simp] theorem i_pair_under : isLocN (X_pair).names (Str.ofString "under") = true := rfl
@[simp] theorem g_pair_zip : Cx.glob (X_pair) (Str.ofString "zip") = some (.ty "zip") := rfl
@[simp] theorem g_pair_len : Cx.glob (X_pair) (Str.ofString "len") = some (.bi "len") := rfl
noncomputable def Y_pair_0 : Cx := ⟨(X_pair).G, [(Str.ofString ".0", .local), (Str.ofString "x", .local), (Str.ofString "y", .local)], (X_pair).cap⟩
@[simp] theorem c_pair_0 : compOk (X_pair) ⟨.function, [(Str.ofString ".0", .local), (Str.ofString "x", .local), (Str.ofString "y", .local)], false, false, []⟩ = true := by kernel_rfl
@[simp ↓ high] theorem q_pair_0 {n : Nat} {σ : Sto} {tgt elt : PySem.Expr} {ifs : List PySem.Expr} {src : Src} : @ap _ _ (kComp (X_pair) n tgt elt ifs ⟨.function, [(Str.ofString ".0", .local), (Str.ofString "x", .local), (Str.ofString "y", .local)], false, false, []⟩) σ src = gd (!src.tup || isTup tgt) (@mp _ _ (Km.mk fun σ' => (V.cell σ.length, σ')) (turns src σ.length (fComp (Y_pair_0) n tgt elt ifs) src.items (σ ++ [.lst []]))) := rfl
@[simp ↓] theorem v_pair_0_x {n : Nat} {own : Bool} {p : Pos} {ρ : Loc} {σ : Sto} {R : Type} {K : K2 V R} : @cE R (Y_pair_0) (n + 1) own (.Name (Str.ofString "x") p) ρ σ K = @qv _ _ K σ (ρ.lookup (Str.ofString "x")) := rfl
@[simp] theorem i_pair_0_x : isLocN (Y_pair_0).names (Str.ofString "x") = true := rfl
@[simp ↓] theorem v_pair_0_y {n : Nat} {own : Bool} {p : Pos} {ρ : Loc} {σ : Sto} {R : Type} {K : K2 V R} : @cE R (Y_pair_0) (n + 1) own (.Name (Str.ofString "y") p) ρ σ K = @qv _ _ K σ (ρ.lookup (Str.ofString "y")) := rfl
@[simp] theorem i_pair_0_y : isLocN (Y_pair_0).names (Str.ofString "y") = true := rfl
noncomputable def Y_pair_1 : Cx := ⟨(X_pair).G, [(Str.ofString ".0", .local), (Str.ofString "x", .local)], (X_pair).cap⟩
@[simp] theorem c_pair_1 : compOk (X_pair) ⟨.function, [(Str.ofString ".0", .local), (Str.ofString "x", .local)], false, false, []⟩ = true := by kernel_rfl
@[simp ↓ high] theorem q_pair_1 {n : Nat} {σ : Sto} {tgt elt : PySem.Expr} {ifs : List PySem.Expr} {src : Src} : @ap _ _ (kComp (X_pair) n tgt elt ifs ⟨.function, [(Str.ofString ".0", .local), (Str.ofString "x", .local)], false, false, []⟩) σ src = gd (!src.tup || isTup tgt) (@mp _ _ (Km.mk fun σ' => (V.cell σ.length, σ')) (turns src σ.length (fComp (Y_pair_1) n tgt elt ifs) src.items (σ ++ [.lst []]))) := rfl
@[simp ↓] theorem v_pair_1_x {n : Nat} {own : Bool} {p : Pos} {ρ : Loc} {σ : Sto} {R : Type} {K : K2 V R} : @cE R (Y_pair_1) (n + 1) own (.Name (Str.ofString "x") p) ρ σ K = @qv _ _ K σ (ρ.lookup (Str.ofString "x")) := rfl
@[simp] theorem i_pair_1_x : isLocN (Y_pair_1).names (Str.ofString "x") = true := rfl
noncomputable def Y_pair_2 : Cx := ⟨(X_pair).G, [(Str.ofString ".0", .local), (Str.ofString "y", .local)], (X_pair).cap⟩
@[simp] theorem c_pair_2 : compOk (X_pair) ⟨.function, [(Str.ofString ".0", .local), (Str.ofString "y", .local)], false, false, []⟩ = true := by kernel_rfl
@[simp ↓ high] theorem q_pair_2 {n : Nat} {σ : Sto} {tgt elt : PySem.Expr} {ifs : List PySem.Expr} {src : Src} : @ap _ _ (kComp (X_pair) n tgt elt ifs ⟨.function, [(Str.ofString ".0", .local), (Str.ofString "y", .local)], false, false, []⟩) σ src = gd (!src.tup || isTup tgt) (@mp _ _ (Km.mk fun σ' => (V.cell σ.length, σ')) (turns src σ.length (fComp (Y_pair_2) n tgt elt ifs) src.items (σ ++ [.lst []]))) := rfl
@[simp ↓] theorem v_pair_2_y {n : Nat} {own : Bool} {p : Pos} {ρ : Loc} {σ : Sto} {R : Type} {K : K2 V R} : @cE R (Y_pair_2) (n + 1) own (.Name (Str.ofString "y") p) ρ σ K = @qv _ _ K σ (ρ.lookup (Str.ofString "y")) := rfl
@[simp] theorem i_pair_2_y : isLocN (Y_pair_2).names (Str.ofString "y") = true := rfl
noncomputable def P_pair : List V → Option V := F_pair.runP (mkG G_pair) 150
theorem rn_pair (ua ub ucatching : V) : P_pair [ua, ub, ucatching] = @cSs _ (X_pair) 150 F_pair.body [(("a" : Str), ua), (("b" : Str), ub), (("catching" : Str), ucatching)] [] kP := runP_eq F_pair (mkG G_pair) 150 [ua, ub, ucatching] [] [(("a" : Str), ua), (("b" : Str), ub), (("catching" : Str), ucatching)] rfl (by kernel_rfl) (by kernel_rfl)
@[simp] theorem plLc {elt : PySem.Expr} {gs : List Comprehension} {sc : Scope} {q : Pos} : plainE (.ListComp elt gs sc q) = true := rfl
section
variable {a b C : List String} {A B : List Bool} {n : Nat} {ρ : Loc}
theorem pair_under (z1 : min a.length b.length ≤ sizeLine) (hu : (underOf a b).length ≤ 100000) (k1 : ρ.lookup (Str.ofString "a") = some (.lst (a.map sv))) (k2 : ρ.lookup (Str.ofString "b") = some (.lst (b.map sv))) (k3 : ρ.lookup (Str.ofString "crossed") = some (.cell 0)) :
    @cSs V X_pair (n + 40) (F_pair.body.drop 2) ρ [.lst (C.map sv), .lst (A.map V.bool), .lst (B.map V.bool)] kP = some (.bool (decide (C = []) || (((underOf a b).all fun x => decide (x = "T")) || ((underOf a b).all fun x => decide (x = "H"))))) := by
  rw [bd_pair, List.drop_succ_cons, List.drop_succ_cons, List.drop_zero]
  simp [mkG, G_pair, z1, k1, k2]
  generalize hT : turns _ _ _ _ _ = T
  have h4 := turns_zip hT [.lst (C.map sv), .lst (A.map V.bool), .lst (B.map V.bool)] zv (fun p => (underF p).map sv) (a.zip b) (zip_items a b) rfl rfl (fun acc => trivial) (by simp [Cell.scal]) (fun p v h => scal_map h) (fun ⟨x, y⟩ hp acc => by
    rw [underF]
    by_cases h1 : x = "."
    · rw [if_neg (fun h => h h1)]; simp [mkG, G_pair, e_str, h1]
    · rw [if_pos h1]; simp [mkG, G_pair, e_str, h1]) (by rw [List.length_zip]; exact z1)
  rw [h4, ← List.map_filterMap, ← underOf]
  clear h4 hT
  generalize underOf a b = U at *
  have f2 : fits U.length = true := fits_of (by omega)
  have f4 : U.length ≤ sizeLine := sizeOk hu
  have f6 : mulOk 1 (U.length : Int) = true := mulOk_of (by omega)
  have q1 := e_nil (σ := [.lst (C.map sv), .lst (A.map V.bool), .lst (B.map V.bool), .lst (U.map sv)]) (k := 0) C rfl
  have q2 := e_rep (σ := [.lst (C.map sv), .lst (A.map V.bool), .lst (B.map V.bool), .lst (U.map sv)]) (k := 3) U "T" rfl
  have q3 := e_rep (σ := [.lst (C.map sv), .lst (A.map V.bool), .lst (B.map V.bool), .lst (U.map sv)]) (k := 3) U "H" rfl
  generalize decide (C = []) = d1 at *
  generalize (U.all fun x => decide (x = "T")) = d2 at *
  generalize (U.all fun x => decide (x = "H")) = d3 at *
  cases d1 with
  | true => simp [mkG, G_pair, q1, k3]
  | false => cases d2 with
    | true => simp [mkG, G_pair, q1, q2, f2, f4, f6, k3, gd1]
    | false => simp [mkG, G_pair, q1, q2, q3, f2, f4, f6, k3, gd1]
end
theorem pair_eq (a b : List String) (ct : Bool) (ha : a.length ≤ 100000) (hb : b.length ≤ 100000) (hd : ∀ x ∈ a, x.length ≤ 1) (hd' : ∀ x ∈ b, x.length ≤ 1) : P_pair [.lst (a.map sv), .lst (b.map sv), .bool ct] = some (.bool (lawPair a b ct)) := by
  have hm : min a.length b.length ≤ 100000 := Nat.le_trans (Nat.min_le_left _ _) ha
  have z1 := sizeOk hm
  have z2 := sizeOk ha
  have z3 := sizeOk hb
  have hc : (crossedOf a b).length ≤ 100000 := Nat.le_trans (Nat.le_trans (List.length_filterMap_le _ _) (by rw [List.length_zip]; exact Nat.min_le_left _ _)) ha
  have hu : (underOf a b).length ≤ 100000 := Nat.le_trans (Nat.le_trans (List.length_filterMap_le _ _) (by rw [List.length_zip]; exact Nat.min_le_left _ _)) ha
  have f1 : fits (crossedOf a b).length = true := fits_of (by omega)
  have f3 := sizeOk hc
  have f5 : mulOk 1 ((crossedOf a b).length : Int) = true := mulOk_of (by omega)
  have un := fun {ρ : Loc} {A B} => @pair_under a b (crossedOf a b) A B 108 ρ z1 hu
  have e3 : F_pair.body = F_pair.body.take 2 ++ F_pair.body.drop 2 := (List.take_append_drop 2 _).symm
  generalize F_pair.body.drop 2 = R at e3 un
  rw [bd_pair, List.take_succ_cons, List.take_succ_cons, List.take_zero, ← bd_pair] at e3
  rw [rn_pair, e3]
  simp [mkG, G_pair, z1, z2, z3]
  generalize hT : turns _ _ _ _ _ = T
  have h1 := turns_zip hT [] zv (fun p => (crossF p).map sv) (a.zip b) (zip_items a b) rfl rfl (fun acc => trivial) rfl (fun p v h => scal_map h) (fun ⟨x, y⟩ hp acc => by
    have hx := hd x (List.of_mem_zip hp).1
    have hy := hd' y (List.of_mem_zip hp).2
    have hlen : (Str.ofString x).length + (Str.ofString y).length ≤ sizeLine := by rw [ofString_len, ofString_len]; exact sizeOk (by omega)
    rw [crossF]
    by_cases h1 : x = "."
    · rw [if_neg (fun h => h.1 h1)]; simp [mkG, G_pair, e_str, h1]
    by_cases h2 : y = "."
    · rw [if_neg (fun h => h.2 h2)]; simp [mkG, G_pair, e_str, h1, h2]
    · rw [if_pos ⟨h1, h2⟩]; simp [mkG, G_pair, e_str, h1, h2, hlen, ofString_app]) (by rw [List.length_zip]; exact z1)
  rw [h1, ← List.map_filterMap, ← crossedOf, lawPair]
  clear h1 hT
  generalize crossedOf a b = C at *
  simp [mkG, G_pair, z2, z3]
  generalize hT : turns _ _ _ _ _ = T
  have h2 := turns_use hT [.lst (C.map sv)] sv (fun x => some (.bool (decide (x = "T")))) a rfl rfl rfl rfl (fun acc => trivial) (fun x hx acc => by simp [mkG, G_pair, e_str]) z2
  rw [h2, isT_all]
  clear h2 hT
  generalize (a.map fun x => decide (x = "T")) = A at *
  simp [mkG, G_pair, z2, z3]
  generalize hT : turns _ _ _ _ _ = T
  have h3 := turns_use hT [.lst (C.map sv), .lst (A.map V.bool)] sv (fun x => some (.bool (decide (x = "T")))) b rfl rfl rfl rfl (fun acc => trivial) (fun x hx acc => by simp [mkG, G_pair, e_str]) z3
  rw [h3, isT_all]
  clear h3 hT
  generalize (b.map fun x => decide (x = "T")) = B at *
  have hab := e_bss (σ := [.lst (C.map sv), .lst (A.map V.bool), .lst (B.map V.bool)]) (k := 1) (j := 2) A B rfl rfl
  have hcr := e_rep (σ := [.lst (C.map sv), .lst (A.map V.bool), .lst (B.map V.bool)]) (k := 0) C "TT" rfl
  by_cases hAB : A = B
  · rw [if_pos hAB]
    subst hAB
    cases ct with
    | false => simp [mkG, G_pair, hab]
    | true => simp [mkG, G_pair, hab, f1, f3, f5, hcr, gd1]
  · rw [if_neg hAB]
    simp [mkG, G_pair, hab, hAB]
    apply un <;> simp
end Mine
end

section
open PySem PySem.W PyProof.Rows PySem.Calls
set_option autoImplicit false
set_option maxRecDepth 100000
set_option maxHeartbeats 4000000
set_option linter.unusedSimpArgs false
set_option linter.unusedVariables false
set_option linter.defProp false
namespace Mine

theorem all_f8 (p : V → Bool) (h : ∀ t, p (f8 t) = true) (fs : List Int) : (fs.map f8).all p = true := by rw [List.all_map, List.all_eq_true]; exact fun t _ => h t
theorem in_f8k {σ : Sto} {k : Nat} (fs : List Int) (t : Int) (h : σ[k]? = some (.lst (fs.map f8))) : inV σ (f8 t) (.cell k) = some (decide (t ∈ fs)) := by
  show ((rd σ (V.cell k)).bind _) = _
  rw [rCell, h]
  show ((if (fs.map f8).all (V.pure 6) = true then _ else _ : Option V).bind _) = _
  rw [if_pos (all_f8 _ (fun _ => rfl) fs), Option.bind_some, iLst, Option.bind_some, all_f8 (V.okd 6) (fun _ => rfl) fs]
  refine congrArg some ?_
  rw [Bool.eq_iff_iff, List.any_map, decide_eq_true_eq, List.any_eq_true]
  simp only [Function.comp, eqv_pair, decide_eq_true_eq, Prod.mk.injEq, true_and]
  exact ⟨fun ⟨x, h, e⟩ => e ▸ h, fun h => ⟨t, h, rfl⟩⟩
noncomputable def rowOf (ops : List Int) (c : Cl) : List String := (letters ops c).getD []
noncomputable def told1 (ops : List Int) (cs : List Cl) (fs : List Int) : List Int := cs.foldl (fun fs c => if letters ops c = none then addF fs c.t0 else fs) fs
noncomputable def told2 (ops : List Int) (c : Cl) (ds : List Cl) (fs : List Int) : List Int := ds.foldl (fun fs d => if lawPair (rowOf ops c) (rowOf ops d) (decide (c.sort < 2) && decide (d.sort < 2)) then fs else addF fs c.t0) fs
noncomputable def told3 (ops : List Int) : List Cl → List Int → List Int
  | [], fs => fs
  | c :: cs, fs => told3 ops cs (told2 ops c cs fs)
noncomputable def toldF (ops : List Int) (cs : List Cl) : List Int :=
  let fs := told1 ops cs []
  if fs = [] then told3 ops cs [] else fs
theorem rd_ints {σ : Sto} (l : List Int) : rd σ (.lst (l.map V.int)) = some (.lst (l.map V.int)) := by
  rw [rLst, if_pos]; exact pure_ints l 5
theorem rd_svs {σ : Sto} (l : List String) : rd σ (.lst (l.map sv)) = some (.lst (l.map sv)) := by
  rw [rLst, if_pos]; exact pure_sv l 5

noncomputable def G_told : List (Str × GV) := [("_law_letters", .fnP 211 P_letters), ("enumerate", .ty "enumerate"), ("range", .ty "range"), ("len", .bi "len"), ("_law_pair", .fnP 216 P_pair)]
noncomputable def X_told (uops : V) : Cx := ⟨mkG G_told, F_told.names, [(("ops" : Str), uops)]⟩
noncomputable def xn_told (uops : V) := @id ((X_told uops).names = [(_, _), (_, _), (_, _), (_, _), (_, _), (_, _), (_, _), (_, _), (_, _), (_, _), (_, _), (_, _)]) nm_told
@[simp ↓] theorem v_told_ops {uops : V} {n : Nat} {own : Bool} {p : Pos} {ρ : Loc} {σ : Sto} {R : Type} {K : K2 V R} : @cE R (X_told uops) (n + 1) own (.Name (Str.ofString "ops") p) ρ σ K = @ap _ _ K σ (uops) := rfl
@[simp] theorem l_told_ops {uops : V} : (X_told uops).names.lookup (Str.ofString "ops") = some .cell := rfl
@[simp ↓] theorem v_told_clauses {uops : V} {n : Nat} {own : Bool} {p : Pos} {ρ : Loc} {σ : Sto} {R : Type} {K : K2 V R} : @cE R (X_told uops) (n + 1) own (.Name (Str.ofString "clauses") p) ρ σ K = @qv _ _ K σ (ρ.lookup (Str.ofString "clauses")) := rfl
@[simp ↓] theorem v_told_rows {uops : V} {n : Nat} {own : Bool} {p : Pos} {ρ : Loc} {σ : Sto} {R : Type} {K : K2 V R} : @cE R (X_told uops) (n + 1) own (.Name (Str.ofString "rows") p) ρ σ K = @qv _ _ K σ (ρ.lookup (Str.ofString "rows")) := rfl
@[simp] theorem i_told_rows {uops : V} : isLocN (X_told uops).names (Str.ofString "rows") = true := rfl
@[simp ↓] theorem v_told_answer {uops : V} {n : Nat} {own : Bool} {p : Pos} {ρ : Loc} {σ : Sto} {R : Type} {K : K2 V R} : @cE R (X_told uops) (n + 1) own (.Name (Str.ofString "answer") p) ρ σ K = @qv _ _ K σ (ρ.lookup (Str.ofString "answer")) := rfl
@[simp] theorem i_told_answer {uops : V} : isLocN (X_told uops).names (Str.ofString "answer") = true := rfl
@[simp ↓] theorem v_told_c {uops : V} {n : Nat} {own : Bool} {p : Pos} {ρ : Loc} {σ : Sto} {R : Type} {K : K2 V R} : @cE R (X_told uops) (n + 1) own (.Name (Str.ofString "c") p) ρ σ K = @qv _ _ K σ (ρ.lookup (Str.ofString "c")) := rfl
@[simp] theorem i_told_c {uops : V} : isLocN (X_told uops).names (Str.ofString "c") = true := rfl
@[simp ↓] theorem v_told_row {uops : V} {n : Nat} {own : Bool} {p : Pos} {ρ : Loc} {σ : Sto} {R : Type} {K : K2 V R} : @cE R (X_told uops) (n + 1) own (.Name (Str.ofString "row") p) ρ σ K = @qv _ _ K σ (ρ.lookup (Str.ofString "row")) := rfl
@[simp] theorem i_told_row {uops : V} : isLocN (X_told uops).names (Str.ofString "row") = true := rfl
@[simp ↓] theorem v_told_d {uops : V} {n : Nat} {own : Bool} {p : Pos} {ρ : Loc} {σ : Sto} {R : Type} {K : K2 V R} : @cE R (X_told uops) (n + 1) own (.Name (Str.ofString "d") p) ρ σ K = @qv _ _ K σ (ρ.lookup (Str.ofString "d")) := rfl
@[simp] theorem i_told_d {uops : V} : isLocN (X_told uops).names (Str.ofString "d") = true := rfl
@[simp ↓] theorem v_told_good {uops : V} {n : Nat} {own : Bool} {p : Pos} {ρ : Loc} {σ : Sto} {R : Type} {K : K2 V R} : @cE R (X_told uops) (n + 1) own (.Name (Str.ofString "good") p) ρ σ K = @qv _ _ K σ (ρ.lookup (Str.ofString "good")) := rfl
@[simp] theorem i_told_good {uops : V} : isLocN (X_told uops).names (Str.ofString "good") = true := rfl
@[simp] theorem g_told_enumerate {uops : V} : Cx.glob (X_told uops) (Str.ofString "enumerate") = some (.ty "enumerate") := rfl
@[simp] theorem g_told_range {uops : V} : Cx.glob (X_told uops) (Str.ofString "range") = some (.ty "range") := rfl
@[simp] theorem g_told_len {uops : V} : Cx.glob (X_told uops) (Str.ofString "len") = some (.bi "len") := rfl
@[simp] theorem g_told_law_pair {uops : V} : Cx.glob (X_told uops) (Str.ofString "_law_pair") = some (.fnP 216 P_pair) := rfl
noncomputable def Y_told_0 (uops : V) : Cx := ⟨(X_told uops).G, [(Str.ofString ".0", .local), (Str.ofString "clause", .local), (Str.ofString "_law_letters", .globalImplicit), (Str.ofString "ops", .free)], (X_told uops).cap⟩
@[simp] theorem c_told_0 {uops : V} : compOk (X_told uops) ⟨.function, [(Str.ofString ".0", .local), (Str.ofString "clause", .local), (Str.ofString "_law_letters", .globalImplicit), (Str.ofString "ops", .free)], false, false, []⟩ = true := by kernel_rfl
@[simp ↓ high] theorem q_told_0 {uops : V} {n : Nat} {σ : Sto} {tgt elt : PySem.Expr} {ifs : List PySem.Expr} {src : Src} : @ap _ _ (kComp (X_told uops) n tgt elt ifs ⟨.function, [(Str.ofString ".0", .local), (Str.ofString "clause", .local), (Str.ofString "_law_letters", .globalImplicit), (Str.ofString "ops", .free)], false, false, []⟩) σ src = gd (!src.tup || isTup tgt) (@mp _ _ (Km.mk fun σ' => (V.cell σ.length, σ')) (turns src σ.length (fComp (Y_told_0 uops) n tgt elt ifs) src.items (σ ++ [.lst []]))) := rfl
@[simp ↓] theorem v_told_0_clause {uops : V} {n : Nat} {own : Bool} {p : Pos} {ρ : Loc} {σ : Sto} {R : Type} {K : K2 V R} : @cE R (Y_told_0 uops) (n + 1) own (.Name (Str.ofString "clause") p) ρ σ K = @qv _ _ K σ (ρ.lookup (Str.ofString "clause")) := rfl
@[simp] theorem i_told_0_clause {uops : V} : isLocN (Y_told_0 uops).names (Str.ofString "clause") = true := rfl
@[simp] theorem g_told_0_law_letters {uops : V} : Cx.glob (Y_told_0 uops) (Str.ofString "_law_letters") = some (.fnP 211 P_letters) := rfl
@[simp ↓] theorem v_told_0_ops {uops : V} {n : Nat} {own : Bool} {p : Pos} {ρ : Loc} {σ : Sto} {R : Type} {K : K2 V R} : @cE R (Y_told_0 uops) (n + 1) own (.Name (Str.ofString "ops") p) ρ σ K = @ap _ _ K σ (uops) := rfl
noncomputable def P_told : List V → Option V := F_told.runP (mkG G_told) 150
theorem rn_told (uops uclauses : V) : P_told [uops, uclauses] = @cSs _ (X_told uops) 150 F_told.body [(("clauses" : Str), uclauses)] [] kP := runP_eq F_told (mkG G_told) 150 [uops, uclauses] [(("ops" : Str), uops)] [(("clauses" : Str), uclauses)] rfl (by kernel_rfl) (by kernel_rfl)
noncomputable abbrev lvO (ops : List Int) (c : Cl) : V := lv (letters ops c)
noncomputable abbrev rowsV (ops : List Int) (cs : List Cl) : List V := cs.map (lvO ops)
section
variable {ops : List Int} {uops : V} {cs : List Cl} {n : Nat} {ρ : Loc} {X : Option (Fl × Loc × Sto)}
theorem told_a (hc : cs.length ≤ 1000) (hX : evS (X_told uops) (n + 30) S_told_2 ρ [.lst (rowsV ops cs), .lst []] = X)
    (k1 : ρ.lookup (Str.ofString "rows") = some (.cell 0)) (k2 : ρ.lookup (Str.ofString "answer") = some (.cell 1)) (k3 : ρ.lookup (Str.ofString "clauses") = some (.lst (cs.map Cl.v))) :
    ∃ ρ', X = some (.next, ρ', [.lst (rowsV ops cs), .lst ((told1 ops cs []).map f8)]) ∧ Kp [Str.ofString "c", Str.ofString "row"] ρ ρ' := by
  rw [bs_told_2] at hX
  simp [mkG, G_told, k1] at hX
  obtain ⟨ρ', e, _, k, _⟩ := loop_fold (fun p : Int × Cl => .tup [.int p.1, lvO ops p.2]) (fun fs => [.lst (rowsV ops cs), .lst (fs.map f8)]) (fun fs p => if letters ops p.2 = none then addF fs p.2.t0 else fs) [Str.ofString "c", Str.ofString "row"]
    (fun as fs => (∀ p ∈ as, p ∈ enumL (0 : Nat) cs) ∧ fs.length + as.length ≤ 1000) (fun _ _ => True) (b := []) hX (enumV_map (lvO ops) cs 0) (by exact fun _ => ⟨_, rfl, rfl⟩) ⟨fun _ h => h, by rw [List.length_nil, Nat.zero_add, enumL_len]; exact hc⟩ trivial fun ⟨pi, c⟩ as fs ρ' ⟨hm, hl⟩ k _ => by
      obtain ⟨j, hj, hd⟩ := enumL_mem (hm _ List.mem_cons_self)
      rw [Nat.zero_add] at hj
      obtain rfl : pi = j := hj
      have hm' : ∀ q ∈ as, q ∈ enumL (0 : Nat) cs := fun q h => hm q (List.mem_cons_of_mem _ h)
      have k1 := k.get k1 (by kernel_rfl)
      have k2 := k.get k2 (by kernel_rfl)
      have k3 := k.get k3 (by kernel_rfl)
      have hd : (cs.map Cl.v)[j]? = some c.v := by rw [List.getElem?_map, hd]; rfl
      have hi := (List.getElem?_eq_some_iff.mp hd).1
      rw [List.length_map] at hi
      rw [List.length_cons] at hl
      have g8 : idx (j : Int) = true := idx_of (Int.natCast_nonneg _) (by lia)
      have z : fs.length + 1 ≤ sizeLine := sizeOk (by lia)
      have hin := in_f8k (σ := [.lst (rowsV ops cs), .lst (fs.map f8)]) (k := 1) fs c.t0 rfl
      rw [bb_told_2]
      dsimp only [lvO]
      have ρk : Kp [Str.ofString "c", Str.ofString "row"] ρ (lset (lset ρ' (Str.ofString "c") (.int j)) (Str.ofString "row") (lvO ops c)) := (k.set (by kernel_rfl)).set (by kernel_rfl)
      rw [lvO] at ρk
      cases hL : letters ops c with
      | none =>
        rw [if_pos rfl, addF]
        rw [hL] at ρk
        by_cases hm : c.t0 ∈ fs
        · rw [if_pos hm]
          exact ⟨⟨hm', by lia⟩, .on _ (by simp [mkG, G_told, lv, k1, k2, k3, g8, hd, hin, hm]) ⟨ρk, trivial⟩ rfl⟩
        · rw [if_neg hm]
          exact ⟨⟨hm', by rw [List.length_append]; show _ + 1 + _ ≤ _; lia⟩, .on _ (by simp [mkG, G_told, lv, k1, k2, k3, g8, hd, hin, hm, z]) ⟨ρk, trivial⟩ rfl⟩
      | some row =>
        rw [if_neg (by simp)]
        rw [hL] at ρk
        exact ⟨⟨hm', by lia⟩, .on _ (by simp [mkG, G_told, lv]) ⟨ρk, trivial⟩ rfl⟩
  rw [foldl_enumL (fun fs c => if letters ops c = none then addF fs c.t0 else fs)] at e
  exact ⟨ρ', e, k⟩
/-- the rows are there, and of letters -/
noncomputable def RowsOk (ops : List Int) (cs : List Cl) : Prop := ∀ c ∈ cs, ∃ row, letters ops c = some row ∧ row.length ≤ 100000 ∧ ∀ x ∈ row, x.length ≤ 1
noncomputable def st2 (ops : List Int) (c : Cl) (fs : List Int) (d : Cl) : List Int := if lawPair (rowOf ops c) (rowOf ops d) (decide (c.sort < 2) && decide (d.sort < 2)) then fs else addF fs c.t0
theorem told_b {i : Nat} {c : Cl} {fs : List Int} (hc : cs.length ≤ 1000) (hrows : RowsOk ops cs) (hX : evS (X_told uops) (n + 30) S_told_40 ρ [.lst (rowsV ops cs), .lst (fs.map f8)] = X)
    (hi : cs[i]? = some c) (hfs : fs.length ≤ 1000)
    (k1 : ρ.lookup (Str.ofString "rows") = some (.cell 0)) (k2 : ρ.lookup (Str.ofString "answer") = some (.cell 1)) (k3 : ρ.lookup (Str.ofString "clauses") = some (.lst (cs.map Cl.v))) (k4 : ρ.lookup (Str.ofString "c") = some (.int i)) (k5 : ρ.lookup (Str.ofString "row") = some (lvO ops c)) :
    ∃ ρ', X = some (.next, ρ', [.lst (rowsV ops cs), .lst ((told2 ops c (cs.drop (i + 1)) fs).map f8)]) ∧ (told2 ops c (cs.drop (i + 1)) fs).length ≤ fs.length + 1 ∧ Kp [Str.ofString "d", Str.ofString "good"] ρ ρ' := by
  have hi' := (List.getElem?_eq_some_iff.mp hi).1
  have s2 : fits cs.length = true := fits_of (Nat.le_trans hc (by decide))
  have g1 : small ((i : Int) + 1) = true := small_of (by lia) (by lia)
  have g2 : small (cs.length : Int) = true := small_of (by lia) (by lia)
  have gi : idx (i : Int) = true := idx_of (Int.natCast_nonneg _) (by lia)
  obtain ⟨row, hL, hl1, hl2⟩ := hrows c (List.mem_of_getElem? hi)
  have hro : rowOf ops c = row := by rw [rowOf, hL]; rfl
  have hiv : (cs.map Cl.v)[i]? = some c.v := by rw [List.getElem?_map, hi]; rfl
  rw [lvO, hL, lv] at k5
  rw [bs_told_40] at hX
  simp [mkG, G_told, k1, k4, s2, g1, g2] at hX
  have hl : ((cs.length : Int) - ((i : Int) + 1)).toNat = (cs.drop (i + 1)).length := (Int.toNat_sub cs.length (i + 1)).trans List.length_drop.symm
  obtain ⟨ρ', e, ⟨_, q⟩, k, _⟩ := loop_fold (fun p : Int × Cl => .int p.1) (fun gs => [.lst (rowsV ops cs), .lst (gs.map f8)]) (fun gs p => st2 ops c gs p.2) [Str.ofString "d", Str.ofString "good"]
    (fun as gs => (∀ p ∈ as, p ∈ enumL (i + 1 : Nat) (cs.drop (i + 1))) ∧ Inv2 fs c.t0 gs) (fun _ _ => True) (b := fs) hX (by rw [hl]; exact rangeV_enum _ _) (fun _ => trivial) ⟨fun _ h => h, Nat.le_succ _, fun h => absurd rfl h⟩ trivial
    fun ⟨pi, d⟩ as gs ρ' ⟨hm, hg⟩ k _ => by
      obtain ⟨m, hj, hd⟩ := enumL_mem (hm _ List.mem_cons_self)
      rw [List.getElem?_drop] at hd
      generalize i + 1 + m = j at hj hd
      obtain rfl : pi = j := hj
      dsimp only at hd
      have g8 : idx (j : Int) = true := idx_of (Int.natCast_nonneg _) (by have := (List.getElem?_eq_some_iff.mp hd).1; lia)
      have hm' : ∀ q ∈ as, q ∈ enumL (i + 1 : Nat) (cs.drop (i + 1)) := fun q h => hm q (List.mem_cons_of_mem _ h)
      have k1 := k.get k1 (by kernel_rfl)
      have k2 := k.get k2 (by kernel_rfl)
      have k3 := k.get k3 (by kernel_rfl)
      have k4 := k.get k4 (by kernel_rfl)
      have k5 := k.get k5 (by kernel_rfl)
      obtain ⟨row', hL', hl1', hl2'⟩ := hrows d (List.mem_of_getElem? hd)
      have hp := pair_eq row row' (decide (c.sort < 2) && decide (d.sort < 2)) hl1 hl1' hl2 hl2'
      have hro' : rowOf ops d = row' := by rw [rowOf, hL']; rfl
      have hjv : (cs.map Cl.v)[j]? = some d.v := by rw [List.getElem?_map, hd]; rfl
      have hlv : (rowsV ops cs)[j]? = some (.lst (row'.map sv)) := by rw [List.getElem?_map, hd]; exact congrArg (fun o => some (lv o)) hL'
      have z : gs.length + 1 ≤ sizeLine := sizeOk (by have := hg.1; lia)
      have hin := in_f8k (σ := [.lst (rowsV ops cs), .lst (gs.map f8)]) (k := 1) gs c.t0 rfl
      have ρk : ∀ b : Bool, Kp [Str.ofString "d", Str.ofString "good"] ρ (lset (lset ρ' (Str.ofString "d") (.int j)) (Str.ofString "good") (.bool b)) := fun b => (k.set (by kernel_rfl)).set (by kernel_rfl)
      rw [st2, hro, hro']
      generalize lawPair row row' (decide (c.sort < 2) && decide (d.sort < 2)) = b at *
      have e0 : fFor (X_told uops) (n + 29) (.Name (Str.ofString "d") ⟨241, 12, 241, 13⟩) B_told_40 (.int j) ρ' [.lst (rowsV ops cs), .lst (gs.map f8)] = @cSs (Fl × Loc × Sto) (X_told uops) (n + 28) (B_told_40.drop 1) (lset (lset ρ' (Str.ofString "d") (.int j)) (Str.ofString "good") (.bool b)) [.lst (rowsV ops cs), .lst (gs.map f8)] kFl := by
        rw [bb_told_40, List.drop_succ_cons, List.drop_zero]
        simp [mkG, G_told, k1, k2, k3, k4, k5, g8, gi, hiv, hjv, hlv]
        rw [mAndB (b := decide (d.sort < 2)) (fun R K => by simp [mkG, G_told, k3, g8, hjv])]
        simp [mkG, G_told, rd_svs, hp]
      rw [bb_told_40, List.drop_succ_cons, List.drop_zero] at e0
      cases b with
      | true => exact ⟨⟨hm', hg⟩, .on _ (e0.trans (by simp [mkG, G_told])) ⟨ρk true, trivial⟩ rfl⟩
      | false =>
        rw [if_neg Bool.false_ne_true]
        have hg := hg.add
        by_cases hm : c.t0 ∈ gs
        · rw [addF, if_pos hm] at hg ⊢
          exact ⟨⟨hm', hg⟩, .on _ (e0.trans (by simp [mkG, G_told, k2, k3, k4, gi, hiv, hin, hm])) ⟨ρk false, trivial⟩ rfl⟩
        · rw [addF, if_neg hm] at hg ⊢
          exact ⟨⟨hm', hg⟩, .on _ (e0.trans (by simp [mkG, G_told, k2, k3, k4, gi, hiv, hin, hm, z])) ⟨ρk false, trivial⟩ rfl⟩
  rw [foldl_enumL (st2 ops c)] at e q
  exact ⟨ρ', e, q.1, k⟩
theorem fill_mem (l : String) (hl : l.length ≤ 1) (m : Nat) : ∀ (i : Nat) (row r : List String), (∀ x ∈ row, x.length ≤ 1) → fill l i m row = some r → ∀ x ∈ r, x.length ≤ 1 := by
  induction m with
  | zero => intro i row r h e; cases e; exact h
  | succ m ih =>
    intro i row r h e
    rw [fill] at e
    exact iteK e fun _ e => ih _ _ _ (fun x hx => (List.mem_or_eq_of_mem_set hx).elim (h x) fun q => q ▸ hl) e
theorem fillAll_mem (n : Nat) (sp : List (String × Int × Int)) : ∀ (row r : List String), (∀ p ∈ sp, p.1.length ≤ 1) → (∀ x ∈ row, x.length ≤ 1) → fillAll n sp row = some r → r.length = row.length ∧ ∀ x ∈ r, x.length ≤ 1 := by
  induction sp with
  | nil => intro row r _ h e; cases e; exact ⟨rfl, h⟩
  | cons p sp ih =>
    intro row r hp h e
    rw [fillAll] at e
    split at e
    · cases e
    · exact bindK e fun r1 e1 e2 => (ih r1 r (fun p h => hp p (List.mem_cons_of_mem _ h)) (fill_mem _ (hp _ List.mem_cons_self) _ _ _ _ h e1) e2).imp (fun a => a.trans (fill_len _ _ _ _ _ e1)) id
theorem letters_ok (ops : List Int) (c : Cl) (row : List String) (h : letters ops c = some row) : row.length = ops.length ∧ ∀ x ∈ row, x.length ≤ 1 := by
  unfold letters at h
  split at h
  · simp only [Option.bind_eq_some_iff] at h
    obtain ⟨r, h1, h2⟩ := h
    split at h2
    · cases h2
    · cases h2
      obtain ⟨a, b⟩ := fillAll_mem ops.length (spansOf c) _ row (by
        intro p hp
        unfold spansOf at hp
        rcases List.mem_append.mp hp with hp | hp
        · simp only [List.mem_cons, List.not_mem_nil, or_false] at hp
          rcases hp with rfl | rfl
          · show "T".length ≤ 1; decide
          · show "H".length ≤ 1; decide
        · split at hp
          · rw [List.mem_singleton] at hp; subst hp; show "F".length ≤ 1; decide
          · cases hp) (by intro x hx; rw [List.eq_of_mem_replicate hx]; decide) h1
      exact ⟨a.trans (by simp), b⟩
  · cases h
theorem told1_none (cs : List Cl) : ∀ fs : List Int, told1 ops cs fs = [] → fs = [] ∧ ∀ c ∈ cs, letters ops c ≠ none := by
  induction cs with
  | nil => exact fun fs h => ⟨h, fun _ h => by cases h⟩
  | cons c cs ih =>
    intro fs h
    obtain ⟨h1, h2⟩ := ih _ h
    dsimp only at h1
    by_cases hn : letters ops c = none
    · rw [if_pos hn, addF] at h1
      split at h1
      · rename_i hm; rw [h1] at hm; cases hm
      · exact absurd h1 (List.append_ne_nil_of_right_ne_nil _ (List.cons_ne_nil _ _))
    · rw [if_neg hn] at h1
      exact ⟨h1, fun d hd => (List.mem_cons.mp hd).elim (fun e => e ▸ hn) (h2 d)⟩
theorem told3_fold (cs ds : List Cl) : ∀ (i : Nat) (fs : List Int), cs.drop i = ds → (enumL i ds).foldl (fun fs p => told2 ops p.2 (cs.drop (p.1.toNat + 1)) fs) fs = told3 ops ds fs := by
  induction ds with
  | nil => exact fun _ _ _ => rfl
  | cons d ds ih =>
    intro i fs h
    have h' : cs.drop (i + 1) = ds := by rw [← List.tail_drop, h]; rfl
    exact (congrArg (fun l => (enumL (i + 1 : Nat) ds).foldl (fun fs p => told2 ops p.2 (cs.drop (p.1.toNat + 1)) fs) (told2 ops d l fs)) h').trans (ih (i + 1) _ h')
theorem told_c (hc : cs.length ≤ 1000) (hrows : RowsOk ops cs) (hX : evS (X_told uops) (n + 40) S_told_4 ρ [.lst (rowsV ops cs), .lst []] = X)
    (k1 : ρ.lookup (Str.ofString "rows") = some (.cell 0)) (k2 : ρ.lookup (Str.ofString "answer") = some (.cell 1)) (k3 : ρ.lookup (Str.ofString "clauses") = some (.lst (cs.map Cl.v))) :
    ∃ ρ', X = some (.next, ρ', [.lst (rowsV ops cs), .lst ((told3 ops cs []).map f8)]) ∧ ρ'.lookup (Str.ofString "answer") = some (.cell 1) := by
  rw [bs_told_4] at hX
  simp [mkG, G_told, k1] at hX
  obtain ⟨ρ', e, _, k, _⟩ := loop_fold (fun p : Int × Cl => .tup [.int p.1, lvO ops p.2]) (fun fs => [.lst (rowsV ops cs), .lst (fs.map f8)]) (fun fs p => told2 ops p.2 (cs.drop (p.1.toNat + 1)) fs) [Str.ofString "c", Str.ofString "row", Str.ofString "d", Str.ofString "good"]
    (fun as fs => (∀ p ∈ as, p ∈ enumL (0 : Nat) cs) ∧ fs.length + as.length ≤ 1000) (fun _ _ => True) (b := []) hX (enumV_map (lvO ops) cs 0) (by exact fun _ => ⟨_, rfl, rfl⟩) ⟨fun _ h => h, by rw [List.length_nil, Nat.zero_add, enumL_len]; exact hc⟩ trivial fun ⟨pi, c⟩ as fs ρ' ⟨hm, hl⟩ k _ => by
      obtain ⟨j, hj, hd⟩ := enumL_mem (hm _ List.mem_cons_self)
      rw [Nat.zero_add] at hj
      obtain rfl : pi = j := hj
      dsimp only at hd
      have k1 := k.get k1 (by kernel_rfl)
      have k2 := k.get k2 (by kernel_rfl)
      have k3 := k.get k3 (by kernel_rfl)
      rw [List.length_cons] at hl
      obtain ⟨Y, hY⟩ : ∃ Y, evS (X_told uops) (n + 38) S_told_40 (lset (lset ρ' (Str.ofString "c") (.int j)) (Str.ofString "row") (lvO ops c)) [.lst (rowsV ops cs), .lst (fs.map f8)] = Y := ⟨_, rfl⟩
      obtain ⟨ρ3, rfl, hl', k4⟩ := told_b (n := n + 8) hc hrows hY hd (by lia) (by simp [k1]) (by simp [k2]) (by simp [k3]) (by simp) (by simp)
      exact ⟨⟨fun q h => hm q (List.mem_cons_of_mem _ h), by show (told2 ops c (cs.drop (j + 1)) fs).length + _ ≤ _; lia⟩, .on ρ3 (by rw [bb_told_4]; simp [mkG, G_told, hY]) ⟨((k.set (by kernel_rfl)).set (by kernel_rfl)).trans (k4.sub (by kernel_rfl)), trivial⟩ rfl⟩
  have f3 : (enumL 0 cs).foldl (fun fs p => told2 ops p.2 (cs.drop (p.1.toNat + 1)) fs) [] = told3 ops cs [] := told3_fold cs cs 0 [] rfl
  rw [f3] at e
  exact ⟨ρ', e, k.get k2 (by kernel_rfl)⟩
end
theorem e_f8nil {σ : Sto} {k : Nat} (fs : List Int) (h : σ[k]? = some (.lst (fs.map f8))) : eqV σ (.cell k) (.lst []) = some (decide (fs = [])) := by
  rw [eqV, rCell, h]
  show ((if (fs.map f8).all (V.pure 6) = true then _ else _ : Option V).bind _) = _
  rw [if_pos (all_f8 _ (fun _ => rfl) fs)]
  show (if ((fs.map f8).all (V.okd 5) && true) = true then some (PyData.eqv (V.lst (fs.map f8)).py (V.lst []).py) else none) = _
  rw [if_pos (by rw [all_f8 _ (fun _ => rfl) fs]; rfl), V.py, V.py, PyData.eqv]
  cases fs <;> rfl
theorem told_eq (ops : List Int) (cs : List Cl) (hz : ops.length ≤ 100000) (hc : cs.length ≤ 1000) : P_told [.lst (ops.map .int), .lst (cs.map Cl.v)] = some (.lst ((toldF ops cs).map f8)) := by
  have z0 : 0 ≤ sizeLine := Nat.zero_le _
  have s1 : cs.length ≤ sizeLine := sizeOk (by lia)
  rw [rn_told, bd_told]
  simp [mkG, G_told, s1, z0]
  generalize hT : turns _ _ _ _ _ = T
  have h1 := turns_use hT [] Cl.v (fun c => some (lvO ops c)) cs rfl rfl rfl rfl (fun acc => trivial) (fun c hx acc => by simp [mkG, G_told, rd_ints, rd_clv, letters_eq ops c hz]) s1
  rw [h1, show cs.filterMap (fun c => some (lvO ops c)) = rowsV ops cs from congrFun List.filterMap_eq_map cs]
  clear h1 hT
  simp [mkG, G_told, z0, -List.map_map]
  generalize hX : evS _ _ S_told_2 _ _ = X
  obtain ⟨ρ', rfl, k⟩ := told_a hc hX (by simp) (by simp) (by simp)
  clear hX
  have k1 : ρ'.lookup (Str.ofString "rows") = some (.cell 0) := k.get (by simp) (by kernel_rfl)
  have k2 : ρ'.lookup (Str.ofString "answer") = some (.cell 1) := k.get (by simp) (by kernel_rfl)
  have k3 : ρ'.lookup (Str.ofString "clauses") = some (.lst (cs.map Cl.v)) := k.get (by simp) (by kernel_rfl)
  have he := e_f8nil (σ := [.lst (rowsV ops cs), .lst ((told1 ops cs []).map f8)]) (k := 1) (told1 ops cs []) rfl
  rw [toldF]
  by_cases h0 : told1 ops cs [] = []
  · rw [h0] at he ⊢
    rw [if_pos rfl]
    rw [List.map_nil] at he
    have hrows : RowsOk ops cs := fun c hcm => by
      cases hL : letters ops c with
      | none => exact absurd hL ((told1_none cs [] h0).2 c hcm)
      | some row => exact ⟨row, rfl, (letters_ok ops c row hL).1 ▸ hz, (letters_ok ops c row hL).2⟩
    generalize hR : rowsV ops cs = R at *
    simp [mkG, G_told, k1, k2, k3, he, rLst]
    generalize hX : evS _ _ S_told_4 _ _ = X
    subst hR
    obtain ⟨ρ2, rfl, e1⟩ := told_c hc hrows hX k1 k2 k3
    simp [mkG, G_told, e1, all_f8]
  · rw [if_neg h0]
    simp [mkG, G_told, k2, he, h0, all_f8]
end Mine
end

section
open PySem PySem.W PyProof.Rows PySem.Calls
set_option autoImplicit false
set_option maxRecDepth 100000
set_option maxHeartbeats 4000000
set_option linter.unusedSimpArgs false
set_option linter.unusedVariables false
set_option linter.defProp false
namespace Mine

theorem mv_ok : ∀ k : Nat, k < 4 → ∃ m, ([V.int (-2), V.int (-1), V.int 1, V.int 2] : List V)[k]? = some (.int m)
  | 0, _ => ⟨_, rfl⟩
  | 1, _ => ⟨_, rfl⟩
  | 2, _ => ⟨_, rfl⟩
  | 3, _ => ⟨_, rfl⟩
theorem frz_two {σ : Sto} {i j : Nat} {a b : List V} (h1 : σ[i]? = some (.lst a)) (h2 : σ[j]? = some (.lst b)) (t1 : a.all (V.tame 4) = true) (t2 : b.all (V.tame 4) = true) : frz σ (.tup [.cell i, .cell j]) = some (.tup [.lst a, .lst b]) := by
  simp [fTup, frs0, frs1, f1Cell, h1, h2, t1, t2]
theorem tame_ints (l : List Int) (n : Nat) : (l.map V.int).all (V.tame n) = true := by
  rw [List.all_map, List.all_eq_true]; intro x _; cases n <;> rfl
theorem tame_cls (l : List Cl) : (l.map Cl.v).all (V.tame 4) = true := by
  rw [List.all_map, List.all_eq_true]; exact fun _ _ => rfl

/-- one item of a row, read and written at a number -/
theorem row_at (s t0 t1 h0 h1 ex : Int) : ∀ k : Nat, k < 5 → ∃ old, ([.int s, .int t0, .int t1, .int h0, .int h1, .int ex] : List V)[k + 1]? = some (.int old) ∧ ∀ z, ∃ s' t0' t1' h0' h1' ex', ([.int s, .int t0, .int t1, .int h0, .int h1, .int ex] : List V).set (k + 1) (.int z) = [.int s', .int t0', .int t1', .int h0', .int h1', .int ex']
  | 0, _ => ⟨_, rfl, fun z => ⟨_, _, _, _, _, _, rfl⟩⟩
  | 1, _ => ⟨_, rfl, fun z => ⟨_, _, _, _, _, _, rfl⟩⟩
  | 2, _ => ⟨_, rfl, fun z => ⟨_, _, _, _, _, _, rfl⟩⟩
  | 3, _ => ⟨_, rfl, fun z => ⟨_, _, _, _, _, _, rfl⟩⟩
  | 4, _ => ⟨_, rfl, fun z => ⟨_, _, _, _, _, _, rfl⟩⟩
noncomputable def G_turned : List (Str × GV) := [("len", .bi "len"), ("list", .ty "list"), ("_law_moves", .val (.tup [.int (-2), .int (-1), .int 1, .int 2])), ("tuple", .ty "tuple")]
noncomputable def X_turned : Cx := ⟨mkG G_turned, F_turned.names, []⟩
noncomputable def xn_turned := @id ((X_turned).names = [(_, _), (_, _), (_, _), (_, _), (_, _), (_, _), (_, _), (_, _), (_, _), (_, _), (_, _), (_, _)]) nm_turned
@[simp ↓] theorem v_turned_x {n : Nat} {own : Bool} {p : Pos} {ρ : Loc} {σ : Sto} {R : Type} {K : K2 V R} : @cE R (X_turned) (n + 1) own (.Name (Str.ofString "x") p) ρ σ K = @qv _ _ K σ (ρ.lookup (Str.ofString "x")) := rfl
@[simp ↓] theorem v_turned_ops {n : Nat} {own : Bool} {p : Pos} {ρ : Loc} {σ : Sto} {R : Type} {K : K2 V R} : @cE R (X_turned) (n + 1) own (.Name (Str.ofString "ops") p) ρ σ K = @qv _ _ K σ (ρ.lookup (Str.ofString "ops")) := rfl
@[simp ↓] theorem v_turned_clauses {n : Nat} {own : Bool} {p : Pos} {ρ : Loc} {σ : Sto} {R : Type} {K : K2 V R} : @cE R (X_turned) (n + 1) own (.Name (Str.ofString "clauses") p) ρ σ K = @qv _ _ K σ (ρ.lookup (Str.ofString "clauses")) := rfl
@[simp ↓] theorem v_turned_twisted_ops {n : Nat} {own : Bool} {p : Pos} {ρ : Loc} {σ : Sto} {R : Type} {K : K2 V R} : @cE R (X_turned) (n + 1) own (.Name (Str.ofString "twisted_ops") p) ρ σ K = @qv _ _ K σ (ρ.lookup (Str.ofString "twisted_ops")) := rfl
@[simp] theorem i_turned_twisted_ops : isLocN (X_turned).names (Str.ofString "twisted_ops") = true := rfl
@[simp ↓] theorem v_turned_twisted {n : Nat} {own : Bool} {p : Pos} {ρ : Loc} {σ : Sto} {R : Type} {K : K2 V R} : @cE R (X_turned) (n + 1) own (.Name (Str.ofString "twisted") p) ρ σ K = @qv _ _ K σ (ρ.lookup (Str.ofString "twisted")) := rfl
@[simp] theorem i_turned_twisted : isLocN (X_turned).names (Str.ofString "twisted") = true := rfl
@[simp ↓] theorem v_turned_c {n : Nat} {own : Bool} {p : Pos} {ρ : Loc} {σ : Sto} {R : Type} {K : K2 V R} : @cE R (X_turned) (n + 1) own (.Name (Str.ofString "c") p) ρ σ K = @qv _ _ K σ (ρ.lookup (Str.ofString "c")) := rfl
@[simp] theorem i_turned_c : isLocN (X_turned).names (Str.ofString "c") = true := rfl
@[simp ↓] theorem v_turned_y {n : Nat} {own : Bool} {p : Pos} {ρ : Loc} {σ : Sto} {R : Type} {K : K2 V R} : @cE R (X_turned) (n + 1) own (.Name (Str.ofString "y") p) ρ σ K = @qv _ _ K σ (ρ.lookup (Str.ofString "y")) := rfl
@[simp] theorem i_turned_y : isLocN (X_turned).names (Str.ofString "y") = true := rfl
@[simp ↓] theorem v_turned_row {n : Nat} {own : Bool} {p : Pos} {ρ : Loc} {σ : Sto} {R : Type} {K : K2 V R} : @cE R (X_turned) (n + 1) own (.Name (Str.ofString "row") p) ρ σ K = @qv _ _ K σ (ρ.lookup (Str.ofString "row")) := rfl
@[simp] theorem i_turned_row : isLocN (X_turned).names (Str.ofString "row") = true := rfl
@[simp] theorem g_turned_len : Cx.glob (X_turned) (Str.ofString "len") = some (.bi "len") := rfl
@[simp] theorem g_turned_list : Cx.glob (X_turned) (Str.ofString "list") = some (.ty "list") := rfl
@[simp ↓] theorem v_turned_law_moves {n : Nat} {own : Bool} {p : Pos} {ρ : Loc} {σ : Sto} {R : Type} {K : K2 V R} : @cE R (X_turned) (n + 1) own (.Name (Str.ofString "_law_moves") p) ρ σ K = @ap _ _ K σ ((.tup [.int (-2), .int (-1), .int 1, .int 2])) := rfl
@[simp] theorem g_turned_tuple : Cx.glob (X_turned) (Str.ofString "tuple") = some (.ty "tuple") := rfl
noncomputable def P_turned : List V → Option V := F_turned.runP (mkG G_turned) 150
theorem rn_turned (ux uops uclauses : V) : P_turned [ux, uops, uclauses] = @cSs _ (X_turned) 150 F_turned.body [(("x" : Str), ux), (("ops" : Str), uops), (("clauses" : Str), uclauses)] [] kP := runP_eq F_turned (mkG G_turned) 150 [ux, uops, uclauses] [] [(("x" : Str), ux), (("ops" : Str), uops), (("clauses" : Str), uclauses)] rfl (by kernel_rfl) (by kernel_rfl)
noncomputable def S_turned_5 : Stmt := stAt F_turned.body 5
noncomputable def bs_turned_5 := @id (S_turned_5 = .If _ _ _ _) rfl
noncomputable def R_turned_5 : List Stmt := F_turned.body.drop 5
noncomputable def br_turned_0 := @id (F_turned.body = _ :: _ :: _ :: _ :: _ :: R_turned_5) rfl
noncomputable def br_turned_5 := @id (R_turned_5 = [S_turned_5, _]) rfl
theorem fmod_nat (x : Int) {n : Nat} (h : 0 < n) : ∃ k : Nat, x.fmod n = k ∧ k < n := by
  obtain ⟨k, e⟩ := Int.eq_ofNat_of_zero_le (Int.fmod_nonneg_of_pos x (Int.natCast_pos.mpr h))
  exact ⟨k, e, Int.ofNat_lt.mp (e ▸ Int.fmod_lt_of_pos x (Int.natCast_pos.mpr h))⟩
section
variable {ops : List Int} {cs : List Cl} {n : Nat} {ρ : Loc} {K : Ks V} {x y : Int} {c : Nat} {cc : Cl}
noncomputable def TwK (ops : List Int) (cs : List Cl) (ρ : Loc) (K : Ks V) (X : Option V) : Prop := ∃ (ops' : List Int) (cs' : List Cl) (r : List V), ops'.length = ops.length ∧ cs'.length = cs.length ∧ X = @aps V K .next ρ [.lst (ops'.map .int), .lst (cs'.map Cl.v), .lst r]
theorem TwK.cl {X : Option V} {c : Nat} {s t0 t1 h0 h1 e : Int} (h : X = @aps V K .next ρ [.lst (ops.map .int), .lst ((cs.map Cl.v).set c (.tup [.int s, .int t0, .int t1, .int h0, .int h1, .int e])), .lst [.int s, .int t0, .int t1, .int h0, .int h1, .int e]]) : TwK ops cs ρ K X :=
  ⟨ops, cs.set c ⟨s, t0, t1, h0, h1, e⟩, _, rfl, List.length_set, h.trans (by rw [List.map_set])⟩
theorem turned_if {X : Option V} (hX : @cS V X_turned (n + 60) S_turned_5 ρ [.lst (ops.map .int), .lst (cs.map Cl.v), .lst [.int cc.sort, .int cc.t0, .int cc.t1, .int cc.h0, .int cc.h1, .int cc.extra]] K = X) (hn' : cs.length ≤ 1000) (hm : 0 < ops.length) (hm' : ops.length ≤ 100000) (hc : cs[c]? = some cc)
    (q1 : ρ.lookup (Str.ofString "x") = some (.int x)) (q2 : ρ.lookup (Str.ofString "c") = some (.int c)) (q3 : ρ.lookup (Str.ofString "y") = some (.int y)) (q4 : ρ.lookup (Str.ofString "row") = some (.cell 2)) (q5 : ρ.lookup (Str.ofString "twisted") = some (.cell 1)) (q6 : ρ.lookup (Str.ofString "twisted_ops") = some (.cell 0))
    (q7 : ρ.lookup (Str.ofString "clauses") = some (.lst (cs.map Cl.v))) (q8 : ρ.lookup (Str.ofString "ops") = some (.lst (ops.map .int))) :
    TwK ops cs ρ K X := by
  subst hX
  have hk := (List.getElem?_eq_some_iff.mp hc).1
  have hcv : (cs.map Cl.v)[c]? = some cc.v := by rw [List.getElem?_map, hc]; rfl
  have gi : idx (c : Int) = true := idx_of (Int.natCast_nonneg _) (by omega)
  have s6 : 6 ≤ sizeLine := sizeOk (by decide)
  rw [bs_turned_5]
  by_cases h1 : x.fmod 5 < 2
  · obtain ⟨mi, em, hmi⟩ := fmod_nat (y.fdiv 5) (n := 4) (by decide)
    obtain ⟨ki, ek, hki⟩ := fmod_nat y (n := 5) (by decide)
    replace em : (y.fdiv 5).fmod 4 = mi := em
    replace ek : y.fmod 5 = ki := ek
    obtain ⟨mv, hmv⟩ := mv_ok mi hmi
    have gm : idx (mi : Int) = true := idx_of (by omega) (by omega)
    have gk : idx (1 + (ki : Int)) = true := idx_of (by omega) (by omega)
    obtain ⟨s, t0, t1, h0, h1', ex⟩ := cc
    obtain ⟨old, ho, hs6⟩ := row_at s t0 t1 h0 h1' ex ki hki
    obtain ⟨s', t0', t1', h0', h1'', ex', hs7⟩ := hs6 (old + mv)
    have hk6 : 1 + (ki : Int) < 6 := by omega
    have en : (1 + (ki : Int)).toNat = ki + 1 := by omega
    refine TwK.cl (c := c) (s := s') (t0 := t0') (t1 := t1') (h0 := h0') (h1 := h1'') (e := ex') ?_
    simp [mkG, G_turned, q1, q2, q3, q4, q5, h1, em, ek, hmv, gm, gk, en, ho, hs7, hk6, gi, hk, s6, -List.map_set, -getElem?_pos, List.getElem?_cons_zero, List.getElem?_cons_succ]
  by_cases h2 : x.fmod 5 = 2
  · by_cases h3 : y.fmod 6 = 5
    · by_cases h4 : cc.sort = 1
      · refine TwK.cl (c := c) (s := cc.sort) (t0 := cc.t0) (t1 := cc.t1) (h0 := cc.h0) (h1 := cc.h1) (e := cc.extra - 2) ?_
        simp [mkG, G_turned, q1, q2, q3, q4, q5, h1, h2, h3, h4, gi, hk, s6, -List.map_set]
      · refine TwK.cl (c := c) (s := y.fmod 6) (t0 := cc.t0) (t1 := cc.t1) (h0 := cc.h0) (h1 := cc.h1) (e := cc.extra) ?_
        simp [mkG, G_turned, q1, q2, q3, q4, q5, h1, h2, h3, h4, gi, hk, s6, -List.map_set]
    · refine TwK.cl (c := c) (s := y.fmod 6) (t0 := cc.t0) (t1 := cc.t1) (h0 := cc.h0) (h1 := cc.h1) (e := cc.extra) ?_
      simp [mkG, G_turned, q1, q2, q3, q4, q5, h1, h2, h3, gi, hk, s6, -List.map_set]
  by_cases h3 : x.fmod 5 = 3
  · obtain ⟨j, ej, hj⟩ := fmod_nat y (Nat.lt_of_le_of_lt (Nat.zero_le _) hk)
    have gj : idx (j : Int) = true := idx_of (Int.natCast_nonneg _) (by omega)
    have s3 : fits cs.length = true := fits_of (by omega)
    have n0' : ¬ cs.length = 0 := by omega
    obtain ⟨ce, hce⟩ : ∃ ce, cs[j] = ce := ⟨_, rfl⟩
    have hcc : cs[c] = cc := (List.getElem?_eq_some_iff.mp hc).2
    refine ⟨ops, (cs.set c ce).set j cc, [.int cc.sort, .int cc.t0, .int cc.t1, .int cc.h0, .int cc.h1, .int cc.extra], rfl, List.length_set.trans List.length_set, ?_⟩
    rw [List.map_set, List.map_set]
    simp [mkG, G_turned, q1, q2, q3, q4, q5, q7, h1, h2, h3, gi, gj, hk, hj, s3, n0', ej, hce, hcc, -List.map_set]
  · obtain ⟨j, ej, hj⟩ := fmod_nat y hm
    have gj : idx (j : Int) = true := idx_of (Int.natCast_nonneg _) (by omega)
    have s4 : fits ops.length = true := fits_of (by omega)
    have m0' : ¬ ops.length = 0 := by omega
    have m1 : ¬ ops = [] := fun e => by rw [e] at hm; exact absurd hm (Nat.lt_irrefl 0)
    obtain ⟨o, ho⟩ : ∃ o, ops[j] = o := ⟨_, rfl⟩
    by_cases h4 : o = 65041
    · refine ⟨ops.set j 0, cs, [.int cc.sort, .int cc.t0, .int cc.t1, .int cc.h0, .int cc.h1, .int cc.extra], List.length_set, rfl, ?_⟩
      rw [List.map_set]
      simp [mkG, G_turned, q1, q2, q3, q4, q5, q6, q8, h1, h2, h3, h4, gj, s4, m0', m1, ej, hj, ho, -List.map_set]
    · refine ⟨ops.set j 65041, cs, [.int cc.sort, .int cc.t0, .int cc.t1, .int cc.h0, .int cc.h1, .int cc.extra], List.length_set, rfl, ?_⟩
      rw [List.map_set]
      simp [mkG, G_turned, q1, q2, q3, q4, q5, q6, q8, h1, h2, h3, h4, gj, s4, m0', m1, ej, hj, ho, -List.map_set]
end
theorem turned_eq (x : Int) (ops : List Int) (cs : List Cl) (hn : 0 < cs.length) (hn' : cs.length ≤ 1000) (hm : 0 < ops.length) (hm' : ops.length ≤ 100000) :
    ∃ (ops' : List Int) (cs' : List Cl), ops'.length = ops.length ∧ cs'.length = cs.length ∧ P_turned [.int x, .lst (ops.map .int), .lst (cs.map Cl.v)] = some (.tup [.lst (ops'.map .int), .lst (cs'.map Cl.v)]) := by
  have s1 : cs.length ≤ sizeLine := sizeOk (by omega)
  have s2 : ops.length ≤ sizeLine := sizeOk (by omega)
  have s3 : fits cs.length = true := fits_of (by omega)
  have s5 : divOk (cs.length : Int) = true := divOk_of (by omega) (by omega)
  have s6 : 6 ≤ sizeLine := sizeOk (by decide)
  have n0' : ¬ cs.length = 0 := by omega
  obtain ⟨c, ec, hk⟩ := fmod_nat (x.fdiv 5) hn
  obtain ⟨cc, hc⟩ : ∃ cc, cs[c]? = some cc := ⟨_, List.getElem?_eq_getElem hk⟩
  have hcv : (cs.map Cl.v)[c]? = some cc.v := by rw [List.getElem?_map, hc]; rfl
  have gi : idx (c : Int) = true := idx_of (Int.natCast_nonneg _) (by omega)
  generalize hZ : P_turned _ = Z
  rw [rn_turned, br_turned_0] at hZ
  simp [mkG, G_turned, s1, s2, s3, s5, s6, n0', gi, ec, hcv, -List.getElem?_map] at hZ
  rw [br_turned_5, ss1] at hZ
  generalize hX : @cS V X_turned _ S_turned_5 _ _ (kSeq _ _ _ _) = X at hZ
  obtain ⟨ops', cs', r, l1, l2, rfl⟩ := turned_if (n := 84) (x := x) (y := (x.fdiv 5).fdiv cs.length) hX hn' hm hm' hc (by simp) (by simp) (by simp) (by simp) (by simp) (by simp) (by simp) (by simp)
  simp [mkG, G_turned, tame_cls, tame_ints] at hZ
  exact ⟨ops', cs', l1, l2, hZ.symm⟩
end Mine
end

section
open PySem PySem.W PyProof.Rows PySem.Calls
set_option autoImplicit false
set_option maxRecDepth 100000
set_option maxHeartbeats 4000000
set_option linter.unusedSimpArgs false
set_option linter.unusedVariables false
set_option linter.defProp false
namespace Mine

/-- what the law builds -/
structure B where
  k : Nat
  ops : List Int
  paths : List (List Int)
  clauses : List Cl
  regions : List (String × Int)
  left : Int
noncomputable abbrev pathV (p : List Int) : V := .tup (p.map .int)
noncomputable abbrev regV (r : String × Int) : V := .tup [sv r.1, .int r.2]
noncomputable abbrev dictV (b : B) : List (Str × V) := [("ops", .cell 1), ("paths", .cell 2), ("clauses", .cell 3), ("regions", .cell 4), ("left", .int b.left)]
noncomputable abbrev sto (sc : List Int) (b : B) (ex : Sto) : Sto := .lst [.lst (sc.map .int), .int b.k] :: .lst (b.ops.map .int) :: .lst (b.paths.map pathV) :: .lst (b.clauses.map Cl.v) :: .lst (b.regions.map regV) :: .dct (dictV b) :: ex
structure Sz (b : B) (n : Nat) : Prop where
  k : b.k ≤ n
  ops : b.ops.length ≤ n
  paths : b.paths.length ≤ n
  clauses : b.clauses.length ≤ n
  regions : b.regions.length ≤ n

noncomputable def takeV (sc : List Int) (k : Nat) : Int := if k + 1 ≤ sc.length then sc.getD k 0 else (k : Int) + 1
noncomputable def G_take : List (Str × GV) := [("len", .bi "len")]
noncomputable def X_take : Cx := ⟨mkG G_take, F_take.names, []⟩
noncomputable def xn_take := @id ((X_take).names = [(_, _), (_, _)]) nm_take
@[simp ↓] theorem v_take_st {n : Nat} {own : Bool} {p : Pos} {ρ : Loc} {σ : Sto} {R : Type} {K : K2 V R} : @cE R (X_take) (n + 1) own (.Name (Str.ofString "st") p) ρ σ K = @qv _ _ K σ (ρ.lookup (Str.ofString "st")) := rfl
@[simp] theorem g_take_len : Cx.glob (X_take) (Str.ofString "len") = some (.bi "len") := rfl
noncomputable def E_take : List V → Sto → Option (V × Sto) := F_take.run (mkG G_take) 150
theorem rn_take (ust : V) (σ : Sto) : E_take [ust] σ = @cSs _ (X_take) 150 F_take.body [(("st" : Str), ust)] σ kE := run_eq F_take (mkG G_take) 150 [ust] σ [] [(("st" : Str), ust)] rfl (by kernel_rfl) (by kernel_rfl)
theorem take_eq (sc : List Int) (b : B) (ex : Sto) (hs : sc.length ≤ 100) (hk : b.k ≤ 100000) : E_take [.cell 0] (sto sc b ex) = some (.int (takeV sc b.k), sto sc { b with k := b.k + 1 } ex) := by
  rw [rn_take, bd_take]
  have s1 : fits sc.length = true := fits_of (by omega)
  have g : idx (b.k : Int) = true := idx_of (by omega) (by omega)
  unfold takeV
  by_cases h : b.k + 1 ≤ sc.length
  · have h' : (b.k : Int) + 1 ≤ sc.length := by omega
    have hb : b.k < sc.length := by omega
    simp [mkG, G_take, s1, h', h, g, hb]
  · have h' : ¬ (b.k : Int) + 1 ≤ sc.length := by omega
    simp [mkG, G_take, s1, h', h, g]

noncomputable def G_put : List (Str × GV) := []
noncomputable def X_put : Cx := ⟨mkG G_put, F_put.names, []⟩
noncomputable def xn_put := @id ((X_put).names = [(_, _), (_, _), (_, _)]) nm_put
@[simp ↓] theorem v_put_w {n : Nat} {own : Bool} {p : Pos} {ρ : Loc} {σ : Sto} {R : Type} {K : K2 V R} : @cE R (X_put) (n + 1) own (.Name (Str.ofString "w") p) ρ σ K = @qv _ _ K σ (ρ.lookup (Str.ofString "w")) := rfl
@[simp ↓] theorem v_put_op {n : Nat} {own : Bool} {p : Pos} {ρ : Loc} {σ : Sto} {R : Type} {K : K2 V R} : @cE R (X_put) (n + 1) own (.Name (Str.ofString "op") p) ρ σ K = @qv _ _ K σ (ρ.lookup (Str.ofString "op")) := rfl
@[simp ↓] theorem v_put_path {n : Nat} {own : Bool} {p : Pos} {ρ : Loc} {σ : Sto} {R : Type} {K : K2 V R} : @cE R (X_put) (n + 1) own (.Name (Str.ofString "path") p) ρ σ K = @qv _ _ K σ (ρ.lookup (Str.ofString "path")) := rfl
noncomputable def E_put : List V → Sto → Option (V × Sto) := F_put.run (mkG G_put) 150
theorem rn_put (uw uop upath : V) (σ : Sto) : E_put [uw, uop, upath] σ = @cSs _ (X_put) 150 F_put.body [(("w" : Str), uw), (("op" : Str), uop), (("path" : Str), upath)] σ kE := run_eq F_put (mkG G_put) 150 [uw, uop, upath] σ [] [(("w" : Str), uw), (("op" : Str), uop), (("path" : Str), upath)] rfl (by kernel_rfl) (by kernel_rfl)
theorem put_eq (sc : List Int) (b : B) (ex : Sto) (op : Int) (p : List Int) (h : Sz b 100000) : E_put [.cell 5, .int op, pathV p] (sto sc b ex) = some (.none, sto sc { b with ops := b.ops ++ [op], paths := b.paths ++ [p] } ex) := by
  rw [rn_put, bd_put]
  have z1 : b.ops.length + 1 ≤ sizeLine := by have := h.ops; rw [sizeLine_eq]; omega
  have z2 : b.paths.length + 1 ≤ sizeLine := by have := h.paths; rw [sizeLine_eq]; omega
  simp [mkG, G_put, z1, z2]

noncomputable def G_region : List (Str × GV) := [("len", .bi "len")]
noncomputable def X_region : Cx := ⟨mkG G_region, F_region.names, []⟩
noncomputable def xn_region := @id ((X_region).names = [(_, _), (_, _), (_, _), (_, _)]) nm_region
@[simp ↓] theorem v_region_w {n : Nat} {own : Bool} {p : Pos} {ρ : Loc} {σ : Sto} {R : Type} {K : K2 V R} : @cE R (X_region) (n + 1) own (.Name (Str.ofString "w") p) ρ σ K = @qv _ _ K σ (ρ.lookup (Str.ofString "w")) := rfl
@[simp ↓] theorem v_region_path {n : Nat} {own : Bool} {p : Pos} {ρ : Loc} {σ : Sto} {R : Type} {K : K2 V R} : @cE R (X_region) (n + 1) own (.Name (Str.ofString "path") p) ρ σ K = @qv _ _ K σ (ρ.lookup (Str.ofString "path")) := rfl
@[simp ↓] theorem v_region_letter {n : Nat} {own : Bool} {p : Pos} {ρ : Loc} {σ : Sto} {R : Type} {K : K2 V R} : @cE R (X_region) (n + 1) own (.Name (Str.ofString "letter") p) ρ σ K = @qv _ _ K σ (ρ.lookup (Str.ofString "letter")) := rfl
@[simp] theorem g_region_len : Cx.glob (X_region) (Str.ofString "len") = some (.bi "len") := rfl
noncomputable def E_region : List V → Sto → Option (V × Sto) := F_region.run (mkG G_region) 150
theorem rn_region (uw upath uletter : V) (σ : Sto) : E_region [uw, upath, uletter] σ = @cSs _ (X_region) 150 F_region.body [(("w" : Str), uw), (("path" : Str), upath), (("letter" : Str), uletter)] σ kE := run_eq F_region (mkG G_region) 150 [uw, upath, uletter] σ [] [(("w" : Str), uw), (("path" : Str), upath), (("letter" : Str), uletter)] rfl (by kernel_rfl) (by kernel_rfl)
theorem region_eq (sc : List Int) (b : B) (ex : Sto) (p : List Int) (l : String) (h : Sz b 100000) (hp : p.length ≤ 100) : E_region [.cell 5, pathV p, sv l] (sto sc b ex) = some (pathV (p ++ [(b.regions.length : Int)]), sto sc { b with regions := b.regions ++ [(l, (b.ops.length : Int))] } ex) := by
  rw [rn_region, bd_region]
  have z1 : b.regions.length + 1 ≤ sizeLine := by have := h.regions; rw [sizeLine_eq]; omega
  have z2 : p.length + 1 ≤ sizeLine := by rw [sizeLine_eq]; omega
  have f1 : fits b.ops.length = true := fits_of (by have := h.ops; omega)
  have f2 : fits (b.regions.length + 1) = true := fits_of (by have := h.regions; omega)
  simp [mkG, G_region, z1, z2, f1, f2]
end Mine
end

section
open PySem PySem.W PyProof.Rows PySem.Calls
set_option autoImplicit false
set_option maxRecDepth 100000
set_option maxHeartbeats 4000000
set_option linter.unusedSimpArgs false
set_option linter.unusedVariables false
set_option linter.defProp false
namespace Mine

noncomputable def opsAt (i : Int) : Int := ([0, 42, 65050, 220, 65041] : List Int).getD i.toNat 0
theorem opsAt_ok : ∀ i : Nat, i < 5 → ([V.int 0, V.int 42, V.int 65050, V.int 220, V.int 65041] : List V)[i]? = some (.int (opsAt i))
  | 0, _ => rfl
  | 1, _ => rfl
  | 2, _ => rfl
  | 3, _ => rfl
  | 4, _ => rfl
noncomputable def putB (b : B) (op : Int) (p : List Int) : B := { b with ops := b.ops ++ [op], paths := b.paths ++ [p] }
noncomputable def regB (b : B) (l : String) : B := { b with regions := b.regions ++ [(l, (b.ops.length : Int))] }
noncomputable def takeB (b : B) : B := { b with k := b.k + 1 }
noncomputable def blockB (sc : List Int) (tr : Option (B → List Int → B)) (b : B) (p : List Int) : B :=
  let x := takeV sc b.k
  let b1 := takeB b
  let b2 := if x.fmod 2 = 1 then putB b1 (opsAt ((x.fdiv 8).fmod 5)) p else b1
  let b3 := match tr with
    | some t => if (x.fdiv 2).fmod 2 = 1 ∧ 0 < b2.left then t b2 p else b2
    | none => b2
  if (x.fdiv 4).fmod 2 = 1 ∨ b3.ops.length = b.ops.length then putB b3 (opsAt ((x.fdiv 40).fmod 5)) p else b3

noncomputable def G_block (tr : List (Str × GV)) : List (Str × GV) := ("_law_take", GV.fnE 178 E_take) :: ("len", GV.bi "len") :: ("_law_put", GV.fnE 185 E_put) :: ("_law_ops", GV.val (.tup [.int 0, .int 42, .int 65050, .int 220, .int 65041])) :: tr
noncomputable def X_block (tr : List (Str × GV)) : Cx := ⟨mkG (G_block tr), F_block.names, []⟩
@[simp ↓] theorem v_block_st {tr : List (Str × GV)} {n : Nat} {own : Bool} {p : Pos} {ρ : Loc} {σ : Sto} {R : Type} {K : K2 V R} : @cE R (X_block tr) (n + 1) own (.Name (Str.ofString "st") p) ρ σ K = @qv _ _ K σ (ρ.lookup (Str.ofString "st")) := rfl
@[simp ↓] theorem v_block_w {tr : List (Str × GV)} {n : Nat} {own : Bool} {p : Pos} {ρ : Loc} {σ : Sto} {R : Type} {K : K2 V R} : @cE R (X_block tr) (n + 1) own (.Name (Str.ofString "w") p) ρ σ K = @qv _ _ K σ (ρ.lookup (Str.ofString "w")) := rfl
@[simp ↓] theorem v_block_path {tr : List (Str × GV)} {n : Nat} {own : Bool} {p : Pos} {ρ : Loc} {σ : Sto} {R : Type} {K : K2 V R} : @cE R (X_block tr) (n + 1) own (.Name (Str.ofString "path") p) ρ σ K = @qv _ _ K σ (ρ.lookup (Str.ofString "path")) := rfl
@[simp ↓] theorem v_block_level {tr : List (Str × GV)} {n : Nat} {own : Bool} {p : Pos} {ρ : Loc} {σ : Sto} {R : Type} {K : K2 V R} : @cE R (X_block tr) (n + 1) own (.Name (Str.ofString "level") p) ρ σ K = @qv _ _ K σ (ρ.lookup (Str.ofString "level")) := rfl
@[simp ↓] theorem v_block_x {tr : List (Str × GV)} {n : Nat} {own : Bool} {p : Pos} {ρ : Loc} {σ : Sto} {R : Type} {K : K2 V R} : @cE R (X_block tr) (n + 1) own (.Name (Str.ofString "x") p) ρ σ K = @qv _ _ K σ (ρ.lookup (Str.ofString "x")) := rfl
@[simp] theorem i_block_x {tr : List (Str × GV)} : isLocN (X_block tr).names (Str.ofString "x") = true := rfl
@[simp ↓] theorem v_block_first {tr : List (Str × GV)} {n : Nat} {own : Bool} {p : Pos} {ρ : Loc} {σ : Sto} {R : Type} {K : K2 V R} : @cE R (X_block tr) (n + 1) own (.Name (Str.ofString "first") p) ρ σ K = @qv _ _ K σ (ρ.lookup (Str.ofString "first")) := rfl
@[simp] theorem i_block_first {tr : List (Str × GV)} : isLocN (X_block tr).names (Str.ofString "first") = true := rfl
@[simp] theorem g_block_law_take {tr : List (Str × GV)} : Cx.glob (X_block tr) (Str.ofString "_law_take") = some (GV.fnE 178 E_take) := rfl
@[simp] theorem g_block_len {tr : List (Str × GV)} : Cx.glob (X_block tr) (Str.ofString "len") = some (GV.bi "len") := rfl
@[simp] theorem g_block_law_put {tr : List (Str × GV)} : Cx.glob (X_block tr) (Str.ofString "_law_put") = some (GV.fnE 185 E_put) := rfl
@[simp ↓] theorem v_block_law_ops {tr : List (Str × GV)} {n : Nat} {own : Bool} {p : Pos} {ρ : Loc} {σ : Sto} {R : Type} {K : K2 V R} : @cE R (X_block tr) (n + 1) own (.Name (Str.ofString "_law_ops") p) ρ σ K = @ap _ _ K σ ((.tup [.int 0, .int 42, .int 65050, .int 220, .int 65041])) := rfl
@[simp] theorem g_block_law_try {tr : List (Str × GV)} : Cx.glob (X_block tr) (Str.ofString "_law_try") = tr.lookup (Str.ofString "_law_try") := rfl
noncomputable def E_block (tr : List (Str × GV)) : List V → Sto → Option (V × Sto) := F_block.run (mkG (G_block tr)) 150
theorem rn_block (tr : List (Str × GV)) (u1 u2 u3 u4 : V) (σ : Sto) : E_block tr [u1, u2, u3, u4] σ = @cSs _ (X_block tr) 150 F_block.body [("st", u1), ("w", u2), ("path", u3), ("level", u4)] σ kE :=
  run_eq F_block (mkG (G_block tr)) 150 [u1, u2, u3, u4] σ [] [("st", u1), ("w", u2), ("path", u3), ("level", u4)] rfl (by kernel_rfl) (by kernel_rfl)

theorem Sz.put {b : B} {n : Nat} (h : Sz b n) (op : Int) (p : List Int) : Sz (putB b op p) (n + 1) := ⟨by have := h.k; show b.k ≤ _; omega, by simp [putB]; exact h.ops, by simp [putB]; exact h.paths, Nat.le_succ_of_le h.clauses, Nat.le_succ_of_le h.regions⟩
theorem Sz.take {b : B} {n : Nat} (h : Sz b n) : Sz (takeB b) (n + 1) := ⟨by have := h.k; show b.k + 1 ≤ _; omega, Nat.le_succ_of_le h.ops, Nat.le_succ_of_le h.paths, Nat.le_succ_of_le h.clauses, Nat.le_succ_of_le h.regions⟩
theorem Sz.reg {b : B} {n : Nat} (h : Sz b n) (l : String) : Sz (regB b l) (n + 1) := ⟨Nat.le_succ_of_le h.k, Nat.le_succ_of_le h.ops, Nat.le_succ_of_le h.paths, Nat.le_succ_of_le h.clauses, by simp [regB]; exact h.regions⟩
theorem Sz.le {b : B} {n m : Nat} (h : Sz b n) (hm : n ≤ m) : Sz b m := ⟨Nat.le_trans h.k hm, Nat.le_trans h.ops hm, Nat.le_trans h.paths hm, Nat.le_trans h.clauses hm, Nat.le_trans h.regions hm⟩

/-- the store while the law builds; its parts are read by the rows below -/
noncomputable def stoD (sc : List Int) (b : B) (ex : Sto) : Sto := sto sc b ex
section
variable {sc : List Int} {b : B} {ex : Sto}
theorem sd1 : (stoD sc b ex)[1]? = some (.lst (b.ops.map .int)) := rfl
theorem sd2 : (stoD sc b ex)[2]? = some (.lst (b.paths.map pathV)) := rfl
theorem sd3 : (stoD sc b ex)[3]? = some (.lst (b.clauses.map Cl.v)) := rfl
theorem sd4 : (stoD sc b ex)[4]? = some (.lst (b.regions.map regV)) := rfl
theorem sd5 : (stoD sc b ex)[5]? = some (.dct (dictV b)) := rfl
theorem stL (v : Int) : setV (stoD sc b ex) (.cell 5) (.str (Str.ofString "left")) (.int v) = some (stoD sc { b with left := v } ex) := by
  unfold stoD
  simp [wStr, dset, List.lookup_cons, ofString_beq]
theorem stC (c : Cl) (h : b.clauses.length ≤ 100000) : appV (stoD sc b ex) (.cell 3) c.v = some (stoD sc { b with clauses := b.clauses ++ [c] } ex) := by
  have z : b.clauses.length + 1 ≤ sizeLine := by rw [sizeLine_eq]; omega
  unfold stoD
  simp [aCell, z]
end
theorem take_eq' (sc : List Int) (b : B) (ex : Sto) (hs : sc.length ≤ 100) (hk : b.k ≤ 100000) : E_take [.cell 0] (stoD sc b ex) = some (.int (takeV sc b.k), stoD sc (takeB b) ex) := take_eq sc b ex hs hk
theorem put_eq' (sc : List Int) (b : B) (ex : Sto) (op : Int) (p : List Int) (h : Sz b 100000) : E_put [.cell 5, .int op, pathV p] (stoD sc b ex) = some (.none, stoD sc (putB b op p) ex) := put_eq sc b ex op p h
theorem region_eq' (sc : List Int) (b : B) (ex : Sto) (p : List Int) (l : String) (h : Sz b 100000) (hp : p.length ≤ 100) : E_region [.cell 5, pathV p, sv l] (stoD sc b ex) = some (pathV (p ++ [(b.regions.length : Int)]), stoD sc (regB b l) ex) := region_eq sc b ex p l h hp

theorem fmod_b (x : Int) (m : Int) (hm : 0 < m) : 0 ≤ x.fmod m ∧ x.fmod m < m := ⟨Int.fmod_nonneg_of_pos _ hm, Int.fmod_lt_of_pos _ hm⟩
noncomputable def S_block_2 : Stmt := stAt F_block.body 2
noncomputable def S_block_3 : Stmt := stAt F_block.body 3
noncomputable def S_block_4 : Stmt := stAt F_block.body 4
noncomputable def bs_block_2 := @id (S_block_2 = .If _ _ _ _) rfl
noncomputable def bs_block_3 := @id (S_block_3 = .If _ _ _ _) rfl
noncomputable def bs_block_4 := @id (S_block_4 = .If _ _ _ _) rfl
noncomputable def br_block := @id (F_block.body = [_, _, S_block_2, S_block_3, S_block_4]) rfl
section
variable {tr : List (Str × GV)} {sc : List Int} {b : B} {ex : Sto} {p : List Int} {x lvl : Int} {first n : Nat} {ρ : Loc} {K : Ks (V × Sto)}
theorem block_2 (h : Sz b 100000) (k1 : ρ.lookup (Str.ofString "w") = some (.cell 5)) (k2 : ρ.lookup (Str.ofString "path") = some (pathV p)) (k3 : ρ.lookup (Str.ofString "x") = some (.int x)) :
    @cS _ (X_block tr) (n + 40) S_block_2 ρ (stoD sc b ex) K = @aps _ K .next ρ (stoD sc (if x.fmod 2 = 1 then putB b (opsAt ((x.fdiv 8).fmod 5)) p else b) ex) := by
  rw [bs_block_2]
  by_cases h1 : x.fmod 2 = 1
  · obtain ⟨i, e, hi⟩ := fmod_nat (x.fdiv 8) (n := 5) (by decide)
    replace e : (x.fdiv 8).fmod 5 = i := e
    have i2 : idx (i : Int) = true := idx_of (Int.natCast_nonneg _) (by omega)
    rw [if_pos h1, e]
    simp [mkG, G_block, k1, k2, k3, h1, e, i2, opsAt_ok i hi, put_eq' sc b ex (opsAt i) p h]
  · rw [if_neg h1]
    simp [mkG, G_block, k3, h1]
/-- the last statement of a block -/
theorem block_4 (h : Sz b 100000) (k1 : ρ.lookup (Str.ofString "w") = some (.cell 5)) (k2 : ρ.lookup (Str.ofString "path") = some (pathV p)) (k3 : ρ.lookup (Str.ofString "x") = some (.int x)) (k4 : ρ.lookup (Str.ofString "first") = some (.int first)) :
    @cS _ (X_block tr) (n + 40) S_block_4 ρ (stoD sc b ex) K = @aps _ K .next ρ (stoD sc (if (x.fdiv 4).fmod 2 = 1 ∨ b.ops.length = first then putB b (opsAt ((x.fdiv 40).fmod 5)) p else b) ex) := by
  rw [bs_block_4]
  obtain ⟨i, e, hi⟩ := fmod_nat (x.fdiv 40) (n := 5) (by decide)
  replace e : (x.fdiv 40).fmod 5 = i := e
  have i2 : idx (i : Int) = true := idx_of (Int.natCast_nonneg _) (by omega)
  have f2 : fits b.ops.length = true := fits_of (by have := h.ops; omega)
  rw [e]
  by_cases h3 : (x.fdiv 4).fmod 2 = 1
  · rw [if_pos (.inl h3)]
    simp [mkG, G_block, k1, k2, k3, h3, e, i2, opsAt_ok i hi, put_eq' sc b ex (opsAt i) p h]
  by_cases h4 : b.ops.length = first
  · rw [if_pos (.inr h4)]
    subst h4
    simp [mkG, G_block, k1, k2, k3, k4, sd5, sd1, f2, h3, e, i2, opsAt_ok i hi, put_eq' sc b ex (opsAt i) p h]
  · rw [if_neg (fun h => h.elim h3 h4)]
    have h4' : ¬ ((b.ops.length : Int) = first) := fun h => h4 (Int.ofNat.inj h)
    simp [mkG, G_block, k1, k3, k4, sd5, sd1, f2, h3, h4']
theorem block_3 (k3 : ρ.lookup (Str.ofString "x") = some (.int x)) (k4 : ρ.lookup (Str.ofString "level") = some (.int 3)) : @cS _ (X_block tr) (n + 40) S_block_3 ρ (stoD sc b ex) K = @aps _ K .next ρ (stoD sc b ex) := by
  rw [bs_block_3]
  by_cases h : (x.fdiv 2).fmod 2 = 1 <;> simp [mkG, G_block, k3, k4, h]
theorem block_3s {f : List V → Sto → Option (V × Sto)} {b' : B} (hl : lvl < 3) (hf : f [.cell 0, .cell 5, pathV p, .int lvl] (stoD sc b ex) = some (.none, stoD sc b' ex)) (k0 : ρ.lookup (Str.ofString "st") = some (.cell 0)) (k1 : ρ.lookup (Str.ofString "w") = some (.cell 5)) (k2 : ρ.lookup (Str.ofString "path") = some (pathV p)) (k3 : ρ.lookup (Str.ofString "x") = some (.int x)) (k4 : ρ.lookup (Str.ofString "level") = some (.int lvl)) :
    @cS _ (X_block [("_law_try", .fnE 206 f)]) (n + 40) S_block_3 ρ (stoD sc b ex) K = @aps _ K .next ρ (stoD sc (if (x.fdiv 2).fmod 2 = 1 ∧ 0 < b.left then b' else b) ex) := by
  rw [bs_block_3]
  by_cases h : (x.fdiv 2).fmod 2 = 1
  · by_cases h' : 0 < b.left
    · rw [if_pos ⟨h, h'⟩]
      simp [mkG, G_block, k0, k1, k2, k3, k4, sd5, hl, h, h', hf]
    · rw [if_neg fun t => h' t.2]
      simp [mkG, G_block, k1, k3, k4, sd5, hl, h, h']
  · rw [if_neg fun t => h t.1]
    simp [mkG, G_block, k3, h]
theorem takeB_ops : (takeB b).ops = b.ops := rfl
theorem block_in {u : V} {v : V × Sto} (hs : sc.length ≤ 100) (h : Sz b 90000) (k : ∀ {n : Nat} {ρ : Loc} {K : Ks (V × Sto)}, (∀ σ, @aps _ K .next ρ σ = @cSs _ (X_block tr) (n + 90) [S_block_4] ρ σ kE) → ρ.lookup (Str.ofString "st") = some (.cell 0) → ρ.lookup (Str.ofString "w") = some (.cell 5) → ρ.lookup (Str.ofString "path") = some (pathV p) → ρ.lookup (Str.ofString "x") = some (.int (takeV sc b.k)) → ρ.lookup (Str.ofString "level") = some u → ρ.lookup (Str.ofString "first") = some (.int b.ops.length) →
    @cS _ (X_block tr) (n + 90) S_block_3 ρ (stoD sc (if (takeV sc b.k).fmod 2 = 1 then putB (takeB b) (opsAt (((takeV sc b.k).fdiv 8).fmod 5)) p else takeB b) ex) K = some v) : E_block tr [.cell 0, .cell 5, pathV p, u] (stoD sc b ex) = some v := by
  have t := take_eq' sc b ex hs (Nat.le_trans h.k (by decide))
  rw [rn_block, br_block]
  generalize takeV sc b.k = x at *
  have f1 : fits b.ops.length = true := fits_of (by have := h.ops; omega)
  simp [mkG, G_block, t, sd5, sd1, takeB_ops, f1]
  refine (block_2 (n := 107) (p := p) (x := x) (h.take.le (by decide)) (by simp) (by simp) (by simp)).trans ?_
  rw [qN, ss1]
  exact k (n := 56) (fun _ => qN) (by simp) (by simp) (by simp) (by simp) (by simp) (by simp)
end

/-- the innermost block: no try -/
theorem block_0 (sc : List Int) (b : B) (ex : Sto) (p : List Int) (hs : sc.length ≤ 100) (h : Sz b 90000) : E_block [] [.cell 0, .cell 5, pathV p, .int 3] (stoD sc b ex) = some (.none, stoD sc (blockB sc none b p) ex) :=
  block_in hs h fun hK k0 k1 k2 k3 k4 k5 => by
    rw [block_3 (n := _ + 50) k3 k4, hK, ss1, block_4 (n := _ + 49) ?_ k1 k2 k3 k5, qN, ss0, aEN]; rfl
    split
    · exact (h.take.put _ _).le (by decide)
    · exact h.take.le (by decide)

/-- a block that may hold a try -/
theorem block_s (sc : List Int) (b : B) (ex : Sto) (p : List Int) (lvl : Int) (hl : lvl < 3) (f : List V → Sto → Option (V × Sto)) (tf : B → List Int → B) (m n : Nat) (hm : m + 2 ≤ n) (hn : n ≤ 90000)
    (hf : ∀ b', Sz b' (m + 2) → f [.cell 0, .cell 5, pathV p, .int lvl] (stoD sc b' ex) = some (.none, stoD sc (tf b' p) ex) ∧ Sz (tf b' p) n) (hs : sc.length ≤ 100) (h : Sz b m) :
    E_block [("_law_try", .fnE 206 f)] [.cell 0, .cell 5, pathV p, .int lvl] (stoD sc b ex) = some (.none, stoD sc (blockB sc (some tf) b p) ex) :=
  block_in hs (h.le (by omega)) fun hK k0 k1 k2 k3 k4 k5 => by
    generalize hB : (if (takeV sc b.k).fmod 2 = 1 then putB (takeB b) (opsAt (((takeV sc b.k).fdiv 8).fmod 5)) p else takeB b) = b2
    have hz : Sz b2 (m + 2) := by
      rw [← hB]
      split
      · exact h.take.put _ _
      · exact h.take.le (Nat.le_succ _)
    obtain ⟨t1, t2⟩ := hf b2 hz
    rw [block_3s (n := _ + 50) hl t1 k0 k1 k2 k3 k4, hK, ss1, block_4 (n := _ + 49) ?_ k1 k2 k3 k5, qN, ss0, aEN, blockB, hB]
    split
    · exact t2.le (by omega)
    · exact hz.le (by omega)
end Mine
end

section
open PySem PySem.W PyProof.Rows PySem.Calls
set_option autoImplicit false
set_option maxRecDepth 100000
set_option maxHeartbeats 4000000
set_option linter.unusedSimpArgs false
set_option linter.unusedVariables false
set_option linter.defProp false
namespace Mine

/-- one clause of a try, behind its gap -/
noncomputable def clauseT (blk : B → List Int → B) (x : Int) (p : List Int) (t0 t1 : Int) (sort : Int) (b1 : B) : B :=
  let b2 := if sort = 1 then
      let q := p ++ [(b1.regions.length : Int)]
      let b' := regB b1 "F"
      let b'' := if (x.fdiv 63).fmod 2 = 1 then putB b' (opsAt ((x.fdiv 126).fmod 4)) q else b'
      putB b'' 65041 q
    else b1
  let extra : Int := if sort = 1 then b1.ops.length else 0
  let letter := if sort = 0 ∨ sort = 1 then "H" else "N"
  let h0 : Int := b2.ops.length
  let b4 := blk (regB b2 letter) (p ++ [(b2.regions.length : Int)])
  { b4 with clauses := b4.clauses ++ [⟨sort, t0, t1, h0, b4.ops.length, extra⟩] }
noncomputable def clauseB (blk : B → List Int → B) (x : Int) (p : List Int) (t0 t1 : Int) (sort : Int) (b : B) : B :=
  clauseT blk x p t0 t1 sort (if (x.fdiv 7).fmod 3 = 2 then putB b (opsAt ((x.fdiv 21).fmod 5)) p else b)
noncomputable def sortsAt (i : Int) : List Int := ([[2], [4], [0], [1], [0, 1], [1, 0], [0, 0]] : List (List Int)).getD i.toNat []
theorem sortsAt_ok : ∀ i : Nat, i < 7 → ([V.tup [.int 2], V.tup [.int 4], V.tup [.int 0], V.tup [.int 1], V.tup [.int 0, .int 1], V.tup [.int 1, .int 0], V.tup [.int 0, .int 0]] : List V)[i]? = some (.tup ((sortsAt i).map .int)) ∧ (∀ s ∈ sortsAt i, s = 0 ∨ s = 1 ∨ s = 2 ∨ s = 4) ∧ (sortsAt i).length ≤ 2
  | 0, _ => ⟨rfl, by decide⟩
  | 1, _ => ⟨rfl, by decide⟩
  | 2, _ => ⟨rfl, by decide⟩
  | 3, _ => ⟨rfl, by decide⟩
  | 4, _ => ⟨rfl, by decide⟩
  | 5, _ => ⟨rfl, by decide⟩
  | 6, _ => ⟨rfl, by decide⟩
noncomputable def tryB (sc : List Int) (blk : B → List Int → B) (b : B) (p : List Int) : B :=
  let b0 := { b with left := b.left - 1 }
  let t0 : Int := b0.ops.length
  let b1 := blk (regB b0 "T") (p ++ [(b0.regions.length : Int)])
  let t1 : Int := b1.ops.length
  let x := takeV sc b1.k
  (sortsAt (x.fmod 7)).foldl (fun b s => clauseB blk x p t0 t1 s b) (takeB b1)

noncomputable def G_try (f : List V → Sto → Option (V × Sto)) : List (Str × GV) := ("len", GV.bi "len") :: ("_law_block", GV.fnE 192 f) :: ("_law_region", GV.fnE 199 E_region) :: ("_law_take", GV.fnE 178 E_take) :: ("_law_sorts", GV.val (.tup [.tup [.int 2], .tup [.int 4], .tup [.int 0], .tup [.int 1], .tup [.int 0, .int 1], .tup [.int 1, .int 0], .tup [.int 0, .int 0]])) ::
  ("_law_put", GV.fnE 185 E_put) :: ("_law_ops", GV.val (.tup [.int 0, .int 42, .int 65050, .int 220, .int 65041])) :: []
noncomputable def X_try (f : List V → Sto → Option (V × Sto)) : Cx := ⟨mkG (G_try f), F_try.names, []⟩
@[simp ↓] theorem v_try_st {f : List V → Sto → Option (V × Sto)} {n : Nat} {own : Bool} {p : Pos} {ρ : Loc} {σ : Sto} {R : Type} {K : K2 V R} : @cE R (X_try f) (n + 1) own (.Name (Str.ofString "st") p) ρ σ K = @qv _ _ K σ (ρ.lookup (Str.ofString "st")) := rfl
@[simp ↓] theorem v_try_w {f : List V → Sto → Option (V × Sto)} {n : Nat} {own : Bool} {p : Pos} {ρ : Loc} {σ : Sto} {R : Type} {K : K2 V R} : @cE R (X_try f) (n + 1) own (.Name (Str.ofString "w") p) ρ σ K = @qv _ _ K σ (ρ.lookup (Str.ofString "w")) := rfl
@[simp ↓] theorem v_try_path {f : List V → Sto → Option (V × Sto)} {n : Nat} {own : Bool} {p : Pos} {ρ : Loc} {σ : Sto} {R : Type} {K : K2 V R} : @cE R (X_try f) (n + 1) own (.Name (Str.ofString "path") p) ρ σ K = @qv _ _ K σ (ρ.lookup (Str.ofString "path")) := rfl
@[simp ↓] theorem v_try_level {f : List V → Sto → Option (V × Sto)} {n : Nat} {own : Bool} {p : Pos} {ρ : Loc} {σ : Sto} {R : Type} {K : K2 V R} : @cE R (X_try f) (n + 1) own (.Name (Str.ofString "level") p) ρ σ K = @qv _ _ K σ (ρ.lookup (Str.ofString "level")) := rfl
@[simp ↓] theorem v_try_t0 {f : List V → Sto → Option (V × Sto)} {n : Nat} {own : Bool} {p : Pos} {ρ : Loc} {σ : Sto} {R : Type} {K : K2 V R} : @cE R (X_try f) (n + 1) own (.Name (Str.ofString "t0") p) ρ σ K = @qv _ _ K σ (ρ.lookup (Str.ofString "t0")) := rfl
@[simp] theorem i_try_t0 {f : List V → Sto → Option (V × Sto)} : isLocN (X_try f).names (Str.ofString "t0") = true := rfl
@[simp ↓] theorem v_try_t1 {f : List V → Sto → Option (V × Sto)} {n : Nat} {own : Bool} {p : Pos} {ρ : Loc} {σ : Sto} {R : Type} {K : K2 V R} : @cE R (X_try f) (n + 1) own (.Name (Str.ofString "t1") p) ρ σ K = @qv _ _ K σ (ρ.lookup (Str.ofString "t1")) := rfl
@[simp] theorem i_try_t1 {f : List V → Sto → Option (V × Sto)} : isLocN (X_try f).names (Str.ofString "t1") = true := rfl
@[simp ↓] theorem v_try_x {f : List V → Sto → Option (V × Sto)} {n : Nat} {own : Bool} {p : Pos} {ρ : Loc} {σ : Sto} {R : Type} {K : K2 V R} : @cE R (X_try f) (n + 1) own (.Name (Str.ofString "x") p) ρ σ K = @qv _ _ K σ (ρ.lookup (Str.ofString "x")) := rfl
@[simp] theorem i_try_x {f : List V → Sto → Option (V × Sto)} : isLocN (X_try f).names (Str.ofString "x") = true := rfl
@[simp ↓] theorem v_try_sort {f : List V → Sto → Option (V × Sto)} {n : Nat} {own : Bool} {p : Pos} {ρ : Loc} {σ : Sto} {R : Type} {K : K2 V R} : @cE R (X_try f) (n + 1) own (.Name (Str.ofString "sort") p) ρ σ K = @qv _ _ K σ (ρ.lookup (Str.ofString "sort")) := rfl
@[simp] theorem i_try_sort {f : List V → Sto → Option (V × Sto)} : isLocN (X_try f).names (Str.ofString "sort") = true := rfl
@[simp ↓] theorem v_try_extra {f : List V → Sto → Option (V × Sto)} {n : Nat} {own : Bool} {p : Pos} {ρ : Loc} {σ : Sto} {R : Type} {K : K2 V R} : @cE R (X_try f) (n + 1) own (.Name (Str.ofString "extra") p) ρ σ K = @qv _ _ K σ (ρ.lookup (Str.ofString "extra")) := rfl
@[simp] theorem i_try_extra {f : List V → Sto → Option (V × Sto)} : isLocN (X_try f).names (Str.ofString "extra") = true := rfl
@[simp ↓] theorem v_try_letter {f : List V → Sto → Option (V × Sto)} {n : Nat} {own : Bool} {p : Pos} {ρ : Loc} {σ : Sto} {R : Type} {K : K2 V R} : @cE R (X_try f) (n + 1) own (.Name (Str.ofString "letter") p) ρ σ K = @qv _ _ K σ (ρ.lookup (Str.ofString "letter")) := rfl
@[simp] theorem i_try_letter {f : List V → Sto → Option (V × Sto)} : isLocN (X_try f).names (Str.ofString "letter") = true := rfl
@[simp ↓] theorem v_try_deep {f : List V → Sto → Option (V × Sto)} {n : Nat} {own : Bool} {p : Pos} {ρ : Loc} {σ : Sto} {R : Type} {K : K2 V R} : @cE R (X_try f) (n + 1) own (.Name (Str.ofString "deep") p) ρ σ K = @qv _ _ K σ (ρ.lookup (Str.ofString "deep")) := rfl
@[simp] theorem i_try_deep {f : List V → Sto → Option (V × Sto)} : isLocN (X_try f).names (Str.ofString "deep") = true := rfl
@[simp ↓] theorem v_try_h0 {f : List V → Sto → Option (V × Sto)} {n : Nat} {own : Bool} {p : Pos} {ρ : Loc} {σ : Sto} {R : Type} {K : K2 V R} : @cE R (X_try f) (n + 1) own (.Name (Str.ofString "h0") p) ρ σ K = @qv _ _ K σ (ρ.lookup (Str.ofString "h0")) := rfl
@[simp] theorem i_try_h0 {f : List V → Sto → Option (V × Sto)} : isLocN (X_try f).names (Str.ofString "h0") = true := rfl
@[simp] theorem g_try_len {f : List V → Sto → Option (V × Sto)} : Cx.glob (X_try f) (Str.ofString "len") = some (GV.bi "len") := rfl
@[simp] theorem g_try_law_block {f : List V → Sto → Option (V × Sto)} : Cx.glob (X_try f) (Str.ofString "_law_block") = some (GV.fnE 192 f) := rfl
@[simp] theorem g_try_law_region {f : List V → Sto → Option (V × Sto)} : Cx.glob (X_try f) (Str.ofString "_law_region") = some (GV.fnE 199 E_region) := rfl
@[simp] theorem g_try_law_take {f : List V → Sto → Option (V × Sto)} : Cx.glob (X_try f) (Str.ofString "_law_take") = some (GV.fnE 178 E_take) := rfl
@[simp ↓] theorem v_try_law_sorts {f : List V → Sto → Option (V × Sto)} {n : Nat} {own : Bool} {p : Pos} {ρ : Loc} {σ : Sto} {R : Type} {K : K2 V R} : @cE R (X_try f) (n + 1) own (.Name (Str.ofString "_law_sorts") p) ρ σ K = @ap _ _ K σ ((.tup [.tup [.int 2], .tup [.int 4], .tup [.int 0], .tup [.int 1], .tup [.int 0, .int 1], .tup [.int 1, .int 0], .tup [.int 0, .int 0]])) := rfl
@[simp] theorem g_try_law_put {f : List V → Sto → Option (V × Sto)} : Cx.glob (X_try f) (Str.ofString "_law_put") = some (GV.fnE 185 E_put) := rfl
@[simp ↓] theorem v_try_law_ops {f : List V → Sto → Option (V × Sto)} {n : Nat} {own : Bool} {p : Pos} {ρ : Loc} {σ : Sto} {R : Type} {K : K2 V R} : @cE R (X_try f) (n + 1) own (.Name (Str.ofString "_law_ops") p) ρ σ K = @ap _ _ K σ ((.tup [.int 0, .int 42, .int 65050, .int 220, .int 65041])) := rfl
noncomputable def E_try (f : List V → Sto → Option (V × Sto)) : List V → Sto → Option (V × Sto) := F_try.run (mkG (G_try f)) 150
theorem rn_try (f : List V → Sto → Option (V × Sto)) (u1 u2 u3 u4 : V) (σ : Sto) : E_try f [u1, u2, u3, u4] σ = @cSs _ (X_try f) 150 F_try.body [("st", u1), ("w", u2), ("path", u3), ("level", u4)] σ kE :=
  run_eq F_try (mkG (G_try f)) 150 [u1, u2, u3, u4] σ [] [("st", u1), ("w", u2), ("path", u3), ("level", u4)] rfl (by kernel_rfl) (by kernel_rfl)

/-- what a try asks of the block it holds -/
noncomputable def BlkOk (sc : List Int) (f : List V → Sto → Option (V × Sto)) (blk : B → List Int → B) (lvl : Int) (g : Nat) (ex : Sto) (M P : Nat) : Prop :=
  ∀ b' p', Sz b' M → p'.length ≤ P → f [.cell 0, .cell 5, pathV p', .int lvl] (stoD sc b' ex) = some (.none, stoD sc (blk b' p') ex) ∧ ∀ m, Sz b' m → Sz (blk b' p') (m + g)

theorem Sz.clause {b : B} {n : Nat} (h : Sz b n) (c : Cl) : Sz { b with clauses := b.clauses ++ [c] } (n + 1) := ⟨Nat.le_succ_of_le h.k, Nat.le_succ_of_le h.ops, Nat.le_succ_of_le h.paths, by simp; exact h.clauses, Nat.le_succ_of_le h.regions⟩
noncomputable def S_try_50 : Stmt := stAt B_try_5 0
noncomputable def S_try_53 : Stmt := stAt B_try_5 3
noncomputable def R_try_54 : List Stmt := B_try_5.drop 4
noncomputable def bs_try_50 := @id (S_try_50 = .If _ _ _ _) rfl
noncomputable def bs_try_53 := @id (S_try_53 = .If _ _ _ _) rfl
noncomputable def br_try_5 := @id (B_try_5 = S_try_50 :: _ :: _ :: S_try_53 :: R_try_54) rfl
noncomputable def br_try_54 := @id (R_try_54 = [_, _, _]) rfl
/-- the filter's part of a clause -/
noncomputable def sortB (x : Int) (p : List Int) (sort : Int) (b : B) : B := if sort = 1 then
      let q := p ++ [(b.regions.length : Int)]
      let b' := regB b "F"
      let b'' := if (x.fdiv 63).fmod 2 = 1 then putB b' (opsAt ((x.fdiv 126).fmod 4)) q else b'
      putB b'' 65041 q
    else b
noncomputable def lettB (sort : Int) : String := if sort = 0 ∨ sort = 1 then "H" else "N"
noncomputable def extrB (sort : Int) (b : B) : Int := if sort = 1 then b.ops.length else 0
section
variable {sc : List Int} {f : List V → Sto → Option (V × Sto)} {blk : B → List Int → B} {lvl : Int} {g n M P : Nat} {ex : Sto} {b : B} {ρ : Loc} {p : List Int} {x : Int} {t0 t1 sort : Int} {m : Nat} {R : Type} {K : Ks R}
theorem try_gap (h : Sz b 100000) (k1 : ρ.lookup (Str.ofString "w") = some (.cell 5)) (k2 : ρ.lookup (Str.ofString "path") = some (pathV p)) (k3 : ρ.lookup (Str.ofString "x") = some (.int x)) :
    @cS _ (X_try f) (n + 40) S_try_50 ρ (stoD sc b ex) K = @aps _ K .next ρ (stoD sc (if (x.fdiv 7).fmod 3 = 2 then putB b (opsAt ((x.fdiv 21).fmod 5)) p else b) ex) := by
  rw [bs_try_50]
  by_cases h1 : (x.fdiv 7).fmod 3 = 2
  · obtain ⟨i, e, hi⟩ := fmod_nat (x.fdiv 21) (n := 5) (by decide)
    replace e : (x.fdiv 21).fmod 5 = i := e
    have i2 : idx (i : Int) = true := idx_of (Int.natCast_nonneg _) (by lia)
    rw [if_pos h1, e]
    simp [mkG, G_try, k1, k2, k3, h1, e, i2, opsAt_ok i hi, put_eq' sc b ex (opsAt i) p h]
  · rw [if_neg h1]
    simp [mkG, G_try, k3, h1]
theorem try_sort (hb : Sz b 90000) (hp : p.length ≤ 50) (k0 : ρ.lookup (Str.ofString "sort") = some (.int sort)) (k2 : ρ.lookup (Str.ofString "w") = some (.cell 5)) (k3 : ρ.lookup (Str.ofString "path") = some (pathV p)) (k5 : ρ.lookup (Str.ofString "x") = some (.int x)) (k6 : ρ.lookup (Str.ofString "extra") = some (.int 0)) (k7 : ρ.lookup (Str.ofString "letter") = some (sv "H")) :
    ∃ ρ', @cS _ (X_try f) (n + 50) S_try_53 ρ (stoD sc b ex) K = @aps _ K .next ρ' (stoD sc (sortB x p sort b) ex) ∧ Kp [Str.ofString "extra", Str.ofString "letter", Str.ofString "deep"] ρ ρ' ∧ ρ'.lookup (Str.ofString "extra") = some (.int (extrB sort b)) ∧ ρ'.lookup (Str.ofString "letter") = some (sv (lettB sort)) := by
  have f1 : fits b.ops.length = true := fits_of (by have := hb.ops; lia)
  rw [bs_try_53]
  by_cases hs : sort = 1
  · subst hs
    have R1 := region_eq' sc b ex p "F" (hb.le (by decide)) (by lia)
    have S1 := (hb.reg "F").le (m := 99998) (by decide)
    rw [sortB, if_pos rfl, extrB, if_pos rfl, lettB, if_pos (.inr rfl)]
    dsimp only
    generalize regB b "F" = b1 at *
    generalize p ++ [(b.regions.length : Int)] = q at *
    refine ⟨lset (lset ρ (Str.ofString "extra") (.int b.ops.length)) (Str.ofString "deep") (pathV q), ?_, (Kp.refl.set (by kernel_rfl)).set (by kernel_rfl), by simp, by simp [k7]⟩
    by_cases h63 : (x.fdiv 63).fmod 2 = 1
    · obtain ⟨i, e, hi⟩ := fmod_nat (x.fdiv 126) (n := 4) (by decide)
      replace e : (x.fdiv 126).fmod 4 = i := e
      have i1 : idx (i : Int) = true := idx_of (Int.natCast_nonneg _) (by lia)
      rw [if_pos h63, e]
      simp [mkG, G_try, k0, k2, k3, k5, f1, sd5, sd1, R1, h63, e, i1, opsAt_ok i (Nat.lt_succ_of_lt hi), put_eq' sc b1 ex (opsAt i) q (S1.le (by decide)), put_eq' sc _ ex 65041 q ((S1.put (opsAt i) q).le (by decide))]
    · rw [if_neg h63]
      simp [mkG, G_try, k0, k2, k3, k5, f1, sd5, sd1, R1, h63, put_eq' sc b1 ex 65041 q (S1.le (by decide))]
  · rw [sortB, if_neg hs, extrB, if_neg hs, lettB]
    by_cases hz : sort = 0
    · rw [if_pos (.inl hz)]
      exact ⟨ρ, by simp [mkG, G_try, k0, hz], .refl, k6, k7⟩
    · rw [if_neg fun h => h.elim hz hs]
      exact ⟨lset ρ (Str.ofString "letter") (sv "N"), by simp [mkG, G_try, k0, hz, hs], Kp.refl.set (by kernel_rfl), by simp [k6], by simp⟩
theorem try_end {e : Int} {l : String} (hf : BlkOk sc f blk (lvl + 1) g ex M P) (hM : M ≤ 80000) (hP : P ≤ 50) (hp : p.length + 1 ≤ P) (hb : Sz b m) (hm : m + g + 2 ≤ M)
    (k0 : ρ.lookup (Str.ofString "sort") = some (.int sort)) (k1 : ρ.lookup (Str.ofString "st") = some (.cell 0)) (k2 : ρ.lookup (Str.ofString "w") = some (.cell 5)) (k3 : ρ.lookup (Str.ofString "path") = some (pathV p)) (k4 : ρ.lookup (Str.ofString "level") = some (.int lvl)) (k5 : ρ.lookup (Str.ofString "letter") = some (sv l)) (k6 : ρ.lookup (Str.ofString "t0") = some (.int t0)) (k7 : ρ.lookup (Str.ofString "t1") = some (.int t1)) (k8 : ρ.lookup (Str.ofString "extra") = some (.int e)) :
    @cSs _ (X_try f) (n + 40) R_try_54 ρ (stoD sc b ex) kFl = some (.next, lset ρ (Str.ofString "h0") (.int b.ops.length), stoD sc { blk (regB b l) (p ++ [(b.regions.length : Int)]) with clauses := (blk (regB b l) (p ++ [(b.regions.length : Int)])).clauses ++ [⟨sort, t0, t1, b.ops.length, (blk (regB b l) (p ++ [(b.regions.length : Int)])).ops.length, e⟩] } ex) ∧
      Sz { blk (regB b l) (p ++ [(b.regions.length : Int)]) with clauses := (blk (regB b l) (p ++ [(b.regions.length : Int)])).clauses ++ [⟨sort, t0, t1, b.ops.length, (blk (regB b l) (p ++ [(b.regions.length : Int)])).ops.length, e⟩] } (m + g + 2) := by
  have R2 := region_eq' sc b ex p l (hb.le (by lia)) (by lia)
  have f1 : fits b.ops.length = true := fits_of (by have := hb.ops; lia)
  have S4 := hb.reg l
  obtain ⟨F1, F2⟩ := hf _ (p ++ [(b.regions.length : Int)]) (S4.le (by lia)) (by rw [List.length_append]; exact hp)
  have S5 := F2 _ S4
  generalize blk (regB b l) (p ++ [(b.regions.length : Int)]) = b5 at *
  have f3 : fits b5.ops.length = true := fits_of (by have := S5.ops; lia)
  have C1 := stC (sc := sc) (b := b5) (ex := ex) ⟨sort, t0, t1, b.ops.length, b5.ops.length, e⟩ (by have := S5.clauses; lia)
  refine ⟨?_, (S5.clause _).le (by lia)⟩
  rw [br_try_54]
  simp [mkG, G_try, k0, k1, k2, k3, k4, k5, k6, k7, k8, f1, f3, sd5, sd1, sd3, R2, F1, C1, -aCell]
noncomputable def W_try : List Str := [Str.ofString "sort", Str.ofString "extra", Str.ofString "letter", Str.ofString "deep", Str.ofString "h0"]
theorem sortB_sz (h : Sz b m) : Sz (sortB x p sort b) (m + 3) := by
  rw [sortB]
  split
  · dsimp only
    split
    · exact ((h.reg _).put _ _).put _ _
    · exact ((h.reg _).put _ _).le (Nat.le_succ _)
  · exact h.le (Nat.le_add_right _ _)
theorem clause_ok (hf : BlkOk sc f blk (lvl + 1) g ex M P) (hM : M ≤ 80000) (hP : P ≤ 50) (hp : p.length + 1 ≤ P) (hb : Sz b m) (hm : m + g + 6 ≤ M)
    (k0 : ρ.lookup (Str.ofString "sort") = some (.int sort)) (k1 : ρ.lookup (Str.ofString "st") = some (.cell 0)) (k2 : ρ.lookup (Str.ofString "w") = some (.cell 5)) (k3 : ρ.lookup (Str.ofString "path") = some (pathV p)) (k4 : ρ.lookup (Str.ofString "level") = some (.int lvl)) (k5 : ρ.lookup (Str.ofString "x") = some (.int x)) (k6 : ρ.lookup (Str.ofString "t0") = some (.int t0)) (k7 : ρ.lookup (Str.ofString "t1") = some (.int t1)) :
    ∃ ρ', @cSs _ (X_try f) (n + 60) B_try_5 ρ (stoD sc b ex) kFl = some (.next, ρ', stoD sc (clauseB blk x p t0 t1 sort b) ex) ∧ Sz (clauseB blk x p t0 t1 sort b) (m + g + 6) ∧ Kp W_try ρ ρ' := by
  have hS : Sz (if (x.fdiv 7).fmod 3 = 2 then putB b (opsAt ((x.fdiv 21).fmod 5)) p else b) (m + 1) := by
    split
    · exact hb.put _ _
    · exact hb.le (Nat.le_succ _)
  rw [clauseB, br_try_5, ss1, try_gap (n := n + 19) (p := p) (x := x) (hb.le (by lia)) k2 k3 k5, qN]
  generalize (if (x.fdiv 7).fmod 3 = 2 then putB b (opsAt ((x.fdiv 21).fmod 5)) p else b) = b1 at *
  have S2 := sortB_sz (x := x) (p := p) (sort := sort) hS
  simp [mkG, G_try]
  obtain ⟨ρ', e, k, q8, q5⟩ := try_sort (n := n + 6) (R := Fl × Loc × Sto) (f := f) (ρ := lset (lset ρ (Str.ofString "extra") (.int 0)) (Str.ofString "letter") (sv "H")) (K := kSeq (X_try f) (n + 56) R_try_54 kFl) (ex := ex) (sc := sc) (x := x) (p := p) (sort := sort) (hS.le (m := 90000) (by lia)) (by lia) (by simp [k0]) (by simp [k2]) (by simp [k3]) (by simp [k5]) (by simp) (by simp)
  have kk : Kp W_try ρ ρ' := ((Kp.refl.set (by kernel_rfl)).set (by kernel_rfl)).trans (k.sub (by kernel_rfl))
  have kg := fun {y v} (h : ρ.lookup y = some v) (hy : [Str.ofString "extra", Str.ofString "letter", Str.ofString "deep"].contains y = false) => (((Kp.refl (ρ := ρ)).set (by kernel_rfl)).set (by kernel_rfl) |>.trans k).get h hy
  obtain ⟨e1, e2⟩ := try_end (n := n + 16) (t0 := t0) (t1 := t1) (e := extrB sort b1) (l := lettB sort) hf hM hP hp S2 (by lia) (kg k0 (by kernel_rfl)) (kg k1 (by kernel_rfl)) (kg k2 (by kernel_rfl)) (kg k3 (by kernel_rfl)) (kg k4 (by kernel_rfl)) q5 (kg k6 (by kernel_rfl)) (kg k7 (by kernel_rfl)) q8
  exact ⟨_, e.trans (qN.trans e1), e2.le (by lia), kk.set (by kernel_rfl)⟩
end
end Mine
end

section
open PySem PySem.W PyProof.Rows PySem.Calls
set_option autoImplicit false
set_option maxRecDepth 100000
set_option maxHeartbeats 4000000
set_option linter.unusedSimpArgs false
set_option linter.unusedVariables false
set_option linter.defProp false
namespace Mine

section
variable {sc : List Int} {f : List V → Sto → Option (V × Sto)} {blk : B → List Int → B} {lvl : Int} {g n M P : Nat} {ex : Sto} {b : B} {ρ : Loc} {X : Option (Fl × Loc × Sto)} {p : List Int} {x : Int} {t0 t1 : Int} {m : Nat}
theorem try_loop (hX : evS (X_try f) (n + 70) S_try_5 ρ (stoD sc b ex) = X) (hf : BlkOk sc f blk (lvl + 1) g ex M P) (hM : M ≤ 80000) (hP : P ≤ 50) (hp : p.length + 1 ≤ P) (hb : Sz b m) (hm : m + 2 * (g + 20) ≤ M)
    (k1 : ρ.lookup (Str.ofString "st") = some (.cell 0)) (k2 : ρ.lookup (Str.ofString "w") = some (.cell 5)) (k3 : ρ.lookup (Str.ofString "path") = some (pathV p)) (k4 : ρ.lookup (Str.ofString "level") = some (.int lvl)) (k5 : ρ.lookup (Str.ofString "x") = some (.int x)) (k6 : ρ.lookup (Str.ofString "t0") = some (.int t0)) (k7 : ρ.lookup (Str.ofString "t1") = some (.int t1)) :
    ∃ ρ', X = some (.next, ρ', stoD sc ((sortsAt (x.fmod 7)).foldl (fun b s => clauseB blk x p t0 t1 s b) b) ex) ∧ Sz ((sortsAt (x.fmod 7)).foldl (fun b s => clauseB blk x p t0 t1 s b) b) (m + 2 * (g + 6)) := by
  obtain ⟨i, e, hi⟩ := fmod_nat x (n := 7) (by decide)
  replace e : x.fmod 7 = i := e
  have i1 : idx (i : Int) = true := idx_of (Int.natCast_nonneg _) (by omega)
  obtain ⟨o1, _, o3⟩ := sortsAt_ok i hi
  rw [e]
  rw [bs_try_5] at hX
  simp [mkG, G_try, k5, e, i1, o1] at hX
  obtain ⟨ρ', e, ⟨j, hj, hz⟩, _⟩ := loop_fold V.int (fun b => stoD sc b ex) (fun b s => clauseB blk x p t0 t1 s b) W_try (fun as b => ∃ j, j + as.length ≤ 2 ∧ Sz b (m + j * (g + 6))) (fun _ _ => True) (b := b) hX rfl (by exact fun _ => trivial) ⟨0, by rw [Nat.zero_add]; exact o3, by rw [Nat.zero_mul]; exact hb⟩ trivial
    fun s as b' ρ' ⟨j, hj, hz⟩ k _ => by
      rw [List.length_cons] at hj
      have hj1 : j * (g + 6) ≤ 1 * (g + 6) := Nat.mul_le_mul_right _ (by omega)
      obtain ⟨ρ2, e1, e2, e3⟩ := clause_ok (n := n + 9) (ρ := lset ρ' (Str.ofString "sort") (.int s)) (x := x) (sort := s) (ex := ex) (sc := sc) (t0 := t0) (t1 := t1) hf hM hP hp hz (by omega) (by simp) (by simp [k.get k1 (by kernel_rfl)]) (by simp [k.get k2 (by kernel_rfl)]) (by simp [k.get k3 (by kernel_rfl)]) (by simp [k.get k4 (by kernel_rfl)]) (by simp [k.get k5 (by kernel_rfl)]) (by simp [k.get k6 (by kernel_rfl)]) (by simp [k.get k7 (by kernel_rfl)])
      exact ⟨⟨j + 1, by omega, e2.le (by rw [Nat.add_mul, Nat.one_mul, Nat.add_assoc, Nat.add_assoc]; exact Nat.le_refl _)⟩, .on ρ2 e1 ⟨(k.set (by kernel_rfl)).trans e3, trivial⟩ rfl⟩
  exact ⟨ρ', e, hz.le (Nat.add_le_add_left (Nat.mul_le_mul_right _ hj) _)⟩
end
theorem try_eq {sc : List Int} {f : List V → Sto → Option (V × Sto)} {blk : B → List Int → B} {lvl : Int} {g M P : Nat} {ex : Sto} {b : B} {p : List Int} {m : Nat}
    (hf : BlkOk sc f blk (lvl + 1) g ex M P) (hM : M ≤ 80000) (hP : P ≤ 50) (hp : p.length + 1 ≤ P) (hb : Sz b m) (hm : m + 3 * (g + 50) ≤ M) (hs : sc.length ≤ 100) :
    E_try f [.cell 0, .cell 5, pathV p, .int lvl] (stoD sc b ex) = some (.none, stoD sc (tryB sc blk b p) ex) ∧ Sz (tryB sc blk b p) (m + 3 * (g + 20)) := by
  rw [rn_try, bd_try]
  generalize hT : tryB sc blk b p = T
  unfold tryB at hT
  generalize hb0 : ({ b with left := b.left - 1 } : B) = b0 at *
  have S0 : Sz b0 m := by rw [← hb0]; exact ⟨hb.k, hb.ops, hb.paths, hb.clauses, hb.regions⟩
  have L0 : setV (stoD sc b ex) (.cell 5) (.str (Str.ofString "left")) (.int (b.left - 1)) = some (stoD sc b0 ex) := by rw [stL, hb0]
  have R1 := region_eq' sc b0 ex p "T" (S0.le (by omega)) (by omega)
  have S1 := S0.reg "T"
  obtain ⟨F1, F2⟩ := hf _ (p ++ [(b0.regions.length : Int)]) (S1.le (by omega)) (by rw [List.length_append]; exact hp)
  have S2 := F2 _ S1
  dsimp only at hT
  generalize blk (regB b0 "T") (p ++ [(b0.regions.length : Int)]) = b1 at *
  have t := take_eq' sc b1 ex hs (Nat.le_trans S2.k (by omega))
  have S3 := S2.take
  generalize takeV sc b1.k = x at *
  have f1 : fits b0.ops.length = true := fits_of (by have := S0.ops; omega)
  have f2 : fits b1.ops.length = true := fits_of (by have := S2.ops; omega)
  simp [mkG, G_try, sd5, L0, -wStr, R1, F1, t, f1, f2, sd1]
  generalize hX : evS _ _ S_try_5 _ _ = X
  obtain ⟨ρ', rfl, e2⟩ := try_loop (n := 74) (x := x) (p := p) (lvl := lvl) (t0 := (b0.ops.length : Int)) (t1 := (b1.ops.length : Int)) hX hf hM hP hp S3 (by omega) (by simp) (by simp) (by simp) (by simp) (by simp) (by simp) (by simp)
  rw [hT] at e2 ⊢
  exact ⟨by simp, e2.le (by omega)⟩
end Mine
end

section
open PySem PySem.W PyProof.Rows PySem.Calls
set_option autoImplicit false
set_option maxRecDepth 100000
set_option maxHeartbeats 4000000
set_option linter.unusedSimpArgs false
set_option linter.unusedVariables false
set_option linter.defProp false
namespace Mine

noncomputable def blkL (sc : List Int) : Nat → B → List Int → B
  | 0 => blockB sc none
  | d + 1 => blockB sc (some (tryB sc (blkL sc d)))
noncomputable def EL : Nat → List V → Sto → Option (V × Sto)
  | 0 => E_block []
  | d + 1 => E_block [("_law_try", .fnE 206 (E_try (EL d)))]
theorem blockB_sz {sc : List Int} {t : Option (B → List Int → B)} {b : B} {p : List Int} {m g : Nat} (h : Sz b m) (ht : ∀ tf, t = some tf → ∀ b' m', Sz b' m' → Sz b' (m + 2) → m' ≤ m + 2 → Sz (tf b' p) (m' + g)) : Sz (blockB sc t b p) (m + g + 3) := by
  unfold blockB
  generalize takeV sc b.k = x
  simp only
  have S1 : Sz (if x.fmod 2 = 1 then putB (takeB b) (opsAt ((x.fdiv 8).fmod 5)) p else takeB b) (m + 2) := by
    split
    · exact h.take.put _ _
    · exact h.take.le (by omega)
  generalize (if x.fmod 2 = 1 then putB (takeB b) (opsAt ((x.fdiv 8).fmod 5)) p else takeB b) = b2 at S1 ⊢
  cases t with
  | none =>
    simp only
    split
    · exact (S1.put _ _).le (by omega)
    · exact S1.le (by omega)
  | some tf =>
    simp only
    have S2 : Sz (if (x.fdiv 2).fmod 2 = 1 ∧ 0 < b2.left then tf b2 p else b2) (m + 2 + g) := by
      split
      · exact ht _ rfl b2 _ S1 S1 (Nat.le_refl _)
      · exact S1.le (by omega)
    generalize (if (x.fdiv 2).fmod 2 = 1 ∧ 0 < b2.left then tf b2 p else b2) = b3 at S2 ⊢
    split
    · exact (S2.put _ _).le (by omega)
    · exact S2.le (by omega)

theorem blk_0 (sc : List Int) (hs : sc.length ≤ 100) (ex : Sto) : BlkOk sc (EL 0) (blkL sc 0) 3 3 ex 20000 20 := fun b' p' hb hp =>
  ⟨block_0 sc b' ex p' hs (hb.le (by decide)), fun m h => blockB_sz (g := 0) h (fun tf h => by cases h)⟩
/-- from one level to the next -/
theorem blk_step {sc : List Int} {ex : Sto} {d g M P : Nat} {lvl : Int} (hs : sc.length ≤ 100) (ih : BlkOk sc (EL d) (blkL sc d) (lvl + 1) g ex (M + 3000) (P + 1)) (hl : lvl < 3) (hg : g ≤ 600) (hM : M ≤ 60000) (hP : P ≤ 40) : BlkOk sc (EL (d + 1)) (blkL sc (d + 1)) lvl (3 * (g + 20) + 3) ex M P := by
  intro b' p' hb hp
  have tr : ∀ (b2 : B) (m' : Nat), Sz b2 m' → m' ≤ M + 2 → E_try (EL d) [.cell 0, .cell 5, pathV p', .int lvl] (stoD sc b2 ex) = some (.none, stoD sc (tryB sc (blkL sc d) b2 p') ex) ∧ Sz (tryB sc (blkL sc d) b2 p') (m' + 3 * (g + 20)) := fun b2 m' h2 hm' =>
    try_eq ih (by omega) (by omega) (Nat.succ_le_succ hp) h2 (by omega) hs
  refine ⟨?_, fun m h => ?_⟩
  · exact block_s sc b' ex p' _ hl (E_try (EL d)) (tryB sc (blkL sc d)) M (M + 2 + 3 * (g + 20)) (by omega) (by omega) (fun b2 h2 => tr b2 _ h2 (Nat.le_refl _)) hs hb
  · have key : ∀ m, m ≤ M → Sz b' m → Sz (blkL sc (d + 1) b' p') (m + (3 * (g + 20) + 3)) := fun m hm h => by
      refine (blockB_sz (g := 3 * (g + 20)) (m := m) h (fun tf he b2 m' h2 h3 hm' => ?_)).le (Nat.le_of_eq (Nat.add_assoc _ _ _))
      cases he
      exact (tr b2 m' h2 (Nat.le_trans hm' (Nat.add_le_add_right hm 2))).2
    by_cases hm : m ≤ M
    · exact key m hm h
    · exact (key M (Nat.le_refl _) hb).le (Nat.add_le_add_right (Nat.le_of_not_le hm) _)
theorem blk_2 (sc : List Int) (hs : sc.length ≤ 100) (ex : Sto) : BlkOk sc (EL 2) (blkL sc 2) 1 279 ex 14000 18 :=
  blk_step hs (lvl := 1) (blk_step hs (lvl := 2) (P := 19) (M := 17000) (blk_0 sc hs ex) (by decide) (by decide) (by decide) (by decide)) (by decide) (by decide) (by decide) (by decide)
theorem blk_3 (sc : List Int) (hs : sc.length ≤ 100) (ex : Sto) : BlkOk sc (EL 3) (blkL sc 3) 0 900 ex 11000 17 := blk_step hs (lvl := 0) (blk_2 sc hs ex) (by decide) (by decide) (by decide) (by decide)
end Mine
end

section
open PySem PySem.W PyProof.Rows PySem.Calls
set_option autoImplicit false
set_option maxRecDepth 100000
set_option maxHeartbeats 4000000
set_option linter.unusedSimpArgs false
set_option linter.unusedVariables false
set_option linter.defProp false
namespace Mine

theorem whileF_use {t : Loc → Sto → Option (Bool × Sto)} {f : Loc → Sto → Option (Fl × Loc × Sto)} {σ : Sto} (P : Nat → Loc → Prop)
    (h0 : ∀ ρ, P 0 ρ → t ρ σ = some (false, σ)) (hs : ∀ k ρ, P (k + 1) ρ → t ρ σ = some (true, σ) ∧ ∃ ρ', f ρ σ = some (.next, ρ', σ) ∧ P k ρ') (k : Nat) :
    ∀ (n : Nat) (ρ : Loc), k < n → P k ρ → ∃ ρ', whileF t f n ρ σ = some (.next, ρ', σ) ∧ P 0 ρ' := by
  induction k with
  | zero =>
    intro n ρ hn hP
    cases n with
    | zero => exact absurd hn (Nat.lt_irrefl 0)
    | succ n => exact ⟨ρ, by rw [whileF, h0 ρ hP]; rfl, hP⟩
  | succ k ih =>
    intro n ρ hn hP
    cases n with
    | zero => exact absurd hn (Nat.not_lt_zero _)
    | succ n =>
      obtain ⟨a, ρ', b, c⟩ := hs k ρ hP
      refine (ih n ρ' (Nat.lt_of_succ_lt_succ hn) c).imp fun ρ₂ h => ⟨?_, h.2⟩
      rw [whileF, a, ← h.1, Option.bind_some]
      show (f ρ σ).bind _ = _
      rw [b]; rfl

noncomputable def samePre : List Int → List Int → Nat
  | x :: a, y :: b => if x = y then samePre a b + 1 else 0
  | _, _ => 0
noncomputable def regAt (b : B) (r : Int) : String × Int := b.regions.getD r.toNat ("", 0)
noncomputable def wayS (b : B) (i : Nat) (aim : Int) (lv : Bool) : Int :=
  if aim < 0 ∨ (b.ops.length : Int) ≤ aim then 5
  else
    let a := b.paths.getD i []
    let c := b.paths.getD aim.toNat []
    let k := samePre a c
    if ((a.drop k).all fun r => lv && (decide ((regAt b r).1 = "T") || decide ((regAt b r).1 = "H"))) = true ∧ ((c.drop k).all fun r => decide (regAt b r = ("T", aim))) = true then 0
    else if lv then 6 else 5
theorem in_TH {σ : Sto} (l : String) (h : l = "T" ∨ l = "H" ∨ l = "N" ∨ l = "F") : inV σ (sv l) (sv "TH") = some (decide (l = "T") || decide (l = "H")) := by
  rcases h with rfl | rfl | rfl | rfl
  all_goals
    show some (!(Builtin.Str.occurrences _ _ 0 _ 1).isEmpty) = _
    congr 1
  · decide +kernel
  · decide +kernel
  · decide +kernel
  · decide +kernel
/-- the letters and the regions' numbers are as they are made -/
structure RegOk (b : B) : Prop where
  letters : ∀ r ∈ b.regions, r.1 = "T" ∨ r.1 = "H" ∨ r.1 = "N" ∨ r.1 = "F"
  paths : ∀ p ∈ b.paths, p.length ≤ 50 ∧ ∀ r ∈ p, 0 ≤ r ∧ r < b.regions.length
  len : b.paths.length = b.ops.length

noncomputable def G_way : List (Str × GV) := [("len", .bi "len")]
noncomputable def X_way : Cx := ⟨mkG G_way, F_way.names, []⟩
noncomputable def xn_way := @id ((X_way).names = [(_, _), (_, _), (_, _), (_, _), (_, _), (_, _), (_, _), (_, _), (_, _)]) nm_way
@[simp ↓] theorem v_way_w {n : Nat} {own : Bool} {p : Pos} {ρ : Loc} {σ : Sto} {R : Type} {K : K2 V R} : @cE R (X_way) (n + 1) own (.Name (Str.ofString "w") p) ρ σ K = @qv _ _ K σ (ρ.lookup (Str.ofString "w")) := rfl
@[simp ↓] theorem v_way_i {n : Nat} {own : Bool} {p : Pos} {ρ : Loc} {σ : Sto} {R : Type} {K : K2 V R} : @cE R (X_way) (n + 1) own (.Name (Str.ofString "i") p) ρ σ K = @qv _ _ K σ (ρ.lookup (Str.ofString "i")) := rfl
@[simp ↓] theorem v_way_aim {n : Nat} {own : Bool} {p : Pos} {ρ : Loc} {σ : Sto} {R : Type} {K : K2 V R} : @cE R (X_way) (n + 1) own (.Name (Str.ofString "aim") p) ρ σ K = @qv _ _ K σ (ρ.lookup (Str.ofString "aim")) := rfl
@[simp ↓] theorem v_way_leaving {n : Nat} {own : Bool} {p : Pos} {ρ : Loc} {σ : Sto} {R : Type} {K : K2 V R} : @cE R (X_way) (n + 1) own (.Name (Str.ofString "leaving") p) ρ σ K = @qv _ _ K σ (ρ.lookup (Str.ofString "leaving")) := rfl
@[simp ↓] theorem v_way_a {n : Nat} {own : Bool} {p : Pos} {ρ : Loc} {σ : Sto} {R : Type} {K : K2 V R} : @cE R (X_way) (n + 1) own (.Name (Str.ofString "a") p) ρ σ K = @qv _ _ K σ (ρ.lookup (Str.ofString "a")) := rfl
@[simp] theorem i_way_a : isLocN (X_way).names (Str.ofString "a") = true := rfl
@[simp ↓] theorem v_way_b {n : Nat} {own : Bool} {p : Pos} {ρ : Loc} {σ : Sto} {R : Type} {K : K2 V R} : @cE R (X_way) (n + 1) own (.Name (Str.ofString "b") p) ρ σ K = @qv _ _ K σ (ρ.lookup (Str.ofString "b")) := rfl
@[simp] theorem i_way_b : isLocN (X_way).names (Str.ofString "b") = true := rfl
@[simp ↓] theorem v_way_same {n : Nat} {own : Bool} {p : Pos} {ρ : Loc} {σ : Sto} {R : Type} {K : K2 V R} : @cE R (X_way) (n + 1) own (.Name (Str.ofString "same") p) ρ σ K = @qv _ _ K σ (ρ.lookup (Str.ofString "same")) := rfl
@[simp] theorem i_way_same : isLocN (X_way).names (Str.ofString "same") = true := rfl
@[simp ↓] theorem v_way_r {n : Nat} {own : Bool} {p : Pos} {ρ : Loc} {σ : Sto} {R : Type} {K : K2 V R} : @cE R (X_way) (n + 1) own (.Name (Str.ofString "r") p) ρ σ K = @qv _ _ K σ (ρ.lookup (Str.ofString "r")) := rfl
@[simp] theorem i_way_r : isLocN (X_way).names (Str.ofString "r") = true := rfl
@[simp] theorem g_way_len : Cx.glob (X_way) (Str.ofString "len") = some (.bi "len") := rfl
noncomputable def E_way : List V → Sto → Option (V × Sto) := F_way.run (mkG G_way) 150
theorem rn_way (uw ui uaim uleaving : V) (σ : Sto) : E_way [uw, ui, uaim, uleaving] σ = @cSs _ (X_way) 150 F_way.body [(("w" : Str), uw), (("i" : Str), ui), (("aim" : Str), uaim), (("leaving" : Str), uleaving)] σ kE := run_eq F_way (mkG G_way) 150 [uw, ui, uaim, uleaving] σ [] [(("w" : Str), uw), (("i" : Str), ui), (("aim" : Str), uaim), (("leaving" : Str), uleaving)] rfl (by kernel_rfl) (by kernel_rfl)
theorem samePre_le (a : List Int) : ∀ c : List Int, samePre a c ≤ a.length ∧ samePre a c ≤ c.length := by
  induction a with
  | nil => exact fun _ => ⟨Nat.zero_le _, Nat.zero_le _⟩
  | cons x a ih =>
    intro c
    cases c with
    | nil => exact ⟨Nat.zero_le _, Nat.zero_le _⟩
    | cons y c =>
      rw [samePre]
      split
      · exact ⟨Nat.succ_le_succ (ih c).1, Nat.succ_le_succ (ih c).2⟩
      · exact ⟨Nat.zero_le _, Nat.zero_le _⟩
theorem samePre_get (a : List Int) : ∀ (c : List Int) (j : Nat), j < samePre a c → a[j]? = c[j]? := by
  induction a with
  | nil => exact fun _ _ h => absurd h (Nat.not_lt_zero _)
  | cons x a ih =>
    intro c j h
    cases c with
    | nil => exact absurd h (Nat.not_lt_zero _)
    | cons y c =>
      rw [samePre] at h
      split at h
      · rename_i e
        subst e
        cases j with
        | zero => rfl
        | succ j => exact ih c j (Nat.lt_of_succ_lt_succ h)
      · exact absurd h (Nat.not_lt_zero _)
theorem samePre_stop (a : List Int) : ∀ c : List Int, samePre a c < a.length → samePre a c < c.length → a[samePre a c]? ≠ c[samePre a c]? := by
  induction a with
  | nil => exact fun _ h => absurd h (Nat.not_lt_zero _)
  | cons x a ih =>
    intro c h1 h2
    cases c with
    | nil => exact absurd h2 (Nat.not_lt_zero _)
    | cons y c =>
      rw [samePre] at h1 h2 ⊢
      by_cases e : x = y
      · rw [if_pos e] at h1 h2 ⊢
        exact ih c (Nat.lt_of_succ_lt_succ h1) (Nat.lt_of_succ_lt_succ h2)
      · rw [if_neg e]
        exact fun h => e (Option.some.inj h)
section
variable {n : Nat} {ρ : Loc} {σ : Sto} {X : Option (Fl × Loc × Sto)} {a c : List Int} {sc : List Int} {b : B} {ex : Sto} {k : Nat} {lv : Bool} {aim : Int}
theorem way_while (hX : evS X_way (n + 20) S_way_4 ρ σ = X) (ha : a.length ≤ 50) (hc : c.length ≤ 50)
    (k1 : ρ.lookup (Str.ofString "a") = some (pathV a)) (k2 : ρ.lookup (Str.ofString "b") = some (pathV c)) (k3 : ρ.lookup (Str.ofString "same") = some (.int 0)) :
    ∃ ρ', X = some (.next, ρ', σ) ∧ ρ'.lookup (Str.ofString "same") = some (.int (samePre a c)) ∧ Kp [Str.ofString "same"] ρ ρ' := by
  rw [bs_way_4, evS_while] at hX
  have f1 : fits a.length = true := fits_of (by omega)
  have f2 : fits c.length = true := fits_of (by omega)
  have hle := samePre_le a c
  rw [← hX]
  refine whileF_use (P := fun k ρ' => k ≤ samePre a c ∧ ρ'.lookup (Str.ofString "same") = some (.int (samePre a c - k : Nat)) ∧ Kp [Str.ofString "same"] ρ ρ') (fun ρ' ⟨_, q1, q2⟩ => ?_) (fun k ρ' ⟨hk, q1, q2⟩ => ?_) (samePre a c) 1000 ρ (by omega) ⟨Nat.le_refl _, by rw [Nat.sub_self]; exact k3, .refl⟩ |>.imp fun ρ' h => ⟨h.1, h.2.2⟩
  · rw [Nat.sub_zero] at q1
    have p1 := q2.get k1 (by kernel_rfl)
    have p2 := q2.get k2 (by kernel_rfl)
    have st := samePre_stop a c
    generalize samePre a c = s at *
    have gs : idx (s : Int) = true := idx_of (Int.natCast_nonneg _) (by omega)
    by_cases h1 : s < a.length
    · by_cases h2 : s < c.length
      · have h3 : a[s] ≠ c[s] := fun e => st h1 h2 (by rw [List.getElem?_eq_getElem h1, List.getElem?_eq_getElem h2, e])
        simp [mkG, G_way, p1, p2, q1, f1, f2, h1, h2, gs, h3]
      · simp [mkG, G_way, p1, p2, q1, f1, f2, h1, h2]
    · simp [mkG, G_way, p1, q1, f1, h1]
  · have p1 := q2.get k1 (by kernel_rfl)
    have p2 := q2.get k2 (by kernel_rfl)
    have hg := samePre_get a c (samePre a c - (k + 1)) (by omega)
    have hj : samePre a c - k = samePre a c - (k + 1) + 1 := by omega
    rw [hj]
    have h1 : samePre a c - (k + 1) < a.length := by omega
    have h2 : samePre a c - (k + 1) < c.length := by omega
    generalize samePre a c - (k + 1) = j at *
    have gs : idx (j : Int) = true := idx_of (Int.natCast_nonneg _) (by omega)
    have h3 : a[j] = c[j] := Option.some.inj (((List.getElem?_eq_getElem h1).symm.trans hg).trans (List.getElem?_eq_getElem h2))
    exact ⟨by simp [mkG, G_way, p1, p2, q1, f1, f2, h1, h2, gs, h3], lset ρ' (Str.ofString "same") (.int ((j : Int) + 1)), by rw [bb_way_4]; simp [mkG, G_way, q1], Nat.le_of_succ_le hk, lsHit, q2.set (by kernel_rfl)⟩
theorem reg_get (r : Int) (h0 : 0 ≤ r) (h1 : r < b.regions.length) : (b.regions.map regV)[r.toNat]? = some (regV (regAt b r)) ∧ regAt b r ∈ b.regions := by
  have : b.regions[r.toNat]? = some (regAt b r) := by
    rw [regAt, List.getD_eq_getElem?_getD, List.getElem?_eq_getElem (by omega)]; rfl
  exact ⟨by rw [List.getElem?_map, this]; rfl, List.mem_of_getElem? this⟩
noncomputable abbrev lvV (lv : Bool) : Int := if lv then 6 else 5
noncomputable def wyA (b : B) (lv : Bool) (r : Int) : Bool := lv && (decide ((regAt b r).1 = "T") || decide ((regAt b r).1 = "H"))
noncomputable def wyB (b : B) (aim : Int) (r : Int) : Bool := decide (regAt b r = ("T", aim))
theorem way_a (hX : evS X_way (n + 20) S_way_5 ρ (stoD sc b ex) = X) (hb : Sz b 80000) (hr : RegOk b) (ha : a.length ≤ 50) (hk : k ≤ a.length) (hin : ∀ r ∈ a, 0 ≤ r ∧ r < b.regions.length)
    (k1 : ρ.lookup (Str.ofString "a") = some (pathV a)) (k2 : ρ.lookup (Str.ofString "same") = some (.int k)) (k3 : ρ.lookup (Str.ofString "w") = some (.cell 5)) (k4 : ρ.lookup (Str.ofString "leaving") = some (.bool lv)) :
    ∃ ρ', X = some (bif (a.drop k).all (wyA b lv) then .next else .ret (.int (lvV lv)), ρ', stoD sc b ex) ∧ Kp [Str.ofString "r"] ρ ρ' := by
  have z1 : a.length ≤ sizeLine := sizeOk (by omega)
  have hk' : (k : Int) ≤ a.length := Int.ofNat_le.mpr hk
  rw [bs_way_5] at hX
  simp [mkG, G_way, k1, k2, z1, hk, hk', -List.map_drop] at hX
  refine loop_all V.int (wyA b lv) (.int (lvV lv)) [Str.ofString "r"] hX List.map_drop.symm (by exact trivial) fun x hx ρ' k' => ?_
  have hxa := List.mem_of_mem_drop hx
  obtain ⟨x0, x1⟩ := hin x hxa
  have gx : idx x = true := idx_of x0 (by have := hb.regions; omega)
  obtain ⟨g1, g2⟩ := reg_get x x0 x1
  have hth := fun σ => in_TH (σ := σ) (regAt b x).1 (hr.letters _ g2)
  have p3 := k'.get k3 (by kernel_rfl)
  have p4 := k'.get k4 (by kernel_rfl)
  have q := k'.set (x := Str.ofString "r") (v := .int x) (by kernel_rfl)
  rw [wyA, bb_way_5]
  generalize (decide ((regAt b x).1 = "T") || decide ((regAt b x).1 = "H")) = h at *
  cases lv with
  | false => exact .ret _ _ (by simp [mkG, G_way, p4]) q rfl
  | true => cases h with
    | true => exact .on _ (by simp [mkG, G_way, p3, p4, sd5, sd4, gx, g1, hth, -List.getElem?_map]) q rfl
    | false => exact .ret _ _ (by simp [mkG, G_way, p3, p4, sd5, sd4, gx, g1, hth, -List.getElem?_map]) q rfl
theorem e_reg {σ : Sto} (l m : String) (i j : Int) : eqV σ (.tup [sv l, .int i]) (.tup [sv m, .int j]) = some (decide ((l, i) = (m, j))) := by
  simp [eqV, rTup, ok_str, V.py, V.pys, PyData.eqv, PyData.eqvAll, ofString_beq]
  rw [Bool.eq_iff_iff]; simp
theorem way_b (hX : evS X_way (n + 20) S_way_6 ρ (stoD sc b ex) = X) (hb : Sz b 80000) (ha : a.length ≤ 50) (hk : k ≤ a.length) (hin : ∀ r ∈ a, 0 ≤ r ∧ r < b.regions.length)
    (k1 : ρ.lookup (Str.ofString "b") = some (pathV a)) (k2 : ρ.lookup (Str.ofString "same") = some (.int k)) (k3 : ρ.lookup (Str.ofString "w") = some (.cell 5)) (k4 : ρ.lookup (Str.ofString "leaving") = some (.bool lv)) (k5 : ρ.lookup (Str.ofString "aim") = some (.int aim)) :
    ∃ ρ', X = some (bif (a.drop k).all (wyB b aim) then .next else .ret (.int (lvV lv)), ρ', stoD sc b ex) ∧ Kp [Str.ofString "r"] ρ ρ' := by
  have z1 : a.length ≤ sizeLine := sizeOk (by omega)
  have hk' : (k : Int) ≤ a.length := Int.ofNat_le.mpr hk
  rw [bs_way_6] at hX
  simp [mkG, G_way, k1, k2, z1, hk, hk', -List.map_drop] at hX
  refine loop_all V.int (wyB b aim) (.int (lvV lv)) [Str.ofString "r"] hX List.map_drop.symm (by exact trivial) fun x hx ρ' k' => ?_
  obtain ⟨x0, x1⟩ := hin x (List.mem_of_mem_drop hx)
  have gx : idx x = true := idx_of x0 (by have := hb.regions; omega)
  obtain ⟨g1, g2⟩ := reg_get x x0 x1
  have p3 := k'.get k3 (by kernel_rfl)
  have p4 := k'.get k4 (by kernel_rfl)
  have p5 := k'.get k5 (by kernel_rfl)
  have q := k'.set (x := Str.ofString "r") (v := .int x) (by kernel_rfl)
  have hE := fun σ => e_reg (σ := σ) (regAt b x).1 "T" (regAt b x).2 aim
  rw [wyB, bb_way_6]
  generalize decide (regAt b x = ("T", aim)) = h at *
  cases h with
  | true => exact .on _ (by simp [mkG, G_way, p3, p5, sd5, sd4, gx, g1, hE, -List.getElem?_map]) q rfl
  | false => cases lv with
    | true => exact .ret _ _ (by simp [mkG, G_way, p3, p4, p5, sd5, sd4, gx, g1, hE, -List.getElem?_map]) q rfl
    | false => exact .ret _ _ (by simp [mkG, G_way, p3, p4, p5, sd5, sd4, gx, g1, hE, -List.getElem?_map]) q rfl
end
theorem way_eq (sc : List Int) (b : B) (ex : Sto) (i : Nat) (aim : Int) (lv : Bool) (hb : Sz b 80000) (hr : RegOk b) (hi : i < b.ops.length) : E_way [.cell 5, .int i, .int aim, .bool lv] (stoD sc b ex) = some (.int (wayS b i aim lv), stoD sc b ex) := by
  have f1 : fits b.ops.length = true := fits_of (by have := hb.ops; omega)
  have gi : idx (i : Int) = true := idx_of (by omega) (by have := hb.ops; omega)
  rw [rn_way, bd_way, wayS]
  by_cases h1 : aim < 0
  · rw [if_pos (.inl h1)]
    simp [mkG, G_way, h1]
  by_cases h2 : (b.ops.length : Int) ≤ aim
  · rw [if_pos (.inr h2)]
    simp [mkG, G_way, sd5, sd1, f1, h1, h2]
  rw [if_neg fun h => h.elim h1 h2]
  obtain ⟨j, rfl⟩ := Int.eq_ofNat_of_zero_le (Int.not_lt.mp h1)
  have hj : j < b.ops.length := by omega
  have gj : idx (j : Int) = true := idx_of (by omega) (by have := hb.ops; omega)
  have hi' : i < b.paths.length := hr.len.symm ▸ hi
  have hj' : j < b.paths.length := hr.len.symm ▸ hj
  rw [Int.toNat_natCast, List.getD_eq_getElem?_getD, List.getD_eq_getElem?_getD, List.getElem?_eq_getElem hi', List.getElem?_eq_getElem hj', Option.getD_some, Option.getD_some]
  obtain ⟨ha1, ha2⟩ := hr.paths _ (List.getElem_mem hi')
  obtain ⟨hc1, hc2⟩ := hr.paths _ (List.getElem_mem hj')
  obtain ⟨a, ha⟩ : ∃ a, b.paths[i] = a := ⟨_, rfl⟩
  obtain ⟨c, hc⟩ : ∃ c, b.paths[j] = c := ⟨_, rfl⟩
  rw [ha] at ha1 ha2 ⊢
  rw [hc] at hc1 hc2 ⊢
  have hle := samePre_le a c
  show _ = some (V.int (if ((a.drop (samePre a c)).all (wyA b lv)) = true ∧ ((c.drop (samePre a c)).all (wyB b j)) = true then 0 else lvV lv), stoD sc b ex)
  obtain ⟨A, hA⟩ : ∃ A, (a.drop (samePre a c)).all (wyA b lv) = A := ⟨_, rfl⟩
  obtain ⟨C, hC⟩ : ∃ C, (c.drop (samePre a c)).all (wyB b j) = C := ⟨_, rfl⟩
  rw [hA, hC]
  simp [mkG, G_way, sd5, sd1, sd2, f1, h1, h2, gi, gj, hi', hj', ha, hc]
  generalize hX : evS _ _ S_way_4 _ _ = X
  obtain ⟨ρ1, rfl, e1, k1⟩ := way_while (n := 124) (a := a) (c := c) hX ha1 hc1 (by simp) (by simp) (by simp)
  have l1 : ρ1.lookup (Str.ofString "a") = some (pathV a) := k1.get (by simp) (by kernel_rfl)
  have l2 : ρ1.lookup (Str.ofString "b") = some (pathV c) := k1.get (by simp) (by kernel_rfl)
  have l3 : ρ1.lookup (Str.ofString "w") = some (.cell 5) := k1.get (by simp) (by kernel_rfl)
  have l4 : ρ1.lookup (Str.ofString "leaving") = some (.bool lv) := k1.get (by simp) (by kernel_rfl)
  have l5 : ρ1.lookup (Str.ofString "aim") = some (.int j) := k1.get (by simp) (by kernel_rfl)
  clear hX
  rw [pSS, qN, ss1, cs_way_5]
  generalize hX : evS _ _ S_way_5 _ _ = X
  obtain ⟨ρ2, rfl, k2⟩ := way_a (n := 124) hX hb hr ha1 hle.1 ha2 l1 e1 l3 l4
  clear hX
  rw [pSS, hA]
  cases A with
  | false => simp
  | true =>
    rw [cond_true, qN, ss1, cs_way_6]
    generalize hX : evS _ _ S_way_6 _ _ = X
    obtain ⟨ρ3, rfl, k3⟩ := way_b (n := 123) (lv := lv) (aim := j) hX hb hc1 hle.2 hc2 (k2.get l2 (by kernel_rfl)) (k2.get e1 (by kernel_rfl)) (k2.get l3 (by kernel_rfl)) (k2.get l4 (by kernel_rfl)) (k2.get l5 (by kernel_rfl))
    rw [pSS, hC]
    cases C <;> simp
end Mine
end

section
open PySem PySem.W PyProof.Rows PySem.Calls
set_option autoImplicit false
set_option maxRecDepth 100000
set_option maxHeartbeats 4000000
set_option linter.unusedSimpArgs false
set_option linter.unusedVariables false
set_option linter.defProp false
namespace Mine

theorem e_ll {σ : Sto} (l m : List String) : eqV σ (.lst (l.map sv)) (.lst (m.map sv)) = some (decide (l = m)) := by
  have h2 : ∀ m : List String, (V.lst (m.map sv)).pure 6 = true := fun m => pure_sv m 5
  simp only [eqV, rLst, h2, if_true, Option.bind_some]
  have h3 : ∀ l : List String, (V.lst (l.map sv)).okd 6 = true := fun l => okd_sv l 5
  simp only [h3, Bool.and_self, if_true, V.py, PyData.eqv, eqvAll_str]
noncomputable def aroundS (b : B) (i : Nat) : List String := ((b.paths.getD i []).map fun r => (regAt b r).1).reverse
noncomputable def standS (b : B) (i : Nat) (op : Int) : Int :=
  let ls := aroundS b i
  let hs := ls.filter fun x => decide (x ≠ "T")
  if op = 42 ∧ ls ≠ [] then 9 else if op = 65050 ∧ hs.take 1 ≠ ["H"] then 5 else if op = 220 ∧ ls.take 1 ≠ ["N"] then 5 else if op = 65041 ∧ ls.take 1 ≠ ["F"] then 5 else 0

theorem st_app {sc : List Int} {b : B} {ex l : Sto} : stoD sc b ex ++ l = stoD sc b (ex ++ l) := rfl
theorem st_len {sc : List Int} {b : B} {ex : Sto} : (stoD sc b ex).length = ex.length + 6 := rfl
theorem st_get {sc : List Int} {b : B} {ex : Sto} {k : Nat} : (stoD sc b ex)[k + 6]? = ex[k]? := rfl
theorem st_g1 {sc : List Int} {b : B} {ex l : Sto} {c : Cell} : (stoD sc b (ex ++ c :: l))[ex.length + 6]? = some c := by rw [st_get]; simp
theorem st_g2 {sc : List Int} {b : B} {ex l : Sto} {c d : Cell} : (stoD sc b (ex ++ c :: d :: l))[ex.length + 1 + 6]? = some d := by rw [st_get, List.getElem?_append_right (by omega)]; simp
theorem st_g3 {sc : List Int} {b : B} {ex l : Sto} {c d e : Cell} : (stoD sc b (ex ++ c :: d :: e :: l))[ex.length + 2 + 6]? = some e := by rw [st_get, List.getElem?_append_right (by omega)]; simp
noncomputable def G_stand : List (Str × GV) := []
noncomputable def X_stand (uw : V) : Cx := ⟨mkG G_stand, F_stand.names, [(("w" : Str), uw)]⟩
noncomputable def xn_stand (uw : V) := @id ((X_stand uw).names = [(_, _), (_, _), (_, _), (_, _), (_, _)]) nm_stand
@[simp ↓] theorem v_stand_w {uw : V} {n : Nat} {own : Bool} {p : Pos} {ρ : Loc} {σ : Sto} {R : Type} {K : K2 V R} : @cE R (X_stand uw) (n + 1) own (.Name (Str.ofString "w") p) ρ σ K = @ap _ _ K σ (uw) := rfl
@[simp] theorem l_stand_w {uw : V} : (X_stand uw).names.lookup (Str.ofString "w") = some .cell := rfl
@[simp ↓] theorem v_stand_i {uw : V} {n : Nat} {own : Bool} {p : Pos} {ρ : Loc} {σ : Sto} {R : Type} {K : K2 V R} : @cE R (X_stand uw) (n + 1) own (.Name (Str.ofString "i") p) ρ σ K = @qv _ _ K σ (ρ.lookup (Str.ofString "i")) := rfl
@[simp ↓] theorem v_stand_op {uw : V} {n : Nat} {own : Bool} {p : Pos} {ρ : Loc} {σ : Sto} {R : Type} {K : K2 V R} : @cE R (X_stand uw) (n + 1) own (.Name (Str.ofString "op") p) ρ σ K = @qv _ _ K σ (ρ.lookup (Str.ofString "op")) := rfl
@[simp ↓] theorem v_stand_around_it {uw : V} {n : Nat} {own : Bool} {p : Pos} {ρ : Loc} {σ : Sto} {R : Type} {K : K2 V R} : @cE R (X_stand uw) (n + 1) own (.Name (Str.ofString "around_it") p) ρ σ K = @qv _ _ K σ (ρ.lookup (Str.ofString "around_it")) := rfl
@[simp] theorem i_stand_around_it {uw : V} : isLocN (X_stand uw).names (Str.ofString "around_it") = true := rfl
@[simp ↓] theorem v_stand_handlers {uw : V} {n : Nat} {own : Bool} {p : Pos} {ρ : Loc} {σ : Sto} {R : Type} {K : K2 V R} : @cE R (X_stand uw) (n + 1) own (.Name (Str.ofString "handlers") p) ρ σ K = @qv _ _ K σ (ρ.lookup (Str.ofString "handlers")) := rfl
@[simp] theorem i_stand_handlers {uw : V} : isLocN (X_stand uw).names (Str.ofString "handlers") = true := rfl
noncomputable def Y_stand_0 (uw : V) : Cx := ⟨(X_stand uw).G, [(Str.ofString ".0", .local), (Str.ofString "r", .local), (Str.ofString "w", .free)], (X_stand uw).cap⟩
@[simp] theorem c_stand_0 {uw : V} : compOk (X_stand uw) ⟨.function, [(Str.ofString ".0", .local), (Str.ofString "r", .local), (Str.ofString "w", .free)], false, false, []⟩ = true := by kernel_rfl
@[simp ↓ high] theorem q_stand_0 {uw : V} {n : Nat} {σ : Sto} {tgt elt : PySem.Expr} {ifs : List PySem.Expr} {src : Src} : @ap _ _ (kComp (X_stand uw) n tgt elt ifs ⟨.function, [(Str.ofString ".0", .local), (Str.ofString "r", .local), (Str.ofString "w", .free)], false, false, []⟩) σ src = gd (!src.tup || isTup tgt) (@mp _ _ (Km.mk fun σ' => (V.cell σ.length, σ')) (turns src σ.length (fComp (Y_stand_0 uw) n tgt elt ifs) src.items (σ ++ [.lst []]))) := rfl
@[simp ↓] theorem v_stand_0_r {uw : V} {n : Nat} {own : Bool} {p : Pos} {ρ : Loc} {σ : Sto} {R : Type} {K : K2 V R} : @cE R (Y_stand_0 uw) (n + 1) own (.Name (Str.ofString "r") p) ρ σ K = @qv _ _ K σ (ρ.lookup (Str.ofString "r")) := rfl
@[simp] theorem i_stand_0_r {uw : V} : isLocN (Y_stand_0 uw).names (Str.ofString "r") = true := rfl
@[simp ↓] theorem v_stand_0_w {uw : V} {n : Nat} {own : Bool} {p : Pos} {ρ : Loc} {σ : Sto} {R : Type} {K : K2 V R} : @cE R (Y_stand_0 uw) (n + 1) own (.Name (Str.ofString "w") p) ρ σ K = @ap _ _ K σ (uw) := rfl
noncomputable def Y_stand_1 (uw : V) : Cx := ⟨(X_stand uw).G, [(Str.ofString ".0", .local), (Str.ofString "letter", .local)], (X_stand uw).cap⟩
@[simp] theorem c_stand_1 {uw : V} : compOk (X_stand uw) ⟨.function, [(Str.ofString ".0", .local), (Str.ofString "letter", .local)], false, false, []⟩ = true := by kernel_rfl
@[simp ↓ high] theorem q_stand_1 {uw : V} {n : Nat} {σ : Sto} {tgt elt : PySem.Expr} {ifs : List PySem.Expr} {src : Src} : @ap _ _ (kComp (X_stand uw) n tgt elt ifs ⟨.function, [(Str.ofString ".0", .local), (Str.ofString "letter", .local)], false, false, []⟩) σ src = gd (!src.tup || isTup tgt) (@mp _ _ (Km.mk fun σ' => (V.cell σ.length, σ')) (turns src σ.length (fComp (Y_stand_1 uw) n tgt elt ifs) src.items (σ ++ [.lst []]))) := rfl
@[simp ↓] theorem v_stand_1_letter {uw : V} {n : Nat} {own : Bool} {p : Pos} {ρ : Loc} {σ : Sto} {R : Type} {K : K2 V R} : @cE R (Y_stand_1 uw) (n + 1) own (.Name (Str.ofString "letter") p) ρ σ K = @qv _ _ K σ (ρ.lookup (Str.ofString "letter")) := rfl
@[simp] theorem i_stand_1_letter {uw : V} : isLocN (Y_stand_1 uw).names (Str.ofString "letter") = true := rfl
noncomputable def E_stand : List V → Sto → Option (V × Sto) := F_stand.run (mkG G_stand) 150
theorem rn_stand (uw ui uop : V) (σ : Sto) : E_stand [uw, ui, uop] σ = @cSs _ (X_stand uw) 150 F_stand.body [(("i" : Str), ui), (("op" : Str), uop)] σ kE := run_eq F_stand (mkG G_stand) 150 [uw, ui, uop] σ [(("w" : Str), uw)] [(("i" : Str), ui), (("op" : Str), uop)] rfl (by kernel_rfl) (by kernel_rfl)
noncomputable def R_stand_2 : List Stmt := F_stand.body.drop 2
noncomputable def S_stand_1 : Stmt := stAt F_stand.body 1
noncomputable def br_stand := @id (F_stand.body = _ :: S_stand_1 :: R_stand_2) rfl
noncomputable def bs_stand_1 := @id (S_stand_1 = .Assign _ _ _) rfl
noncomputable def br_stand_2 := @id (R_stand_2 = [_, _, _, _, _]) rfl
section
variable {uw : V} {sc : List Int} {b : B} {ex σ : Sto} {i n k j : Nat} {ρ : Loc} {op : Int} {S H : List String}
noncomputable def standV (S H : List String) (op : Int) : Int := if op = 42 ∧ S ≠ [] then 9 else if op = 65050 ∧ H.take 1 ≠ ["H"] then 5 else if op = 220 ∧ S.take 1 ≠ ["N"] then 5 else if op = 65041 ∧ S.take 1 ≠ ["F"] then 5 else 0
theorem stand_ifs (hk : σ[k]? = some (.lst (S.map sv))) (hj : σ[j]? = some (.lst (H.map sv))) (zS : S.length ≤ sizeLine) (zH : H.length ≤ sizeLine) (k1 : ρ.lookup (Str.ofString "op") = some (.int op)) (k2 : ρ.lookup (Str.ofString "around_it") = some (.cell k)) (k3 : ρ.lookup (Str.ofString "handlers") = some (.cell j)) :
    @cSs _ (X_stand uw) (n + 60) R_stand_2 ρ σ kE = some (.int (standV S H op), σ) := by
  have z7 : 1 ≤ sizeLine := sizeOk (by decide)
  have z8 : min 1 S.length ≤ sizeLine := Nat.le_trans (Nat.min_le_left _ _) z7
  have z9 : min 1 H.length ≤ sizeLine := Nat.le_trans (Nat.min_le_left _ _) z7
  have eS0 := e_nil S hk
  have eH := fun σ => e_ll (σ := σ) (H.take 1) ["H"]
  have eN := fun σ => e_ll (σ := σ) (S.take 1) ["N"]
  have eF := fun σ => e_ll (σ := σ) (S.take 1) ["F"]
  rw [List.map_take, List.map_cons, List.map_nil] at eH eN eF
  rw [br_stand_2, standV]
  by_cases o1 : op = 42
  · generalize hd : decide (S = []) = d at eS0
    cases d with
    | true => rw [if_neg fun h => h.2 (of_decide_eq_true hd)]; simp [mkG, G_stand, k1, k2, o1, eS0]
    | false => rw [if_pos ⟨o1, of_decide_eq_false hd⟩]; simp [mkG, G_stand, k1, k2, o1, eS0]
  rw [if_neg fun h => o1 h.1]
  by_cases o2 : op = 65050
  · generalize hd : decide (H.take 1 = ["H"]) = d at eH
    cases d with
    | true => rw [if_neg fun h => h.2 (of_decide_eq_true hd)]; simp [mkG, G_stand, k1, k3, o2, hj, zH, z9, z7, eH]
    | false => rw [if_pos ⟨o2, of_decide_eq_false hd⟩]; simp [mkG, G_stand, k1, k3, o2, hj, zH, z9, z7, eH]
  rw [if_neg fun h => o2 h.1]
  by_cases o3 : op = 220
  · generalize hd : decide (S.take 1 = ["N"]) = d at eN
    cases d with
    | true => rw [if_neg fun h => h.2 (of_decide_eq_true hd)]; simp [mkG, G_stand, k1, k2, o3, hk, zS, z8, z7, eN]
    | false => rw [if_pos ⟨o3, of_decide_eq_false hd⟩]; simp [mkG, G_stand, k1, k2, o3, hk, zS, z8, z7, eN]
  rw [if_neg fun h => o3 h.1]
  by_cases o4 : op = 65041
  · generalize hd : decide (S.take 1 = ["F"]) = d at eF
    cases d with
    | true => rw [if_neg fun h => h.2 (of_decide_eq_true hd)]; simp [mkG, G_stand, k1, k2, o4, hk, zS, z8, z7, eF]
    | false => rw [if_pos ⟨o4, of_decide_eq_false hd⟩]; simp [mkG, G_stand, k1, k2, o4, hk, zS, z8, z7, eF]
  · rw [if_neg fun h => o4 h.1]; simp [mkG, G_stand, k1, o1, o2, o3, o4]
end
theorem stand_eq (sc : List Int) (b : B) (ex : Sto) (i : Nat) (op : Int) (hb : Sz b 80000) (hr : RegOk b) (hi : i < b.ops.length) : ∃ junk, E_stand [.cell 5, .int i, .int op] (stoD sc b ex) = some (.int (standS b i op), stoD sc b (ex ++ junk)) := by
  have gi : idx (i : Int) = true := idx_of (by omega) (by have := hb.ops; omega)
  have hi' : i < b.paths.length := hr.len.symm ▸ hi
  obtain ⟨ha1, ha2⟩ := hr.paths _ (List.getElem_mem hi')
  have hls : aroundS b i = (b.paths[i].map fun r => (regAt b r).1).reverse := by rw [aroundS, List.getD_eq_getElem?_getD, List.getElem?_eq_getElem hi']; rfl
  have hv : standS b i op = standV (aroundS b i) ((aroundS b i).filter fun x => decide (x ≠ "T")) op := rfl
  obtain ⟨a, ha⟩ : ∃ a, b.paths[i] = a := ⟨_, rfl⟩
  rw [ha] at ha1 ha2 hls
  have z1 : a.length ≤ sizeLine := sizeOk (by omega)
  rw [hv, hls, rn_stand, br_stand]
  clear hv hls
  obtain ⟨L, hL⟩ : ∃ L, (a.map fun r => (regAt b r).1) = L := ⟨_, rfl⟩
  have zL : L.length ≤ sizeLine := by rw [← hL, List.length_map]; exact z1
  have zS : L.reverse.length ≤ sizeLine := by rw [List.length_reverse]; exact zL
  rw [hL]
  obtain ⟨H, hH⟩ : ∃ H, L.reverse.filter (fun x => decide (x ≠ "T")) = H := ⟨_, rfl⟩
  have zH : H.length ≤ sizeLine := by rw [← hH]; exact Nat.le_trans (List.length_filter_le _ _) zS
  rw [hH]
  refine ⟨[.lst (L.map sv), .lst (L.reverse.map sv), .lst (H.map sv)], ?_⟩
  simp [mkG, G_stand, sd5, sd2, gi, hi', ha, z1, -List.map_reverse]
  generalize hT : turns _ _ _ _ _ = T
  have h1 := turns_use hT (stoD sc b ex) V.int (fun r => some (sv (regAt b r).1)) a rfl rfl rfl rfl (fun acc => trivial) (fun r hr' acc => by
    obtain ⟨r0, r1⟩ := ha2 r hr'
    have gr : idx r = true := idx_of r0 (by have := hb.regions; omega)
    obtain ⟨g1, _⟩ := reg_get r r0 r1
    simp [mkG, G_stand, st_app, sd5, sd4, gr, g1, -List.getElem?_map]) z1
  have h2 : a.filterMap (fun r => some (sv (regAt b r).1)) = L.map sv := by rw [← hL, List.map_map]; exact congrFun List.filterMap_eq_map a
  rw [h1, h2]
  clear h1 hT h2
  simp [mkG, G_stand, st_app, st_len, st_g1, zL, -List.map_reverse, -getElem?_pos]
  rw [← List.map_reverse]
  generalize L.reverse = S at *
  rw [bs_stand_1]
  simp [mkG, G_stand, st_app, st_len, st_g2, zS, -List.map_reverse, -getElem?_pos]
  generalize hT : turns _ _ _ _ _ = T
  have h3 := turns_use hT (stoD sc b (ex ++ [.lst (L.map sv), .lst (S.map sv)])) sv (fun x => if decide (x ≠ "T") = true then some (sv x) else none) S rfl (by rw [st_len]; simp) (by rw [st_app]; simp) rfl (fun acc => ⟨_, by rw [st_app, List.append_assoc]; exact st_g2, rfl⟩) (fun x hx acc => by
    by_cases h : x = "T" <;> simp [mkG, G_stand, e_str, h]) zS
  have h4 : S.filterMap (fun x => if decide (x ≠ "T") = true then some (sv x) else none) = H.map sv := by rw [← hH, ← List.filterMap_eq_map', List.filterMap_filter]
  rw [h3, h4]
  clear h3 hT h4
  simp [mkG, G_stand, st_app, st_len]
  exact stand_ifs (n := 87) st_g2 st_g3 zS zH (by simp) (by simp) (by simp)
end Mine
end

section
open PySem PySem.W PyProof.Rows PySem.Calls
set_option autoImplicit false
set_option maxRecDepth 100000
set_option maxHeartbeats 4000000
set_option linter.unusedSimpArgs false
set_option linter.unusedVariables false
set_option linter.defProp false
namespace Mine

noncomputable abbrev FnT := List V → Sto → Option (V × Sto)
noncomputable def G_law (f3 f2 : FnT) : List (Str × GV) := ("len", GV.bi "len") :: ("min", GV.bi "min") :: ("range", GV.ty "range") :: ("_law_block", GV.fnE 192 f3) :: ("_law_try", GV.fnE 206 f2) :: ("region_faults", GV.fnP 84 P_region_faults) ::
  ("_law_take", GV.fnE 178 E_take) :: ("jump_fault", GV.fnP 140 P_jump_fault) :: ("_law_way", GV.fnE 235 E_way) :: ("_law_ops", GV.val (.tup [.int 0, .int 42, .int 65050, .int 220, .int 65041])) :: ("stand_fault", GV.fnP 147 P_stand_fault) :: ("_law_stand", GV.fnE 240 E_stand) ::
  ("_law_turned", GV.fnP 228 P_turned) :: ("_law_told", GV.fnP 221 P_told) :: []
noncomputable def X_law (f3 f2 : FnT) : Cx := ⟨mkG (G_law f3 f2), F_law.names, []⟩
@[simp ↓] theorem v_law_script {f3 f2 : FnT} {n : Nat} {own : Bool} {p : Pos} {ρ : Loc} {σ : Sto} {R : Type} {K : K2 V R} : @cE R (X_law f3 f2) (n + 1) own (.Name (Str.ofString "script") p) ρ σ K = @qv _ _ K σ (ρ.lookup (Str.ofString "script")) := rfl
@[simp ↓] theorem v_law_st {f3 f2 : FnT} {n : Nat} {own : Bool} {p : Pos} {ρ : Loc} {σ : Sto} {R : Type} {K : K2 V R} : @cE R (X_law f3 f2) (n + 1) own (.Name (Str.ofString "st") p) ρ σ K = @qv _ _ K σ (ρ.lookup (Str.ofString "st")) := rfl
@[simp] theorem i_law_st {f3 f2 : FnT} : isLocN (X_law f3 f2).names (Str.ofString "st") = true := rfl
@[simp ↓] theorem v_law_w {f3 f2 : FnT} {n : Nat} {own : Bool} {p : Pos} {ρ : Loc} {σ : Sto} {R : Type} {K : K2 V R} : @cE R (X_law f3 f2) (n + 1) own (.Name (Str.ofString "w") p) ρ σ K = @qv _ _ K σ (ρ.lookup (Str.ofString "w")) := rfl
@[simp] theorem i_law_w {f3 f2 : FnT} : isLocN (X_law f3 f2).names (Str.ofString "w") = true := rfl
@[simp ↓] theorem v_law_left {f3 f2 : FnT} {n : Nat} {own : Bool} {p : Pos} {ρ : Loc} {σ : Sto} {R : Type} {K : K2 V R} : @cE R (X_law f3 f2) (n + 1) own (.Name (Str.ofString "left") p) ρ σ K = @qv _ _ K σ (ρ.lookup (Str.ofString "left")) := rfl
@[simp] theorem i_law_left {f3 f2 : FnT} : isLocN (X_law f3 f2).names (Str.ofString "left") = true := rfl
@[simp ↓] theorem v_law_ops {f3 f2 : FnT} {n : Nat} {own : Bool} {p : Pos} {ρ : Loc} {σ : Sto} {R : Type} {K : K2 V R} : @cE R (X_law f3 f2) (n + 1) own (.Name (Str.ofString "ops") p) ρ σ K = @qv _ _ K σ (ρ.lookup (Str.ofString "ops")) := rfl
@[simp] theorem i_law_ops {f3 f2 : FnT} : isLocN (X_law f3 f2).names (Str.ofString "ops") = true := rfl
@[simp ↓] theorem v_law_clauses {f3 f2 : FnT} {n : Nat} {own : Bool} {p : Pos} {ρ : Loc} {σ : Sto} {R : Type} {K : K2 V R} : @cE R (X_law f3 f2) (n + 1) own (.Name (Str.ofString "clauses") p) ρ σ K = @qv _ _ K σ (ρ.lookup (Str.ofString "clauses")) := rfl
@[simp] theorem i_law_clauses {f3 f2 : FnT} : isLocN (X_law f3 f2).names (Str.ofString "clauses") = true := rfl
@[simp ↓] theorem v_law_op {f3 f2 : FnT} {n : Nat} {own : Bool} {p : Pos} {ρ : Loc} {σ : Sto} {R : Type} {K : K2 V R} : @cE R (X_law f3 f2) (n + 1) own (.Name (Str.ofString "op") p) ρ σ K = @qv _ _ K σ (ρ.lookup (Str.ofString "op")) := rfl
@[simp] theorem i_law_op {f3 f2 : FnT} : isLocN (X_law f3 f2).names (Str.ofString "op") = true := rfl
@[simp ↓] theorem v_law_code {f3 f2 : FnT} {n : Nat} {own : Bool} {p : Pos} {ρ : Loc} {σ : Sto} {R : Type} {K : K2 V R} : @cE R (X_law f3 f2) (n + 1) own (.Name (Str.ofString "code") p) ρ σ K = @qv _ _ K σ (ρ.lookup (Str.ofString "code")) := rfl
@[simp] theorem i_law_code {f3 f2 : FnT} : isLocN (X_law f3 f2).names (Str.ofString "code") = true := rfl
@[simp ↓] theorem v_law_kept {f3 f2 : FnT} {n : Nat} {own : Bool} {p : Pos} {ρ : Loc} {σ : Sto} {R : Type} {K : K2 V R} : @cE R (X_law f3 f2) (n + 1) own (.Name (Str.ofString "kept") p) ρ σ K = @qv _ _ K σ (ρ.lookup (Str.ofString "kept")) := rfl
@[simp] theorem i_law_kept {f3 f2 : FnT} : isLocN (X_law f3 f2).names (Str.ofString "kept") = true := rfl
@[simp ↓] theorem v_law_i {f3 f2 : FnT} {n : Nat} {own : Bool} {p : Pos} {ρ : Loc} {σ : Sto} {R : Type} {K : K2 V R} : @cE R (X_law f3 f2) (n + 1) own (.Name (Str.ofString "i") p) ρ σ K = @qv _ _ K σ (ρ.lookup (Str.ofString "i")) := rfl
@[simp] theorem i_law_i {f3 f2 : FnT} : isLocN (X_law f3 f2).names (Str.ofString "i") = true := rfl
@[simp ↓] theorem v_law_turn {f3 f2 : FnT} {n : Nat} {own : Bool} {p : Pos} {ρ : Loc} {σ : Sto} {R : Type} {K : K2 V R} : @cE R (X_law f3 f2) (n + 1) own (.Name (Str.ofString "turn") p) ρ σ K = @qv _ _ K σ (ρ.lookup (Str.ofString "turn")) := rfl
@[simp] theorem i_law_turn {f3 f2 : FnT} : isLocN (X_law f3 f2).names (Str.ofString "turn") = true := rfl
@[simp ↓] theorem v_law_aim {f3 f2 : FnT} {n : Nat} {own : Bool} {p : Pos} {ρ : Loc} {σ : Sto} {R : Type} {K : K2 V R} : @cE R (X_law f3 f2) (n + 1) own (.Name (Str.ofString "aim") p) ρ σ K = @qv _ _ K σ (ρ.lookup (Str.ofString "aim")) := rfl
@[simp] theorem i_law_aim {f3 f2 : FnT} : isLocN (X_law f3 f2).names (Str.ofString "aim") = true := rfl
@[simp ↓] theorem v_law_leaving {f3 f2 : FnT} {n : Nat} {own : Bool} {p : Pos} {ρ : Loc} {σ : Sto} {R : Type} {K : K2 V R} : @cE R (X_law f3 f2) (n + 1) own (.Name (Str.ofString "leaving") p) ρ σ K = @qv _ _ K σ (ρ.lookup (Str.ofString "leaving")) := rfl
@[simp] theorem i_law_leaving {f3 f2 : FnT} : isLocN (X_law f3 f2).names (Str.ofString "leaving") = true := rfl
@[simp ↓] theorem v_law_twisted_ops {f3 f2 : FnT} {n : Nat} {own : Bool} {p : Pos} {ρ : Loc} {σ : Sto} {R : Type} {K : K2 V R} : @cE R (X_law f3 f2) (n + 1) own (.Name (Str.ofString "twisted_ops") p) ρ σ K = @qv _ _ K σ (ρ.lookup (Str.ofString "twisted_ops")) := rfl
@[simp] theorem i_law_twisted_ops {f3 f2 : FnT} : isLocN (X_law f3 f2).names (Str.ofString "twisted_ops") = true := rfl
@[simp ↓] theorem v_law_twisted {f3 f2 : FnT} {n : Nat} {own : Bool} {p : Pos} {ρ : Loc} {σ : Sto} {R : Type} {K : K2 V R} : @cE R (X_law f3 f2) (n + 1) own (.Name (Str.ofString "twisted") p) ρ σ K = @qv _ _ K σ (ρ.lookup (Str.ofString "twisted")) := rfl
@[simp] theorem i_law_twisted {f3 f2 : FnT} : isLocN (X_law f3 f2).names (Str.ofString "twisted") = true := rfl
@[simp] theorem g_law_min {f3 f2 : FnT} : Cx.glob (X_law f3 f2) (Str.ofString "min") = some (GV.bi "min") := rfl
@[simp] theorem g_law_len {f3 f2 : FnT} : Cx.glob (X_law f3 f2) (Str.ofString "len") = some (GV.bi "len") := rfl
@[simp] theorem g_law_law_block {f3 f2 : FnT} : Cx.glob (X_law f3 f2) (Str.ofString "_law_block") = some (GV.fnE 192 f3) := rfl
@[simp] theorem g_law_law_try {f3 f2 : FnT} : Cx.glob (X_law f3 f2) (Str.ofString "_law_try") = some (GV.fnE 206 f2) := rfl
@[simp] theorem g_law_region_faults {f3 f2 : FnT} : Cx.glob (X_law f3 f2) (Str.ofString "region_faults") = some (GV.fnP 84 P_region_faults) := rfl
@[simp] theorem g_law_law_take {f3 f2 : FnT} : Cx.glob (X_law f3 f2) (Str.ofString "_law_take") = some (GV.fnE 178 E_take) := rfl
@[simp] theorem g_law_range {f3 f2 : FnT} : Cx.glob (X_law f3 f2) (Str.ofString "range") = some (GV.ty "range") := rfl
@[simp] theorem g_law_jump_fault {f3 f2 : FnT} : Cx.glob (X_law f3 f2) (Str.ofString "jump_fault") = some (GV.fnP 140 P_jump_fault) := rfl
@[simp] theorem g_law_law_way {f3 f2 : FnT} : Cx.glob (X_law f3 f2) (Str.ofString "_law_way") = some (GV.fnE 235 E_way) := rfl
@[simp ↓] theorem v_law_law_ops {f3 f2 : FnT} {n : Nat} {own : Bool} {p : Pos} {ρ : Loc} {σ : Sto} {R : Type} {K : K2 V R} : @cE R (X_law f3 f2) (n + 1) own (.Name (Str.ofString "_law_ops") p) ρ σ K = @ap _ _ K σ ((.tup [.int 0, .int 42, .int 65050, .int 220, .int 65041])) := rfl
@[simp] theorem g_law_stand_fault {f3 f2 : FnT} : Cx.glob (X_law f3 f2) (Str.ofString "stand_fault") = some (GV.fnP 147 P_stand_fault) := rfl
@[simp] theorem g_law_law_stand {f3 f2 : FnT} : Cx.glob (X_law f3 f2) (Str.ofString "_law_stand") = some (GV.fnE 240 E_stand) := rfl
@[simp] theorem g_law_law_turned {f3 f2 : FnT} : Cx.glob (X_law f3 f2) (Str.ofString "_law_turned") = some (GV.fnP 228 P_turned) := rfl
@[simp] theorem g_law_law_told {f3 f2 : FnT} : Cx.glob (X_law f3 f2) (Str.ofString "_law_told") = some (GV.fnP 221 P_told) := rfl
noncomputable def Y_law_0 (f3 f2 : FnT) : Cx := ⟨(X_law f3 f2).G, [(Str.ofString ".0", .local), (Str.ofString "op", .local)], (X_law f3 f2).cap⟩
@[simp] theorem c_law_0 {f3 f2 : FnT} : compOk (X_law f3 f2) ⟨.function, [(Str.ofString ".0", .local), (Str.ofString "op", .local)], false, false, []⟩ = true := by kernel_rfl
@[simp ↓ high] theorem q_law_0 {f3 f2 : FnT} {n : Nat} {σ : Sto} {tgt elt : PySem.Expr} {ifs : List PySem.Expr} {src : Src} : @ap _ _ (kComp (X_law f3 f2) n tgt elt ifs ⟨.function, [(Str.ofString ".0", .local), (Str.ofString "op", .local)], false, false, []⟩) σ src = gd (!src.tup || isTup tgt) (@mp _ _ (Km.mk fun σ' => (V.cell σ.length, σ')) (turns src σ.length (fComp (Y_law_0 f3 f2) n tgt elt ifs) src.items (σ ++ [.lst []]))) := rfl
@[simp ↓] theorem v_law_0_op {f3 f2 : FnT} {n : Nat} {own : Bool} {p : Pos} {ρ : Loc} {σ : Sto} {R : Type} {K : K2 V R} : @cE R (Y_law_0 f3 f2) (n + 1) own (.Name (Str.ofString "op") p) ρ σ K = @qv _ _ K σ (ρ.lookup (Str.ofString "op")) := rfl
@[simp] theorem i_law_0_op {f3 f2 : FnT} : isLocN (Y_law_0 f3 f2).names (Str.ofString "op") = true := rfl
noncomputable def stn (k : Nat) : PySem.Stmt := F_law.body.getD k default
theorem min_if (x : Int) : (if x < 3 then x else 3) = min 3 x := by rw [Int.min_def]; split <;> split <;> omega
noncomputable def qs0 := @id (stn 0 = .Assign _ _ _) rfl
noncomputable def qs1 := @id (stn 1 = .Assign _ _ _) rfl
noncomputable def qs2 := @id (stn 2 = .Assign _ _ _) rfl
noncomputable def qs3 := @id (stn 3 = .Expr _ _) rfl
noncomputable def qs4 := @id (stn 4 = .Expr _ _) rfl
noncomputable def qs5 := @id (stn 5 = .If _ _ _ _) rfl
noncomputable def qs6 := @id (stn 6 = .Assign _ _ _) rfl
noncomputable def qs7 := @id (stn 7 = .Assign _ _ _) rfl
noncomputable def qs8 := @id (stn 8 = .Assign _ _ _) rfl
noncomputable def qs9 := @id (stn 9 = .Assign _ _ _) rfl
noncomputable def qs10 := @id (stn 10 = .If _ _ _ _) rfl
noncomputable def qs11 := @id (stn 11 = .Assign _ _ _) rfl
noncomputable def qs15 := @id (stn 15 = .Return _ _) rfl

theorem gd_t {R : Type} {b : Bool} {x : Option R} (h : b = true) : gd b x = x := by rw [h]; rfl
section
variable {f3 f2 : FnT} {n : Nat} {R : Type} {K : Ks R} {script : List Int} {s : V} {l i : Int} {sc : List Int} {b : B} {ex σ : Sto} {u : Cell}
theorem law_0 (hl : script.length ≤ 63) : @cS R (X_law f3 f2) (n + 40) (stn 0) [("script", .lst (script.map .int))] [] K = @aps _ K .next [("script", .lst (script.map .int)), ("st", .cell 0)] [.lst [.lst ((script.map .int).take 40), .int 0]] := by
  have z1 : script.length ≤ sizeLine := sizeOk (by omega)
  have z2 : min 40 script.length ≤ sizeLine := sizeOk (by omega)
  have z3 : 2 ≤ sizeLine := sizeOk (by decide)
  rw [qs0]
  simp [mkG, G_law, lset, z1, z2, z3]
theorem law_1 (hl : script.length ≤ 63) : @cS R (X_law f3 f2) (n + 40) (stn 1) [("script", .lst (script.map .int)), ("st", .cell 0)] [u] K = @aps _ K .next [("script", .lst (script.map .int)), ("st", .cell 0), ("w", .cell 5)] [u, .lst [], .lst [], .lst [], .lst [], .dct [("ops", .cell 1), ("paths", .cell 2), ("clauses", .cell 3), ("regions", .cell 4), ("left", .int (min 3 (1 + (script.length : Int).fdiv 6)))]] := by
  have f1 : fits script.length = true := fits_of (by omega)
  have z3 : 5 ≤ sizeLine := sizeOk (by decide)
  rw [qs1, sDict]
  refine (gd_t (by kernel_rfl)).trans ?_
  simp [mkG, G_law, lset, z3, f1, min_if]
/-- the locals while the law builds -/
noncomputable abbrev ρ3 (s : V) : Loc := [("script", s), ("st", .cell 0), ("w", .cell 5)]
noncomputable abbrev ρ4 (s : V) (l : Int) : Loc := [("script", s), ("st", .cell 0), ("w", .cell 5), ("left", .int l)]
theorem law_2 : @cS R (X_law f3 f2) (n + 40) (stn 2) (ρ3 s) (stoD sc b ex) K = @aps _ K .next (ρ4 s b.left) (stoD sc b ex) := by
  rw [qs2]
  simp [mkG, G_law, lset, ρ3, sd5]
theorem law_3 (h : f3 [.cell 0, .cell 5, pathV [], .int 0] (stoD sc b ex) = some (.none, σ)) : @cS R (X_law f3 f2) (n + 40) (stn 3) (ρ4 s l) (stoD sc b ex) K = @aps _ K .next (ρ4 s l) σ := by
  rw [qs3]
  simp [mkG, G_law, lset, show f3 [.cell 0, .cell 5, .tup [], .int 0] (stoD sc b ex) = some (.none, σ) from h]
theorem law_4 (h : f3 [.cell 0, .cell 5, pathV [], .int 0] (stoD sc b ex) = some (.none, σ)) : @cS R (X_law f3 f2) (n + 40) (stn 4) (ρ4 s l) (stoD sc b ex) K = @aps _ K .next (ρ4 s l) σ := by
  rw [qs4]
  simp [mkG, G_law, lset, show f3 [.cell 0, .cell 5, .tup [], .int 0] (stoD sc b ex) = some (.none, σ) from h]
theorem law_5 {b' : B} (h : f2 [.cell 0, .cell 5, pathV [], .int 0] (stoD sc b ex) = some (.none, stoD sc b' ex)) : @cS R (X_law f3 f2) (n + 40) (stn 5) (ρ4 s l) (stoD sc b ex) K = @aps _ K .next (ρ4 s l) (stoD sc (if b.left = l then b' else b) ex) := by
  rw [qs5]
  by_cases hb : b.left = l
  · rw [if_pos hb]
    simp [mkG, G_law, lset, sd5, hb, show f2 [.cell 0, .cell 5, .tup [], .int 0] (stoD sc b ex) = some (.none, stoD sc b' ex) from h]
  · rw [if_neg hb]
    simp [mkG, G_law, lset, sd5, hb]
noncomputable abbrev ρ5 (s : V) (l : Int) : Loc := [("script", s), ("st", .cell 0), ("w", .cell 5), ("left", .int l), ("ops", .cell 1)]
noncomputable abbrev ρ6 (s : V) (l : Int) : Loc := [("script", s), ("st", .cell 0), ("w", .cell 5), ("left", .int l), ("ops", .cell 1), ("clauses", .cell 3)]
noncomputable abbrev ρ7 (s : V) (l : Int) : Loc := [("script", s), ("st", .cell 0), ("w", .cell 5), ("left", .int l), ("ops", .cell 1), ("clauses", .cell 3), ("code", .cell 6)]
noncomputable abbrev ρ8 (s : V) (l : Int) : Loc := [("script", s), ("st", .cell 0), ("w", .cell 5), ("left", .int l), ("ops", .cell 1), ("clauses", .cell 3), ("code", .cell 6), ("kept", .cell 7)]
noncomputable abbrev ρ9 (s : V) (l i : Int) : Loc := [("script", s), ("st", .cell 0), ("w", .cell 5), ("left", .int l), ("ops", .cell 1), ("clauses", .cell 3), ("code", .cell 6), ("kept", .cell 7), ("i", .int i)]
theorem law_6 : @cS R (X_law f3 f2) (n + 40) (stn 6) (ρ4 s l) (stoD sc b ex) K = @aps _ K .next (ρ5 s l) (stoD sc b ex) := by
  rw [qs6]
  simp [mkG, G_law, lset, sd5]
theorem law_7 : @cS R (X_law f3 f2) (n + 40) (stn 7) (ρ5 s l) (stoD sc b ex) K = @aps _ K .next (ρ6 s l) (stoD sc b ex) := by
  rw [qs7]
  simp [mkG, G_law, lset, sd5]
theorem code_map (os : List Int) : os.filterMap (fun o => some (cv o)) = os.map cv := congrFun List.filterMap_eq_map' os
theorem law_8 (hb : Sz b 80000) : @cS R (X_law f3 f2) (n + 40) (stn 8) (ρ6 s l) (stoD sc b []) K = @aps _ K .next (ρ7 s l) (stoD sc b [.lst (b.ops.map cv)]) := by
  rw [qs8]
  have z1 : b.ops.length ≤ sizeLine := sizeOk (by have := hb.ops; omega)
  simp [mkG, G_law, lset, sd1, z1]
  generalize hT : turns _ _ _ _ _ = T
  have h1 := turns_use hT (stoD sc b []) V.int (fun o => some (cv o)) b.ops rfl rfl rfl rfl (fun acc => ⟨_, rfl, rfl⟩) (fun o ho acc => by simp [mkG, G_law, lset]) z1
  rw [h1, code_map]
  simp [lset, st_app, st_len]
theorem law_9 (hb : Sz b 80000) : @cS R (X_law f3 f2) (n + 40) (stn 9) (ρ7 s l) (stoD sc b [.lst (b.ops.map cv)]) K = @aps _ K .next (ρ8 s l) (stoD sc b [.lst (b.ops.map cv), .lst (b.clauses.map Cl.v)]) := by
  rw [qs9]
  have z1 : b.clauses.length ≤ sizeLine := sizeOk (by have := hb.clauses; omega)
  simp [mkG, G_law, lset, sd3, z1, st_app, st_len, -getElem?_pos]
theorem law_10 (hb : Sz b 80000) (hc : b.clauses.length ≤ 1000) (h0 : regionFaults b.ops b.clauses = []) : @cS R (X_law f3 f2) (n + 40) (stn 10) (ρ8 s l) (stoD sc b (.lst (b.ops.map cv) :: ex)) K = @aps _ K .next (ρ8 s l) (stoD sc b (.lst (b.ops.map cv) :: ex)) := by
  rw [qs10]
  have e := region_faults_eq b.ops b.clauses (by have := hb.ops; omega) hc
  rw [h0] at e
  have e2 : eqV (stoD sc b (.lst (b.ops.map cv) :: ex)) (.lst []) (.lst []) = some true := e_ll (σ := stoD sc b (.lst (b.ops.map cv) :: ex)) [] []
  simp [mkG, G_law, lset, sd3, st_get, e, e2, tame_cls]
theorem law_11 (hs : sc.length ≤ 100) (hb : Sz b 80000) (h0 : 0 < b.ops.length) : @cS R (X_law f3 f2) (n + 40) (stn 11) (ρ8 s l) (stoD sc b ex) K = @aps _ K .next (ρ9 s l ((takeV sc b.k).fmod b.ops.length)) (stoD sc (takeB b) ex) := by
  rw [qs11]
  have e := take_eq' sc b ex hs (by have := hb.k; omega)
  have f1 : fits b.ops.length = true := fits_of (by have := hb.ops; omega)
  have f2 : divOk (b.ops.length : Int) = true := divOk_of (by omega) (by have := hb.ops; omega)
  have n0 : ¬ b.ops = [] := fun e => by rw [e] at h0; exact absurd h0 (Nat.lt_irrefl 0)
  simp [mkG, G_law, lset, sd1, e, f1, f2, takeB_ops, n0]
end
end Mine
end

section
open PySem PySem.W PyProof.Rows PySem.Calls
set_option autoImplicit false
set_option maxRecDepth 100000
set_option maxHeartbeats 4000000
set_option linter.unusedSimpArgs false
set_option linter.unusedVariables false
set_option linter.defProp false
namespace Mine

/-- the names that stay -/
structure LL (ρ : Loc) (i : Int) : Prop where
  st : ρ.lookup (Str.ofString "st") = some (.cell 0)
  w : ρ.lookup (Str.ofString "w") = some (.cell 5)
  ops : ρ.lookup (Str.ofString "ops") = some (.cell 1)
  clauses : ρ.lookup (Str.ofString "clauses") = some (.cell 3)
  code : ρ.lookup (Str.ofString "code") = some (.cell 6)
  kept : ρ.lookup (Str.ofString "kept") = some (.cell 7)
  i : ρ.lookup (Str.ofString "i") = some (.int i)
noncomputable def W_law : List Str := [Str.ofString "turn", Str.ofString "aim", Str.ofString "leaving", Str.ofString "op", Str.ofString "twisted_ops", Str.ofString "twisted"]
theorem LL.kp {ρ ρ' : Loc} {i : Int} (h : LL ρ i) (k : Kp W_law ρ ρ') : LL ρ' i := ⟨k.get h.st (by kernel_rfl), k.get h.w (by kernel_rfl), k.get h.ops (by kernel_rfl), k.get h.clauses (by kernel_rfl), k.get h.code (by kernel_rfl), k.get h.kept (by kernel_rfl), k.get h.i (by kernel_rfl)⟩
/-- a loop that goes on to its end; what it does to the store is told by a relation -/
theorem loop_rel {α : Type} {src : Src} {f : V → Loc → Sto → Option (Fl × Loc × Sto)} {ρ : Loc} {σ : Sto} (g : α → V) (W : List Str) (P : List α → Sto → Prop) {as : List α} {items : List V} {X : Option (Fl × Loc × Sto)} (hX : loopF src f items ρ σ = X) (hi : items = as.map g) (hs : ∀ σ, src.still σ) (h : P as σ)
    (turn : ∀ a as σ ρ', P (a :: as) σ → Kp W ρ ρ' → ∃ ρ'' σ', f (g a) ρ' σ = some (.next, ρ'', σ') ∧ Kp W ρ ρ'' ∧ P as σ') : ∃ ρ' σ', X = some (.next, ρ', σ') ∧ Kp W ρ ρ' ∧ P [] σ' := by
  subst hi
  subst hX
  have key : ∀ (σ : Sto) (ρ' : Loc), P as σ → Kp W ρ ρ' → ∃ ρ'' σ', loopF src f (as.map g) ρ' σ = some (.next, ρ'', σ') ∧ Kp W ρ ρ'' ∧ P [] σ' := by
    clear h
    induction as with
    | nil => exact fun σ ρ' h k => ⟨ρ', σ, loop_nil (hs σ), k, h⟩
    | cons a as ih =>
      intro σ ρ' h k
      obtain ⟨ρ₁, σ₁, e, k₁, h₁⟩ := turn a as σ ρ' h k
      rw [List.map_cons, loop_next (hs σ) e]
      exact ih σ₁ ρ₁ h₁ k₁
  exact key σ ρ h .refl
/-- what the loops ask of the tree -/
structure Fine (b : B) (i : Nat) : Prop where
  sz : Sz b 70000
  reg : RegOk b
  n0 : 0 < b.ops.length
  c0 : 0 < b.clauses.length
  c1 : b.clauses.length ≤ 1000
  hi : i < b.ops.length
  jump : ∀ aim lv, jumpFault b.ops b.clauses i aim lv = wayS b i aim lv
  stand : ∀ op ∈ ([0, 42, 65050, 220, 65041] : List Int), standFault (List.replicate b.ops.length op) b.clauses i = standS b i op
  told : ∀ ops cs, regionFaults ops cs = toldF ops cs
noncomputable abbrev bk (b : B) (k : Nat) : B := { b with k := k }
theorem Fine.szk {b : B} {i : Nat} (h : Fine b i) (k : Nat) (hk : k ≤ 80000) : Sz (bk b k) 80000 := by
  have := h.sz.le (m := 80000) (by decide); exact ⟨hk, this.ops, this.paths, this.clauses, this.regions⟩
theorem Fine.regk {b : B} {i : Nat} (h : Fine b i) (k : Nat) : RegOk (bk b k) := ⟨h.reg.letters, h.reg.paths, h.reg.len⟩
theorem eqvAll_refl {α : Type} (g : α → V) (h : ∀ a, PyData.eqv (g a).py (g a).py = true) (l : List α) : PyData.eqvAll (V.pys (l.map g)) (V.pys (l.map g)) = true := by
  induction l with
  | nil => rfl
  | cons a l ih => rw [List.map_cons, V.pys, PyData.eqvAll, h, ih]; rfl
theorem refl_cl (c : Cl) : PyData.eqv (V.py c.v) (V.py c.v) = true := by simp [V.py, V.pys, PyData.eqv, PyData.eqvAll]
theorem refl_f8 (t : Int) : PyData.eqv (V.py (f8 t)) (V.py (f8 t)) = true := by simp [V.py, V.pys, PyData.eqv, PyData.eqvAll]
theorem all_cl (p : V → Bool) (h : ∀ c : Cl, p c.v = true) (l : List Cl) : (l.map Cl.v).all p = true := by rw [List.all_map, List.all_eq_true]; exact fun c _ => h c
theorem e_f8r {σ : Sto} (l : List Int) : eqV σ (.lst (l.map f8)) (.lst (l.map f8)) = some true := by
  have h2 : (V.lst (l.map f8)).pure 6 = true := all_f8 _ (fun _ => rfl) l
  have h3 : (V.lst (l.map f8)).okd 6 = true := all_f8 _ (fun _ => rfl) l
  rw [eqV, rLst, if_pos h2, Option.bind_some, Option.bind_some, h3, V.py, PyData.eqv, eqvAll_refl f8 refl_f8 l]; rfl
theorem e_clr {σ : Sto} (cs : List Cl) (h : σ[3]? = some (.lst (cs.map Cl.v))) (h' : σ[7]? = some (.lst (cs.map Cl.v))) : eqV σ (.cell 3) (.cell 7) = some true := by
  have h1 : (cs.map Cl.v).all (V.pure 6) = true := all_cl _ (fun _ => rfl) cs
  have h3 : (V.lst (cs.map Cl.v)).okd 6 = true := all_cl _ (fun _ => rfl) cs
  simp only [eqV, rCell, h, h', h1, if_true, Option.bind_some, h3, Bool.and_self, V.py, PyData.eqv, eqvAll_refl Cl.v refl_cl cs]
section
variable {f3 f2 : FnT} {n : Nat} {ρ : Loc} {sc : List Int} {b : B} {k i : Nat} {ex : Sto} {X : Option (Fl × Loc × Sto)}
/-- one way, as a branch or as a LEAVE -/
theorem jump_1 (h : Fine b i) (hk : k ≤ 80000) (aim : Int) (lv : Bool) (hL : LL ρ i) (ha : ρ.lookup (Str.ofString "aim") = some (.int aim)) :
    @cSs _ (X_law f3 f2) (n + 30) B_law_121 (lset ρ (Str.ofString "leaving") (.bool lv)) (stoD sc (bk b k) (.lst (b.ops.map cv) :: ex)) kFl = some (Fl.next, lset ρ (Str.ofString "leaving") (.bool lv), stoD sc (bk b k) (.lst (b.ops.map cv) :: ex)) := by
  have e1 := jump_fault_eq b.ops b.clauses i aim lv h.c1 (by have := h.sz.ops; omega)
  have e2 := way_eq sc (bk b k) (.lst (b.ops.map cv) :: ex) i aim lv (h.szk k hk) (h.regk k) h.hi
  have e3 : wayS (bk b k) i aim lv = jumpFault b.ops b.clauses i aim lv := (h.jump aim lv).symm
  rw [e3] at e2
  rw [bb_law_121]
  simp [mkG, G_law, sd3, st_get, e1, e2, tame_cls, hL.w, hL.clauses, hL.code, hL.i, ha]
theorem jump_2 (h : Fine b i) (hk : k ≤ 80000) (aim : Int) (hL : LL ρ i) (ha : ρ.lookup (Str.ofString "aim") = some (.int aim))
    (hX : evS (X_law f3 f2) (n + 40) S_law_121 ρ (stoD sc (bk b k) (.lst (b.ops.map cv) :: ex)) = X) :
    ∃ ρ', X = some (Fl.next, ρ', stoD sc (bk b k) (.lst (b.ops.map cv) :: ex)) ∧ Kp W_law ρ ρ' := by
  rw [bs_law_121] at hX
  simp [mkG, G_law] at hX
  obtain ⟨ρ', σ', rfl, k', rfl⟩ := loop_rel V.bool [Str.ofString "leaving"] (fun _ σ => σ = stoD sc (bk b k) (.lst (b.ops.map cv) :: ex)) (as := [false, true]) hX rfl (fun _ => trivial) rfl fun lv as σ ρ' e k' => by
    subst e
    exact ⟨_, _, jump_1 (n := n + 9) h hk aim lv (hL.kp (k'.sub (by kernel_rfl))) (k'.get ha (by kernel_rfl)), k'.set (by kernel_rfl), rfl⟩
  exact ⟨ρ', rfl, k'.sub (by kernel_rfl)⟩
theorem jump_3 (hs : sc.length ≤ 100) (h : Fine b i) (hk : k ≤ 70000) (hL : LL ρ i)
    (hX : evS (X_law f3 f2) (n + 60) S_law_12 ρ (stoD sc (bk b k) (.lst (b.ops.map cv) :: ex)) = X) :
    ∃ ρ', X = some (Fl.next, ρ', stoD sc (bk b (k + 8)) (.lst (b.ops.map cv) :: ex)) ∧ LL ρ' i := by
  rw [bs_law_12] at hX
  have g4 : small 8 = true := small_of (by decide) (by decide)
  have f1 : fits b.ops.length = true := fits_of (by have := h.sz.ops; omega)
  have f2' : divOk (b.ops.length + 2 : Int) = true := divOk_of (by omega) (by have := h.sz.ops; omega)
  have n0 : (b.ops.length + 2 : Int) ≠ 0 := by omega
  simp [mkG, G_law, g4] at hX
  obtain ⟨ρ', σ', rfl, k', kk, rfl, hk⟩ := loop_rel V.int W_law (fun as σ => ∃ kk, σ = stoD sc (bk b kk) (.lst (b.ops.map cv) :: ex) ∧ kk + as.length = k + 8) (as := rangeL 0 1 8) hX rfl (fun _ => trivial) ⟨k, rfl, rfl⟩ fun j as σ ρ' ⟨kk, e, hkk⟩ k' => by
    subst e
    rw [List.length_cons] at hkk
    have e := take_eq' sc (bk b kk) (.lst (b.ops.map cv) :: ex) hs (by show kk ≤ _; omega)
    have k'' := k'.set (x := Str.ofString "turn") (v := .int j) (by kernel_rfl)
    have L := hL.kp k''
    rw [bb_law_12]
    rw [show takeB (bk b kk) = bk b (kk + 1) from rfl] at e
    have s1 : ∀ k', (stoD sc (bk b k') (.lst (b.ops.map cv) :: ex))[1]? = some (.lst (b.ops.map .int)) := fun _ => rfl
    simp [mkG, G_law, L.st, L.ops, s1, e, f1, f2', n0]
    generalize hX2 : evS _ _ S_law_121 _ _ = X2
    have k3 := k''.set (x := Str.ofString "aim") (v := .int ((takeV sc kk).fmod (b.ops.length + 2) - 1)) (by kernel_rfl)
    obtain ⟨ρ2, rfl, e2⟩ := jump_2 (n := n + 17) h (by omega) _ (hL.kp k3) lsHit hX2
    exact ⟨ρ2, _, pSS.trans rfl, k3.trans e2, kk + 1, rfl, by omega⟩
  exact ⟨ρ', by rw [show kk = k + 8 from hk], hL.kp k'⟩
theorem op_1 (h : Fine b i) (hk : k ≤ 80000) (op : Int) (ho : op ∈ ([0, 42, 65050, 220, 65041] : List Int)) (hL : LL ρ i) :
    ∃ junk, @cSs _ (X_law f3 f2) (n + 30) B_law_13 (lset ρ (Str.ofString "op") (.int op)) (stoD sc (bk b k) ex) kFl = some (Fl.next, lset ρ (Str.ofString "op") (.int op), stoD sc (bk b k) (ex ++ junk)) := by
  have hz := h.sz.ops
  have e1 := stand_fault_eq (List.replicate b.ops.length op) b.clauses i (by rw [List.length_replicate]; exact h.hi) (by rw [List.length_replicate]; omega) h.c1
  rw [List.map_replicate, h.stand op ho] at e1
  obtain ⟨junk, e5⟩ := stand_eq sc (bk b k) ex i op (h.szk k hk) (h.regk k) h.hi
  rw [show standS (bk b k) i op = standS b i op from rfl] at e5
  have f1 : fits b.ops.length = true := fits_of (by omega)
  have z1 : b.ops.length ≤ sizeLine := sizeOk (by omega)
  have g1 : mulOk 1 (b.ops.length : Int) = true := mulOk_of (by omega)
  have s1 : ∀ ex', (stoD sc (bk b k) ex')[1]? = some (.lst (b.ops.map .int)) := fun _ => rfl
  have e4 : ∀ σ, rd σ (.lst (List.replicate b.ops.length (V.tup [.int op, .int 0]))) = some (.lst (List.replicate b.ops.length (V.tup [.int op, .int 0]))) := fun σ => by
    have := rd_cv (σ := σ) (List.replicate b.ops.length op)
    rwa [List.map_replicate] at this
  refine ⟨junk, ?_⟩
  rw [bb_law_13]
  simp [mkG, G_law, s1, sd3, st_get, e1, tame_cls, hL.w, hL.ops, hL.clauses, hL.i, f1, z1, g1, e4, e5, gd1]
theorem op_2 (h : Fine b i) (hk : k ≤ 80000) (hL : LL ρ i) (hX : evS (X_law f3 f2) (n + 60) S_law_13 ρ (stoD sc (bk b k) ex) = X) :
    ∃ ρ' junk, X = some (Fl.next, ρ', stoD sc (bk b k) (ex ++ junk)) ∧ LL ρ' i := by
  rw [bs_law_13] at hX
  simp [mkG, G_law] at hX
  obtain ⟨ρ', σ', rfl, k', _, junk, rfl⟩ := loop_rel V.int W_law (fun as σ => (∀ o ∈ as, o ∈ ([0, 42, 65050, 220, 65041] : List Int)) ∧ ∃ junk, σ = stoD sc (bk b k) (ex ++ junk)) (as := [0, 42, 65050, 220, 65041]) hX rfl (fun _ => trivial) ⟨fun _ h => h, [], by rw [List.append_nil]⟩ fun o as σ ρ' ⟨ho, junk, e⟩ k' => by
    subst e
    obtain ⟨j2, e⟩ := op_1 (f3 := f3) (f2 := f2) (n := n + 29) (sc := sc) (ex := ex ++ junk) h hk o (ho o List.mem_cons_self) (hL.kp k')
    exact ⟨_, _, e, k'.set (by kernel_rfl), fun x hx => ho x (List.mem_cons_of_mem _ hx), junk ++ j2, by rw [List.append_assoc]⟩
  exact ⟨ρ', junk, rfl, hL.kp k'⟩
theorem turn_1 (hs : sc.length ≤ 100) (h : Fine b i) (hk : k ≤ 80000) (hL : LL ρ i) (j : Int) :
    ∃ ρ' junk, @cSs _ (X_law f3 f2) (n + 60) B_law_14 (lset ρ (Str.ofString "turn") (.int j)) (stoD sc (bk b k) ex) kFl = some (Fl.next, ρ', stoD sc (bk b (k + 1)) (ex ++ junk)) ∧ Kp W_law ρ ρ' := by
  have hz := h.sz.ops
  have e := take_eq' sc (bk b k) ex hs (by show k ≤ _; omega)
  rw [show takeB (bk b k) = bk b (k + 1) from rfl] at e
  obtain ⟨ops', cs', l1, l2, e1⟩ := turned_eq (takeV sc k) b.ops b.clauses h.c0 h.c1 h.n0 (by omega)
  have s1 : ∀ ex', (stoD sc (bk b (k + 1)) ex')[1]? = some (.lst (b.ops.map .int)) := fun _ => rfl
  have s2 : ∀ ex', (stoD sc (bk b (k + 1)) ex')[3]? = some (.lst (b.clauses.map Cl.v)) := fun _ => rfl
  have k1 : Kp W_law ρ (lset ρ (Str.ofString "turn") (.int j)) := Kp.refl.set (by kernel_rfl)
  have L := hL.kp k1
  have z1 : ops'.length ≤ sizeLine := sizeOk (by omega)
  have e3 := region_faults_eq ops' cs' (by omega) (l2 ▸ h.c1)
  have e4 := told_eq ops' cs' (by omega) (l2 ▸ h.c1)
  rw [← h.told] at e4
  rw [bb_law_14]
  simp [mkG, G_law, s1, s2, e, e1, z1, tame_cls, tame_ints, L.st, L.ops, L.clauses]
  generalize hT : turns _ _ _ _ _ = T
  have h1 := turns_use hT (stoD sc (bk b (k + 1)) ex) V.int (fun o => some (cv o)) ops' rfl rfl rfl rfl (fun acc => trivial) (fun _ _ _ => by simp [mkG, G_law]) z1
  rw [h1, code_map]
  refine ⟨_, ⟨[.lst (ops'.map cv)], ?_⟩, (k1.set (x := Str.ofString "twisted_ops") (v := .lst (ops'.map .int)) (by kernel_rfl)).set (x := Str.ofString "twisted") (v := .lst (cs'.map Cl.v)) (by kernel_rfl)⟩
  have s3 : (stoD sc (bk b (k + 1)) (ex ++ [.lst (ops'.map cv)]))[ex.length + 6]? = some (.lst (ops'.map cv)) := st_g1
  simp [mkG, G_law, st_app, st_len, s3, rd_ints, rd_cls, e3, e4, e_f8r, tame_cls, -getElem?_pos]
theorem turn_2 (hs : sc.length ≤ 100) (h : Fine b i) (hk : k ≤ 60000) (hL : LL ρ i)
    (hX : evS (X_law f3 f2) (n + 80) S_law_14 ρ (stoD sc (bk b k) ex) = X) :
    ∃ ρ' k' junk, X = some (Fl.next, ρ', stoD sc (bk b k') (ex ++ junk)) ∧ LL ρ' i := by
  rw [bs_law_14] at hX
  have g4 : small 3 = true := small_of (by decide) (by decide)
  simp [mkG, G_law, g4] at hX
  obtain ⟨ρ', σ', rfl, k', kk, junk, rfl, _⟩ := loop_rel V.int W_law (fun as σ => ∃ kk junk, σ = stoD sc (bk b kk) (ex ++ junk) ∧ kk + as.length = k + 3) (as := rangeL 0 1 3) hX rfl (fun _ => trivial) ⟨k, [], by rw [List.append_nil], rfl⟩ fun j as σ ρ' ⟨kk, junk, e, hkk⟩ k' => by
    subst e
    rw [List.length_cons] at hkk
    obtain ⟨ρ2, j2, e, k2⟩ := turn_1 (f3 := f3) (f2 := f2) (n := n + 19) (ex := ex ++ junk) hs h (by omega : kk ≤ 80000) (hL.kp k') j
    exact ⟨_, _, e, k'.trans k2, kk + 1, junk ++ j2, by rw [List.append_assoc], by omega⟩
  exact ⟨ρ', kk, junk, rfl, hL.kp k'⟩
theorem ret_1 {R : Type} {K : Ks R} {c0 : Cell} (hL : LL ρ i) : @cS _ (X_law f3 f2) (n + 20) (stn 15) ρ (stoD sc (bk b k) (c0 :: .lst (b.clauses.map Cl.v) :: ex)) K = @aps _ K (.ret (.bool true)) ρ (stoD sc (bk b k) (c0 :: .lst (b.clauses.map Cl.v) :: ex)) := by
  have e := e_clr (σ := stoD sc (bk b k) (c0 :: .lst (b.clauses.map Cl.v) :: ex)) b.clauses rfl rfl
  rw [qs15]
  simp [mkG, G_law, hL.clauses, hL.kept, e]
end
end Mine
end

section
open PySem PySem.W PyProof.Rows PySem.Calls
set_option autoImplicit false
set_option maxRecDepth 100000
set_option maxHeartbeats 4000000
set_option linter.unusedSimpArgs false
set_option linter.unusedVariables false
set_option linter.defProp false
namespace Mine

noncomputable def built0 (left : Int) : B := ⟨0, [], [], [], [], left⟩
noncomputable def built2 (sc : List Int) (left : Int) : B := blkL sc 3 (blkL sc 3 (built0 left) []) []
/-- what the law builds of the script's first forty items -/
noncomputable def built (sc : List Int) (left : Int) : B := if (built2 sc left).left = left then tryB sc (blkL sc 2) (built2 sc left) [] else built2 sc left
theorem bd_law' : F_law.body = [stn 0, stn 1, stn 2, stn 3, stn 4, stn 5, stn 6, stn 7, stn 8, stn 9, stn 10, stn 11, S_law_12, S_law_13, S_law_14, stn 15] := rfl
/-- the flow alone -/
@[reducible] noncomputable def kR : Ks Fl := ⟨fun fl _ _ => some fl⟩
/-- from the empty tree to the tree that is built, and how big it is -/
theorem built_runs {sc : List Int} {left : Int} {b : B} (hs : sc.length ≤ 100) (hb : b = built sc left) : ∃ b1 b2 b3, EL 3 [.cell 0, .cell 5, pathV [], .int 0] (stoD sc (built0 left) []) = some (.none, stoD sc b1 []) ∧ EL 3 [.cell 0, .cell 5, pathV [], .int 0] (stoD sc b1 []) = some (.none, stoD sc b2 []) ∧
    E_try (EL 2) [.cell 0, .cell 5, pathV [], .int 0] (stoD sc b2 []) = some (.none, stoD sc b3 []) ∧ b = (if b2.left = left then b3 else b2) ∧ Sz b 3000 := by
  have hbl := blk_3 sc hs []
  have z0 : Sz (built0 left) 0 := ⟨Nat.le_refl _, Nat.le_refl _, Nat.le_refl _, Nat.le_refl _, Nat.le_refl _⟩
  obtain ⟨q1, q1z⟩ := hbl (built0 left) [] (z0.le (by decide)) (Nat.zero_le _)
  have z1 : Sz (blkL sc 3 (built0 left) []) 900 := (q1z 0 z0).le (by decide)
  obtain ⟨q2, q2z⟩ := hbl _ [] (z1.le (by decide)) (Nat.zero_le _)
  have z2 : Sz (built2 sc left) 1800 := (q2z 900 z1).le (by decide)
  have q3 := try_eq (lvl := 0) (m := 1800) (p := []) (b := built2 sc left) (blk_2 sc hs []) (by decide) (by decide) (by decide) z2 (by decide) hs
  refine ⟨_, _, _, q1, q2, q3.1, hb, ?_⟩
  rw [hb, built]
  split
  · exact q3.2.le (by decide)
  · exact z2.le (by decide)
theorem built_sz (sc : List Int) (hs : sc.length ≤ 100) (left : Int) : Sz (built sc left) 3000 := let ⟨_, _, _, _, _, _, _, h⟩ := built_runs (left := left) hs rfl; h
theorem law_true (script : List Int) (hl : script.length ≤ 63) {b : B} (hb : b = built (script.take 40) (min 3 (1 + (script.length : Int).fdiv 6)))
    (h0 : regionFaults b.ops b.clauses = []) (hn : 0 < b.ops.length) (hF : ∀ i, i < b.ops.length → Fine b i) (hk : b.k ≤ 30000) : @cSs Fl (X_law (EL 3) (E_try (EL 2))) 150 F_law.body [("script", .lst (script.map .int))] [] kR = some (Fl.ret (.bool true)) := by
  generalize hleft : min 3 (1 + (script.length : Int).fdiv 6) = left at *
  generalize hsc : script.take 40 = sc at *
  have hs : sc.length ≤ 100 := by rw [← hsc, List.length_take]; omega
  obtain ⟨b1, b2, b3, q1, q2, q3, hbb, zb⟩ := built_runs hs hb
  have zb : Sz b 80000 := zb.le (by decide)
  have e0 : ([Cell.lst [.lst ((script.map V.int).take 40), .int 0], .lst [], .lst [], .lst [], .lst [], .dct [("ops", .cell 1), ("paths", .cell 2), ("clauses", .cell 3), ("regions", .cell 4), ("left", .int left)]] : Sto) = stoD sc (built0 left) [] := by
    rw [← List.map_take, hsc]; rfl
  have F0 := hF 0 hn
  obtain ⟨i, hi, hi'⟩ := fmod_nat (takeV sc b.k) hn
  have F := hF i hi'
  generalize EL 3 = f3 at *
  generalize E_try (EL 2) = f2 at *
  rw [bd_law']
  rw [ss1, law_0 (n := 109) hl, qN, ss1, law_1 (n := 108) hl, qN, hleft, e0, ss1, law_2 (n := 107), qN, show (built0 left).left = left from rfl, ss1, law_3 (n := 106) q1, qN, ss1, law_4 (n := 105) q2, qN, ss1, law_5 (n := 104) q3, qN, ← hbb, ss1, law_6 (n := 103), qN, ss1, law_7 (n := 102), qN, ss1, law_8 (n := 101) zb, qN, ss1, law_9 (n := 100) zb, qN]
  rw [ss1, law_10 (n := 99) zb F0.c1 h0, qN, ss1, law_11 (n := 98) hs zb hn, qN, hi]
  have L0 : LL (ρ9 (.lst (script.map .int)) left i) i := ⟨by simp, by simp, by simp, by simp, by simp, by simp, by simp⟩
  rw [show takeB b = bk b (b.k + 1) from rfl, ss1, cs_law_12]
  generalize hA : evS _ _ S_law_12 _ _ = A
  obtain ⟨r1, rfl, L1⟩ := jump_3 (n := 77) (k := b.k + 1) (ex := [.lst (b.clauses.map Cl.v)]) hs F (by omega) L0 hA
  rw [pSS, qN, ss1, cs_law_13]
  generalize hA2 : evS _ _ S_law_13 _ _ = A2
  obtain ⟨r2, j2, rfl, L2⟩ := op_2 (n := 76) (k := b.k + 1 + 8) F (by omega) L1 hA2
  rw [pSS, qN, ss1, cs_law_14]
  generalize hA3 : evS _ _ S_law_14 _ _ = A3
  obtain ⟨r3, k3, j3, rfl, L3⟩ := turn_2 (n := 55) (k := b.k + 1 + 8) hs F (by omega) L2 hA3
  rw [pSS, qN, ss1]
  exact ret_1 (n := 114) L3
end Mine
end

section
open PySem PySem.W PyProof.Rows PySem.Calls
set_option autoImplicit false
set_option maxRecDepth 100000
set_option maxHeartbeats 4000000
set_option linter.unusedSimpArgs false
set_option linter.unusedVariables false
set_option linter.defProp false
namespace Mine

theorem ite_iff {α : Type} {p q : Prop} [Decidable p] [Decidable q] {x y : α} (h : p ↔ q) : (if p then x else y) = if q then x else y := by
  by_cases hp : p
  · rw [if_pos hp, if_pos (h.mp hp)]
  · rw [if_neg hp, if_neg fun k => hp (h.mpr k)]
/-- a row, told by what stands at each place -/
noncomputable def tab (n : Nat) (g : Nat → String) : List String := (List.range n).map g
/-- l from lo to hi -/
noncomputable def pt (l : String) (lo hi : Int) (g : Nat → String) (j : Nat) : String := if lo ≤ j ∧ (j : Int) < hi then l else g j
section
variable {n : Nat} {g : Nat → String} {l : String} {lo hi : Int} {r : List (String × Int × Int)}
theorem tab_len : (tab n g).length = n := by rw [tab, List.length_map, List.length_range]
theorem tab_at {j : Nat} : (tab n g)[j]? = if j < n then some (g j) else none := by
  rw [tab, List.getElem?_map]
  by_cases h : j < n
  · rw [if_pos h, List.getElem?_range h]; rfl
  · rw [if_neg h, List.getElem?_eq_none (by rw [List.length_range]; exact Nat.le_of_not_lt h)]; rfl
theorem tab_get {j : Nat} (h : j < n) : (tab n g).getD j "" = g j := by rw [List.getD_eq_getElem?_getD, tab_at, if_pos h]; rfl
theorem tab_set {i : Nat} (h : i < n) : (tab n g).set i l = tab n fun j => if j = i then l else g j := by
  refine List.ext_getElem? fun j => ?_
  rw [List.getElem?_set, tab_at, tab_at, tab_len]
  by_cases e : i = j
  · subst e; rw [if_pos rfl, if_pos h, if_pos h, if_pos rfl]
  · rw [if_neg e, if_neg (c := j = i) fun h => e h.symm]
theorem fill_tab (m : Nat) : ∀ (i : Nat) (g : Nat → String), i + m ≤ n → (∀ j, i ≤ j → j < i + m → g j = ".") → fill l i m (tab n g) = some (tab n fun j => if i ≤ j ∧ j < i + m then l else g j) := by
  induction m with
  | zero =>
    intro i g _ _
    rw [fill]
    exact congrArg (fun f => some (tab n f)) (funext fun j => (if_neg fun h => Nat.lt_irrefl _ (Nat.lt_of_le_of_lt h.1 h.2)).symm)
  | succ m ih =>
    intro i g hn hg
    have hi : i < n := Nat.lt_of_lt_of_le (Nat.lt_add_of_pos_right (Nat.succ_pos m)) hn
    rw [fill, tab_get hi, if_pos (hg i (Nat.le_refl i) (Nat.lt_add_of_pos_right (Nat.succ_pos m))), tab_set hi, ih (i + 1) _ (Nat.succ_add_eq_add_succ i m ▸ hn) fun j h1 h2 => by
      rw [if_neg (Nat.ne_of_gt h1)]; exact hg j (Nat.le_of_succ_le h1) (Nat.succ_add_eq_add_succ i m ▸ h2)]
    refine congrArg (fun f => some (tab n f)) (funext fun j => ?_)
    by_cases e : j = i
    · subst e; rw [if_neg (fun h => Nat.lt_irrefl _ h.1), if_pos rfl, if_pos ⟨Nat.le_refl j, Nat.lt_add_of_pos_right (Nat.succ_pos m)⟩]
    · rw [if_neg e, Nat.succ_add_eq_add_succ]
      exact ite_iff (and_congr_left' ⟨Nat.le_of_succ_le, fun h => Nat.lt_of_le_of_ne h fun h => e h.symm⟩)
theorem fill_hit (m : Nat) : ∀ (i : Nat) (g : Nat → String), i + m ≤ n → (∃ j, i ≤ j ∧ j < i + m ∧ g j ≠ ".") → fill l i m (tab n g) = none := by
  induction m with
  | zero => exact fun i g _ ⟨j, h1, h2, _⟩ => absurd (Nat.lt_of_le_of_lt h1 h2) (Nat.lt_irrefl _)
  | succ m ih =>
    intro i g hn ⟨j, h1, h2, h3⟩
    have hi : i < n := Nat.lt_of_lt_of_le (Nat.lt_add_of_pos_right (Nat.succ_pos m)) hn
    rw [fill, tab_get hi]
    by_cases hg : g i = "."
    · have e : j ≠ i := fun e => h3 (e ▸ hg)
      rw [if_pos hg, tab_set hi]
      exact ih (i + 1) _ (Nat.succ_add_eq_add_succ i m ▸ hn) ⟨j, Nat.lt_of_le_of_ne h1 fun h => e h.symm, Nat.succ_add_eq_add_succ i m ▸ h2, by rw [if_neg e]; exact h3⟩
    · rw [if_neg hg]
/-- a span that lies within the row -/
noncomputable def Gd (n : Nat) (lo hi : Int) : Prop := 0 ≤ lo ∧ lo < hi ∧ hi ≤ n
theorem Gd.nat (h : Gd n lo hi) : ∃ a m : Nat, lo = a ∧ hi = (a + m : Nat) ∧ a + m ≤ n := by
  obtain ⟨h0, h1, h2⟩ := h
  exact ⟨lo.toNat, (hi - lo).toNat, by omega, by omega, by omega⟩
theorem span_bad {row : List String} (h : ¬ Gd n lo hi) : fillAll n ((l, lo, hi) :: r) row = none := by
  rw [fillAll, if_pos]
  exact Classical.byContradiction fun k => h ⟨Int.not_lt.mp fun q => k (.inl q), Int.not_le.mp fun q => k (.inr (.inl q)), Int.not_lt.mp fun q => k (.inr (.inr q))⟩
theorem span_good {row : List String} (h : Gd n lo hi) : fillAll n ((l, lo, hi) :: r) row = (fill l lo.toNat (hi - lo).toNat row).bind (fillAll n r) := by
  rw [fillAll, if_neg]
  exact fun k => k.elim (Int.not_lt.mpr h.1) fun k => k.elim (Int.not_le.mpr h.2.1) (Int.not_lt.mpr h.2.2)
theorem span_next (h : Gd n lo hi) (hg : ∀ j : Nat, lo ≤ j → (j : Int) < hi → g j = ".") : fillAll n ((l, lo, hi) :: r) (tab n g) = fillAll n r (tab n (pt l lo hi g)) := by
  rw [span_good h]
  obtain ⟨a, m, rfl, rfl, hn⟩ := h.nat
  rw [Int.toNat_natCast, show (((a + m : Nat) : Int) - (a : Int)).toNat = m by omega, fill_tab m a g hn fun j h1 h2 => hg j (Int.ofNat_le.mpr h1) (Int.ofNat_lt.mpr h2), Option.bind_some]
  refine congrArg (fun f => fillAll n r (tab n f)) (funext fun j => ?_)
  exact ite_iff (and_congr Int.ofNat_le.symm Int.ofNat_lt.symm)
theorem span_hit (h : Gd n lo hi) {j : Nat} (h1 : lo ≤ j) (h2 : (j : Int) < hi) (h3 : g j ≠ ".") : fillAll n ((l, lo, hi) :: r) (tab n g) = none := by
  rw [span_good h]
  obtain ⟨a, m, rfl, rfl, hn⟩ := h.nat
  rw [Int.toNat_natCast, show (((a + m : Nat) : Int) - (a : Int)).toNat = m by omega, fill_hit m a g hn ⟨j, Int.ofNat_le.mp h1, Int.ofNat_lt.mp h2, h3⟩]; rfl
theorem meet {a b c d : Int} (h : ¬ (b ≤ c ∨ d ≤ a)) (ha : 0 ≤ a) (hc : 0 ≤ c) (hab : a < b) (hcd : c < d) : ∃ j : Nat, (a ≤ j ∧ (j : Int) < b) ∧ c ≤ j ∧ (j : Int) < d := by
  have h1 : c < b := Int.not_le.mp fun k => h (.inl k)
  have h2 : a < d := Int.not_le.mp fun k => h (.inr k)
  rcases Int.le_total a c with k | k
  · obtain ⟨j, rfl⟩ := Int.eq_ofNat_of_zero_le hc; exact ⟨j, ⟨k, h1⟩, Int.le_refl _, hcd⟩
  · obtain ⟨j, rfl⟩ := Int.eq_ofNat_of_zero_le ha; exact ⟨j, ⟨Int.le_refl _, hab⟩, k, h2⟩
end
theorem mem_closeF (ops : List Int) (row : List String) : ∀ (i : Nat) (x : Int), x ∈ closeF ops i row ↔ ∃ j : Nat, x = (i + j : Nat) ∧ row[j]? = some "F" ∧ ops.getD (i + j) 0 = 65041 := by
  induction row with
  | nil => exact fun i x => ⟨fun h => (by cases h), fun ⟨_, _, h, _⟩ => (by cases h)⟩
  | cons s r ih =>
    intro i x
    have key : (∃ j : Nat, x = (i + j : Nat) ∧ (s :: r)[j]? = some "F" ∧ ops.getD (i + j) 0 = 65041) ↔ (x = i ∧ s = "F" ∧ ops.getD i 0 = 65041) ∨ x ∈ closeF ops (i + 1) r := by
      rw [ih]
      constructor
      · rintro ⟨j, a, b, c⟩
        cases j with
        | zero => exact .inl ⟨a, Option.some.inj b, c⟩
        | succ j => exact .inr ⟨j, Nat.succ_add_eq_add_succ i j ▸ a, b, Nat.succ_add_eq_add_succ i j ▸ c⟩
      · rintro (⟨a, b, c⟩ | ⟨j, a, b, c⟩)
        · exact ⟨0, a, congrArg some b, c⟩
        · exact ⟨j + 1, Nat.succ_add_eq_add_succ i j ▸ a, b, Nat.succ_add_eq_add_succ i j ▸ c⟩
    rw [key, closeF]
    by_cases h : s = "F" ∧ ops.getD i 0 = 65041
    · rw [if_pos h, List.mem_cons]
      exact or_congr ⟨fun e => ⟨e, h⟩, fun e => e.1⟩ Iff.rfl
    · rw [if_neg h]
      exact ⟨.inr, fun e => e.resolve_left fun e => h e.2⟩
theorem closeF_sorted (ops : List Int) (row : List String) : ∀ i : Nat, (closeF ops i row).Pairwise (· < ·) := by
  induction row with
  | nil => exact fun _ => .nil
  | cons s r ih =>
    intro i
    rw [closeF]
    split
    · refine List.pairwise_cons.mpr ⟨fun x hx => ?_, ih (i + 1)⟩
      obtain ⟨j, rfl, _⟩ := (mem_closeF ops r (i + 1) x).mp hx
      exact Int.ofNat_lt.mpr (Nat.lt_of_lt_of_le (Nat.lt_succ_self i) (Nat.le_add_right _ _))
    · exact ih (i + 1)
theorem sorted_single {l : List Int} (h : l.Pairwise (· < ·)) (a : Int) : l = [a] ↔ ∀ x, x ∈ l ↔ x = a := by
  constructor
  · rintro rfl x; exact List.mem_singleton
  · intro hx
    cases l with
    | nil => exact absurd ((hx a).mpr rfl) List.not_mem_nil
    | cons y l =>
      have hy := (hx y).mp List.mem_cons_self
      subst hy
      cases l with
      | nil => rfl
      | cons z l =>
        have hz := (hx z).mp (List.mem_cons_of_mem _ List.mem_cons_self)
        exact absurd (hz ▸ (List.pairwise_cons.mp h).1 z List.mem_cons_self) (Int.lt_irrefl _)
/-- the closing points of a row whose filter's part is e .. h0 -/
theorem close_iff {ops : List Int} {n : Nat} {g : Nat → String} {e h0 : Int} (he : 0 ≤ e) (hh : e < h0) (hn : h0 ≤ n) (hF : ∀ j : Nat, g j = "F" ↔ e ≤ j ∧ (j : Int) < h0) :
    closeF ops 0 (tab n g) = [h0 - 1] ↔ ∀ j : Int, e ≤ j → j < h0 → (ops.getD j.toNat 0 = 65041 ↔ j = h0 - 1) := by
  have hm : ∀ x : Int, x ∈ closeF ops 0 (tab n g) ↔ (e ≤ x ∧ x < h0) ∧ ops.getD x.toNat 0 = 65041 := fun x => by
    rw [mem_closeF]
    constructor
    · rintro ⟨j, rfl, b, c⟩
      rw [tab_at] at b
      rw [Nat.zero_add] at c ⊢
      split at b
      · exact ⟨(hF j).mp (Option.some.inj b), c⟩
      · cases b
    · rintro ⟨h, c⟩
      obtain ⟨j, rfl⟩ := Int.eq_ofNat_of_zero_le (Int.le_trans he h.1)
      exact ⟨j, congrArg Int.ofNat (Nat.zero_add j).symm, by rw [tab_at, if_pos (Int.ofNat_lt.mp (Int.lt_of_lt_of_le h.2 hn)), (hF j).mpr h], by rw [Nat.zero_add]; exact c⟩
  rw [sorted_single (closeF_sorted ops _ 0)]
  constructor
  · exact fun h j a b => ⟨fun c => (h j).mp ((hm j).mpr ⟨⟨a, b⟩, c⟩), fun c => ((hm j).mp ((h j).mpr c)).2⟩
  · refine fun h x => (hm x).trans ⟨fun k => (h x k.1.1 k.1.2).mp k.2, fun k => ?_⟩
    have r : e ≤ x ∧ x < h0 := by omega
    exact ⟨r, (h x r.1 r.2).mpr k⟩
theorem filtFrom_iff (ops : List Int) (h0 : Int) (m : Nat) : ∀ i : Int, filtFrom ops h0 i m = true ↔ ∀ j, i ≤ j → j < i + m → (ops.getD j.toNat 0 = 65041 ↔ j = h0 - 1) := by
  induction m with
  | zero => exact fun i => ⟨fun _ j a b => by omega, fun _ => rfl⟩
  | succ m ih =>
    intro i
    rw [filtFrom, Bool.and_eq_true, ih (i + 1)]
    have e : ((ops.getD i.toNat 0 == 65041) == decide (i = h0 - 1)) = true ↔ (ops.getD i.toNat 0 = 65041 ↔ i = h0 - 1) := by
      by_cases q1 : ops.getD i.toNat 0 = 65041 <;> by_cases q2 : i = h0 - 1 <;> simp [q1, q2]
    rw [e]
    constructor
    · rintro ⟨a, b⟩ j h1 h2
      by_cases q : j = i
      · subst q; exact a
      · exact b j (by omega) (by omega)
    · intro h
      exact ⟨h i (by omega) (by omega), fun j h1 h2 => h j (by omega) (by omega)⟩

/-- a clause's letter at a place -/
noncomputable def Lt (c : Cl) (i : Nat) : String := if c.t0 ≤ i ∧ i < c.t1 then "T" else if c.h0 ≤ i ∧ i < c.h1 then "H" else if c.sort = 1 ∧ c.extra ≤ i ∧ i < c.h0 then "F" else "."

/-- when a clause is right alone -/
structure Rt (ops : List Int) (c : Cl) : Prop where
  sort : c.sort = 0 ∨ c.sort = 1 ∨ c.sort = 2 ∨ c.sort = 4
  t : 0 ≤ c.t0 ∧ c.t0 < c.t1 ∧ c.t1 ≤ ops.length
  h : 0 ≤ c.h0 ∧ c.h0 < c.h1 ∧ c.h1 ≤ ops.length
  th : c.t1 ≤ c.h0 ∨ c.h1 ≤ c.t0
  f : c.sort = 1 → 0 ≤ c.extra ∧ c.extra < c.h0 ∧ (c.t1 ≤ c.extra ∨ c.h0 ≤ c.t0) ∧ ∀ j : Int, c.extra ≤ j → j < c.h0 → (ops.getD j.toNat 0 = 65041 ↔ j = c.h0 - 1)

theorem right_iff (ops : List Int) (c : Cl) : clauseRight ops c = true ↔ Rt ops c := by
  unfold clauseRight
  by_cases hs : c.sort = 1
  · have hp : partsOf c = [(c.t0, c.t1), (c.extra, c.h0), (c.h0, c.h1)] := by rw [partsOf, if_pos hs]
    rw [hp]
    simp only [hs, Bool.and_eq_true, Bool.or_eq_true, decide_eq_true_eq, ne_eq, not_true_eq_false, false_or, filterRight, allApart, apartP, List.take, List.tail, List.all_cons, List.all_nil, Bool.and_true, filtFrom_iff]
    constructor
    · rintro ⟨⟨⟨⟨_, t⟩, h⟩, ⟨f0, f1⟩, f2⟩, a, b⟩
      exact ⟨.inr (.inl hs), t, h, b, fun _ => ⟨f0, f1, a, fun j h1 h2 => f2 j h1 (by omega)⟩⟩
    · rintro ⟨_, t, h, th, f⟩
      obtain ⟨f0, f1, f2, f3⟩ := f hs
      exact ⟨⟨⟨⟨by simp, t⟩, h⟩, ⟨f0, f1⟩, fun j h1 h2 => f3 j h1 (by omega)⟩, f2, th⟩
  · have hp : partsOf c = [(c.t0, c.t1), (c.h0, c.h1)] := by rw [partsOf, if_neg hs]
    rw [hp]
    simp only [hs, Bool.and_eq_true, Bool.or_eq_true, decide_eq_true_eq, ne_eq, not_false_eq_true, true_or, allApart, apartP, List.take, List.tail, List.all_cons, List.all_nil, Bool.and_true]
    constructor
    · rintro ⟨⟨⟨⟨s, t⟩, h⟩, _⟩, b⟩
      exact ⟨s.elim (fun s => s.elim (fun s => s.elim .inl fun s => s.elim) fun s => .inr (.inr (.inl s))) fun s => .inr (.inr (.inr s)), t, h, b, fun e => absurd e hs⟩
    · rintro ⟨s, t, h, th, _⟩
      exact ⟨⟨⟨⟨s.elim (fun h => .inl (.inl (.inl h))) fun s => s.elim (fun h => absurd h hs) fun s => s.elim (fun h => .inl (.inr h)) .inr, t⟩, h⟩, trivial⟩, th⟩
end Mine
end

section
open PySem PySem.W PyProof.Rows PySem.Calls
set_option autoImplicit false
set_option maxRecDepth 100000
set_option maxHeartbeats 4000000
set_option linter.unusedSimpArgs false
set_option linter.unusedVariables false
set_option linter.defProp false
namespace Mine

section
variable {n : Nat} {g : Nat → String} {l l' : String} {a b c d : Int} {ops : List Int} {k : Cl}
theorem rep_tab : List.replicate n "." = tab n fun _ => "." := by rw [tab, List.map_const', List.length_range]
theorem pt_in {j : Nat} (h : a ≤ j ∧ (j : Int) < b) : pt l a b g j = l := if_pos h
theorem pt_out {j : Nat} (h : b ≤ c ∨ d ≤ a) (hj : c ≤ j ∧ (j : Int) < d) : pt l a b g j = g j := if_neg fun k => h.elim (fun h => Int.not_le.mpr k.2 (Int.le_trans h hj.1)) fun h => Int.not_lt.mpr k.1 (Int.lt_of_lt_of_le hj.2 h)
theorem pt_swap (h : b ≤ c ∨ d ≤ a) : pt l a b (pt l' c d g) = pt l' c d (pt l a b g) := funext fun j => by
  by_cases q : c ≤ (j : Int) ∧ (j : Int) < d
  · rw [pt_out h q, pt_in q, pt_in q]
  · rw [pt, pt, if_neg q]
    show _ = if _ then _ else _
    rw [if_neg q]; rfl
theorem spans_eq : spansOf k = ("T", k.t0, k.t1) :: ("H", k.h0, k.h1) :: (if k.sort = 1 then [("F", k.extra, k.h0)] else []) := rfl
theorem hf_apart : k.h1 ≤ k.extra ∨ k.h0 ≤ k.h0 := .inr (Int.le_refl _)
/-- the letters of a clause that is right -/
theorem letters_rt (h : Rt ops k) : letters ops k = some (tab ops.length (Lt k)) := by
  rw [letters, if_pos h.sort, spans_eq, rep_tab, span_next h.t fun _ _ _ => rfl, span_next h.h fun j h1 h2 => pt_out h.th ⟨h1, h2⟩]
  by_cases hs : k.sort = 1
  · obtain ⟨f0, f1, f2, f3⟩ := h.f hs
    have hl : k.h0 ≤ ops.length := Int.le_trans (Int.le_of_lt h.h.2.1) h.h.2.2
    rw [if_pos hs, span_next ⟨f0, f1, hl⟩ fun j h1 h2 => (pt_out (c := k.extra) (d := k.h0) hf_apart ⟨h1, h2⟩).trans (pt_out f2 ⟨h1, h2⟩), fillAll, Option.bind_some, pt_swap (a := k.extra) (.inl (Int.le_refl _)), pt_swap (a := k.extra) f2.symm, pt_swap (a := k.h0) h.th.symm]
    have e : pt "T" k.t0 k.t1 (pt "H" k.h0 k.h1 (pt "F" k.extra k.h0 fun _ => ".")) = Lt k := funext fun j => by
      show _ = if _ then _ else if _ then _ else if k.sort = 1 ∧ _ then _ else _
      rw [ite_iff (and_iff_right hs)]; rfl
    have hF : ∀ j : Nat, pt "T" k.t0 k.t1 (pt "H" k.h0 k.h1 (pt "F" k.extra k.h0 fun _ => ".")) j = "F" ↔ k.extra ≤ j ∧ (j : Int) < k.h0 := fun j => by
      refine ⟨fun q => ?_, fun q => (pt_out f2 q).trans ((pt_out hf_apart q).trans (pt_in q))⟩
      rw [pt] at q
      split at q
      · exact absurd q (by decide)
      · rw [pt] at q
        split at q
        · exact absurd q (by decide)
        · rw [pt] at q
          split at q
          · assumption
          · exact absurd q (by decide)
    rw [if_neg fun q => q.2 ((close_iff f0 f1 hl hF).mpr f3), e]
  · rw [if_neg hs, fillAll, Option.bind_some, if_neg fun q => hs q.1, pt_swap (a := k.h0) h.th.symm]
    refine congrArg (fun f => some (tab ops.length f)) (funext fun j => ?_)
    show _ = if _ then _ else if _ then _ else if k.sort = 1 ∧ _ then _ else _
    rw [if_neg (c := k.sort = 1 ∧ _) fun q => hs q.1]; rfl
theorem letters_wrong (h : ¬ Rt ops k) : letters ops k = none := by
  rw [letters]
  by_cases hs : k.sort = 0 ∨ k.sort = 1 ∨ k.sort = 2 ∨ k.sort = 4
  rotate_left
  · rw [if_neg hs]
  rw [if_pos hs, spans_eq, rep_tab]
  by_cases ht : Gd ops.length k.t0 k.t1
  rotate_left
  · rw [span_bad ht]; rfl
  rw [span_next ht fun _ _ _ => rfl]
  by_cases hh : Gd ops.length k.h0 k.h1
  rotate_left
  · rw [span_bad hh]; rfl
  by_cases th : k.t1 ≤ k.h0 ∨ k.h1 ≤ k.t0
  rotate_left
  · obtain ⟨j, j1, j2⟩ := meet th ht.1 hh.1 ht.2.1 hh.2.1
    rw [span_hit hh j2.1 j2.2 (by rw [pt_in j1]; decide)]; rfl
  rw [span_next hh fun j h1 h2 => pt_out th ⟨h1, h2⟩]
  by_cases h1 : k.sort = 1
  rotate_left
  · exact absurd ⟨hs, ht, hh, th, fun q => absurd q h1⟩ h
  rw [if_pos h1]
  have hl : k.h0 ≤ ops.length := Int.le_trans (Int.le_of_lt hh.2.1) hh.2.2
  by_cases hf : Gd ops.length k.extra k.h0
  rotate_left
  · rw [span_bad hf]; rfl
  by_cases tf : k.t1 ≤ k.extra ∨ k.h0 ≤ k.t0
  rotate_left
  · obtain ⟨j, j1, j2⟩ := meet tf ht.1 hf.1 ht.2.1 hf.2.1
    rw [span_hit hf j2.1 j2.2 (by rw [pt_out hf_apart j2, pt_in j1]; decide)]; rfl
  rw [span_next hf fun j h1 h2 => (pt_out (c := k.extra) (d := k.h0) hf_apart ⟨h1, h2⟩).trans (pt_out tf ⟨h1, h2⟩), fillAll, Option.bind_some, if_pos]
  refine ⟨h1, fun q => h ⟨hs, ht, hh, th, fun _ => ⟨hf.1, hf.2.1, tf, (close_iff hf.1 hf.2.1 hl fun j => ⟨fun q => ?_, pt_in⟩).mp q⟩⟩⟩
  rw [pt] at q
  split at q
  · assumption
  · rw [pt] at q
    split at q
    · exact absurd q (by decide)
    · rw [pt] at q
      split at q
      · exact absurd q (by decide)
      · exact absurd q (by decide)
theorem letters_cases (ops : List Int) (c : Cl) : (Rt ops c → ∃ row, letters ops c = some row ∧ row.length = ops.length ∧ ∀ j < ops.length, row.getD j "" = Lt c j) ∧ (¬ Rt ops c → letters ops c = none) :=
  ⟨fun h => ⟨_, letters_rt h, tab_len, fun _ hj => tab_get hj⟩, letters_wrong⟩
end
end Mine
end

section
open PySem PySem.W PyProof.Rows PySem.Calls
set_option autoImplicit false
set_option maxRecDepth 100000
set_option maxHeartbeats 4000000
set_option linter.unusedSimpArgs false
set_option linter.unusedVariables false
set_option linter.defProp false
namespace Mine

noncomputable abbrev In2 (p : Int × Int) (j : Nat) : Prop := p.1 ≤ j ∧ (j : Int) < p.2
theorem apart_iff {a b : Int × Int} (ha : 0 ≤ a.1 ∧ a.1 < a.2) (hb : 0 ≤ b.1 ∧ b.1 < b.2) : apartP a b = true ↔ ∀ j : Nat, ¬ (In2 a j ∧ In2 b j) := by
  rw [apartP, Bool.or_eq_true, decide_eq_true_eq, decide_eq_true_eq]
  exact ⟨fun h j q => h.elim (fun h => Int.not_le.mpr (Int.lt_of_lt_of_le q.1.2 h) q.2.1) fun h => Int.not_le.mpr (Int.lt_of_lt_of_le q.2.2 h) q.1.1, fun h => Classical.byContradiction fun k => (meet k ha.1 hb.1 ha.2 hb.2).elim h⟩
theorem inside_iff {a b : Int × Int} (ha : 0 ≤ a.1 ∧ a.1 < a.2) : insideP a b = true ↔ ∀ j : Nat, In2 a j → In2 b j := by
  rw [insideP, Bool.and_eq_true, decide_eq_true_eq, decide_eq_true_eq]
  refine ⟨fun h j q => ⟨Int.le_trans h.1 q.1, Int.lt_of_lt_of_le q.2 h.2⟩, fun h => ?_⟩
  obtain ⟨k, e⟩ := Int.eq_ofNat_of_zero_le ha.1
  obtain ⟨m, e'⟩ := Int.eq_ofNat_of_zero_le (Int.le_trans ha.1 (Int.le_sub_one_of_lt ha.2))
  have h1 := (h k ⟨Int.le_of_eq e, e ▸ ha.2⟩).1
  have h2 := (h m ⟨e' ▸ Int.le_sub_one_of_lt ha.2, e' ▸ Int.sub_one_lt_of_le (Int.le_refl _)⟩).2
  exact ⟨e ▸ h1, Int.le_of_sub_one_lt (e' ▸ h2)⟩
theorem range_eq {a b c d : Int} (h0 : 0 ≤ a) (h1 : a < b) (h2 : 0 ≤ c) (h3 : c < d) (h : ∀ j : Nat, In2 (a, b) j ↔ In2 (c, d) j) : a = c ∧ b = d := by
  have i1 := (inside_iff (a := (a, b)) (b := (c, d)) ⟨h0, h1⟩).mpr fun j => (h j).mp
  have i2 := (inside_iff (a := (c, d)) (b := (a, b)) ⟨h2, h3⟩).mpr fun j => (h j).mpr
  rw [insideP, Bool.and_eq_true, decide_eq_true_eq, decide_eq_true_eq] at i1 i2
  exact ⟨Int.le_antisymm i2.1 i1.1, Int.le_antisymm i1.2 i2.2⟩
/-- a part that holds something -/
noncomputable abbrev Full (p : Int × Int) : Prop := 0 ≤ p.1 ∧ p.1 < p.2
theorem allApart_iff {ps os : List (Int × Int)} (hp : ∀ p ∈ ps, Full p) (ho : ∀ p ∈ os, Full p) : allApart ps os = true ↔ ∀ j : Nat, ¬ ((∃ p ∈ ps, In2 p j) ∧ ∃ q ∈ os, In2 q j) := by
  unfold allApart
  simp only [List.all_eq_true]
  constructor
  · rintro h j ⟨⟨p, hp', ip⟩, q, hq', iq⟩
    exact (apart_iff (hp p hp') (ho q hq')).mp (h p hp' q hq') j ⟨ip, iq⟩
  · intro h p hp' q hq'
    exact (apart_iff (hp p hp') (ho q hq')).mpr fun j ⟨ip, iq⟩ => h j ⟨⟨p, hp', ip⟩, q, hq', iq⟩
theorem allInside_iff {ps : List (Int × Int)} (hp : ∀ p ∈ ps, Full p) (a b : Int × Int) : allInside ps [a, b] = true ↔ (∀ j : Nat, (∃ p ∈ ps, In2 p j) → In2 a j) ∨ ∀ j : Nat, (∃ p ∈ ps, In2 p j) → In2 b j := by
  unfold allInside
  have key : ∀ q, (ps.all fun p => insideP p q) = true ↔ ∀ j : Nat, (∃ p ∈ ps, In2 p j) → In2 q j := fun q => by
    rw [List.all_eq_true]
    constructor
    · rintro h j ⟨p, hp', ip⟩
      exact (inside_iff (hp p hp')).mp (h p hp') j ip
    · intro h p hp'
      exact (inside_iff (hp p hp')).mpr fun j ip => h j ⟨p, hp', ip⟩
  simp only [List.any_cons, List.any_nil, Bool.or_false, Bool.or_eq_true, key]

theorem Rt.full {ops : List Int} {c : Cl} (h : Rt ops c) : ∀ p ∈ partsOf c, Full p := by
  have t := h.t; have hh := h.h
  unfold partsOf
  split
  · rename_i hs
    have f := h.f hs
    intro p hp
    simp only [List.mem_cons, List.not_mem_nil, or_false] at hp
    rcases hp with rfl | rfl | rfl
    · exact ⟨by show 0 ≤ c.t0; lia, by show c.t0 < c.t1; lia⟩
    · exact ⟨by show 0 ≤ c.extra; lia, by show c.extra < c.h0; lia⟩
    · exact ⟨by show 0 ≤ c.h0; lia, by show c.h0 < c.h1; lia⟩
  · intro p hp
    simp only [List.mem_cons, List.not_mem_nil, or_false] at hp
    rcases hp with rfl | rfl
    · exact ⟨by show 0 ≤ c.t0; lia, by show c.t0 < c.t1; lia⟩
    · exact ⟨by show 0 ≤ c.h0; lia, by show c.h0 < c.h1; lia⟩
theorem tail_mem {α : Type} {l : List α} {x : α} (h : x ∈ l.tail) : x ∈ l := by cases l with | nil => exact h | cons => exact List.mem_cons_of_mem _ h
/-- the letters and the parts -/
theorem Rt.lT {ops : List Int} {c : Cl} (h : Rt ops c) (j : Nat) : Lt c j = "T" ↔ In2 (c.t0, c.t1) j := by
  unfold Lt In2
  by_cases q : c.t0 ≤ j ∧ (j : Int) < c.t1
  · rw [if_pos q]; exact ⟨fun _ => q, fun _ => rfl⟩
  · rw [if_neg q]
    refine ⟨fun e => ?_, fun e => absurd e q⟩
    split at e
    · exact absurd e (by decide)
    · split at e <;> exact absurd e (by decide)
theorem Rt.lH {ops : List Int} {c : Cl} (h : Rt ops c) (j : Nat) : Lt c j = "H" ↔ In2 (c.h0, c.h1) j := by
  have th := h.th
  unfold Lt In2
  by_cases q : c.t0 ≤ j ∧ (j : Int) < c.t1
  · rw [if_pos q]; exact ⟨fun e => absurd e (by decide), fun e => by simp only at e; lia⟩
  · rw [if_neg q]
    by_cases q2 : c.h0 ≤ j ∧ (j : Int) < c.h1
    · rw [if_pos q2]; exact ⟨fun _ => q2, fun _ => rfl⟩
    · rw [if_neg q2]
      refine ⟨fun e => ?_, fun e => absurd e q2⟩
      split at e <;> exact absurd e (by decide)
theorem Rt.lP {ops : List Int} {c : Cl} (h : Rt ops c) (j : Nat) : Lt c j ≠ "." ↔ ∃ p ∈ partsOf c, In2 p j := by
  unfold Lt partsOf In2
  by_cases q : c.t0 ≤ j ∧ (j : Int) < c.t1
  · rw [if_pos q]
    refine ⟨fun _ => ⟨(c.t0, c.t1), by split <;> simp, q⟩, fun _ => by decide⟩
  · rw [if_neg q]
    by_cases q2 : c.h0 ≤ j ∧ (j : Int) < c.h1
    · rw [if_pos q2]
      refine ⟨fun _ => ⟨(c.h0, c.h1), by split <;> simp, q2⟩, fun _ => by decide⟩
    · rw [if_neg q2]
      by_cases hs : c.sort = 1
      · rw [if_pos hs]
        by_cases q3 : c.extra ≤ j ∧ (j : Int) < c.h0
        · rw [if_pos ⟨hs, q3⟩]
          exact ⟨fun _ => ⟨(c.extra, c.h0), by simp, q3⟩, fun _ => by decide⟩
        · rw [if_neg (fun h => q3 h.2)]
          refine ⟨fun e => absurd rfl e, ?_⟩
          rintro ⟨p, hp, ip⟩
          simp only [List.mem_cons, List.not_mem_nil, or_false] at hp
          rcases hp with rfl | rfl | rfl
          · exact absurd ip q
          · exact absurd ip q3
          · exact absurd ip q2
      · rw [if_neg hs, if_neg (fun h => hs h.1)]
        refine ⟨fun e => absurd rfl e, ?_⟩
        rintro ⟨p, hp, ip⟩
        simp only [List.mem_cons, List.not_mem_nil, or_false] at hp
        rcases hp with rfl | rfl
        · exact absurd ip q
        · exact absurd ip q2
theorem Rt.lQ {ops : List Int} {c : Cl} (h : Rt ops c) (j : Nat) : (Lt c j ≠ "." ∧ Lt c j ≠ "T") ↔ ∃ p ∈ (partsOf c).tail, In2 p j := by
  have e1 := h.lT j; have e2 := h.lP j
  have th := h.th
  constructor
  · rintro ⟨a, b⟩
    obtain ⟨p, hp, ip⟩ := e2.mp a
    refine ⟨p, ?_, ip⟩
    have nt : ¬ In2 (c.t0, c.t1) j := fun q => b (e1.mpr q)
    unfold partsOf at hp ⊢
    split at hp
    · rename_i hs
      rw [if_pos hs]
      rcases List.mem_cons.mp hp with rfl | hp
      · exact absurd ip nt
      · exact hp
    · rename_i hs
      rw [if_neg hs]
      rcases List.mem_cons.mp hp with rfl | hp
      · exact absurd ip nt
      · exact hp
  · rintro ⟨p, hp, ip⟩
    refine ⟨e2.mpr ⟨p, tail_mem hp, ip⟩, fun q => ?_⟩
    have q := e1.mp q
    unfold In2 at ip q
    unfold partsOf at hp
    split at hp
    · rename_i hs
      have f := h.f hs
      simp only [List.tail_cons, List.mem_cons, List.not_mem_nil, or_false] at hp
      rcases hp with rfl | rfl
      · simp only at ip q; lia
      · simp only at ip q; lia
    · simp only [List.tail_cons, List.mem_cons, List.not_mem_nil, or_false] at hp
      subst hp
      simp only at ip q; lia
theorem lt_four (c : Cl) (j : Nat) : Lt c j = "T" ∨ Lt c j = "H" ∨ Lt c j = "F" ∨ Lt c j = "." := by
  unfold Lt
  split
  · exact .inl rfl
  · split
    · exact .inr (.inl rfl)
    · split
      · exact .inr (.inr (.inl rfl))
      · exact .inr (.inr (.inr rfl))

/-- what all pairs of two rows answer -/
theorem zip_all {ra rb : List String} {n : Nat} (la : ra.length = n) (lb : rb.length = n) (P : String → String → Prop) : (∀ p ∈ ra.zip rb, P p.1 p.2) ↔ ∀ j < n, P (ra.getD j "") (rb.getD j "") := by
  constructor
  · intro h j hj
    have h1 : ra[j]? = some (ra.getD j "") := by rw [List.getD_eq_getElem?_getD, List.getElem?_eq_getElem (by lia)]; rfl
    have h2 : rb[j]? = some (rb.getD j "") := by rw [List.getD_eq_getElem?_getD, List.getElem?_eq_getElem (by lia)]; rfl
    exact h (ra.getD j "", rb.getD j "") (List.mem_of_getElem? (i := j) (by rw [List.getElem?_zip_eq_some]; exact ⟨h1, h2⟩))
  · rintro h ⟨x, y⟩ hp
    obtain ⟨j, hj⟩ := List.mem_iff_getElem?.mp hp
    rw [List.getElem?_zip_eq_some] at hj
    have hn := (List.getElem?_eq_some_iff.mp hj.1).1
    have := h j (by lia)
    rw [List.getD_eq_getElem?_getD, hj.1, List.getD_eq_getElem?_getD, hj.2] at this
    exact this
end Mine
end

section
open PySem PySem.W PyProof.Rows PySem.Calls
set_option autoImplicit false
set_option maxRecDepth 100000
set_option maxHeartbeats 4000000
set_option linter.unusedSimpArgs false
set_option linter.unusedVariables false
set_option linter.defProp false
namespace Mine

theorem map_dec {ra rb : List String} {n : Nat} (la : ra.length = n) (lb : rb.length = n) : ((ra.map fun x => decide (x = "T")) = rb.map fun x => decide (x = "T")) ↔ ∀ j < n, (ra.getD j "" = "T" ↔ rb.getD j "" = "T") := by
  constructor
  · intro h j hj
    have h1 : ra[j]? = some (ra.getD j "") := by rw [List.getD_eq_getElem?_getD, List.getElem?_eq_getElem (by lia)]; rfl
    have h2 : rb[j]? = some (rb.getD j "") := by rw [List.getD_eq_getElem?_getD, List.getElem?_eq_getElem (by lia)]; rfl
    have := congrArg (·[j]?) h
    simp only [List.getElem?_map, h1, h2, Option.map_some, Option.some.injEq, decide_eq_decide] at this
    exact this
  · intro h
    refine List.ext_getElem? fun j => ?_
    rw [List.getElem?_map, List.getElem?_map]
    by_cases hj : j < n
    · have h1 : ra[j]? = some (ra.getD j "") := by rw [List.getD_eq_getElem?_getD, List.getElem?_eq_getElem (by lia)]; rfl
      have h2 : rb[j]? = some (rb.getD j "") := by rw [List.getD_eq_getElem?_getD, List.getElem?_eq_getElem (by lia)]; rfl
      rw [h1, h2]
      simp only [Option.map_some, Option.some.injEq, decide_eq_decide]
      exact h j hj
    · rw [List.getElem?_eq_none (by lia), List.getElem?_eq_none (by lia)]
theorem crossed_nil {ra rb : List String} {n : Nat} (la : ra.length = n) (lb : rb.length = n) : crossedOf ra rb = [] ↔ ∀ j < n, ¬ (ra.getD j "" ≠ "." ∧ rb.getD j "" ≠ ".") := by
  rw [← zip_all la lb (fun x y => ¬ (x ≠ "." ∧ y ≠ "."))]
  unfold crossedOf crossF
  rw [List.filterMap_eq_nil_iff]
  refine forall_congr' fun p => forall_congr' fun _ => ?_
  by_cases q : p.1 ≠ "." ∧ p.2 ≠ "."
  · rw [if_pos q]; exact ⟨fun h => (by cases h), fun h => absurd q h⟩
  · rw [if_neg q]; exact ⟨fun _ => q, fun _ => rfl⟩
theorem crossed_TT {ra rb : List String} {n : Nat} (la : ra.length = n) (lb : rb.length = n) : ((crossedOf ra rb).all fun x => decide (x = "TT")) = true ↔ ∀ j < n, (ra.getD j "" ≠ "." ∧ rb.getD j "" ≠ ".") → ra.getD j "" ++ rb.getD j "" = "TT" := by
  rw [← zip_all la lb (fun x y => (x ≠ "." ∧ y ≠ ".") → x ++ y = "TT")]
  unfold crossedOf crossF
  simp only [List.all_eq_true, List.mem_filterMap, decide_eq_true_eq]
  constructor
  · intro h p hp q
    exact h _ ⟨p, hp, if_pos q⟩
  · rintro h x ⟨p, hp, e⟩
    split at e
    · rename_i q; cases e; exact h p hp q
    · cases e
theorem under_all {ra rb : List String} {n : Nat} (la : ra.length = n) (lb : rb.length = n) (s : String) : ((underOf ra rb).all fun x => decide (x = s)) = true ↔ ∀ j < n, ra.getD j "" ≠ "." → rb.getD j "" = s := by
  rw [← zip_all la lb (fun x y => x ≠ "." → y = s)]
  unfold underOf underF
  simp only [List.all_eq_true, List.mem_filterMap, decide_eq_true_eq]
  constructor
  · intro h p hp q
    exact h _ ⟨p, hp, if_pos q⟩
  · rintro h x ⟨p, hp, e⟩
    split at e
    · rename_i q; cases e; exact h p hp q
    · cases e
theorem isAlone_iff {ops : List Int} {c : Cl} (h : Rt ops c) : (!isAlone c) = decide (c.sort < 2) := by
  rw [isAlone]
  rcases h.sort with e | e | e | e <;> rw [e] <;> rfl
theorem pair_same {ops : List Int} {a b : Cl} {ra rb : List String} (ha : Rt ops a) (hb : Rt ops b) (la : ra.length = ops.length) (lb : rb.length = ops.length) (ga : ∀ j < ops.length, ra.getD j "" = Lt a j) (gb : ∀ j < ops.length, rb.getD j "" = Lt b j) :
    lawPair ra rb (decide (a.sort < 2) && decide (b.sort < 2)) = pairRight a b := by
  have ta := ha.t; have tb := hb.t; have xa := ha.h; have xb := hb.h
  have lim : ∀ j : Nat, (∃ p ∈ partsOf a, In2 p j) → j < ops.length := fun j hj => by
    obtain ⟨p, hp, ip⟩ := hj
    unfold partsOf at hp
    split at hp
    · simp only [List.mem_cons, List.not_mem_nil, or_false] at hp
      rcases hp with rfl | rfl | rfl <;> (simp only [In2] at ip; lia)
    · simp only [List.mem_cons, List.not_mem_nil, or_false] at hp
      rcases hp with rfl | rfl <;> (simp only [In2] at ip; lia)
  have same : ((ra.map fun x => decide (x = "T")) = rb.map fun x => decide (x = "T")) ↔ (a.t0, a.t1) = (b.t0, b.t1) := by
    rw [map_dec la lb]
    constructor
    · intro h
      have h' : ∀ j : Nat, j < ops.length → (In2 (a.t0, a.t1) j ↔ In2 (b.t0, b.t1) j) := fun j hj => by
        rw [← ha.lT j, ← hb.lT j, ← ga j hj, ← gb j hj]; exact h j hj
      have q := range_eq ta.1 ta.2.1 tb.1 tb.2.1 fun j => ⟨fun k => (h' j (Int.ofNat_lt.mp (Int.lt_of_lt_of_le k.2 ta.2.2))).mp k, fun k => (h' j (Int.ofNat_lt.mp (Int.lt_of_lt_of_le k.2 tb.2.2))).mpr k⟩
      rw [q.1, q.2]
    · intro h j hj
      rw [ga j hj, gb j hj, ha.lT, hb.lT, h]
  unfold lawPair pairRight
  by_cases e : (a.t0, a.t1) = (b.t0, b.t1)
  · rw [if_pos (same.mpr e), if_pos e, isAlone_iff ha, isAlone_iff hb]
    have key : ((crossedOf ra rb).all fun x => decide (x = "TT")) = allApart (partsOf a).tail (partsOf b).tail := by
      rw [Bool.eq_iff_iff, crossed_TT la lb, allApart_iff (fun p hp => ha.full p (tail_mem hp)) (fun p hp => hb.full p (tail_mem hp))]
      constructor
      · rintro h j ⟨h1, h2⟩
        have hj := lim j (let ⟨p, hp, ip⟩ := h1; ⟨p, tail_mem hp, ip⟩)
        have q1 := (ha.lQ j).mpr h1
        have q2 := (hb.lQ j).mpr h2
        have := h j hj (by rw [ga j hj, gb j hj]; exact ⟨q1.1, q2.1⟩)
        rw [ga j hj, gb j hj] at this
        rcases lt_four a j with w | w | w | w <;> rcases lt_four b j with v | v | v | v <;> rw [w, v] at this <;> first | exact absurd this (by decide) | exact q1.2 w
      · rintro h j hj ⟨h1, h2⟩
        rw [ga j hj] at h1 ⊢
        rw [gb j hj] at h2 ⊢
        have tt : Lt a j = "T" ↔ Lt b j = "T" := by rw [ha.lT, hb.lT, e]
        by_cases w : Lt a j = "T"
        · rw [w, tt.mp w]; decide
        · exact absurd ⟨(ha.lQ j).mp ⟨h1, w⟩, (hb.lQ j).mp ⟨h2, fun v => w (tt.mpr v)⟩⟩ (h j)
    rw [key, Bool.and_assoc]
  · rw [if_neg (fun h => e (same.mp h)), if_neg e]
    have k1 : decide (crossedOf ra rb = []) = allApart (partsOf a) (partsOf b) := by
      rw [Bool.eq_iff_iff, decide_eq_true_eq, crossed_nil la lb, allApart_iff ha.full hb.full]
      constructor
      · rintro h j ⟨h1, h2⟩
        have hj := lim j h1
        exact h j hj (by rw [ga j hj, gb j hj]; exact ⟨(ha.lP j).mpr h1, (hb.lP j).mpr h2⟩)
      · rintro h j hj ⟨h1, h2⟩
        rw [ga j hj] at h1; rw [gb j hj] at h2
        exact h j ⟨(ha.lP j).mp h1, (hb.lP j).mp h2⟩
    have k2 : (((underOf ra rb).all fun x => decide (x = "T")) || ((underOf ra rb).all fun x => decide (x = "H"))) = allInside (partsOf a) [(b.t0, b.t1), (b.h0, b.h1)] := by
      rw [Bool.eq_iff_iff, Bool.or_eq_true, under_all la lb, under_all la lb, allInside_iff ha.full]
      refine or_congr ?_ ?_
      · constructor
        · intro h j h1
          have hj := lim j h1
          have := h j hj (by rw [ga j hj]; exact (ha.lP j).mpr h1)
          rw [gb j hj] at this
          exact (hb.lT j).mp this
        · intro h j hj h1
          rw [ga j hj] at h1; rw [gb j hj]
          exact (hb.lT j).mpr (h j ((ha.lP j).mp h1))
      · constructor
        · intro h j h1
          have hj := lim j h1
          have := h j hj (by rw [ga j hj]; exact (ha.lP j).mpr h1)
          rw [gb j hj] at this
          exact (hb.lH j).mp this
        · intro h j hj h1
          rw [ga j hj] at h1; rw [gb j hj]
          exact (hb.lH j).mpr (h j ((ha.lP j).mp h1))
    rw [k1, k2]

theorem faults1_mem (ops : List Int) : ∀ (cs : List Cl) (fs : List Int), faults1 ops cs fs = told1 ops cs fs := by
  intro cs
  induction cs with
  | nil => intro fs; rfl
  | cons c cs ih =>
    intro fs
    unfold faults1 told1 at *
    rw [List.foldl_cons, List.foldl_cons, ih]
    congr 1
    obtain ⟨h1, h2⟩ := letters_cases ops c
    by_cases h : clauseRight ops c = true
    · obtain ⟨row, e, _⟩ := h1 ((right_iff ops c).mp h)
      rw [if_pos h, e]; rfl
    · rw [if_neg h, if_pos (h2 fun r => h ((right_iff ops c).mpr r))]
theorem addF_ne (fs : List Int) (t : Int) : addF fs t ≠ [] := by
  unfold addF
  split
  · rename_i h; intro e; rw [e] at h; cases h
  · simp
theorem faults1_keep (ops : List Int) : ∀ (cs : List Cl) (fs : List Int), fs ≠ [] → faults1 ops cs fs ≠ [] := by
  intro cs
  induction cs with
  | nil => intro fs h; exact h
  | cons c cs ih =>
    intro fs h
    unfold faults1 at *
    rw [List.foldl_cons]
    refine ih _ ?_
    split
    · exact h
    · exact addF_ne _ _
theorem faults1_nil (ops : List Int) : ∀ (cs : List Cl), faults1 ops cs [] = [] → ∀ c ∈ cs, clauseRight ops c = true := by
  intro cs
  induction cs with
  | nil => intro _ c hc; cases hc
  | cons c cs ih =>
    intro h d hd
    by_cases q : clauseRight ops c = true
    · have h' : faults1 ops cs [] = [] := by unfold faults1 at h ⊢; rw [List.foldl_cons, if_pos q] at h; exact h
      rcases List.mem_cons.mp hd with rfl | hd
      · exact q
      · exact ih h' d hd
    · exfalso
      unfold faults1 at h
      rw [List.foldl_cons, if_neg q] at h
      exact faults1_keep ops cs _ (addF_ne _ _) h
theorem pair_rows {ops : List Int} {a b : Cl} (ha : Rt ops a) (hb : Rt ops b) : lawPair (rowOf ops a) (rowOf ops b) (decide (a.sort < 2) && decide (b.sort < 2)) = pairRight a b := by
  obtain ⟨ra, ea, la, ga⟩ := (letters_cases ops a).1 ha
  obtain ⟨rb, eb, lb, gb⟩ := (letters_cases ops b).1 hb
  have e1 : rowOf ops a = ra := by rw [rowOf, ea]; rfl
  have e2 : rowOf ops b = rb := by rw [rowOf, eb]; rfl
  rw [e1, e2]
  exact pair_same ha hb la lb ga gb
theorem faults2_told (ops : List Int) (c : Cl) (hc : Rt ops c) : ∀ (ds : List Cl), (∀ d ∈ ds, Rt ops d) → ∀ fs, faults2 c ds fs = told2 ops c ds fs := by
  intro ds
  induction ds with
  | nil => intro _ fs; rfl
  | cons d ds ih =>
    intro h fs
    have e := pair_rows hc (h d List.mem_cons_self)
    have ih := ih (fun x hx => h x (List.mem_cons_of_mem _ hx))
    unfold faults2 told2 at *
    rw [List.foldl_cons, List.foldl_cons, ih, e]
theorem faults3_told (ops : List Int) (cs : List Cl) : (∀ c ∈ cs, Rt ops c) → ∀ fs, faults3 cs fs = told3 ops cs fs := by
  induction cs with
  | nil => exact fun _ _ => rfl
  | cons c cs ih =>
    intro h fs
    rw [faults3, told3, faults2_told ops c (h c List.mem_cons_self) cs (fun x hx => h x (List.mem_cons_of_mem _ hx)), ih (fun x hx => h x (List.mem_cons_of_mem _ hx))]
/-- the project's answer and the table's are one -/
theorem told_same (ops : List Int) (cs : List Cl) : regionFaults ops cs = toldF ops cs := by
  unfold regionFaults toldF
  simp only [faults1_mem]
  by_cases h : told1 ops cs [] = []
  · rw [if_pos h, if_pos h]
    rw [← faults1_mem] at h
    exact faults3_told ops cs (fun c hc => (right_iff ops c).mp (faults1_nil ops cs h c hc)) []
  · rw [if_neg h, if_neg h]
end Mine
end

section
open PySem PySem.W PyProof.Rows PySem.Calls
set_option autoImplicit false
set_option maxRecDepth 100000
set_option maxHeartbeats 4000000
set_option linter.unusedSimpArgs false
set_option linter.unusedVariables false
set_option linter.defProp false
namespace Mine

noncomputable def one (c : Cl) (k i : Nat) : List (Int × Int) := if 0 ≤ partAt c i then [((k : Int), partAt c i)] else []
noncomputable def regR (C : Nat → Cl) (i m : Nat) : Nat → List (Int × Int)
  | 0 => []
  | k + 1 => one (C (m + k)) (m + k) i ++ regR C i m k
theorem regR_add (C : Nat → Cl) (i m k l : Nat) : regR C i m (k + l) = regR C i (m + k) l ++ regR C i m k := by
  induction l with
  | zero => rfl
  | succ l ih => rw [show k + (l + 1) = (k + l) + 1 from rfl, regR, regR, ih, List.append_assoc, Nat.add_assoc]
theorem regR_split (C : Nat → Cl) (i : Nat) {m m1 m2 : Nat} (h1 : m ≤ m1) (h2 : m1 ≤ m2) : regR C i m (m2 - m) = regR C i m1 (m2 - m1) ++ regR C i m (m1 - m) := by
  have e : m2 - m = (m1 - m) + (m2 - m1) := by rw [Nat.add_comm, Nat.sub_add_sub_cancel h2 h1]
  rw [e, regR_add, Nat.add_sub_of_le h1]
theorem regR_nil (C : Nat → Cl) (i m k : Nat) : (∀ c, m ≤ c → c < m + k → ¬ 0 ≤ partAt (C c) i) → regR C i m k = [] := by
  induction k with
  | zero => exact fun _ => rfl
  | succ k ih =>
    intro h
    rw [regR, one, if_neg (h _ (Nat.le_add_right m k) (Nat.lt_succ_self _)), ih fun c a b => h c a (Nat.lt_succ_of_lt b)]; rfl

/-- a clause that the tree writes: its parts in order, within n .. n' -/
structure Rgt (O : Nat → Int) (n n' : Nat) (c : Cl) : Prop where
  sort : c.sort = 0 ∨ c.sort = 1 ∨ c.sort = 2 ∨ c.sort = 4
  ord : (n : Int) ≤ c.t0 ∧ c.t0 < c.t1 ∧ c.t1 ≤ c.h0 ∧ c.h0 < c.h1 ∧ c.h1 ≤ n'
  f : c.sort = 1 → c.t1 ≤ c.extra ∧ c.extra < c.h0 ∧ ∀ j : Nat, c.extra ≤ j → (j : Int) < c.h0 → (O j = 65041 ↔ (j : Int) = c.h0 - 1)
theorem Rgt.le {O : Nat → Int} {n n' a a' : Nat} {c : Cl} (h : Rgt O n n' c) (h1 : a ≤ n) (h2 : n' ≤ a') : Rgt O a a' c :=
  ⟨h.sort, ⟨Int.le_trans (Int.ofNat_le.mpr h1) h.ord.1, h.ord.2.1, h.ord.2.2.1, h.ord.2.2.2.1, Int.le_trans h.ord.2.2.2.2 (Int.ofNat_le.mpr h2)⟩, h.f⟩
theorem Rgt.off {O : Nat → Int} {n n' : Nat} {c : Cl} (h : Rgt O n n' c) {i : Nat} (hi : i < n ∨ n' ≤ i) : ¬ 0 ≤ partAt c i := by
  have o := h.ord
  have f := h.f
  unfold partAt
  rw [if_neg (by lia), if_neg (by lia)]
  by_cases hs : c.sort = 1
  · have := f hs
    rw [if_neg (by omega)]; decide
  · rw [if_neg (fun e => hs e.1)]; decide
theorem parts_mem {c : Cl} {p : Int × Int} (h : p ∈ partsOf c) : p = (c.t0, c.t1) ∨ p = (c.h0, c.h1) ∨ (c.sort = 1 ∧ p = (c.extra, c.h0)) := by
  unfold partsOf at h
  split at h
  · rename_i hs
    simp only [List.mem_cons, List.not_mem_nil, or_false] at h
    rcases h with h | h | h
    · exact .inl h
    · exact .inr (.inr ⟨hs, h⟩)
    · exact .inr (.inl h)
  · simp only [List.mem_cons, List.not_mem_nil, or_false] at h
    rcases h with h | h
    · exact .inl h
    · exact .inr (.inl h)
theorem tail_parts {c : Cl} {p : Int × Int} (h : p ∈ (partsOf c).tail) : p = (c.h0, c.h1) ∨ (c.sort = 1 ∧ p = (c.extra, c.h0)) := by
  unfold partsOf at h
  split at h
  · rename_i hs
    simp only [List.tail_cons, List.mem_cons, List.not_mem_nil, or_false] at h
    rcases h with h | h
    · exact .inr ⟨hs, h⟩
    · exact .inl h
  · simp only [List.tail_cons, List.mem_cons, List.not_mem_nil, or_false] at h
    exact .inl h
theorem Rgt.part {O : Nat → Int} {n n' : Nat} {c : Cl} (h : Rgt O n n' c) {p : Int × Int} (hp : p ∈ partsOf c) : (n : Int) ≤ p.1 ∧ p.2 ≤ n' := by
  have o := h.ord; have f := h.f
  rcases parts_mem hp with rfl | rfl | ⟨hs, rfl⟩
  · exact ⟨by show (n : Int) ≤ c.t0; lia, by show c.t1 ≤ n'; lia⟩
  · exact ⟨by show (n : Int) ≤ c.h0; lia, by show c.h1 ≤ n'; lia⟩
  · have := f hs
    exact ⟨by show (n : Int) ≤ c.extra; omega, by show c.h0 ≤ n'; lia⟩
theorem pr_sep {a b : Cl} (hne : ¬ (a.t0 = b.t0 ∧ a.t1 = b.t1)) (h : ∀ p ∈ partsOf a, ∀ q ∈ partsOf b, p.2 ≤ q.1 ∨ q.2 ≤ p.1) : pairRight a b = true := by
  unfold pairRight
  rw [if_neg (fun e => hne (by rw [Prod.mk.injEq] at e; exact e)), Bool.or_eq_true]
  left
  unfold allApart apartP
  simp only [List.all_eq_true, Bool.or_eq_true, decide_eq_true_eq]
  exact h
theorem pr_in {a b : Cl} (hne : ¬ (a.t0 = b.t0 ∧ a.t1 = b.t1)) (h : (∀ p ∈ partsOf a, b.t0 ≤ p.1 ∧ p.2 ≤ b.t1) ∨ ∀ p ∈ partsOf a, b.h0 ≤ p.1 ∧ p.2 ≤ b.h1) : pairRight a b = true := by
  unfold pairRight
  rw [if_neg (fun e => hne (by rw [Prod.mk.injEq] at e; exact e)), Bool.or_eq_true]
  right
  unfold allInside insideP
  simp only [List.any_cons, List.any_nil, Bool.or_false, Bool.or_eq_true, List.all_eq_true, Bool.and_eq_true, decide_eq_true_eq]
  exact h
theorem pr_twin {a b : Cl} (he : a.t0 = b.t0 ∧ a.t1 = b.t1) (ha : a.sort < 2) (hb : b.sort < 2) (h : ∀ p ∈ (partsOf a).tail, ∀ q ∈ (partsOf b).tail, p.2 ≤ q.1 ∨ q.2 ≤ p.1) : pairRight a b = true := by
  unfold pairRight
  rw [if_pos (by rw [Prod.mk.injEq]; exact he)]
  have h1 : isAlone a = false := by unfold isAlone; simp; lia
  have h2 : isAlone b = false := by unfold isAlone; simp; lia
  rw [h1, h2]
  simp only [Bool.not_false, Bool.true_and]
  unfold allApart apartP
  simp only [List.all_eq_true, Bool.or_eq_true, decide_eq_true_eq]
  exact h
theorem Rgt.apart {O : Nat → Int} {n n1 n2 n3 : Nat} {a b : Cl} (ha : Rgt O n n1 a) (hb : Rgt O n2 n3 b) (h : n1 ≤ n2) : pairRight a b = true := by
  have oa := ha.ord; have ob := hb.ord
  refine pr_sep (by lia) fun p hp q hq => ?_
  have := ha.part hp; have := hb.part hq
  lia

/-- what a region stands for -/
noncomputable def OwnOk (C : Nat → Cl) (m m' : Nat) (rg : String × Int) (ow : List (Int × Int)) : Prop :=
  ow ≠ [] ∧ ∀ x ∈ ow, (m : Int) ≤ x.1 ∧ x.1 < m' ∧ ((rg.1 = "T" ∧ x.2 = 0 ∧ (C x.1.toNat).t0 = rg.2) ∨ (rg.1 = "H" ∧ x.2 = 2 ∧ ((C x.1.toNat).sort = 0 ∨ (C x.1.toNat).sort = 1)) ∨ (rg.1 = "N" ∧ x.2 = 2 ∧ ((C x.1.toNat).sort = 2 ∨ (C x.1.toNat).sort = 4)) ∨ (rg.1 = "F" ∧ x.2 = 1))
theorem OwnOk.le {C : Nat → Cl} {m m' a a' : Nat} {rg : String × Int} {ow : List (Int × Int)} (h : OwnOk C m m' rg ow) (h1 : a ≤ m) (h2 : m' ≤ a') : OwnOk C a a' rg ow :=
  ⟨h.1, fun x hx => by obtain ⟨p, q, r⟩ := h.2 x hx; exact ⟨by lia, by lia, r⟩⟩

section
variable (O : Nat → Int) (P : Nat → List Int) (C : Nat → Cl) (Rg : Nat → String × Int)
/-- a piece of the tree, written under the path p -/
structure GoodP (n n' m m' R R' dep : Nat) (p : List Int) (own : Int → List (Int × Int)) (pp : Int → List Int) : Prop where
  hn : n ≤ n'
  hm : m ≤ m'
  hR : R ≤ R'
  pth : ∀ i, n ≤ i → i < n' → ∃ q, P i = p ++ q ∧ q.length ≤ dep ∧ (∀ r ∈ q, (R : Int) ≤ r ∧ r < R') ∧ (∀ l1 r l2, q = l1 ++ r :: l2 → pp r = p ++ l1) ∧ regR C i m (m' - m) = q.flatMap own
  cls : ∀ c, m ≤ c → c < m' → Rgt O n n' (C c)
  pair : ∀ c d, m ≤ c → c < d → d < m' → pairRight (C c) (C d) = true
  ok : ∀ r : Nat, R ≤ r → r < R' → OwnOk C m m' (Rg r) (own r)
  disj : ∀ r r' : Nat, R ≤ r → r < R' → R ≤ r' → r' < R' → ∀ x, x ∈ own r → x ∈ own r' → r = r'
/-- a try under way: its middle and the handlers so far; cs: the clauses so far -/
structure Opn (t0 t1 n' m m' rT R' dep : Nat) (p : List Int) (own : Int → List (Int × Int)) (pp : Int → List Int) (cs : List (Int × Int)) : Prop where
  hn : t0 < t1 ∧ t1 ≤ n'
  hm : m ≤ m'
  hR : rT < R'
  inT : ∀ i, t0 ≤ i → i < t1 → ∃ q, P i = p ++ (rT : Int) :: q ∧ q.length ≤ dep ∧ (∀ r ∈ q, (rT : Int) < r ∧ r < R') ∧ (∀ l1 r l2, q = l1 ++ r :: l2 → pp r = p ++ (rT : Int) :: l1) ∧ regR C i m (m' - m) = cs ++ q.flatMap own
  out : ∀ i, t1 ≤ i → i < n' → ∃ q, P i = p ++ q ∧ q.length ≤ dep + 1 ∧ (∀ r ∈ q, (rT : Int) < r ∧ r < R') ∧ (∀ l1 r l2, q = l1 ++ r :: l2 → pp r = p ++ l1) ∧ regR C i m (m' - m) = q.flatMap own
  cls : ∀ c, m ≤ c → c < m' → Rgt O t0 t1 (C c) ∨ Rgt O t1 n' (C c) ∨ (((c : Int), (0 : Int)) ∈ cs ∧ Rgt O t0 n' (C c))
  tw : ∀ x ∈ cs, (m : Int) ≤ x.1 ∧ x.1 < m' ∧ x.2 = 0 ∧ (C x.1.toNat).t0 = t0 ∧ (C x.1.toNat).t1 = t1
  pair : ∀ c d, m ≤ c → c < d → d < m' → pairRight (C c) (C d) = true
  ok : ∀ r : Nat, rT < r → r < R' → OwnOk C m m' (Rg r) (own r)
  disj : ∀ r r' : Nat, rT < r → r < R' → rT < r' → r' < R' → ∀ x, x ∈ own r → x ∈ own r' → r = r'
  fresh : ∀ r : Nat, rT < r → r < R' → ∀ x, x ∈ own r → x ∉ cs
end
section
variable {O : Nat → Int} {P : Nat → List Int} {C : Nat → Cl} {Rg : Nat → String × Int} {own own' : Int → List (Int × Int)} {pp pp' : Int → List Int}
theorem flat_congr {q : List Int} (h : ∀ r ∈ q, own' r = own r) : q.flatMap own' = q.flatMap own := by
  induction q with
  | nil => rfl
  | cons r q ih => rw [List.flatMap_cons, List.flatMap_cons, h r List.mem_cons_self, ih fun r hr => h r (List.mem_cons_of_mem _ hr)]
theorem GoodP.congr {n n' m m' R R' dep : Nat} {p : List Int} (h : GoodP O P C Rg n n' m m' R R' dep p own pp) (ho : ∀ r : Int, (R : Int) ≤ r → r < R' → own' r = own r) (hp : ∀ r : Int, (R : Int) ≤ r → r < R' → pp' r = pp r) : GoodP O P C Rg n n' m m' R R' dep p own' pp' := by
  refine ⟨h.hn, h.hm, h.hR, fun i h1 h2 => ?_, h.cls, h.pair, fun r h1 h2 => ?_, fun r r' h1 h2 h3 h4 x => ?_⟩
  · obtain ⟨q, a, b, c, d, e⟩ := h.pth i h1 h2
    refine ⟨q, a, b, c, fun l1 r l2 eq => ?_, ?_⟩
    · have := c r (by rw [eq]; simp)
      rw [hp r this.1 this.2]; exact d l1 r l2 eq
    · rw [e, flat_congr fun r hr => ho r (c r hr).1 (c r hr).2]
  · rw [ho r (by lia) (by lia)]; exact h.ok r h1 h2
  · rw [ho r (by lia) (by lia), ho r' (by lia) (by lia)]; exact h.disj r r' h1 h2 h3 h4 x
theorem GoodP.nil (n m R dep : Nat) (p : List Int) : GoodP O P C Rg n n m m R R dep p own pp :=
  ⟨Nat.le_refl _, Nat.le_refl _, Nat.le_refl _, fun i a b => by omega, fun c a b => by omega, fun c d a b e => by lia, fun r a b => by omega, fun r r' a b => by omega⟩
theorem GoodP.put {n m R dep : Nat} {p : List Int} (h : P n = p) : GoodP O P C Rg n (n + 1) m m R R dep p own pp := by
  refine ⟨Nat.le_succ _, Nat.le_refl _, Nat.le_refl _, fun i a b => ?_, fun c a b => by omega, fun c d a b e => by lia, fun r a b => by omega, fun r r' a b => by omega⟩
  have : i = n := by lia
  subst this
  exact ⟨[], by rw [h, List.append_nil], Nat.zero_le _, fun r hr => absurd hr List.not_mem_nil, fun l1 r l2 e => by simp at e, by rw [Nat.sub_self]; rfl⟩
theorem GoodP.trans {n n1 n2 m m1 m2 R R1 R2 dep : Nat} {p : List Int} (h : GoodP O P C Rg n n1 m m1 R R1 dep p own pp) (g : GoodP O P C Rg n1 n2 m1 m2 R1 R2 dep p own pp) : GoodP O P C Rg n n2 m m2 R R2 dep p own pp := by
  have a1 := h.hn; have a2 := g.hn; have b1 := h.hm; have b2 := g.hm; have c1 := h.hR; have c2 := g.hR
  refine ⟨by lia, by lia, by lia, fun i h1 h2 => ?_, fun c h1 h2 => ?_, fun c d h1 h2 h3 => ?_, fun r h1 h2 => ?_, fun r r' h1 h2 h3 h4 x hx hx' => ?_⟩
  · by_cases hi : i < n1
    · obtain ⟨q, a, b, c, d, e⟩ := h.pth i h1 hi
      refine ⟨q, a, b, fun r hr => by have := c r hr; lia, d, ?_⟩
      rw [regR_split C i b1 b2, e, regR_nil C i m1 _ (fun c x y => (g.cls c x (by lia)).off (by lia))]; rfl
    · obtain ⟨q, a, b, c, d, e⟩ := g.pth i (by lia) h2
      refine ⟨q, a, b, fun r hr => by have := c r hr; lia, d, ?_⟩
      rw [regR_split C i b1 b2, e, regR_nil C i m _ (fun c x y => (h.cls c x (by lia)).off (by lia)), List.append_nil]
  · by_cases hc : c < m1
    · exact (h.cls c h1 hc).le (Nat.le_refl _) a2
    · exact (g.cls c (by lia) h2).le a1 (Nat.le_refl _)
  · by_cases hc : d < m1
    · exact h.pair c d h1 h2 hc
    · by_cases hc' : c < m1
      · exact (h.cls c h1 hc').apart (g.cls d (by lia) h3) (Nat.le_refl _)
      · exact g.pair c d (by lia) h2 h3
  · by_cases hr : r < R1
    · exact (h.ok r h1 hr).le (Nat.le_refl _) b2
    · exact (g.ok r (by lia) h2).le b1 (Nat.le_refl _)
  · by_cases hr : r < R1 <;> by_cases hr' : r' < R1
    · exact h.disj r r' h1 hr h3 hr' x hx hx'
    · have := (h.ok r h1 hr).2 x hx; have := (g.ok r' (by lia) h4).2 x hx'; lia
    · have := (h.ok r' h3 hr').2 x hx'; have := (g.ok r (by lia) h2).2 x hx; lia
    · exact g.disj r r' (by lia) h2 (by lia) h4 x hx hx'
end
end Mine
end

section
open PySem PySem.W PyProof.Rows PySem.Calls
set_option autoImplicit false
set_option maxRecDepth 100000
set_option maxHeartbeats 4000000
set_option linter.unusedSimpArgs false
set_option linter.unusedVariables false
set_option linter.defProp false
namespace Mine

theorem one_of {c : Cl} {k i : Nat} {v : Int} (h : partAt c i = v) (h0 : 0 ≤ v) : one c k i = [((k : Int), v)] := by unfold one; rw [h, if_pos h0]
theorem one_none {c : Cl} {k i : Nat} (h : ¬ 0 ≤ partAt c i) : one c k i = [] := by unfold one; rw [if_neg h]
section
variable {O : Nat → Int} {P : Nat → List Int} {C : Nat → Cl} {Rg : Nat → String × Int} {own : Int → List (Int × Int)} {pp : Int → List Int}
theorem Opn.start {t0 t1 m m' rT R' dep : Nat} {p : List Int} (h : GoodP O P C Rg t0 t1 m m' (rT + 1) R' dep (p ++ [(rT : Int)]) own pp) (ht : t0 < t1) : Opn O P C Rg t0 t1 t1 m m' rT R' dep p own pp [] := by
  have hR := h.hR
  refine ⟨⟨ht, Nat.le_refl _⟩, h.hm, by lia, fun i h1 h2 => ?_, fun i h1 h2 => by lia, fun c h1 h2 => .inl (h.cls c h1 h2), fun x hx => absurd hx List.not_mem_nil, h.pair, fun r h1 h2 => h.ok r h1 h2, fun r r' h1 h2 h3 h4 => h.disj r r' h1 h2 h3 h4, fun r h1 h2 x _ => List.not_mem_nil⟩
  obtain ⟨q, a, b, c, d, e⟩ := h.pth i h1 h2
  exact ⟨q, by rw [a, List.append_assoc]; rfl, b, fun r hr => by have := c r hr; lia, fun l1 r l2 eq => by rw [d l1 r l2 eq, List.append_assoc]; rfl, by rw [e]; rfl⟩
theorem Opn.off {t0 t1 n' m m' rT R' dep : Nat} {p : List Int} {cs : List (Int × Int)} (h : Opn O P C Rg t0 t1 n' m m' rT R' dep p own pp cs) {i : Nat} (hi : n' ≤ i) : ∀ c, m ≤ c → c < m' → ¬ 0 ≤ partAt (C c) i := fun c h1 h2 => by
  have := h.hn
  rcases h.cls c h1 h2 with k | k | k
  · exact k.off (by lia)
  · exact k.off (by lia)
  · exact k.2.off (by lia)
theorem Opn.put {t0 t1 n' m m' rT R' dep : Nat} {p : List Int} {cs : List (Int × Int)} (h : Opn O P C Rg t0 t1 n' m m' rT R' dep p own pp cs) (hp : P n' = p) : Opn O P C Rg t0 t1 (n' + 1) m m' rT R' dep p own pp cs := by
  have hn := h.hn
  refine ⟨by lia, h.hm, h.hR, h.inT, fun i h1 h2 => ?_, fun c h1 h2 => ?_, h.tw, h.pair, h.ok, h.disj, h.fresh⟩
  · by_cases hi : i < n'
    · exact h.out i h1 hi
    · have : i = n' := by lia
      subst this
      refine ⟨[], by rw [hp, List.append_nil], Nat.zero_le _, fun r hr => absurd hr List.not_mem_nil, fun l1 r l2 e => by simp at e, ?_⟩
      have hm := h.hm
      rw [regR_nil C i m _ (fun c a b => h.off (Nat.le_refl _) c a (by lia))]; rfl
  · rcases h.cls c h1 h2 with k | k | k
    · exact .inl k
    · exact .inr (.inl (k.le (Nat.le_refl _) (by lia)))
    · exact .inr (.inr ⟨k.1, k.2.le (Nat.le_refl _) (by lia)⟩)
/-- one handler more: its gap is past (g), the filter's part is g .. h0, the handler h0 .. h1 -/
theorem Opn.step {t0 t1 g m m' rT R' dep : Nat} {p : List Int} {cs : List (Int × Int)} (h : Opn O P C Rg t0 t1 g m m' rT R' dep p own pp cs) {h0 h1 m2 rH R2 : Nat} {s : Int} {extra : Int} (hs : s = 0 ∨ s = 1 ∨ s = 2 ∨ s = 4)
    (hF : s = 1 → g < h0 ∧ rH = R' + 1 ∧ own R' = [((m2 : Int), 1)] ∧ pp R' = p ∧ (Rg R').1 = "F" ∧ extra = g ∧ ∀ j : Nat, g ≤ j → j < h0 → (O j = 65041 ↔ (j : Int) = (h0 : Int) - 1)) (hF' : s ≠ 1 → g = h0 ∧ rH = R')
    (hP : ∀ i, g ≤ i → i < h0 → P i = p ++ [(R' : Int)]) (H : GoodP O P C Rg h0 h1 m' m2 (rH + 1) R2 dep (p ++ [(rH : Int)]) own pp) (hh : h0 < h1)
    (hC : C m2 = ⟨s, t0, t1, h0, h1, extra⟩) (hrH : own rH = [((m2 : Int), 2)]) (hpH : pp rH = p) (hgH : (Rg rH).1 = if s = 0 ∨ s = 1 then "H" else "N") (htw : cs ≠ [] → s < 2 ∧ ∀ x ∈ cs, (C x.1.toNat).sort < 2) :
    Opn O P C Rg t0 t1 h1 m (m2 + 1) rT R2 dep p own pp (((m2 : Int), 0) :: cs) := by
  have hn := h.hn; have hm := h.hm; have hR := h.hR; have Hm := H.hm; have HR := H.hR
  have hgh : g ≤ h0 := by by_cases e : s = 1; · exact Nat.le_of_lt (hF e).1
                          · exact Nat.le_of_eq (hF' e).1
  have hRr : R' ≤ rH := by by_cases e : s = 1; · rw [(hF e).2.1]; lia
                           · rw [(hF' e).2]; exact Nat.le_refl _
  have hnew : Rgt O t0 h1 (C m2) := by
    rw [hC]
    refine ⟨hs, ⟨Int.le_refl _, by show (t0 : Int) < t1; lia, by show (t1 : Int) ≤ h0; lia, by show (h0 : Int) < h1; lia, Int.le_refl _⟩, fun e => ?_⟩
    obtain ⟨a, b, c, d, f, x, y⟩ := hF e
    subst x
    exact ⟨by show (t1 : Int) ≤ g; lia, by show (g : Int) < h0; lia, fun j j1 j2 => y j (by simpa using j1) (by simpa using j2)⟩
  have hpm : ∀ i : Nat, partAt (C m2) i = if (t0 : Int) ≤ i ∧ (i : Int) < t1 then 0 else if (h0 : Int) ≤ i ∧ (i : Int) < h1 then 2 else if s = 1 ∧ extra ≤ i ∧ (i : Int) < h0 then 1 else -1 := fun i => by rw [hC]; rfl
  have hsp : ∀ i, regR C i m (m2 + 1 - m) = one (C m2) m2 i ++ (regR C i m' (m2 - m') ++ regR C i m (m' - m)) := fun i => by
    rw [← regR_split C i hm Hm, show m2 + 1 - m = (m2 - m) + 1 by lia, regR, show m + (m2 - m) = m2 by lia]
  have hH : ∀ i, (i < h0 ∨ h1 ≤ i) → regR C i m' (m2 - m') = [] := fun i hi => regR_nil C i m' _ (fun c a b => (H.cls c a (by lia)).off (by lia))
  have hO : ∀ i, g ≤ i → regR C i m (m' - m) = [] := fun i hi => regR_nil C i m _ (fun c a b => h.off hi c a (by lia))
  refine ⟨by lia, by lia, by lia, fun i a b => ?_, fun i a b => ?_, fun c a b => ?_, fun x hx => ?_, fun c d a b e => ?_, fun r a b => ?_, fun r r' a b c d x hx hx' => ?_, fun r a b x hx => ?_⟩
  · -- within the try's own part
    obtain ⟨q, e1, e2, e3, e4, e5⟩ := h.inT i a b
    refine ⟨q, e1, e2, fun r hr => by have := e3 r hr; lia, e4, ?_⟩
    rw [hsp, hH i (.inl (by lia)), e5, one_of ((hpm i).trans (if_pos (by lia))) (by decide)]
    rfl
  · by_cases i1 : i < g
    · obtain ⟨q, e1, e2, e3, e4, e5⟩ := h.out i a i1
      refine ⟨q, e1, e2, fun r hr => by have := e3 r hr; lia, e4, ?_⟩
      have hz : ¬ 0 ≤ partAt (C m2) i := by
        rw [hpm, if_neg (by lia), if_neg (by lia), if_neg]
        · decide
        · rintro ⟨x, y, z⟩
          have := (hF x).2.2.2.2.2.1
          lia
      rw [hsp, hH i (.inl (by lia)), e5, one_none hz]; rfl
    · by_cases i2 : i < h0
      · have e1 : s = 1 := by
          by_cases e : s = 1
          · exact e
          · have := (hF' e).1; lia
        obtain ⟨f1, f2, f3, f4, f5, f6, f7⟩ := hF e1
        refine ⟨[(R' : Int)], hP i (by lia) i2, by simp, fun r hr => ?_, fun l1 r l2 e => ?_, ?_⟩
        · rw [List.mem_singleton] at hr; lia
        · cases l1 with
          | nil => simp at e; rw [← e.1, f4, List.append_nil]
          | cons y l1 => simp at e
        · rw [hsp, hH i (.inl i2), hO i (by lia), one_of ((hpm i).trans ((if_neg (by lia)).trans ((if_neg (by lia)).trans (if_pos ⟨e1, by lia, by lia⟩)))) (by decide)]
          rw [List.flatMap_cons, f3]; rfl
      · obtain ⟨q, e1, e2, e3, e4, e5⟩ := H.pth i (by lia) b
        refine ⟨(rH : Int) :: q, by rw [e1, List.append_assoc]; rfl, by simp; exact e2, fun r hr => ?_, fun l1 r l2 e => ?_, ?_⟩
        · rcases List.mem_cons.mp hr with rfl | hr
          · lia
          · have := e3 r hr; lia
        · cases l1 with
          | nil =>
            rw [List.nil_append, List.cons.injEq] at e
            rw [← e.1, hpH, List.append_nil]
          | cons y l1 =>
            rw [List.cons_append, List.cons.injEq] at e
            rw [e4 l1 r l2 e.2, ← e.1, List.append_assoc]; rfl
        · rw [hsp, e5, hO i (by lia), one_of ((hpm i).trans ((if_neg (by lia)).trans (if_pos (by lia)))) (by decide)]
          rw [List.flatMap_cons, hrH, List.append_nil]
  · by_cases c1 : c < m'
    · rcases h.cls c a c1 with k | k | k
      · exact .inl k
      · exact .inr (.inl (k.le (Nat.le_refl _) (by lia)))
      · exact .inr (.inr ⟨List.mem_cons_of_mem _ k.1, k.2.le (Nat.le_refl _) (by lia)⟩)
    · by_cases c2 : c < m2
      · exact .inr (.inl ((H.cls c (by lia) c2).le (by lia) (Nat.le_refl _)))
      · have : c = m2 := by lia
        subst this
        exact .inr (.inr ⟨List.mem_cons_self, hnew⟩)
  · rcases List.mem_cons.mp hx with rfl | hx
    · refine ⟨by show (m : Int) ≤ m2; lia, by show (m2 : Int) < (m2 + 1 : Nat); lia, rfl, ?_, ?_⟩
      · show (C (m2 : Int).toNat).t0 = t0; rw [Int.toNat_natCast, hC]
      · show (C (m2 : Int).toNat).t1 = t1; rw [Int.toNat_natCast, hC]
    · obtain ⟨x1, x2, x3, x4, x5⟩ := h.tw x hx
      exact ⟨x1, by lia, x3, x4, x5⟩
  · by_cases d1 : d < m'
    · exact h.pair c d a b d1
    · by_cases d2 : d < m2
      · by_cases c1 : c < m'
        · have kd := H.cls d (by lia) d2
          rcases h.cls c a c1 with k | k | k
          · exact k.apart kd (by lia)
          · exact k.apart kd (by lia)
          · exact k.2.apart kd (by lia)
        · exact H.pair c d (by lia) b d2
      · have : d = m2 := by lia
        subst this
        rw [hC] at hnew ⊢
        by_cases c1 : c < m'
        · have sep : ∀ k : Cl, (∀ p ∈ (partsOf k).tail, (t1 : Int) ≤ p.1 ∧ p.2 ≤ g) → ∀ p ∈ (partsOf k).tail, ∀ q ∈ (partsOf (⟨s, t0, t1, h0, h1, extra⟩ : Cl)).tail, p.2 ≤ q.1 ∨ q.2 ≤ p.1 := fun k hk p hp q hq => by
            have h2 := hk p hp
            rcases tail_parts hq with rfl | ⟨z, rfl⟩
            · left; show p.2 ≤ (h0 : Int); lia
            · left; have := (hF z).2.2.2.2.2.1; show p.2 ≤ extra; lia
          rcases h.cls c a c1 with k | k | k
          · have o := k.ord
            refine pr_in (by show ¬ ((C c).t0 = (t0 : Int) ∧ (C c).t1 = (t1 : Int)); lia) (.inl fun p hp => ?_)
            have := k.part hp
            exact ⟨this.1, this.2⟩
          · have o := k.ord
            refine pr_sep (by show ¬ ((C c).t0 = (t0 : Int) ∧ (C c).t1 = (t1 : Int)); lia) fun p hp q hq => ?_
            have h2 := k.part hp
            rcases parts_mem hq with rfl | rfl | ⟨z, rfl⟩
            · right; show (t1 : Int) ≤ p.1; lia
            · left; show p.2 ≤ (h0 : Int); lia
            · left; have := (hF z).2.2.2.2.2.1; show p.2 ≤ extra; lia
          · obtain ⟨w1, w2⟩ := htw (fun e => by rw [e] at k; exact absurd k.1 List.not_mem_nil)
            obtain ⟨x1, x2, x3, x4, x5⟩ := h.tw _ k.1
            have w2 := w2 _ k.1
            simp only [Int.toNat_natCast] at x4 x5 w2
            refine pr_twin ⟨x4, x5⟩ w2 w1 (sep _ fun p hp => ?_)
            have o := k.2.ord; have f := k.2.f
            rcases tail_parts hp with rfl | ⟨z, rfl⟩
            · exact ⟨by show (t1 : Int) ≤ (C c).h0; lia, by show (C c).h1 ≤ (g : Int); lia⟩
            · have := f z; exact ⟨by show (t1 : Int) ≤ (C c).extra; lia, by show (C c).h0 ≤ (g : Int); lia⟩
        · have k := H.cls c (by lia) (by lia)
          have o := k.ord
          refine pr_in (by show ¬ ((C c).t0 = (t0 : Int) ∧ (C c).t1 = (t1 : Int)); lia) (.inr fun p hp => ?_)
          have := k.part hp
          exact ⟨this.1, this.2⟩
  · by_cases r1 : r < R'
    · exact (h.ok r a r1).le (Nat.le_refl _) (by lia)
    · by_cases r2 : r < rH
      · have e1 : s = 1 := by
          by_cases e : s = 1
          · exact e
          · have := (hF' e).2; lia
        obtain ⟨f1, f2, f3, f4, f5, f6, f7⟩ := hF e1
        have : r = R' := by lia
        subst this
        rw [f3]
        refine ⟨by simp, fun x hx => ?_⟩
        rw [List.mem_singleton] at hx; subst hx
        exact ⟨by show (m : Int) ≤ m2; lia, by show (m2 : Int) < (m2 + 1 : Nat); lia, .inr (.inr (.inr ⟨f5, rfl⟩))⟩
      · by_cases r3 : r = rH
        · subst r3
          rw [hrH]
          refine ⟨by simp, fun x hx => ?_⟩
          rw [List.mem_singleton] at hx; subst hx
          refine ⟨by show (m : Int) ≤ m2; lia, by show (m2 : Int) < (m2 + 1 : Nat); lia, ?_⟩
          by_cases z : s = 0 ∨ s = 1
          · rw [if_pos z] at hgH
            refine .inr (.inl ⟨hgH, rfl, ?_⟩)
            show (C (m2 : Int).toNat).sort = 0 ∨ (C (m2 : Int).toNat).sort = 1
            rw [Int.toNat_natCast, hC]; exact z
          · rw [if_neg z] at hgH
            refine .inr (.inr (.inl ⟨hgH, rfl, ?_⟩))
            show (C (m2 : Int).toNat).sort = 2 ∨ (C (m2 : Int).toNat).sort = 4
            rw [Int.toNat_natCast, hC]
            show s = 2 ∨ s = 4
            lia
        · exact (H.ok r (by lia) b).le (by lia) (by lia)
  · -- whose x is
    have key : ∀ r : Nat, rT < r → r < R2 → ∀ x, x ∈ own r → (r < R' ∧ x.1 < m') ∨ (rH < r ∧ (m' : Int) ≤ x.1 ∧ x.1 < m2) ∨ (x.1 = m2 ∧ ((r = rH ∧ x.2 = 2) ∨ (r < rH ∧ r = R' ∧ x.2 = 1))) := fun r a b x hx => by
      by_cases r1 : r < R'
      · have := (h.ok r a r1).2 x hx; exact .inl ⟨r1, this.2.1⟩
      · by_cases r2 : r < rH
        · have e1 : s = 1 := by
            by_cases e : s = 1
            · exact e
            · have := (hF' e).2; lia
          obtain ⟨f1, f2, f3, f4, f5, f6, f7⟩ := hF e1
          have : r = R' := by lia
          subst this
          rw [f3, List.mem_singleton] at hx; subst hx
          exact .inr (.inr ⟨rfl, .inr ⟨r2, rfl, rfl⟩⟩)
        · by_cases r3 : r = rH
          · subst r3
            rw [hrH, List.mem_singleton] at hx; subst hx
            exact .inr (.inr ⟨rfl, .inl ⟨rfl, rfl⟩⟩)
          · have := (H.ok r (by lia) b).2 x hx
            exact .inr (.inl ⟨by lia, this.1, this.2.1⟩)
    have k1 := key r a b x hx
    have k2 := key r' c d x hx'
    by_cases y1 : r < R'
    · by_cases y2 : r' < R'
      · exact h.disj r r' a y1 c y2 x hx hx'
      · have := (h.ok r a y1).2 x hx; lia
    · by_cases y2 : r' < R'
      · have := (h.ok r' c y2).2 x hx'; lia
      · by_cases y3 : rH < r
        · by_cases y4 : rH < r'
          · exact H.disj r r' (by lia) b (by lia) d x hx hx'
          · have := (H.ok r (by lia) b).2 x hx; lia
        · by_cases y4 : rH < r'
          · have := (H.ok r' (by lia) d).2 x hx'; lia
          · lia
  · rw [List.mem_cons, not_or]
    by_cases r1 : r < R'
    · refine ⟨fun e => ?_, h.fresh r a r1 x hx⟩
      have := (h.ok r a r1).2 x hx
      rw [e] at this
      have := this.2.1
      simp only at this; lia
    · have hc : x ∉ cs := fun e => by
        have w := (h.tw x e).2.1
        by_cases r2 : r < rH
        · have e1 : s = 1 := by
            by_cases e : s = 1
            · exact e
            · have := (hF' e).2; lia
          obtain ⟨f1, f2, f3, f4, f5, f6, f7⟩ := hF e1
          have : r = R' := by lia
          subst this
          rw [f3, List.mem_singleton] at hx; subst hx
          simp only at w; lia
        · by_cases r3 : r = rH
          · subst r3
            rw [hrH, List.mem_singleton] at hx; subst hx
            simp only at w; lia
          · have := (H.ok r (by lia) b).2 x hx; lia
      refine ⟨fun e => ?_, hc⟩
      subst e
      by_cases r2 : r < rH
      · have e1 : s = 1 := by
          by_cases e : s = 1
          · exact e
          · have := (hF' e).2; lia
        obtain ⟨f1, f2, f3, f4, f5, f6, f7⟩ := hF e1
        have : r = R' := by lia
        subst this
        rw [f3, List.mem_singleton] at hx
        exact absurd (congrArg Prod.snd hx) (by simp)
      · by_cases r3 : r = rH
        · subst r3
          rw [hrH, List.mem_singleton] at hx
          exact absurd (congrArg Prod.snd hx) (by simp)
        · have := (H.ok r (by lia) b).2 _ hx
          have := this.2.1
          simp only at this; lia
theorem Opn.close {t0 t1 n' m m' rT R' dep : Nat} {p : List Int} {cs : List (Int × Int)} (h : Opn O P C Rg t0 t1 n' m m' rT R' dep p own pp cs) (hne : cs ≠ []) (ho : own rT = cs) (hp : pp rT = p) (hg : Rg rT = ("T", (t0 : Int))) : GoodP O P C Rg t0 n' m m' rT R' (dep + 1) p own pp := by
  have hn := h.hn; have hR := h.hR; have hm := h.hm
  refine ⟨by lia, h.hm, by lia, fun i a b => ?_, fun c a b => ?_, h.pair, fun r a b => ?_, fun r r' a b c d x hx hx' => ?_⟩
  · by_cases i1 : i < t1
    · obtain ⟨q, e1, e2, e3, e4, e5⟩ := h.inT i a i1
      refine ⟨(rT : Int) :: q, e1, by simp; exact e2, fun r hr => ?_, fun l1 r l2 e => ?_, ?_⟩
      · rcases List.mem_cons.mp hr with rfl | hr
        · lia
        · have := e3 r hr; lia
      · cases l1 with
        | nil => rw [List.nil_append, List.cons.injEq] at e; rw [← e.1, hp, List.append_nil]
        | cons y l1 => rw [List.cons_append, List.cons.injEq] at e; rw [e4 l1 r l2 e.2, ← e.1]
      · rw [e5, List.flatMap_cons, ho]
    · obtain ⟨q, e1, e2, e3, e4, e5⟩ := h.out i (by lia) b
      exact ⟨q, e1, e2, fun r hr => by have := e3 r hr; lia, e4, e5⟩
  · rcases h.cls c a b with k | k | k
    · exact k.le (Nat.le_refl _) (by lia)
    · exact k.le (by lia) (Nat.le_refl _)
    · exact k.2
  · by_cases r1 : r = rT
    · subst r1
      rw [ho, hg]
      refine ⟨hne, fun x hx => ?_⟩
      obtain ⟨x1, x2, x3, x4, x5⟩ := h.tw x hx
      exact ⟨x1, x2, .inl ⟨rfl, x3, x4⟩⟩
    · exact h.ok r (by lia) b
  · by_cases r1 : r = rT
    · by_cases r2 : r' = rT
      · lia
      · subst r1; rw [ho] at hx; exact absurd hx (h.fresh r' (by lia) d x hx')
    · by_cases r2 : r' = rT
      · subst r2; rw [ho] at hx'; exact absurd hx' (h.fresh r (by lia) b x hx)
      · exact h.disj r r' (by lia) b (by lia) d x hx hx'
end
end Mine
end

section
open PySem PySem.W PyProof.Rows PySem.Calls
set_option autoImplicit false
set_option maxRecDepth 100000
set_option maxHeartbeats 4000000
set_option linter.unusedSimpArgs false
set_option linter.unusedVariables false
set_option linter.defProp false
namespace Mine

structure Pre (b F : B) : Prop where
  ops : b.ops <+: F.ops
  paths : b.paths <+: F.paths
  clauses : b.clauses <+: F.clauses
  regions : b.regions <+: F.regions
theorem Pre.refl (b : B) : Pre b b := ⟨List.prefix_rfl, List.prefix_rfl, List.prefix_rfl, List.prefix_rfl⟩
theorem Pre.trans {a b c : B} (h : Pre a b) (g : Pre b c) : Pre a c := ⟨h.ops.trans g.ops, h.paths.trans g.paths, h.clauses.trans g.clauses, h.regions.trans g.regions⟩
theorem Pre.put (b : B) (op : Int) (p : List Int) : Pre b (putB b op p) := ⟨List.prefix_append _ _, List.prefix_append _ _, List.prefix_rfl, List.prefix_rfl⟩
theorem Pre.reg (b : B) (l : String) : Pre b (regB b l) := ⟨List.prefix_rfl, List.prefix_rfl, List.prefix_rfl, List.prefix_append _ _⟩
noncomputable def oF (F : B) (i : Nat) : Int := F.ops.getD i 0
noncomputable def pF (F : B) (i : Nat) : List Int := F.paths.getD i []
noncomputable def cF (F : B) (c : Nat) : Cl := F.clauses.getD c ⟨0, 0, 0, 0, 0, 0⟩
noncomputable def gF (F : B) (r : Nat) : String × Int := F.regions.getD r ("", 0)
theorem pre_get {α : Type} {l m : List α} (h : l <+: m) {i : Nat} (hi : i < l.length) (d : α) : m.getD i d = l.getD i d := by
  obtain ⟨r, rfl⟩ := h
  rw [List.getD_eq_getElem?_getD, List.getD_eq_getElem?_getD, List.getElem?_append_left hi]
theorem pre_last {α : Type} {l m : List α} {x : α} (h : l ++ [x] <+: m) (d : α) : m.getD l.length d = x := by
  rw [pre_get h (by simp), List.getD_eq_getElem?_getD, List.getElem?_append_right (Nat.le_refl _)]; simp
theorem put_at {b F : B} {op : Int} {p : List Int} (h : Pre (putB b op p) F) (hl : b.paths.length = b.ops.length) : oF F b.ops.length = op ∧ pF F b.ops.length = p :=
  ⟨pre_last h.ops 0, by rw [← hl]; exact pre_last h.paths []⟩
theorem reg_at {b F : B} {l : String} (h : Pre (regB b l) F) : gF F b.regions.length = (l, (b.ops.length : Int)) := pre_last h.regions _

noncomputable abbrev GF (F b b' : B) (dep : Nat) (p : List Int) (own : Int → List (Int × Int)) (pp : Int → List Int) : Prop :=
  GoodP (oF F) (pF F) (cF F) (gF F) b.ops.length b'.ops.length b.clauses.length b'.clauses.length b.regions.length b'.regions.length dep p own pp
/-- what a piece of the building does -/
structure SegG (F b b' : B) (dep cN : Nat) (p : List Int) : Prop where
  pre : Pre b b'
  len : b'.paths.length = b'.ops.length
  few : b'.clauses.length ≤ b.clauses.length + cN
  left : b'.left = b.left ∨ b.clauses.length < b'.clauses.length
  good : Pre b' F → ∀ (own0 : Int → List (Int × Int)) (pp0 : Int → List Int), ∃ own pp, (∀ r : Int, r < b.regions.length → own r = own0 r ∧ pp r = pp0 r) ∧ GF F b b' dep p own pp
theorem SegG.refl (F b : B) (dep : Nat) (p : List Int) (hl : b.paths.length = b.ops.length) : SegG F b b dep 0 p :=
  ⟨.refl b, hl, Nat.le_refl _, .inl rfl, fun _ own pp => ⟨own, pp, fun _ _ => ⟨rfl, rfl⟩, GoodP.nil _ _ _ _ _⟩⟩
theorem SegG.put (F b : B) (dep : Nat) (op : Int) (p : List Int) (hl : b.paths.length = b.ops.length) : SegG F b (putB b op p) dep 0 p := by
  refine ⟨.put b op p, by simp [putB, hl], Nat.le_refl _, .inl rfl, fun h own pp => ⟨own, pp, fun _ _ => ⟨rfl, rfl⟩, ?_⟩⟩
  have := (put_at h hl).2
  show GoodP _ _ _ _ b.ops.length (b.ops ++ [op]).length b.clauses.length b.clauses.length b.regions.length b.regions.length dep p own pp
  rw [List.length_append]
  exact GoodP.put this
theorem SegG.trans {F a b c : B} {dep cN cM : Nat} {p : List Int} (h : SegG F a b dep cN p) (g : SegG F b c dep cM p) : SegG F a c dep (cN + cM) p := by
  have h1 := h.few; have g1 := g.few
  have hc := h.pre.clauses.length_le; have gc := g.pre.clauses.length_le
  have hr := h.pre.regions.length_le
  refine ⟨h.pre.trans g.pre, g.len, by omega, ?_, fun hF own0 pp0 => ?_⟩
  · rcases h.left with l | l
    · rcases g.left with k | k
      · exact .inl (k.trans l)
      · exact .inr (by omega)
    · exact .inr (by omega)
  · obtain ⟨own1, pp1, e1, G1⟩ := h.good (g.pre.trans hF) own0 pp0
    obtain ⟨own2, pp2, e2, G2⟩ := g.good hF own1 pp1
    refine ⟨own2, pp2, fun r hr' => ?_, ?_⟩
    · have x := e1 r hr'; have y := e2 r (by omega)
      exact ⟨y.1.trans x.1, y.2.trans x.2⟩
    · exact (G1.congr (fun r a b => (e2 r b).1) (fun r a b => (e2 r b).2)).trans G2
theorem SegG.le {F a b : B} {dep cN cM : Nat} {p : List Int} (h : SegG F a b dep cN p) (hc : cN ≤ cM) : SegG F a b dep cM p := ⟨h.pre, h.len, Nat.le_trans h.few (by omega), h.left, h.good⟩
theorem SegG.take {F a b : B} {dep cN : Nat} {p : List Int} (h : SegG F (takeB a) b dep cN p) : SegG F a b dep cN p :=
  ⟨⟨h.pre.ops, h.pre.paths, h.pre.clauses, h.pre.regions⟩, h.len, h.few, h.left, h.good⟩
/-- a function that builds -/
noncomputable def BlkG (F : B) (blk : B → List Int → B) (dep cN : Nat) : Prop :=
  ∀ b p, b.paths.length = b.ops.length → SegG F b (blk b p) dep cN p ∧ b.ops.length < (blk b p).ops.length
theorem block_tail {F b b3 : B} {dep cN : Nat} {p : List Int} {op : Int} {c : Prop} [Decidable c] (s3 : SegG F (takeB b) b3 dep cN p) (h : ¬ c → b3.ops.length ≠ b.ops.length) :
    SegG F b (if c then putB b3 op p else b3) dep cN p ∧ b.ops.length < (if c then putB b3 op p else b3).ops.length := by
  have l3 := s3.pre.ops.length_le
  have l4 : (takeB b).ops.length = b.ops.length := rfl
  by_cases hc : c
  · rw [if_pos hc]
    refine ⟨((s3.trans (.put F b3 dep _ p s3.len)).le (by omega)).take, ?_⟩
    show b.ops.length < (b3.ops ++ [_]).length
    rw [List.length_append]
    exact Nat.lt_succ_of_le l3
  · rw [if_neg hc]
    have := h hc
    exact ⟨s3.take, by omega⟩
theorem block_good {F : B} {sc : List Int} {tr : Option (B → List Int → B)} {dep cN : Nat} (ht : ∀ t, tr = some t → BlkG F t dep cN) : BlkG F (blockB sc tr) dep cN := by
  intro b p hl
  unfold blockB
  generalize takeV sc b.k = x
  simp only
  have s2 : SegG F (takeB b) (if x.fmod 2 = 1 then putB (takeB b) (opsAt ((x.fdiv 8).fmod 5)) p else takeB b) dep 0 p := by
    split
    · exact .put F (takeB b) dep _ p hl
    · exact .refl F (takeB b) dep p hl
  generalize (if x.fmod 2 = 1 then putB (takeB b) (opsAt ((x.fdiv 8).fmod 5)) p else takeB b) = b2 at *
  cases tr with
  | none =>
    simp only
    exact block_tail (s2.le (Nat.zero_le _)) (fun h e => h (.inr e))
  | some t =>
    simp only
    refine block_tail ?_ (fun h e => h (.inr e))
    split
    · exact (s2.trans (ht t rfl b2 p s2.len).1).le (by omega)
    · exact s2.le (Nat.zero_le _)
end Mine
end

section
open PySem PySem.W PyProof.Rows PySem.Calls
set_option autoImplicit false
set_option maxRecDepth 100000
set_option maxHeartbeats 4000000
set_option linter.unusedSimpArgs false
set_option linter.unusedVariables false
set_option linter.defProp false
namespace Mine

section
variable {O : Nat → Int} {P : Nat → List Int} {C : Nat → Cl} {Rg : Nat → String × Int} {own own' : Int → List (Int × Int)} {pp pp' : Int → List Int}
theorem Opn.congr {t0 t1 n' m m' rT R' dep : Nat} {p : List Int} {cs : List (Int × Int)} (h : Opn O P C Rg t0 t1 n' m m' rT R' dep p own pp cs) (ho : ∀ r : Int, (rT : Int) < r → r < R' → own' r = own r) (hp : ∀ r : Int, (rT : Int) < r → r < R' → pp' r = pp r) : Opn O P C Rg t0 t1 n' m m' rT R' dep p own' pp' cs := by
  refine ⟨h.hn, h.hm, h.hR, fun i h1 h2 => ?_, fun i h1 h2 => ?_, h.cls, h.tw, h.pair, fun r h1 h2 => ?_, fun r r' h1 h2 h3 h4 x => ?_, fun r h1 h2 x => ?_⟩
  · obtain ⟨q, a, b, c, d, e⟩ := h.inT i h1 h2
    refine ⟨q, a, b, c, fun l1 r l2 eq => ?_, ?_⟩
    · have := c r (by rw [eq]; simp)
      rw [hp r this.1 this.2]; exact d l1 r l2 eq
    · rw [e, flat_congr fun r hr => ho r (c r hr).1 (c r hr).2]
  · obtain ⟨q, a, b, c, d, e⟩ := h.out i h1 h2
    refine ⟨q, a, b, c, fun l1 r l2 eq => ?_, ?_⟩
    · have := c r (by rw [eq]; simp)
      rw [hp r this.1 this.2]; exact d l1 r l2 eq
    · rw [e, flat_congr fun r hr => ho r (c r hr).1 (c r hr).2]
  · rw [ho r (by lia) (by lia)]; exact h.ok r h1 h2
  · rw [ho r (by lia) (by lia), ho r' (by lia) (by lia)]; exact h.disj r r' h1 h2 h3 h4 x
  · rw [ho r (by lia) (by lia)]; exact h.fresh r h1 h2 x
end

noncomputable abbrev OF (F b b' : B) (t1 dep : Nat) (p : List Int) (own : Int → List (Int × Int)) (pp : Int → List Int) (cs : List (Int × Int)) : Prop :=
  Opn (oF F) (pF F) (cF F) (gF F) b.ops.length t1 b'.ops.length b.clauses.length b'.clauses.length b.regions.length b'.regions.length dep p own pp cs
structure TryG (F b b' : B) (t1 dep cN : Nat) (p : List Int) (cs : List (Int × Int)) (ss : List Int) : Prop where
  pre : Pre b b'
  reg : Pre b' F → gF F b.regions.length = ("T", (b.ops.length : Int))
  grow : b.regions.length < b'.regions.length
  lt : b.ops.length < b'.ops.length
  grew : cs ≠ [] → b.clauses.length < b'.clauses.length
  len : b'.paths.length = b'.ops.length
  few : b'.clauses.length ≤ b.clauses.length + cN
  sorts : Pre b' F → ∀ x ∈ cs, (cF F x.1.toNat).sort ∈ ss
  opn : Pre b' F → ∀ (own0 : Int → List (Int × Int)) (pp0 : Int → List Int), ∃ own pp, (∀ r : Int, r < b.regions.length → own r = own0 r ∧ pp r = pp0 r) ∧ OF F b b' t1 dep p own pp cs
noncomputable def two {β : Type} (a b : Int) (u v : β) (f : Int → β) (r : Int) : β := if r = a then u else if r = b then v else f r
theorem two_a {β : Type} {a b : Int} {u v : β} {f : Int → β} : two a b u v f a = u := if_pos rfl
theorem two_b {β : Type} {a b : Int} {u v : β} {f : Int → β} (h : b ≠ a) : two a b u v f b = v := (if_neg h).trans (if_pos rfl)
theorem two_o {β : Type} {a b r : Int} {u v : β} {f : Int → β} (h : r ≠ a) (h' : r ≠ b) : two a b u v f r = f r := (if_neg h).trans (if_neg h')
theorem reg_len (b : B) (l : String) : (regB b l).regions.length = b.regions.length + 1 := by simp [regB]
theorem put_len (b : B) (op : Int) (p : List Int) : (putB b op p).ops.length = b.ops.length + 1 := by simp [putB]
theorem TryG.start {F b : B} {blk : B → List Int → B} {dep cN : Nat} {p : List Int} (hb : BlkG F blk dep cN) (hl : b.paths.length = b.ops.length) :
    TryG F b (blk (regB { b with left := b.left - 1 } "T") (p ++ [(b.regions.length : Int)])) (blk (regB { b with left := b.left - 1 } "T") (p ++ [(b.regions.length : Int)])).ops.length dep cN p [] [] := by
  obtain ⟨g, hlt⟩ := hb (regB { b with left := b.left - 1 } "T") (p ++ [(b.regions.length : Int)]) hl
  have e1 := reg_len { b with left := b.left - 1 } "T"
  have hp : Pre b (regB { b with left := b.left - 1 } "T") := ⟨List.prefix_rfl, List.prefix_rfl, List.prefix_rfl, List.prefix_append _ _⟩
  have hr := g.pre.regions.length_le
  have e2 : ({ b with left := b.left - 1 } : B).regions.length = b.regions.length := rfl
  generalize hb1 : blk (regB { b with left := b.left - 1 } "T") (p ++ [(b.regions.length : Int)]) = b1 at *
  refine ⟨hp.trans g.pre, fun hF => reg_at (b := { b with left := b.left - 1 }) (g.pre.trans hF), by lia, hlt, fun h => absurd rfl h, g.len, g.few, fun _ x hx => absurd hx List.not_mem_nil, fun hF own0 pp0 => ?_⟩
  obtain ⟨own, pp, e, G⟩ := g.good hF own0 pp0
  refine ⟨own, pp, fun r hr' => e r (by lia), Opn.start ?_ hlt⟩
  have G : GoodP (oF F) (pF F) (cF F) (gF F) b.ops.length b1.ops.length b.clauses.length b1.clauses.length (regB { b with left := b.left - 1 } "T").regions.length b1.regions.length dep (p ++ [(b.regions.length : Int)]) own pp := G
  rw [e1] at G
  exact G
theorem TryG.put {F b b' : B} {t1 dep cN : Nat} {p : List Int} {cs : List (Int × Int)} {ss : List Int} (h : TryG F b b' t1 dep cN p cs ss) (op : Int) : TryG F b (putB b' op p) t1 dep cN p cs ss := by
  refine ⟨h.pre.trans (.put _ _ _), fun hF => h.reg ((Pre.put _ _ _).trans hF), h.grow, by rw [put_len]; exact Nat.lt_succ_of_lt h.lt, h.grew, by simp [putB, h.len], h.few, fun hF => h.sorts ((Pre.put _ _ _).trans hF), fun hF own0 pp0 => ?_⟩
  obtain ⟨own, pp, e, G⟩ := h.opn ((Pre.put _ _ _).trans hF) own0 pp0
  refine ⟨own, pp, e, ?_⟩
  show Opn _ _ _ _ b.ops.length t1 (putB b' op p).ops.length b.clauses.length b'.clauses.length b.regions.length b'.regions.length dep p own pp cs
  rw [put_len]
  exact G.put (put_at hF h.len).2
theorem TryG.hand {F b b1 b2 : B} {blk : B → List Int → B} {t1 dep cN cM : Nat} {p : List Int} {cs : List (Int × Int)} {ss : List Int} {s extra : Int} {l : String} (h : TryG F b b1 t1 dep cN p cs ss) (hb : BlkG F blk dep cM) (hs : s = 0 ∨ s = 1 ∨ s = 2 ∨ s = 4)
    (hss : cs ≠ [] → s < 2 ∧ ∀ s' ∈ ss, s' < 2) (p12 : Pre b1 b2) (l2 : b2.paths.length = b2.ops.length) (c2 : b2.clauses.length = b1.clauses.length) (hlet : l = if s = 0 ∨ s = 1 then "H" else "N")
    (hF1 : s = 1 → b1.ops.length < b2.ops.length ∧ b2.regions.length = b1.regions.length + 1 ∧ extra = b1.ops.length)
    (hF2 : Pre b2 F → s = 1 → (gF F b1.regions.length).1 = "F" ∧ (∀ j : Nat, b1.ops.length ≤ j → j < b2.ops.length → (oF F j = 65041 ↔ (j : Int) = (b2.ops.length : Int) - 1)) ∧ ∀ i, b1.ops.length ≤ i → i < b2.ops.length → pF F i = p ++ [(b1.regions.length : Int)])
    (hF' : s ≠ 1 → b1.ops.length = b2.ops.length ∧ b2.regions.length = b1.regions.length) {b4 : B} (hb4 : blk (regB b2 l) (p ++ [(b2.regions.length : Int)]) = b4) {res : B} (hres : { b4 with clauses := b4.clauses ++ [⟨s, b.ops.length, t1, b2.ops.length, b4.ops.length, extra⟩] } = res) :
    TryG F b res t1 dep (cN + cM + 1) p (((b4.clauses.length : Int), 0) :: cs) (s :: ss) := by
  obtain ⟨g, hlt⟩ := hb (regB b2 l) (p ++ [(b2.regions.length : Int)]) l2
  rw [hb4] at g hlt
  have p4 : Pre b4 res := by rw [← hres]; exact ⟨List.prefix_rfl, List.prefix_rfl, List.prefix_append _ _, List.prefix_rfl⟩
  have p24 : Pre (regB b2 l) b4 := g.pre
  have r1 := reg_len b2 l
  have x1 := p12.regions.length_le
  have x2 := p24.regions.length_le
  have x3 := h.grow
  have k1 := g.few
  have k2 := h.few
  have k3 : res.clauses.length = b4.clauses.length + 1 := by rw [← hres]; simp
  have k4 : res.regions = b4.regions := by rw [← hres]
  have k5 : res.ops = b4.ops := by rw [← hres]
  have k6 : res.paths = b4.paths := by rw [← hres]
  have k7 : (regB b2 l).clauses.length = b2.clauses.length := rfl
  have k8 : (regB b2 l).ops.length = b2.ops.length := rfl
  have hC : Pre res F → cF F b4.clauses.length = ⟨s, b.ops.length, t1, b2.ops.length, b4.ops.length, extra⟩ := fun hF => by
    have := hF.clauses
    rw [← hres] at this
    exact pre_last this _
  refine ⟨h.pre.trans (p12.trans ((Pre.reg b2 l).trans (p24.trans p4))), fun hF => h.reg (p12.trans ((Pre.reg b2 l).trans (p24.trans (p4.trans hF)))), by rw [k4]; lia, by rw [k5]; have := h.lt; have := p12.ops.length_le; lia, fun _ => by have := h.pre.clauses.length_le; have := p24.clauses.length_le; lia, by rw [k5, k6]; exact g.len, by rw [k3]; lia, fun hF x hx => ?_, fun hF own0 pp0 => ?_⟩
  · rcases List.mem_cons.mp hx with rfl | hx
    · show (cF F (b4.clauses.length : Int).toNat).sort ∈ _
      rw [Int.toNat_natCast, hC hF]; exact List.mem_cons_self
    · exact List.mem_cons_of_mem _ (h.sorts (p12.trans ((Pre.reg b2 l).trans (p24.trans (p4.trans hF)))) x hx)
  · have hF4 := p4.trans hF
    have hFr := p24.trans hF4
    have hFb2 := (Pre.reg b2 l).trans hFr
    obtain ⟨own, pp, e, G⟩ := h.opn (p12.trans hFb2) own0 pp0
    obtain ⟨own2, pp2, e2, G2⟩ := g.good hF4 (two b2.regions.length b1.regions.length [((b4.clauses.length : Int), 2)] [((b4.clauses.length : Int), 1)] own) (two b2.regions.length b1.regions.length p p pp)
    rw [r1] at e2
    have o1 : ∀ r : Int, r < b1.regions.length → own2 r = own r ∧ pp2 r = pp r := fun r hr => by
      obtain ⟨a, b⟩ := e2 r (by lia)
      rw [a, b, two_o (by lia) (by lia), two_o (by lia) (by lia)]
      exact ⟨rfl, rfl⟩
    have o2 : own2 b2.regions.length = [((b4.clauses.length : Int), 2)] ∧ pp2 b2.regions.length = p := by
      obtain ⟨a, b⟩ := e2 b2.regions.length (by lia)
      rw [a, b, two_a, two_a]
      exact ⟨rfl, rfl⟩
    have o3 : s = 1 → own2 b1.regions.length = [((b4.clauses.length : Int), 1)] ∧ pp2 b1.regions.length = p := fun hs1 => by
      have := hF1 hs1
      obtain ⟨a, b⟩ := e2 b1.regions.length (by lia)
      rw [a, b, two_b (by lia), two_b (by lia)]
      exact ⟨rfl, rfl⟩
    refine ⟨own2, pp2, fun r hr => ?_, ?_⟩
    · have a := e r hr; have b := o1 r (by lia)
      exact ⟨b.1.trans a.1, b.2.trans a.2⟩
    · have G' := G.congr (own' := own2) (pp' := pp2) (fun r _ hr => (o1 r hr).1) (fun r _ hr => (o1 r hr).2)
      have G2 : GoodP (oF F) (pF F) (cF F) (gF F) b2.ops.length b4.ops.length b1.clauses.length b4.clauses.length (b2.regions.length + 1) b4.regions.length dep (p ++ [(b2.regions.length : Int)]) own2 pp2 := by
        rw [← c2, ← r1]; exact G2
      show Opn _ _ _ _ b.ops.length t1 res.ops.length b.clauses.length res.clauses.length b.regions.length res.regions.length dep p own2 pp2 _
      rw [k3, k4, k5]
      refine Opn.step G' hs (fun hs1 => ?_) hF' (fun i a c => ?_) G2 (by lia) (hC hF) o2.1 o2.2 ?_ (fun hne => ?_)
      · obtain ⟨a1, a2, a3⟩ := hF1 hs1
        obtain ⟨b1', b2', b3'⟩ := hF2 hFb2 hs1
        exact ⟨a1, a2, (o3 hs1).1, (o3 hs1).2, b1', a3, b2'⟩
      · by_cases hs1 : s = 1
        · exact (hF2 hFb2 hs1).2.2 i a c
        · have := (hF' hs1).1; lia
      · rw [reg_at hFr]; exact hlet
      · obtain ⟨a, b⟩ := hss hne
        exact ⟨a, fun x hx => b _ (h.sorts (p12.trans hFb2) x hx)⟩
end Mine
end

section
open PySem PySem.W PyProof.Rows PySem.Calls
set_option autoImplicit false
set_option maxRecDepth 100000
set_option maxHeartbeats 4000000
set_option linter.unusedSimpArgs false
set_option linter.unusedVariables false
set_option linter.defProp false
namespace Mine

theorem ops_four : ∀ k : Nat, k < 4 → opsAt k ≠ 65041 := by decide
theorem filt_part {F b b2 : B} {p : List Int} {op : Int} {c : Prop} [Decidable c] (hop : op ≠ 65041) (hl : b.paths.length = b.ops.length)
    (hb : putB (if c then putB (regB b "F") op (p ++ [(b.regions.length : Int)]) else regB b "F") 65041 (p ++ [(b.regions.length : Int)]) = b2) :
    Pre b b2 ∧ b2.paths.length = b2.ops.length ∧ b2.clauses.length = b.clauses.length ∧ b.ops.length < b2.ops.length ∧ b2.regions.length = b.regions.length + 1 ∧
    (Pre b2 F → (gF F b.regions.length).1 = "F" ∧ (∀ j : Nat, b.ops.length ≤ j → j < b2.ops.length → (oF F j = 65041 ↔ (j : Int) = (b2.ops.length : Int) - 1)) ∧ ∀ i, b.ops.length ≤ i → i < b2.ops.length → pF F i = p ++ [(b.regions.length : Int)]) := by
  have e0 : (regB b "F").ops.length = b.ops.length := rfl
  have e1 := reg_len b "F"
  have l0 : (regB b "F").paths.length = (regB b "F").ops.length := hl
  have P0 := Pre.reg b "F"
  by_cases hc : c
  · rw [if_pos hc] at hb
    have P1 := Pre.put (regB b "F") op (p ++ [(b.regions.length : Int)])
    have n1 := put_len (regB b "F") op (p ++ [(b.regions.length : Int)])
    have l1 : (putB (regB b "F") op (p ++ [(b.regions.length : Int)])).paths.length = (putB (regB b "F") op (p ++ [(b.regions.length : Int)])).ops.length := by simp [putB, l0]
    have r1 : (putB (regB b "F") op (p ++ [(b.regions.length : Int)])).regions.length = b.regions.length + 1 := e1
    have c1 : (putB (regB b "F") op (p ++ [(b.regions.length : Int)])).clauses.length = b.clauses.length := rfl
    generalize hb1 : putB (regB b "F") op (p ++ [(b.regions.length : Int)]) = b1 at *
    have P2 := Pre.put b1 65041 (p ++ [(b.regions.length : Int)])
    have n2 := put_len b1 65041 (p ++ [(b.regions.length : Int)])
    have l2 : (putB b1 65041 (p ++ [(b.regions.length : Int)])).paths.length = (putB b1 65041 (p ++ [(b.regions.length : Int)])).ops.length := by simp [putB, l1]
    have r2 : (putB b1 65041 (p ++ [(b.regions.length : Int)])).regions.length = b1.regions.length := rfl
    have c2 : (putB b1 65041 (p ++ [(b.regions.length : Int)])).clauses.length = b1.clauses.length := rfl
    have at2 : Pre (putB b1 65041 (p ++ [(b.regions.length : Int)])) F → _ := fun h => put_at h l1
    rw [hb] at P2 n2 l2 r2 c2 at2
    refine ⟨P0.trans (P1.trans P2), l2, by lia, by lia, by lia, fun hF => ?_⟩
    have a2 := at2 hF
    have a1 := put_at (b := regB b "F") (op := op) (p := p ++ [(b.regions.length : Int)]) (by rw [hb1]; exact P2.trans hF) l0
    rw [e0] at a1
    refine ⟨by rw [reg_at (P1.trans (P2.trans hF))], fun j h1 h2 => ?_, fun i h1 h2 => ?_⟩
    · by_cases hj : j = b.ops.length
      · subst hj
        rw [a1.1]
        exact ⟨fun h => absurd h hop, fun h => by lia⟩
      · have : j = b1.ops.length := by lia
        subst this
        rw [a2.1]
        exact ⟨fun _ => by lia, fun _ => rfl⟩
    · by_cases hj : i = b.ops.length
      · subst hj; exact a1.2
      · have : i = b1.ops.length := by lia
        subst this; exact a2.2
  · rw [if_neg hc] at hb
    have P2 := Pre.put (regB b "F") 65041 (p ++ [(b.regions.length : Int)])
    have n2 := put_len (regB b "F") 65041 (p ++ [(b.regions.length : Int)])
    have l2 : (putB (regB b "F") 65041 (p ++ [(b.regions.length : Int)])).paths.length = (putB (regB b "F") 65041 (p ++ [(b.regions.length : Int)])).ops.length := by simp [putB, l0]
    have r2 : (putB (regB b "F") 65041 (p ++ [(b.regions.length : Int)])).regions.length = (regB b "F").regions.length := rfl
    have c2 : (putB (regB b "F") 65041 (p ++ [(b.regions.length : Int)])).clauses.length = b.clauses.length := rfl
    have at2 : Pre (putB (regB b "F") 65041 (p ++ [(b.regions.length : Int)])) F → _ := fun h => put_at h l0
    rw [hb] at P2 n2 l2 r2 c2 at2
    refine ⟨P0.trans P2, l2, by lia, by lia, by lia, fun hF => ?_⟩
    have a2 := at2 hF
    rw [e0] at a2
    refine ⟨by rw [reg_at (P2.trans hF)], fun j h1 h2 => ?_, fun i h1 h2 => ?_⟩
    · have : j = b.ops.length := by lia
      subst this
      rw [a2.1]
      exact ⟨fun _ => by lia, fun _ => rfl⟩
    · have : i = b.ops.length := by lia
      subst this; exact a2.2
theorem TryG.clause {F b b' : B} {blk : B → List Int → B} {t1 dep cN cM : Nat} {p : List Int} {cs : List (Int × Int)} {ss : List Int} {s : Int} (x : Int) (h : TryG F b b' t1 dep cN p cs ss) (hb : BlkG F blk dep cM) (hs : s = 0 ∨ s = 1 ∨ s = 2 ∨ s = 4)
    (hss : cs ≠ [] → s < 2 ∧ ∀ s' ∈ ss, s' < 2) : ∃ m2 : Nat, TryG F b (clauseB blk x p b.ops.length t1 s b') t1 dep (cN + cM + 1) p (((m2 : Int), 0) :: cs) (s :: ss) := by
  unfold clauseB
  have h1 : TryG F b (if (x.fdiv 7).fmod 3 = 2 then putB b' (opsAt ((x.fdiv 21).fmod 5)) p else b') t1 dep cN p cs ss := by
    split
    · exact h.put _
    · exact h
  generalize (if (x.fdiv 7).fmod 3 = 2 then putB b' (opsAt ((x.fdiv 21).fmod 5)) p else b') = b1 at *
  obtain ⟨oi, eo, ho⟩ := fmod_nat (x.fdiv 126) (n := 4) (by decide)
  have hop : opsAt ((x.fdiv 126).fmod 4) ≠ 65041 := (show (x.fdiv 126).fmod 4 = oi from eo) ▸ ops_four oi ho
  by_cases e : s = 1
  · have fp := filt_part (F := F) (p := p) (c := (x.fdiv 63).fmod 2 = 1) hop h1.len rfl
    obtain ⟨f1, f2, f3, f4, f5, f6⟩ := fp
    subst e
    exact ⟨_, h1.hand hb hs hss f1 f2 f3 rfl (fun _ => ⟨f4, f5, rfl⟩) (fun hF _ => f6 hF) (fun e => absurd rfl e) rfl rfl⟩
  · have key := h1.hand (extra := 0) hb hs hss (.refl b1) h1.len rfl rfl (fun h => absurd h e) (fun _ h => absurd h e) (fun _ => ⟨rfl, rfl⟩) rfl rfl
    refine ⟨(blk (regB b1 (if s = 0 ∨ s = 1 then "H" else "N")) (p ++ [(b1.regions.length : Int)])).clauses.length, ?_⟩
    unfold clauseT
    simp only [if_neg e]
    exact key
theorem TryG.take {F b b' : B} {t1 dep cN : Nat} {p : List Int} {cs : List (Int × Int)} {ss : List Int} (h : TryG F b b' t1 dep cN p cs ss) : TryG F b (takeB b') t1 dep cN p cs ss :=
  ⟨⟨h.pre.ops, h.pre.paths, h.pre.clauses, h.pre.regions⟩, fun hF => h.reg ⟨hF.ops, hF.paths, hF.clauses, hF.regions⟩, h.grow, h.lt, h.grew, h.len, h.few, fun hF => h.sorts ⟨hF.ops, hF.paths, hF.clauses, hF.regions⟩, fun hF => h.opn ⟨hF.ops, hF.paths, hF.clauses, hF.regions⟩⟩
theorem TryG.close {F b b' : B} {t1 dep cN : Nat} {p : List Int} {cs : List (Int × Int)} {ss : List Int} (h : TryG F b b' t1 dep cN p cs ss) (hne : cs ≠ []) : SegG F b b' (dep + 1) cN p := by
  refine ⟨h.pre, h.len, h.few, .inr (h.grew hne), fun hF own0 pp0 => ?_⟩
  obtain ⟨own, pp, e, G⟩ := h.opn hF own0 pp0
  refine ⟨two b.regions.length b.regions.length cs cs own, two b.regions.length b.regions.length p p pp, fun r hr => ?_, ?_⟩
  · rw [two_o (by lia) (by lia), two_o (by lia) (by lia)]; exact e r hr
  · have G' := G.congr (own' := two b.regions.length b.regions.length cs cs own) (pp' := two b.regions.length b.regions.length p p pp) (fun r a c => two_o (by lia) (by lia)) (fun r a c => two_o (by lia) (by lia))
    exact G'.close hne two_a two_a (h.reg hF)
theorem sorts_cases : ∀ i : Nat, i < 7 → (∃ s, sortsAt i = [s] ∧ (s = 0 ∨ s = 1 ∨ s = 2 ∨ s = 4)) ∨ ∃ s s', sortsAt i = [s, s'] ∧ (s = 0 ∨ s = 1) ∧ (s' = 0 ∨ s' = 1)
  | 0, _ => .inl ⟨2, rfl, by decide⟩
  | 1, _ => .inl ⟨4, rfl, by decide⟩
  | 2, _ => .inl ⟨0, rfl, by decide⟩
  | 3, _ => .inl ⟨1, rfl, by decide⟩
  | 4, _ => .inr ⟨0, 1, rfl, by decide, by decide⟩
  | 5, _ => .inr ⟨1, 0, rfl, by decide, by decide⟩
  | 6, _ => .inr ⟨0, 0, rfl, by decide, by decide⟩
theorem try_all {F : B} {sc : List Int} {blk : B → List Int → B} {dep cM : Nat} (hb : BlkG F blk dep cM) (b : B) (p : List Int) (hl : b.paths.length = b.ops.length) :
    SegG F b (tryB sc blk b p) (dep + 1) (3 * cM + 2) p ∧ b.ops.length < (tryB sc blk b p).ops.length ∧ b.clauses.length < (tryB sc blk b p).clauses.length := by
  unfold tryB
  have h0 := TryG.start (p := p) hb hl
  have e0 : ({ b with left := b.left - 1 } : B).regions.length = b.regions.length := rfl
  have e1 : ({ b with left := b.left - 1 } : B).ops.length = b.ops.length := rfl
  simp only [e0, e1]
  generalize blk (regB { b with left := b.left - 1 } "T") (p ++ [(b.regions.length : Int)]) = b1 at *
  generalize takeV sc b1.k = x
  have h1 := h0.take
  obtain ⟨i, ei, hi⟩ := fmod_nat x (n := 7) (by decide)
  rw [show x.fmod 7 = i from ei]
  rcases sorts_cases i hi with ⟨s, e, hs⟩ | ⟨s, s', e, hs, hs'⟩
  · rw [e]
    simp only [List.foldl_cons, List.foldl_nil]
    obtain ⟨m2, h2⟩ := h1.clause x hb hs (fun h => absurd rfl h)
    exact ⟨(h2.close (by simp)).le (by lia), h2.lt, h2.grew (by simp)⟩
  · rw [e]
    simp only [List.foldl_cons, List.foldl_nil]
    obtain ⟨m2, h2⟩ := h1.clause x hb (s := s) (by lia) (fun h => absurd rfl h)
    obtain ⟨m3, h3⟩ := h2.clause x hb (s := s') (by lia) (fun _ => ⟨by lia, fun y hy => by rw [List.mem_singleton] at hy; lia⟩)
    exact ⟨(h3.close (by simp)).le (by lia), h3.lt, h3.grew (by simp)⟩
theorem try_good {F : B} {sc : List Int} {blk : B → List Int → B} {dep cM : Nat} (hb : BlkG F blk dep cM) : BlkG F (tryB sc blk) (dep + 1) (3 * cM + 2) :=
  fun b p hl => ⟨(try_all hb b p hl).1, (try_all hb b p hl).2.1⟩
noncomputable def cNum : Nat → Nat
  | 0 => 0
  | d + 1 => 3 * cNum d + 2
theorem blkL_good (F : B) (sc : List Int) : ∀ d, BlkG F (blkL sc d) d (cNum d)
  | 0 => block_good (fun t h => by cases h)
  | d + 1 => block_good (fun t h => by cases h; exact try_good (blkL_good F sc d))
end Mine
end

section
open PySem PySem.W PyProof.Rows PySem.Calls
set_option autoImplicit false
set_option maxRecDepth 100000
set_option maxHeartbeats 4000000
set_option linter.unusedSimpArgs false
set_option linter.unusedVariables false
set_option linter.defProp false
namespace Mine

/-- what is known of the tree that the law builds -/
structure Tree (b : B) (own : Int → List (Int × Int)) (pp : Int → List Int) : Prop where
  len : b.paths.length = b.ops.length
  n0 : 0 < b.ops.length
  c0 : 0 < b.clauses.length
  c1 : b.clauses.length ≤ 1000
  good : GoodP (oF b) (pF b) (cF b) (gF b) 0 b.ops.length 0 b.clauses.length 0 b.regions.length 3 [] own pp
theorem tree (sc : List Int) (left : Int) : ∃ own pp, Tree (built sc left) own pp := by
  have h1 := fun F => blkL_good F sc 3 (built0 left) [] rfl
  have h2 := fun F => blkL_good F sc 3 (blkL sc 3 (built0 left) []) [] (h1 F).1.len
  have h12 : ∀ F, SegG F (built0 left) (built2 sc left) 3 (26 + 26) [] := fun F => (h1 F).1.trans (h2 F).1
  have lt1 := (h1 (built0 left)).2
  have lt2 := (h2 (built0 left)).2
  have n2 : 0 < (built2 sc left).ops.length := by
    have : (built2 sc left).ops.length = (blkL sc 3 (blkL sc 3 (built0 left) []) []).ops.length := rfl
    lia
  unfold built
  by_cases hl : (built2 sc left).left = left
  · rw [if_pos hl]
    have h3 := fun F => try_all (F := F) (sc := sc) (blkL_good F sc 2) (built2 sc left) [] (h12 F).len
    have h := (h12 (tryB sc (blkL sc 2) (built2 sc left) [])).trans (h3 (tryB sc (blkL sc 2) (built2 sc left) [])).1
    obtain ⟨own, pp, _, G⟩ := h.good (.refl _) (fun _ => []) (fun _ => [])
    refine ⟨own, pp, h.len, ?_, ?_, ?_, G⟩
    · have := (h3 (built2 sc left)).2.1; lia
    · have := (h3 (built2 sc left)).2.2; lia
    · have := h.few
      have e : (built0 left).clauses.length = 0 := rfl
      have e2 : cNum 2 = 8 := rfl
      lia
  · rw [if_neg hl]
    have h := h12 (built2 sc left)
    obtain ⟨own, pp, _, G⟩ := h.good (.refl _) (fun _ => []) (fun _ => [])
    refine ⟨own, pp, h.len, n2, ?_, ?_, G⟩
    · rcases h.left with k | k
      · exact absurd k hl
      · lia
    · have := h.few
      have e : (built0 left).clauses.length = 0 := rfl
      lia
section
variable {b : B} {own : Int → List (Int × Int)} {pp : Int → List Int}
theorem cF_get (b : B) {c : Nat} (h : c < b.clauses.length) : b.clauses[c]? = some (cF b c) := by
  rw [cF, List.getD_eq_getElem?_getD, List.getElem?_eq_getElem h]; rfl
theorem Tree.rt (T : Tree b own pp) {c : Nat} (h : c < b.clauses.length) : Rt b.ops (cF b c) := by
  have k := T.good.cls c (Nat.zero_le _) h
  have o := k.ord
  refine ⟨k.sort, by omega, by omega, by omega, fun hs => ?_⟩
  obtain ⟨a, b', e⟩ := k.f hs
  refine ⟨by omega, b', by omega, fun j h1 h2 => ?_⟩
  have := e j.toNat (by omega) (by omega)
  rw [oF] at this
  rw [this]; omega
theorem faults1_all (ops : List Int) : ∀ cs : List Cl, (∀ c ∈ cs, clauseRight ops c = true) → faults1 ops cs [] = [] := by
  intro cs
  induction cs with
  | nil => intro _; rfl
  | cons c cs ih =>
    intro h
    have := ih fun x hx => h x (List.mem_cons_of_mem _ hx)
    unfold faults1 at *
    rw [List.foldl_cons, if_pos (h c List.mem_cons_self)]; exact this
theorem faults2_all (c : Cl) : ∀ ds : List Cl, (∀ d ∈ ds, pairRight c d = true) → faults2 c ds [] = [] := by
  intro ds
  induction ds with
  | nil => intro _; rfl
  | cons d ds ih =>
    intro h
    have := ih fun x hx => h x (List.mem_cons_of_mem _ hx)
    unfold faults2 at *
    rw [List.foldl_cons, if_pos (h d List.mem_cons_self)]; exact this
theorem faults3_all (cs : List Cl) : cs.Pairwise (fun a b => pairRight a b = true) → faults3 cs [] = [] := by
  induction cs with
  | nil => exact fun _ => rfl
  | cons c cs ih =>
    intro h
    rw [faults3, faults2_all c cs (List.pairwise_cons.mp h).1, ih (List.pairwise_cons.mp h).2]
theorem Tree.let (T : Tree b own pp) : regionFaults b.ops b.clauses = [] := by
  unfold regionFaults
  have e : faults1 b.ops b.clauses [] = [] := faults1_all _ _ fun c hc => by
    obtain ⟨k, hk⟩ := List.mem_iff_getElem?.mp hc
    have hk' := (List.getElem?_eq_some_iff.mp hk).1
    rw [cF_get b hk', Option.some.injEq] at hk
    rw [← hk, right_iff]; exact T.rt hk'
  simp only [e, if_true]
  refine faults3_all _ (List.pairwise_iff_getElem.mpr fun i j hi hj hij => ?_)
  have := T.good.pair i j (Nat.zero_le _) hij hj
  have e1 := cF_get b hi; have e2 := cF_get b hj
  rw [List.getElem?_eq_getElem hi, Option.some.injEq] at e1
  rw [List.getElem?_eq_getElem hj, Option.some.injEq] at e2
  rw [e1, e2]; exact this
theorem regOf_regR (b : B) (i k : Nat) : k ≤ b.clauses.length → regOf b.clauses i k = regR (cF b) i 0 k := by
  induction k with
  | zero => exact fun _ => rfl
  | succ k ih =>
    intro h
    rw [regOf, regR, ih (Nat.le_of_succ_le h), cF_get b (show k < b.clauses.length from h), Nat.zero_add]; rfl
/-- the path of a place -/
structure PathOk (b : B) (own : Int → List (Int × Int)) (pp : Int → List Int) (i : Nat) : Prop where
  len : (pF b i).length ≤ 3
  rng : ∀ r ∈ pF b i, 0 ≤ r ∧ r < b.regions.length
  pre : ∀ l1 r l2, pF b i = l1 ++ r :: l2 → pp r = l1
  reg : regionOf b.clauses i = (pF b i).flatMap own
theorem Tree.path (T : Tree b own pp) {i : Nat} (hi : i < b.ops.length) : PathOk b own pp i := by
  obtain ⟨q, a, b', c, d, e⟩ := T.good.pth i (Nat.zero_le _) hi
  rw [List.nil_append] at a
  subst a
  refine ⟨b', fun r hr => by have := c r hr; omega, fun l1 r l2 h => by rw [d l1 r l2 h]; rfl, ?_⟩
  rw [regionOf, regOf_regR b i _ (Nat.le_refl _), ← e]; rfl
theorem Tree.ownOk (T : Tree b own pp) {r : Int} (h0 : 0 ≤ r) (h1 : r < b.regions.length) : OwnOk (cF b) 0 b.clauses.length (regAt b r) (own r) := by
  have := T.good.ok r.toNat (Nat.zero_le _) (by omega)
  rw [show ((r.toNat : Nat) : Int) = r by omega] at this
  exact this
theorem Tree.own_one (T : Tree b own pp) {r r' : Int} (h0 : 0 ≤ r) (h1 : r < b.regions.length) (h2 : 0 ≤ r') (h3 : r' < b.regions.length) {x : Int × Int} (hx : x ∈ own r) (hx' : x ∈ own r') : r = r' := by
  have := T.good.disj r.toNat r'.toNat (Nat.zero_le _) (by omega) (Nat.zero_le _) (by omega) x
  rw [show ((r.toNat : Nat) : Int) = r by omega, show ((r'.toNat : Nat) : Int) = r' by omega] at this
  have := this hx hx'
  omega
end
end Mine
end

section
open PySem PySem.W PyProof.Rows PySem.Calls
set_option autoImplicit false
set_option maxRecDepth 100000
set_option maxHeartbeats 4000000
set_option linter.unusedSimpArgs false
set_option linter.unusedVariables false
set_option linter.defProp false
namespace Mine

theorem samePre_app (l x y : List Int) : samePre (l ++ x) (l ++ y) = l.length + samePre x y := by
  induction l with
  | nil => exact (Nat.zero_add _).symm
  | cons z l ih => rw [List.cons_append, List.cons_append, samePre, if_pos rfl, ih, List.length_cons, Nat.add_right_comm]
theorem samePre_take (a : List Int) : ∀ c : List Int, a.take (samePre a c) = c.take (samePre a c) := by
  induction a with
  | nil => exact fun c => rfl
  | cons x a ih =>
    intro c
    cases c with
    | nil => rfl
    | cons y c =>
      rw [samePre]
      by_cases e : x = y
      · rw [if_pos e, List.take_succ_cons, List.take_succ_cons, ih c, e]
      · rw [if_neg e]; rfl
theorem samePre_out {a c : List Int} {pp : Int → List Int} (ha : ∀ l1 r l2, a = l1 ++ r :: l2 → pp r = l1) (hc : ∀ l1 r l2, c = l1 ++ r :: l2 → pp r = l1) {r : Int} (h : r ∈ a.drop (samePre a c)) : r ∉ c := by
  intro hrc
  obtain ⟨m1, m2, e1⟩ := List.append_of_mem h
  obtain ⟨l1, l2, e2⟩ := List.append_of_mem hrc
  have ea : a = (a.take (samePre a c) ++ m1) ++ r :: m2 := by rw [List.append_assoc, ← e1, List.take_append_drop]
  have h1 := ha _ _ _ ea
  have h2 := hc _ _ _ e2
  have h3 : l1 = a.take (samePre a c) ++ m1 := h2.symm.trans h1
  have e2' : c = (a.take (samePre a c) ++ m1 ++ [r]) ++ l2 := by rw [← h3]; simpa using e2
  have ea' : a = (a.take (samePre a c) ++ m1 ++ [r]) ++ m2 := by simpa using ea
  have hl := (samePre_le a c).1
  generalize hk : samePre a c = k at *
  have : samePre a c = (a.take k ++ m1 ++ [r]).length + samePre m2 l2 := by
    rw [← samePre_app, ← e2', ← ea']
  simp only [List.length_append, List.length_take, List.length_singleton] at this
  lia
theorem samePre_comm (a : List Int) : ∀ c : List Int, samePre a c = samePre c a := by
  induction a with
  | nil => intro c; cases c <;> rfl
  | cons x a ih =>
    intro c
    cases c with
    | nil => rfl
    | cons y c =>
      rw [samePre, samePre, ih c]
      by_cases e : x = y
      · rw [if_pos e, if_pos e.symm]
      · rw [if_neg e, if_neg (fun h => e h.symm)]
theorem drop_iff {a c : List Int} {pp : Int → List Int} (ha : ∀ l1 r l2, a = l1 ++ r :: l2 → pp r = l1) (hc : ∀ l1 r l2, c = l1 ++ r :: l2 → pp r = l1) (Q : Int → Prop) : (∀ r ∈ a.drop (samePre a c), Q r) ↔ ∀ r ∈ a, r ∈ c ∨ Q r := by
  constructor
  · intro h r hr
    rw [← List.take_append_drop (samePre a c) a, List.mem_append] at hr
    rcases hr with hr | hr
    · rw [samePre_take] at hr; exact .inl (List.mem_of_mem_take hr)
    · exact .inr (h r hr)
  · intro h r hr
    exact (h r (List.mem_of_mem_drop hr)).resolve_left (samePre_out ha hc hr)
section
variable {b : B} {own : Int → List (Int × Int)} {pp : Int → List Int}
theorem OwnOk.one {C : Nat → Cl} {m m' : Nat} {rg : String × Int} {ow : List (Int × Int)} (h : OwnOk C m m' rg ow) : ∃ x, x ∈ ow := List.exists_mem_of_ne_nil _ h.1
theorem Tree.mem (T : Tree b own pp) {i : Nat} (hi : i < b.ops.length) {r : Int} (h0 : 0 ≤ r) (h1 : r < b.regions.length) {x : Int × Int} (hx : x ∈ own r) : x ∈ regionOf b.clauses i ↔ r ∈ pF b i := by
  have p := T.path hi
  rw [p.reg, List.mem_flatMap]
  constructor
  · rintro ⟨r', hr', hx'⟩
    have := p.rng r' hr'
    rw [T.own_one h0 h1 this.1 this.2 hx hx']; exact hr'
  · intro h; exact ⟨r, h, hx⟩
theorem clAt_cF (b : B) (c : Int) : clAt b.clauses c = cF b c.toNat := rfl
theorem Tree.exits (T : Tree b own pp) {i j : Nat} (hi : i < b.ops.length) (hj : j < b.ops.length) (lv : Bool) : exitsRight b.clauses (regionOf b.clauses i) (regionOf b.clauses j) lv =
    ((pF b i).drop (samePre (pF b i) (pF b j))).all fun r => lv && (decide ((regAt b r).1 = "T") || decide ((regAt b r).1 = "H")) := by
  have p := T.path hi; have q := T.path hj
  rw [Bool.eq_iff_iff, List.all_eq_true, drop_iff p.pre q.pre, exitsRight, List.all_eq_true]
  have key : ∀ r ∈ pF b i, (∀ x ∈ own r, (decide (x ∈ regionOf b.clauses j) || (lv && (decide (x.2 = 0) || isCatching (clAt b.clauses x.1) x.2))) = true) ↔ (r ∈ pF b j ∨ (lv && (decide ((regAt b r).1 = "T") || decide ((regAt b r).1 = "H"))) = true) := fun r hr => by
    obtain ⟨r0, r1⟩ := p.rng r hr
    have ok := T.ownOk r0 r1
    have one : ∀ x ∈ own r, ((decide (x ∈ regionOf b.clauses j) || (lv && (decide (x.2 = 0) || isCatching (clAt b.clauses x.1) x.2))) = true ↔ (r ∈ pF b j ∨ (lv && (decide ((regAt b r).1 = "T") || decide ((regAt b r).1 = "H"))) = true)) := fun x hx => by
      rw [Bool.or_eq_true, decide_eq_true_eq, T.mem hj r0 r1 hx]
      refine or_congr Iff.rfl ?_
      obtain ⟨x1, x2, x3⟩ := ok.2 x hx
      have e : (decide (x.2 = 0) || isCatching (clAt b.clauses x.1) x.2) = (decide ((regAt b r).1 = "T") || decide ((regAt b r).1 = "H")) := by
        unfold isCatching
        rw [clAt_cF]
        rcases x3 with ⟨a, c, _⟩ | ⟨a, c, d⟩ | ⟨a, c, d⟩ | ⟨a, c⟩
        · rw [a, c]; simp
        · rw [a, c]
          rcases d with d | d <;> rw [d] <;> simp
        · rw [a, c]
          rcases d with d | d <;> rw [d] <;> simp
        · rw [a, c]; simp
      rw [e]
    constructor
    · intro h
      obtain ⟨x, hx⟩ := ok.one
      exact (one x hx).mp (h x hx)
    · intro h x hx
      exact (one x hx).mpr h
  constructor
  · intro h r hr
    refine (key r hr).mp fun x hx => h x ?_
    rw [p.reg, List.mem_flatMap]; exact ⟨r, hr, hx⟩
  · intro h x hx
    rw [p.reg, List.mem_flatMap] at hx
    obtain ⟨r, hr, hx⟩ := hx
    exact (key r hr).mpr (h r hr) x hx
theorem Tree.enters (T : Tree b own pp) {i j : Nat} (hi : i < b.ops.length) (hj : j < b.ops.length) (aim : Int) : entersRight b.clauses (regionOf b.clauses i) (regionOf b.clauses j) aim =
    ((pF b j).drop (samePre (pF b i) (pF b j))).all fun r => decide (regAt b r = ("T", aim)) := by
  have p := T.path hi; have q := T.path hj
  rw [Bool.eq_iff_iff, List.all_eq_true, samePre_comm, drop_iff q.pre p.pre, entersRight, List.all_eq_true]
  have key : ∀ r ∈ pF b j, (∀ x ∈ own r, (decide (x ∈ regionOf b.clauses i) || (decide (x.2 = 0) && decide ((clAt b.clauses x.1).t0 = aim))) = true) ↔ (r ∈ pF b i ∨ decide (regAt b r = ("T", aim)) = true) := fun r hr => by
    obtain ⟨r0, r1⟩ := q.rng r hr
    have ok := T.ownOk r0 r1
    have one : ∀ x ∈ own r, ((decide (x ∈ regionOf b.clauses i) || (decide (x.2 = 0) && decide ((clAt b.clauses x.1).t0 = aim))) = true ↔ (r ∈ pF b i ∨ decide (regAt b r = ("T", aim)) = true)) := fun x hx => by
      rw [Bool.or_eq_true, decide_eq_true_eq, T.mem hi r0 r1 hx]
      refine or_congr Iff.rfl ?_
      obtain ⟨x1, x2, x3⟩ := ok.2 x hx
      have e : (decide (x.2 = 0) && decide ((clAt b.clauses x.1).t0 = aim)) = decide (regAt b r = ("T", aim)) := by
        rw [clAt_cF]
        generalize regAt b r = rg at *
        obtain ⟨l, s⟩ := rg
        simp only at x3
        rcases x3 with ⟨a, c, d⟩ | ⟨a, c, d⟩ | ⟨a, c, d⟩ | ⟨a, c⟩
        · rw [a, c, d, Bool.eq_iff_iff]; simp
        · rw [a, c]; simp
        · rw [a, c]; simp
        · rw [a, c]; simp
      rw [e]
    constructor
    · intro h
      obtain ⟨x, hx⟩ := ok.one
      exact (one x hx).mp (h x hx)
    · intro h x hx
      exact (one x hx).mpr h
  constructor
  · intro h r hr
    refine (key r hr).mp fun x hx => h x ?_
    rw [q.reg, List.mem_flatMap]; exact ⟨r, hr, hx⟩
  · intro h x hx
    rw [q.reg, List.mem_flatMap] at hx
    obtain ⟨r, hr, hx⟩ := hx
    exact (key r hr).mpr (h r hr) x hx
/-- each way is told by the tree's paths alone -/
theorem Tree.jump (T : Tree b own pp) {i : Nat} (hi : i < b.ops.length) (aim : Int) (lv : Bool) : jumpFault b.ops b.clauses i aim lv = wayS b i aim lv := by
  unfold jumpFault wayS
  by_cases h : aim < 0 ∨ (b.ops.length : Int) ≤ aim
  · rw [if_pos h, if_pos h]
  · rw [if_neg h, if_neg h]
    have hj : aim.toNat < b.ops.length := by lia
    have e : ((aim.toNat : Nat) : Int) = aim := by lia
    have h1 := T.exits hi hj lv
    have h2 := T.enters hi hj aim
    rw [e] at h1 h2
    rw [h1, h2]
    rfl

theorem around_rev (a : List Int) : (a.flatMap own).reverse = a.reverse.flatMap fun r => (own r).reverse := by
  induction a with
  | nil => rfl
  | cons r a ih => rw [List.flatMap_cons, List.reverse_append, ih, List.reverse_cons, List.flatMap_append]; simp
theorem find_none {l : List (Int × Int)} (h : ∀ x ∈ l, x.2 = 0) (m : List (Int × Int)) : (l ++ m).find? (fun p => decide (p.2 ≠ 0)) = m.find? (fun p => decide (p.2 ≠ 0)) := by
  rw [List.find?_append]
  have : l.find? (fun p => decide (p.2 ≠ 0)) = none := by
    rw [List.find?_eq_none]
    intro x hx
    rw [h x hx]; simp
  rw [this]; rfl
theorem find_head {l : List (Int × Int)} (hl : l ≠ []) {v : Int} (hv : v ≠ 0) (h : ∀ x ∈ l, x.2 = v) (m : List (Int × Int)) : ∃ x ∈ l, (l ++ m).find? (fun p => decide (p.2 ≠ 0)) = some x := by
  cases l with
  | nil => exact absurd rfl hl
  | cons x l =>
    refine ⟨x, List.mem_cons_self, ?_⟩
    rw [List.cons_append, List.find?_cons]
    have : decide (x.2 ≠ 0) = true := by rw [h x List.mem_cons_self]; exact decide_eq_true hv
    rw [this]
theorem Tree.letter (T : Tree b own pp) {r : Int} (h0 : 0 ≤ r) (h1 : r < b.regions.length) :
    ((regAt b r).1 = "T" ∧ ∀ x ∈ own r, x.2 = 0) ∨ ((regAt b r).1 = "H" ∧ ∀ x ∈ own r, x.2 = 2 ∧ isCatching (clAt b.clauses x.1) x.2 = true ∧ isLast (clAt b.clauses x.1) x.2 = false) ∨
    ((regAt b r).1 = "N" ∧ ∀ x ∈ own r, x.2 = 2 ∧ isCatching (clAt b.clauses x.1) x.2 = false ∧ isLast (clAt b.clauses x.1) x.2 = true) ∨ ((regAt b r).1 = "F" ∧ ∀ x ∈ own r, x.2 = 1) := by
  have ok := T.ownOk h0 h1
  obtain ⟨x, hx⟩ := ok.one
  have key := ok.2
  generalize regAt b r = rg at *
  obtain ⟨l, s⟩ := rg
  simp only at key ⊢
  have four : l = "T" ∨ l = "H" ∨ l = "N" ∨ l = "F" := by
    rcases (key x hx).2.2 with k | k | k | k
    · exact .inl k.1
    · exact .inr (.inl k.1)
    · exact .inr (.inr (.inl k.1))
    · exact .inr (.inr (.inr k.1))
  rcases four with e | e | e | e
  · refine .inl ⟨e, fun x hx => ?_⟩
    rcases (key x hx).2.2 with ⟨a, c, _⟩ | ⟨a, c, d⟩ | ⟨a, c, d⟩ | ⟨a, c⟩
    · exact c
    all_goals exact absurd (e.symm.trans a) (by decide)
  · refine .inr (.inl ⟨e, fun x hx => ?_⟩)
    rcases (key x hx).2.2 with ⟨a, c, _⟩ | ⟨a, c, d⟩ | ⟨a, c, d⟩ | ⟨a, c⟩
    · exact absurd (e.symm.trans a) (by decide)
    · refine ⟨c, ?_, ?_⟩
      · unfold isCatching; rw [clAt_cF, c]; rcases d with d | d <;> rw [d] <;> rfl
      · unfold isLast isAlone; rw [clAt_cF, c]; rcases d with d | d <;> rw [d] <;> rfl
    all_goals exact absurd (e.symm.trans a) (by decide)
  · refine .inr (.inr (.inl ⟨e, fun x hx => ?_⟩))
    rcases (key x hx).2.2 with ⟨a, c, _⟩ | ⟨a, c, d⟩ | ⟨a, c, d⟩ | ⟨a, c⟩
    · exact absurd (e.symm.trans a) (by decide)
    · exact absurd (e.symm.trans a) (by decide)
    · refine ⟨c, ?_, ?_⟩
      · unfold isCatching; rw [clAt_cF, c]; rcases d with d | d <;> rw [d] <;> rfl
      · unfold isLast isAlone; rw [clAt_cF, c]; rcases d with d | d <;> rw [d] <;> rfl
    · exact absurd (e.symm.trans a) (by decide)
  · refine .inr (.inr (.inr ⟨e, fun x hx => ?_⟩))
    rcases (key x hx).2.2 with ⟨a, c, _⟩ | ⟨a, c, d⟩ | ⟨a, c, d⟩ | ⟨a, c⟩
    · exact absurd (e.symm.trans a) (by decide)
    · exact absurd (e.symm.trans a) (by decide)
    · exact absurd (e.symm.trans a) (by decide)
    · exact c
end
end Mine
end

section
open PySem PySem.W PyProof.Rows PySem.Calls
set_option autoImplicit false
set_option maxRecDepth 100000
set_option maxHeartbeats 4000000
set_option linter.unusedSimpArgs false
set_option linter.unusedVariables false
set_option linter.defProp false
namespace Mine

section
variable {b : B} {own : Int → List (Int × Int)} {pp : Int → List Int}
theorem Tree.own_ne (T : Tree b own pp) {r : Int} (h0 : 0 ≤ r) (h1 : r < b.regions.length) : own r ≠ [] := (T.ownOk h0 h1).1
theorem Tree.rethrow (T : Tree b own pp) (l : List Int) : (∀ r ∈ l, 0 ≤ r ∧ r < b.regions.length) →
    (match (l.flatMap fun r => (own r).reverse).find? (fun p => decide (p.2 ≠ 0)) with | some p => if isCatching (clAt b.clauses p.1) p.2 then (0 : Int) else 5 | none => 5) =
    if ((l.map fun r => (regAt b r).1).filter fun x => decide (x ≠ "T")).take 1 ≠ ["H"] then 5 else 0 := by
  induction l with
  | nil => exact fun _ => rfl
  | cons r l ih =>
    intro h
    obtain ⟨r0, r1⟩ := h r List.mem_cons_self
    have ih := ih fun x hx => h x (List.mem_cons_of_mem _ hx)
    have hne : (own r).reverse ≠ [] := fun e => T.own_ne r0 r1 (by simpa using e)
    rw [List.flatMap_cons, List.map_cons]
    rcases T.letter r0 r1 with ⟨a, c⟩ | ⟨a, c⟩ | ⟨a, c⟩ | ⟨a, c⟩
    · rw [find_none (fun x hx => c x (by simpa using hx)), ih, a]; simp
    · obtain ⟨x, hx, e⟩ := find_head hne (v := 2) (by decide) (fun x hx => (c x (by simpa using hx)).1) (l.flatMap fun r => (own r).reverse)
      rw [e, a]
      have := (c x (by simpa using hx)).2.1
      simp [this]
    · obtain ⟨x, hx, e⟩ := find_head hne (v := 2) (by decide) (fun x hx => (c x (by simpa using hx)).1) (l.flatMap fun r => (own r).reverse)
      rw [e, a]
      have := (c x (by simpa using hx)).2.1
      simp [this]
    · obtain ⟨x, hx, e⟩ := find_head hne (v := 1) (by decide) (fun x hx => c x (by simpa using hx)) (l.flatMap fun r => (own r).reverse)
      rw [e, a]
      have := c x (by simpa using hx)
      simp [isCatching, this]
theorem Tree.last (T : Tree b own pp) (a : List Int) (h : ∀ r ∈ a, 0 ≤ r ∧ r < b.regions.length) (op : Int) (ho : op = 220 ∨ op = 65041) :
    endFault b.clauses (a.flatMap own) op = if op = 220 ∧ ((a.map fun r => (regAt b r).1).reverse).take 1 ≠ ["N"] then 5 else if op = 65041 ∧ ((a.map fun r => (regAt b r).1).reverse).take 1 ≠ ["F"] then 5 else 0 := by
  rcases List.eq_nil_or_concat a with rfl | ⟨l, r, rfl⟩
  · rcases ho with rfl | rfl <;> simp [endFault]
  · rw [List.concat_eq_append] at h ⊢
    obtain ⟨r0, r1⟩ := h r (by simp)
    have hne := T.own_ne r0 r1
    have e1 : ((l ++ [r]).flatMap own).getLast? = (own r).getLast? := by
      rw [List.flatMap_append, List.flatMap_cons, List.flatMap_nil, List.append_nil, List.getLast?_append]
      cases e : (own r).getLast? with
      | none => exact absurd (List.getLast?_eq_none_iff.mp e) hne
      | some => rfl
    obtain ⟨x, ex⟩ : ∃ x, (own r).getLast? = some x := ⟨_, List.getLast?_eq_some_getLast hne⟩
    have hx : x ∈ own r := List.mem_of_getLast? ex
    have e2 : (((l ++ [r]).map fun r => (regAt b r).1).reverse).take 1 = [(regAt b r).1] := by simp
    rw [e2]
    unfold endFault
    rw [e1, ex]
    simp only
    rcases T.letter r0 r1 with ⟨a, c⟩ | ⟨a, c⟩ | ⟨a, c⟩ | ⟨a, c⟩
    · have c := c x hx
      rcases ho with rfl | rfl <;> simp [isLast, a, c]
    · obtain ⟨c1, c2, c3⟩ := c x hx
      rcases ho with rfl | rfl <;> simp [a, c1]
      rw [c1] at c3; exact c3
    · obtain ⟨c1, c2, c3⟩ := c x hx
      rw [c1] at c3
      rcases ho with rfl | rfl <;> simp [a, c1, c3]
    · have c := c x hx
      rcases ho with rfl | rfl <;> simp [isLast, a, c]
theorem Tree.stand (T : Tree b own pp) {i : Nat} (hi : i < b.ops.length) (op : Int) (ho : op ∈ ([0, 42, 65050, 220, 65041] : List Int)) : standFault (List.replicate b.ops.length op) b.clauses i = standS b i op := by
  have p := T.path hi
  unfold standFault standS
  have e : (List.replicate b.ops.length op).getD i 0 = op := by
    rw [List.getD_eq_getElem?_getD, List.getElem?_replicate, if_pos hi]; rfl
  have ea : aroundS b i = ((pF b i).map fun r => (regAt b r).1).reverse := rfl
  simp only [e]
  have hnil : regionOf b.clauses i = [] ↔ aroundS b i = [] := by
    rw [p.reg, ea]
    cases hpf : pF b i with
    | nil => simp
    | cons r a =>
      have := p.rng r (by rw [hpf]; exact List.mem_cons_self)
      have := T.own_ne this.1 this.2
      simp [this]
  simp only [List.mem_cons, List.not_mem_nil, or_false] at ho
  rcases ho with rfl | rfl | rfl | rfl | rfl
  · simp
  · by_cases h : aroundS b i = []
    · simp [h, hnil.mpr h]
    · rw [if_pos rfl, if_neg (fun h' => h (hnil.mp h')), if_pos ⟨rfl, h⟩]
  · have := T.rethrow (pF b i).reverse (fun r hr => p.rng r (by simpa using hr))
    rw [← around_rev, ← p.reg, List.map_reverse, ← ea] at this
    rw [if_neg (by decide), if_pos rfl, if_neg (fun h => absurd h.1 (by decide))]
    unfold rethrowFault
    exact this.trans (by simp)
  · rw [if_neg (by decide), if_neg (by decide), if_pos (.inl rfl), if_neg (fun h => absurd h.1 (by decide)), if_neg (fun h => absurd h.1 (by decide)), p.reg, T.last _ p.rng _ (.inl rfl), ea]
  · rw [if_neg (by decide), if_neg (by decide), if_pos (.inr rfl), if_neg (fun h => absurd h.1 (by decide)), if_neg (fun h => absurd h.1 (by decide)), p.reg, T.last _ p.rng _ (.inr rfl), ea]
theorem Tree.regOk (T : Tree b own pp) : RegOk b := by
  refine ⟨fun r hr => ?_, fun p hp => ?_, T.len⟩
  · obtain ⟨k, hk⟩ := List.mem_iff_getElem?.mp hr
    have hk' := (List.getElem?_eq_some_iff.mp hk).1
    have e : regAt b k = r := by rw [regAt, Int.toNat_natCast, List.getD_eq_getElem?_getD, hk]; rfl
    rcases T.letter (r := k) (by lia) (by lia) with ⟨a, _⟩ | ⟨a, _⟩ | ⟨a, _⟩ | ⟨a, _⟩ <;> rw [e] at a
    · exact .inl a
    · exact .inr (.inl a)
    · exact .inr (.inr (.inl a))
    · exact .inr (.inr (.inr a))
  · obtain ⟨k, hk⟩ := List.mem_iff_getElem?.mp hp
    have hk' := (List.getElem?_eq_some_iff.mp hk).1
    have e : pF b k = p := by rw [pF, List.getD_eq_getElem?_getD, hk]; rfl
    have q := T.path (i := k) (by rw [← T.len]; exact hk')
    rw [e.symm]
    exact ⟨by have := q.len; lia, q.rng⟩
end
theorem runs (script : List Int) (hl : script.length ≤ 63) : @cSs Fl (X_law (EL 3) (E_try (EL 2))) 150 F_law.body [("script", .lst (script.map .int))] [] kR = some (Fl.ret (.bool true)) := by
  obtain ⟨own, pp, T⟩ := tree (script.take 40) (min 3 (1 + (script.length : Int).fdiv 6))
  have hz := built_sz (script.take 40) (by simp; lia) (min 3 (1 + (script.length : Int).fdiv 6))
  exact law_true script hl rfl T.let T.n0 (fun i hi => ⟨hz.le (by lia), T.regOk, T.n0, T.c0, T.c1, hi, fun aim lv => T.jump hi aim lv, fun op ho => T.stand hi op ho, told_same⟩) (Nat.le_trans hz.k (by lia))
end Mine
end

section
open PySem PySem.W PyProof.Rows PySem.Calls
set_option autoImplicit false
set_option maxRecDepth 100000
set_option maxHeartbeats 4000000
set_option linter.unusedVariables false
namespace Mine
/-- the text without the rows that the start itself binds -/
noncomputable def vw : Program := { PySem.Challenge.pw_sa0226_01 with main := { PySem.Challenge.pw_sa0226_01.main with body := PySem.Challenge.pw_sa0226_01.main.body.filter fun st => match st with | .Assign [.Name n _] _ _ => !(n == "__name__") | _ => true } }
noncomputable def rc (k : Nat) : DefRec := (recsOf vw).getD k ⟨"", ⟨[], [], none, [], [], none, []⟩, [], ⟨.function, [], false, false, []⟩, ⟨0, 0, 0, 0⟩⟩
theorem rc_len : (recsOf vw).length = 33 := by kernel_rfl
theorem rc_mem {k : Nat} (h : k < 33) : rc k ∈ recsOf vw := by
  unfold rc
  rw [List.getD_eq_getElem?_getD, List.getElem?_eq_getElem (by rw [rc_len]; exact h)]
  exact List.getElem_mem _
section
variable {prog : Program} {w : World} {h₀ : Heap} {mg mb : Str → Option Value} {mean : ExcName → Option Value}
theorem gok (hg : h₀.Ns mainGlobals mg) (hb : h₀.Ns builtinsNs mb) (d : Nat) (l : List (Str × GV)) (h : ∀ p ∈ l, GOK1 prog w h₀ d mg mb p.1 p.2) : GOK prog w h₀ d (mkG l) :=
  ⟨mg, mb, hg, hb, fun x g hx => h (x, g) (mem_of_lookup hx)⟩
theorem val_int (T : Top vw (looseW vw []) mean mg mb h₀) {x : Str} {i : Int} (h : valOf vw x = some (.int i)) : ∃ v, mg x = some v ∧ RV (fun _ => False) [] h₀ (.int i) v := by
  obtain ⟨v, h1, h2⟩ := T.const x _ h
  cases h2 h₀
  exact ⟨_, h1, .int _ _⟩
theorem rv_ints {R : WRecords} {cl : Str → Option Addr} {X : Addr → Prop} {μ : List Addr} {h : Heap} {ns : List Int} : ∀ {vs : List Value} {as : List Addr}, ReadsAllW R cl h vs (ns.map WData.int) as → RVs X μ h (ns.map V.int) vs := by
  induction ns with
  | nil => intro _ _ r; cases r; exact .nil
  | cons n ns ih =>
    intro _ _ r
    cases r with
    | cons r rs => cases r; exact .cons (.int _ _) (ih rs)
theorem rv_tup {R : WRecords} {cl : Str → Option Addr} {X : Addr → Prop} {μ : List Addr} {h : Heap} {ns : List Int} {v : Value} {as : List Addr} (r : ReadsW R cl h v (.tuple (ns.map WData.int)) as) : RV X μ h (.tup (ns.map V.int)) v := by
  cases r with
  | tuple a b c d => exact .tup a b c (rv_ints d)
theorem rv_tups {R : WRecords} {cl : Str → Option Addr} {X : Addr → Prop} {μ : List Addr} {h : Heap} {nss : List (List Int)} : ∀ {vs : List Value} {as : List Addr}, ReadsAllW R cl h vs (nss.map fun ns => WData.tuple (ns.map WData.int)) as → RVs X μ h (nss.map fun ns => V.tup (ns.map V.int)) vs := by
  induction nss with
  | nil => intro _ _ r; cases r; exact .nil
  | cons n ns ih =>
    intro _ _ r
    cases r with
    | cons r rs => exact .cons (rv_tup r) (ih rs)
theorem lit_get (W : TopW vw mg h₀) {k : Nat} {x : Str} {d : WData} (h : (wlitsOf vw)[k]? = some (x, d)) : ∃ v, mg x = some v ∧ ReadsLit h₀ v d [] := W.lits _ (List.mem_of_getElem? h)
theorem w_law_ops (T : Top vw (looseW vw []) mean mg mb h₀) (W : TopW vw mg h₀) : ∃ v, mg "_law_ops" = some v ∧ RV (fun _ => False) [] h₀ (.tup [.int 0, .int 42, .int 65050, .int 220, .int 65041]) v := by
  obtain ⟨v, h1, h2⟩ := lit_get (k := 0) (x := "_law_ops") (d := .tuple ([0, 42, 65050, 220, 65041].map WData.int)) W (by kernel_rfl)
  exact ⟨v, h1, rv_tup (ns := [0, 42, 65050, 220, 65041]) h2⟩
theorem w_law_moves (T : Top vw (looseW vw []) mean mg mb h₀) (W : TopW vw mg h₀) : ∃ v, mg "_law_moves" = some v ∧ RV (fun _ => False) [] h₀ (.tup [.int (-2), .int (-1), .int 1, .int 2]) v := by
  obtain ⟨v, h1, h2⟩ := lit_get (k := 2) (x := "_law_moves") (d := .tuple ([-2, -1, 1, 2].map WData.int)) W (by kernel_rfl)
  exact ⟨v, h1, rv_tup (ns := [-2, -1, 1, 2]) h2⟩
theorem w_law_sorts (T : Top vw (looseW vw []) mean mg mb h₀) (W : TopW vw mg h₀) : ∃ v, mg "_law_sorts" = some v ∧ RV (fun _ => False) [] h₀ (.tup [.tup [.int 2], .tup [.int 4], .tup [.int 0], .tup [.int 1], .tup [.int 0, .int 1], .tup [.int 1, .int 0], .tup [.int 0, .int 0]]) v := by
  obtain ⟨v, h1, h2⟩ := lit_get (k := 1) (x := "_law_sorts") (d := .tuple ([[2], [4], [0], [1], [0, 1], [1, 0], [0, 0]].map fun ns => WData.tuple (ns.map WData.int))) W (by kernel_rfl)
  cases h2 with
  | tuple a b c d => exact ⟨_, h1, .tup a b c (rv_tups (nss := [[2], [4], [0], [1], [0, 1], [1, 0], [0, 0]]) d)⟩
noncomputable def bis : List Str := ["len", "min", "range", "tuple", "list", "enumerate", "zip", "reversed"]
theorem bis_free : ∀ x ∈ bis, x ∉ startupNames ∧ x ∉ looseW vw [] ∧ x ∉ (recsOf vw).map (·.name) ∧ x ∉ (litsOf vw).map (·.1) ∧ x ∉ (clssOf vw (looseW vw [])).map (·.name) ∧ x ≠ "__name__" := by decide +kernel
theorem bi_get (T : Top vw (looseW vw []) mean mg mb h₀) {x : Str} {v : Value} (hx : x ∈ bis) (hv : bootBuiltins x = some v) : mg x = none ∧ mb x = some v := by
  obtain ⟨a, b, c, d, e, f⟩ := bis_free x hx
  exact ⟨T.free x a b c d e, (T.builtins x f).trans hv⟩
theorem bi_len (T : Top vw (looseW vw []) mean mg mb h₀) : mg "len" = none ∧ mb "len" = some (.builtin "len") := bi_get T (by decide +kernel) rfl
theorem bi_min (T : Top vw (looseW vw []) mean mg mb h₀) : mg "min" = none ∧ mb "min" = some (.builtin "min") := bi_get T (by decide +kernel) rfl
theorem bi_range (T : Top vw (looseW vw []) mean mg mb h₀) : mg "range" = none ∧ mb "range" = some (.type "range") := bi_get T (by decide +kernel) rfl
theorem bi_tuple (T : Top vw (looseW vw []) mean mg mb h₀) : mg "tuple" = none ∧ mb "tuple" = some (.type "tuple") := bi_get T (by decide +kernel) rfl
theorem bi_list (T : Top vw (looseW vw []) mean mg mb h₀) : mg "list" = none ∧ mb "list" = some (.type "list") := bi_get T (by decide +kernel) rfl
theorem bi_enumerate (T : Top vw (looseW vw []) mean mg mb h₀) : mg "enumerate" = none ∧ mb "enumerate" = some (.type "enumerate") := bi_get T (by decide +kernel) rfl
theorem bi_zip (T : Top vw (looseW vw []) mean mg mb h₀) : mg "zip" = none ∧ mb "zip" = some (.type "zip") := bi_get T (by decide +kernel) rfl
theorem bi_reversed (T : Top vw (looseW vw []) mean mg mb h₀) : mg "reversed" = none ∧ mb "reversed" = some (.type "reversed") := bi_get T (by decide +kernel) rfl
theorem lenS {P : List Value → Prop} {n : Nat} (h : ∀ a r, r.length = n → P (a :: r)) (l : List Value) (e : l.length = n + 1) : P l := by
  induction l with
  | nil => cases e
  | cons a r _ => exact h a r (Nat.succ.inj e)
theorem len1 {P : List Value → Prop} (h : ∀ a, P [a]) : ∀ l : List Value, l.length = 1 → P l := lenS fun a r e => (List.eq_nil_of_length_eq_zero e).symm ▸ h a
theorem fa_of {T : Top vw (looseW vw []) mean mg mb h₀} {k : Nat} {x : Str} {F : Fn} (hk : k < 33) (e1 : (rc k).name = x) (e2 : (rc k).body = F.body) (e3 : (rc k).scope.names = F.names) (e4 : (rc k).scope.kind = .function) (e5 : (rc k).scope.isCoroutine = false) (e6 : (rc k).scope.isGenerator = false)
    (e7 : ∀ nm bd sc pm code doc (vals : List Value), vals.length = F.params.length → bindArgs (docDef nm (rc k).params bd sc pm code doc) ⟨vals, []⟩ = pure (F.params.zip vals)) (e8 : ∀ x ∈ F.params, F.names.lookup x = some .local ∨ F.names.lookup x = some .cell) (e9 : F.params.Nodup) : ∃ a, mg x = some (.ref a) ∧ FnAt h₀ a F := by
  obtain ⟨a, o, pm, code, doc, h1, h2, h3, h4⟩ := T.fn (rc k) (rc_mem hk)
  exact ⟨a, e1 ▸ h1, ⟨o, _, h2, h3, h4, congrArg FuncBody.stmts e2, rfl, e3, e4, e5, e6, rfl, rfl, e7 _ _ _ _ _ _⟩, T.nolimit, e8, e9⟩

theorem fa_parts_of (T : Top vw (looseW vw []) mean mg mb h₀) : ∃ a, mg "parts_of" = some (.ref a) ∧ FnAt h₀ a F_parts_of :=
  fa_of (T := T) (k := 0) (Nat.le_of_ble_eq_true rfl) (by kernel_rfl) (by kernel_rfl) (by kernel_rfl) (by kernel_rfl) (by kernel_rfl) (by kernel_rfl) (fun _ _ _ _ _ _ => len1 fun _ => rfl) (by decide +kernel) (by decide +kernel)

theorem fa_apart (T : Top vw (looseW vw []) mean mg mb h₀) : ∃ a, mg "apart" = some (.ref a) ∧ FnAt h₀ a F_apart :=
  fa_of (T := T) (k := 1) (Nat.le_of_ble_eq_true rfl) (by kernel_rfl) (by kernel_rfl) (by kernel_rfl) (by kernel_rfl) (by kernel_rfl) (by kernel_rfl) (fun _ _ _ _ _ _ => lenS fun _ => len1 fun _ => rfl) (by decide +kernel) (by decide +kernel)

theorem fa_inside (T : Top vw (looseW vw []) mean mg mb h₀) : ∃ a, mg "inside" = some (.ref a) ∧ FnAt h₀ a F_inside :=
  fa_of (T := T) (k := 2) (Nat.le_of_ble_eq_true rfl) (by kernel_rfl) (by kernel_rfl) (by kernel_rfl) (by kernel_rfl) (by kernel_rfl) (by kernel_rfl) (fun _ _ _ _ _ _ => lenS fun _ => len1 fun _ => rfl) (by decide +kernel) (by decide +kernel)

theorem fa_all_apart (T : Top vw (looseW vw []) mean mg mb h₀) : ∃ a, mg "all_apart" = some (.ref a) ∧ FnAt h₀ a F_all_apart :=
  fa_of (T := T) (k := 3) (Nat.le_of_ble_eq_true rfl) (by kernel_rfl) (by kernel_rfl) (by kernel_rfl) (by kernel_rfl) (by kernel_rfl) (by kernel_rfl) (fun _ _ _ _ _ _ => lenS fun _ => len1 fun _ => rfl) (by decide +kernel) (by decide +kernel)

theorem fa_all_inside (T : Top vw (looseW vw []) mean mg mb h₀) : ∃ a, mg "all_inside" = some (.ref a) ∧ FnAt h₀ a F_all_inside :=
  fa_of (T := T) (k := 4) (Nat.le_of_ble_eq_true rfl) (by kernel_rfl) (by kernel_rfl) (by kernel_rfl) (by kernel_rfl) (by kernel_rfl) (by kernel_rfl) (fun _ _ _ _ _ _ => lenS fun _ => len1 fun _ => rfl) (by decide +kernel) (by decide +kernel)

theorem fa_clause_right (T : Top vw (looseW vw []) mean mg mb h₀) : ∃ a, mg "clause_right" = some (.ref a) ∧ FnAt h₀ a F_clause_right :=
  fa_of (T := T) (k := 5) (Nat.le_of_ble_eq_true rfl) (by kernel_rfl) (by kernel_rfl) (by kernel_rfl) (by kernel_rfl) (by kernel_rfl) (by kernel_rfl) (fun _ _ _ _ _ _ => lenS fun _ => len1 fun _ => rfl) (by decide +kernel) (by decide +kernel)

theorem fa_filter_right (T : Top vw (looseW vw []) mean mg mb h₀) : ∃ a, mg "filter_right" = some (.ref a) ∧ FnAt h₀ a F_filter_right :=
  fa_of (T := T) (k := 6) (Nat.le_of_ble_eq_true rfl) (by kernel_rfl) (by kernel_rfl) (by kernel_rfl) (by kernel_rfl) (by kernel_rfl) (by kernel_rfl) (fun _ _ _ _ _ _ => lenS fun _ => lenS fun _ => len1 fun _ => rfl) (by decide +kernel) (by decide +kernel)

theorem fa_is_alone (T : Top vw (looseW vw []) mean mg mb h₀) : ∃ a, mg "is_alone" = some (.ref a) ∧ FnAt h₀ a F_is_alone :=
  fa_of (T := T) (k := 7) (Nat.le_of_ble_eq_true rfl) (by kernel_rfl) (by kernel_rfl) (by kernel_rfl) (by kernel_rfl) (by kernel_rfl) (by kernel_rfl) (fun _ _ _ _ _ _ => len1 fun _ => rfl) (by decide +kernel) (by decide +kernel)

theorem fa_pair_right (T : Top vw (looseW vw []) mean mg mb h₀) : ∃ a, mg "pair_right" = some (.ref a) ∧ FnAt h₀ a F_pair_right :=
  fa_of (T := T) (k := 8) (Nat.le_of_ble_eq_true rfl) (by kernel_rfl) (by kernel_rfl) (by kernel_rfl) (by kernel_rfl) (by kernel_rfl) (by kernel_rfl) (fun _ _ _ _ _ _ => lenS fun _ => len1 fun _ => rfl) (by decide +kernel) (by decide +kernel)

theorem fa_region_faults (T : Top vw (looseW vw []) mean mg mb h₀) : ∃ a, mg "region_faults" = some (.ref a) ∧ FnAt h₀ a F_region_faults :=
  fa_of (T := T) (k := 9) (Nat.le_of_ble_eq_true rfl) (by kernel_rfl) (by kernel_rfl) (by kernel_rfl) (by kernel_rfl) (by kernel_rfl) (by kernel_rfl) (fun _ _ _ _ _ _ => lenS fun _ => len1 fun _ => rfl) (by decide +kernel) (by decide +kernel)

theorem fa_note_fault (T : Top vw (looseW vw []) mean mg mb h₀) : ∃ a, mg "note_fault" = some (.ref a) ∧ FnAt h₀ a F_note_fault :=
  fa_of (T := T) (k := 10) (Nat.le_of_ble_eq_true rfl) (by kernel_rfl) (by kernel_rfl) (by kernel_rfl) (by kernel_rfl) (by kernel_rfl) (by kernel_rfl) (fun _ _ _ _ _ _ => lenS fun _ => len1 fun _ => rfl) (by decide +kernel) (by decide +kernel)

theorem fa_part_at (T : Top vw (looseW vw []) mean mg mb h₀) : ∃ a, mg "part_at" = some (.ref a) ∧ FnAt h₀ a F_part_at :=
  fa_of (T := T) (k := 11) (Nat.le_of_ble_eq_true rfl) (by kernel_rfl) (by kernel_rfl) (by kernel_rfl) (by kernel_rfl) (by kernel_rfl) (by kernel_rfl) (fun _ _ _ _ _ _ => lenS fun _ => len1 fun _ => rfl) (by decide +kernel) (by decide +kernel)

theorem fa_region_of (T : Top vw (looseW vw []) mean mg mb h₀) : ∃ a, mg "region_of" = some (.ref a) ∧ FnAt h₀ a F_region_of :=
  fa_of (T := T) (k := 12) (Nat.le_of_ble_eq_true rfl) (by kernel_rfl) (by kernel_rfl) (by kernel_rfl) (by kernel_rfl) (by kernel_rfl) (by kernel_rfl) (fun _ _ _ _ _ _ => lenS fun _ => len1 fun _ => rfl) (by decide +kernel) (by decide +kernel)

theorem fa_is_catching (T : Top vw (looseW vw []) mean mg mb h₀) : ∃ a, mg "is_catching" = some (.ref a) ∧ FnAt h₀ a F_is_catching :=
  fa_of (T := T) (k := 13) (Nat.le_of_ble_eq_true rfl) (by kernel_rfl) (by kernel_rfl) (by kernel_rfl) (by kernel_rfl) (by kernel_rfl) (by kernel_rfl) (fun _ _ _ _ _ _ => lenS fun _ => len1 fun _ => rfl) (by decide +kernel) (by decide +kernel)

theorem fa_is_last (T : Top vw (looseW vw []) mean mg mb h₀) : ∃ a, mg "is_last" = some (.ref a) ∧ FnAt h₀ a F_is_last :=
  fa_of (T := T) (k := 14) (Nat.le_of_ble_eq_true rfl) (by kernel_rfl) (by kernel_rfl) (by kernel_rfl) (by kernel_rfl) (by kernel_rfl) (by kernel_rfl) (fun _ _ _ _ _ _ => lenS fun _ => len1 fun _ => rfl) (by decide +kernel) (by decide +kernel)

theorem fa_enters_right (T : Top vw (looseW vw []) mean mg mb h₀) : ∃ a, mg "enters_right" = some (.ref a) ∧ FnAt h₀ a F_enters_right :=
  fa_of (T := T) (k := 15) (Nat.le_of_ble_eq_true rfl) (by kernel_rfl) (by kernel_rfl) (by kernel_rfl) (by kernel_rfl) (by kernel_rfl) (by kernel_rfl) (fun _ _ _ _ _ _ => lenS fun _ => lenS fun _ => lenS fun _ => len1 fun _ => rfl) (by decide +kernel) (by decide +kernel)

theorem fa_exits_right (T : Top vw (looseW vw []) mean mg mb h₀) : ∃ a, mg "exits_right" = some (.ref a) ∧ FnAt h₀ a F_exits_right :=
  fa_of (T := T) (k := 16) (Nat.le_of_ble_eq_true rfl) (by kernel_rfl) (by kernel_rfl) (by kernel_rfl) (by kernel_rfl) (by kernel_rfl) (by kernel_rfl) (fun _ _ _ _ _ _ => lenS fun _ => lenS fun _ => lenS fun _ => len1 fun _ => rfl) (by decide +kernel) (by decide +kernel)

theorem fa_jump_fault (T : Top vw (looseW vw []) mean mg mb h₀) : ∃ a, mg "jump_fault" = some (.ref a) ∧ FnAt h₀ a F_jump_fault :=
  fa_of (T := T) (k := 17) (Nat.le_of_ble_eq_true rfl) (by kernel_rfl) (by kernel_rfl) (by kernel_rfl) (by kernel_rfl) (by kernel_rfl) (by kernel_rfl) (fun _ _ _ _ _ _ => lenS fun _ => lenS fun _ => lenS fun _ => lenS fun _ => len1 fun _ => rfl) (by decide +kernel) (by decide +kernel)

theorem fa_stand_fault (T : Top vw (looseW vw []) mean mg mb h₀) : ∃ a, mg "stand_fault" = some (.ref a) ∧ FnAt h₀ a F_stand_fault :=
  fa_of (T := T) (k := 18) (Nat.le_of_ble_eq_true rfl) (by kernel_rfl) (by kernel_rfl) (by kernel_rfl) (by kernel_rfl) (by kernel_rfl) (by kernel_rfl) (fun _ _ _ _ _ _ => lenS fun _ => lenS fun _ => len1 fun _ => rfl) (by decide +kernel) (by decide +kernel)

theorem fa_rethrow_fault (T : Top vw (looseW vw []) mean mg mb h₀) : ∃ a, mg "rethrow_fault" = some (.ref a) ∧ FnAt h₀ a F_rethrow_fault :=
  fa_of (T := T) (k := 19) (Nat.le_of_ble_eq_true rfl) (by kernel_rfl) (by kernel_rfl) (by kernel_rfl) (by kernel_rfl) (by kernel_rfl) (by kernel_rfl) (fun _ _ _ _ _ _ => lenS fun _ => len1 fun _ => rfl) (by decide +kernel) (by decide +kernel)

theorem fa_end_fault (T : Top vw (looseW vw []) mean mg mb h₀) : ∃ a, mg "end_fault" = some (.ref a) ∧ FnAt h₀ a F_end_fault :=
  fa_of (T := T) (k := 20) (Nat.le_of_ble_eq_true rfl) (by kernel_rfl) (by kernel_rfl) (by kernel_rfl) (by kernel_rfl) (by kernel_rfl) (by kernel_rfl) (fun _ _ _ _ _ _ => lenS fun _ => lenS fun _ => len1 fun _ => rfl) (by decide +kernel) (by decide +kernel)

theorem fa_take (T : Top vw (looseW vw []) mean mg mb h₀) : ∃ a, mg "_law_take" = some (.ref a) ∧ FnAt h₀ a F_take :=
  fa_of (T := T) (k := 21) (Nat.le_of_ble_eq_true rfl) (by kernel_rfl) (by kernel_rfl) (by kernel_rfl) (by kernel_rfl) (by kernel_rfl) (by kernel_rfl) (fun _ _ _ _ _ _ => len1 fun _ => rfl) (by decide +kernel) (by decide +kernel)

theorem fa_put (T : Top vw (looseW vw []) mean mg mb h₀) : ∃ a, mg "_law_put" = some (.ref a) ∧ FnAt h₀ a F_put :=
  fa_of (T := T) (k := 22) (Nat.le_of_ble_eq_true rfl) (by kernel_rfl) (by kernel_rfl) (by kernel_rfl) (by kernel_rfl) (by kernel_rfl) (by kernel_rfl) (fun _ _ _ _ _ _ => lenS fun _ => lenS fun _ => len1 fun _ => rfl) (by decide +kernel) (by decide +kernel)

theorem fa_block (T : Top vw (looseW vw []) mean mg mb h₀) : ∃ a, mg "_law_block" = some (.ref a) ∧ FnAt h₀ a F_block :=
  fa_of (T := T) (k := 23) (Nat.le_of_ble_eq_true rfl) (by kernel_rfl) (by kernel_rfl) (by kernel_rfl) (by kernel_rfl) (by kernel_rfl) (by kernel_rfl) (fun _ _ _ _ _ _ => lenS fun _ => lenS fun _ => lenS fun _ => len1 fun _ => rfl) (by decide +kernel) (by decide +kernel)

theorem fa_region (T : Top vw (looseW vw []) mean mg mb h₀) : ∃ a, mg "_law_region" = some (.ref a) ∧ FnAt h₀ a F_region :=
  fa_of (T := T) (k := 24) (Nat.le_of_ble_eq_true rfl) (by kernel_rfl) (by kernel_rfl) (by kernel_rfl) (by kernel_rfl) (by kernel_rfl) (by kernel_rfl) (fun _ _ _ _ _ _ => lenS fun _ => lenS fun _ => len1 fun _ => rfl) (by decide +kernel) (by decide +kernel)

theorem fa_try (T : Top vw (looseW vw []) mean mg mb h₀) : ∃ a, mg "_law_try" = some (.ref a) ∧ FnAt h₀ a F_try :=
  fa_of (T := T) (k := 25) (Nat.le_of_ble_eq_true rfl) (by kernel_rfl) (by kernel_rfl) (by kernel_rfl) (by kernel_rfl) (by kernel_rfl) (by kernel_rfl) (fun _ _ _ _ _ _ => lenS fun _ => lenS fun _ => lenS fun _ => len1 fun _ => rfl) (by decide +kernel) (by decide +kernel)

theorem fa_letters (T : Top vw (looseW vw []) mean mg mb h₀) : ∃ a, mg "_law_letters" = some (.ref a) ∧ FnAt h₀ a F_letters :=
  fa_of (T := T) (k := 26) (Nat.le_of_ble_eq_true rfl) (by kernel_rfl) (by kernel_rfl) (by kernel_rfl) (by kernel_rfl) (by kernel_rfl) (by kernel_rfl) (fun _ _ _ _ _ _ => lenS fun _ => len1 fun _ => rfl) (by decide +kernel) (by decide +kernel)

theorem fa_pair (T : Top vw (looseW vw []) mean mg mb h₀) : ∃ a, mg "_law_pair" = some (.ref a) ∧ FnAt h₀ a F_pair :=
  fa_of (T := T) (k := 27) (Nat.le_of_ble_eq_true rfl) (by kernel_rfl) (by kernel_rfl) (by kernel_rfl) (by kernel_rfl) (by kernel_rfl) (by kernel_rfl) (fun _ _ _ _ _ _ => lenS fun _ => lenS fun _ => len1 fun _ => rfl) (by decide +kernel) (by decide +kernel)

theorem fa_told (T : Top vw (looseW vw []) mean mg mb h₀) : ∃ a, mg "_law_told" = some (.ref a) ∧ FnAt h₀ a F_told :=
  fa_of (T := T) (k := 28) (Nat.le_of_ble_eq_true rfl) (by kernel_rfl) (by kernel_rfl) (by kernel_rfl) (by kernel_rfl) (by kernel_rfl) (by kernel_rfl) (fun _ _ _ _ _ _ => lenS fun _ => len1 fun _ => rfl) (by decide +kernel) (by decide +kernel)

theorem fa_turned (T : Top vw (looseW vw []) mean mg mb h₀) : ∃ a, mg "_law_turned" = some (.ref a) ∧ FnAt h₀ a F_turned :=
  fa_of (T := T) (k := 29) (Nat.le_of_ble_eq_true rfl) (by kernel_rfl) (by kernel_rfl) (by kernel_rfl) (by kernel_rfl) (by kernel_rfl) (by kernel_rfl) (fun _ _ _ _ _ _ => lenS fun _ => lenS fun _ => len1 fun _ => rfl) (by decide +kernel) (by decide +kernel)

theorem fa_way (T : Top vw (looseW vw []) mean mg mb h₀) : ∃ a, mg "_law_way" = some (.ref a) ∧ FnAt h₀ a F_way :=
  fa_of (T := T) (k := 30) (Nat.le_of_ble_eq_true rfl) (by kernel_rfl) (by kernel_rfl) (by kernel_rfl) (by kernel_rfl) (by kernel_rfl) (by kernel_rfl) (fun _ _ _ _ _ _ => lenS fun _ => lenS fun _ => lenS fun _ => len1 fun _ => rfl) (by decide +kernel) (by decide +kernel)

theorem fa_stand (T : Top vw (looseW vw []) mean mg mb h₀) : ∃ a, mg "_law_stand" = some (.ref a) ∧ FnAt h₀ a F_stand :=
  fa_of (T := T) (k := 31) (Nat.le_of_ble_eq_true rfl) (by kernel_rfl) (by kernel_rfl) (by kernel_rfl) (by kernel_rfl) (by kernel_rfl) (by kernel_rfl) (fun _ _ _ _ _ _ => lenS fun _ => lenS fun _ => len1 fun _ => rfl) (by decide +kernel) (by decide +kernel)

theorem ok_apart (T : Top vw (looseW vw []) mean mg mb h₀) (W : TopW vw mg h₀) : ∃ a, mg "apart" = some (.ref a) ∧ PureOK prog w h₀ 1 a P_apart :=
  (fa_apart T).imp fun a h => ⟨h.1, pure_ok h.2 (gok T.g T.b 0 G_apart (fn0)) (Nat.le_of_ble_eq_true rfl)⟩

theorem ok_inside (T : Top vw (looseW vw []) mean mg mb h₀) (W : TopW vw mg h₀) : ∃ a, mg "inside" = some (.ref a) ∧ PureOK prog w h₀ 1 a P_inside :=
  (fa_inside T).imp fun a h => ⟨h.1, pure_ok h.2 (gok T.g T.b 0 G_inside (fn0)) (Nat.le_of_ble_eq_true rfl)⟩

theorem ok_parts_of (T : Top vw (looseW vw []) mean mg mb h₀) (W : TopW vw mg h₀) : ∃ a, mg "parts_of" = some (.ref a) ∧ PureOK prog w h₀ 1 a P_parts_of :=
  (fa_parts_of T).imp fun a h => ⟨h.1, pure_ok h.2 (gok T.g T.b 0 G_parts_of (fm (val_int T (by kernel_rfl)) (fn0))) (Nat.le_of_ble_eq_true rfl)⟩

theorem ok_all_apart (T : Top vw (looseW vw []) mean mg mb h₀) (W : TopW vw mg h₀) : ∃ a, mg "all_apart" = some (.ref a) ∧ PureOK prog w h₀ 2 a P_all_apart :=
  (fa_all_apart T).imp fun a h => ⟨h.1, pure_ok h.2 (gok T.g T.b 1 G_all_apart (fm ((ok_apart T W).imp fun _ h => ⟨h.1, h.2.le (Nat.le_of_ble_eq_true rfl)⟩) (fn0))) (Nat.le_of_ble_eq_true rfl)⟩

theorem ok_all_inside (T : Top vw (looseW vw []) mean mg mb h₀) (W : TopW vw mg h₀) : ∃ a, mg "all_inside" = some (.ref a) ∧ PureOK prog w h₀ 2 a P_all_inside :=
  (fa_all_inside T).imp fun a h => ⟨h.1, pure_ok h.2 (gok T.g T.b 1 G_all_inside (fm ((ok_inside T W).imp fun _ h => ⟨h.1, h.2.le (Nat.le_of_ble_eq_true rfl)⟩) (fn0))) (Nat.le_of_ble_eq_true rfl)⟩

theorem ok_filter_right (T : Top vw (looseW vw []) mean mg mb h₀) (W : TopW vw mg h₀) : ∃ a, mg "filter_right" = some (.ref a) ∧ PureOK prog w h₀ 1 a P_filter_right :=
  (fa_filter_right T).imp fun a h => ⟨h.1, pure_ok h.2 (gok T.g T.b 0 G_filter_right (fm (bi_range T) (fm (val_int T (by kernel_rfl)) (fn0)))) (Nat.le_of_ble_eq_true rfl)⟩

theorem ok_is_alone (T : Top vw (looseW vw []) mean mg mb h₀) (W : TopW vw mg h₀) : ∃ a, mg "is_alone" = some (.ref a) ∧ PureOK prog w h₀ 1 a P_is_alone :=
  (fa_is_alone T).imp fun a h => ⟨h.1, pure_ok h.2 (gok T.g T.b 0 G_is_alone (fm (val_int T (by kernel_rfl)) (fm (val_int T (by kernel_rfl)) (fn0)))) (Nat.le_of_ble_eq_true rfl)⟩

theorem ok_clause_right (T : Top vw (looseW vw []) mean mg mb h₀) (W : TopW vw mg h₀) : ∃ a, mg "clause_right" = some (.ref a) ∧ PureOK prog w h₀ 3 a P_clause_right :=
  (fa_clause_right T).imp fun a h => ⟨h.1, pure_ok h.2 (gok T.g T.b 2 G_clause_right (fm (val_int T (by kernel_rfl)) (fm (val_int T (by kernel_rfl)) (fm (val_int T (by kernel_rfl)) (fm (val_int T (by kernel_rfl)) (fm (bi_len T) (fm ((ok_filter_right T W).imp fun _ h => ⟨h.1, h.2.le (Nat.le_of_ble_eq_true rfl)⟩) (fm ((ok_parts_of T W).imp fun _ h => ⟨h.1, h.2.le (Nat.le_of_ble_eq_true rfl)⟩) (fm ((ok_all_apart T W).imp fun _ h => ⟨h.1, h.2.le (Nat.le_of_ble_eq_true rfl)⟩) (fn0)))))))))) (Nat.le_of_ble_eq_true rfl)⟩

theorem ok_pair_right (T : Top vw (looseW vw []) mean mg mb h₀) (W : TopW vw mg h₀) : ∃ a, mg "pair_right" = some (.ref a) ∧ PureOK prog w h₀ 3 a P_pair_right :=
  (fa_pair_right T).imp fun a h => ⟨h.1, pure_ok h.2 (gok T.g T.b 2 G_pair_right (fm ((ok_parts_of T W).imp fun _ h => ⟨h.1, h.2.le (Nat.le_of_ble_eq_true rfl)⟩) (fm ((ok_is_alone T W).imp fun _ h => ⟨h.1, h.2.le (Nat.le_of_ble_eq_true rfl)⟩) (fm ((ok_all_apart T W).imp fun _ h => ⟨h.1, h.2.le (Nat.le_of_ble_eq_true rfl)⟩) (fm ((ok_all_inside T W).imp fun _ h => ⟨h.1, h.2.le (Nat.le_of_ble_eq_true rfl)⟩) (fm (bi_len T) (fn0))))))) (Nat.le_of_ble_eq_true rfl)⟩

theorem ok_note_fault (T : Top vw (looseW vw []) mean mg mb h₀) (W : TopW vw mg h₀) : ∃ a, mg "note_fault" = some (.ref a) ∧ EffOK prog w h₀ 1 a E_note_fault :=
  (fa_note_fault T).imp fun a h => ⟨h.1, eff_ok h.2 (gok T.g T.b 0 G_note_fault (fm (val_int T (by kernel_rfl)) (fn0))) (Nat.le_of_ble_eq_true rfl)⟩

theorem ok_region_faults (T : Top vw (looseW vw []) mean mg mb h₀) (W : TopW vw mg h₀) : ∃ a, mg "region_faults" = some (.ref a) ∧ PureOK prog w h₀ 4 a P_region_faults :=
  (fa_region_faults T).imp fun a h => ⟨h.1, pure_ok h.2 (gok T.g T.b 3 G_region_faults (fm ((ok_clause_right T W).imp fun _ h => ⟨h.1, h.2.le (Nat.le_of_ble_eq_true rfl)⟩) (fm ((ok_note_fault T W).imp fun _ h => ⟨h.1, h.2.le (Nat.le_of_ble_eq_true rfl)⟩) (fm (bi_len T) (fm (bi_enumerate T) (fm (bi_range T) (fm ((ok_pair_right T W).imp fun _ h => ⟨h.1, h.2.le (Nat.le_of_ble_eq_true rfl)⟩) (fn0)))))))) (Nat.le_of_ble_eq_true rfl)⟩

theorem ok_part_at (T : Top vw (looseW vw []) mean mg mb h₀) (W : TopW vw mg h₀) : ∃ a, mg "part_at" = some (.ref a) ∧ PureOK prog w h₀ 1 a P_part_at :=
  (fa_part_at T).imp fun a h => ⟨h.1, pure_ok h.2 (gok T.g T.b 0 G_part_at (fm (val_int T (by kernel_rfl)) (fm (val_int T (by kernel_rfl)) (fm (val_int T (by kernel_rfl)) (fm (val_int T (by kernel_rfl)) (fn0)))))) (Nat.le_of_ble_eq_true rfl)⟩

theorem ok_region_of (T : Top vw (looseW vw []) mean mg mb h₀) (W : TopW vw mg h₀) : ∃ a, mg "region_of" = some (.ref a) ∧ PureOK prog w h₀ 2 a P_region_of :=
  (fa_region_of T).imp fun a h => ⟨h.1, pure_ok h.2 (gok T.g T.b 1 G_region_of (fm (bi_range T) (fm (bi_len T) (fm ((ok_part_at T W).imp fun _ h => ⟨h.1, h.2.le (Nat.le_of_ble_eq_true rfl)⟩) (fm (bi_tuple T) (fn0)))))) (Nat.le_of_ble_eq_true rfl)⟩

theorem ok_is_catching (T : Top vw (looseW vw []) mean mg mb h₀) (W : TopW vw mg h₀) : ∃ a, mg "is_catching" = some (.ref a) ∧ PureOK prog w h₀ 1 a P_is_catching :=
  (fa_is_catching T).imp fun a h => ⟨h.1, pure_ok h.2 (gok T.g T.b 0 G_is_catching (fm (val_int T (by kernel_rfl)) (fm (val_int T (by kernel_rfl)) (fm (val_int T (by kernel_rfl)) (fn0))))) (Nat.le_of_ble_eq_true rfl)⟩

theorem ok_is_last (T : Top vw (looseW vw []) mean mg mb h₀) (W : TopW vw mg h₀) : ∃ a, mg "is_last" = some (.ref a) ∧ PureOK prog w h₀ 2 a P_is_last :=
  (fa_is_last T).imp fun a h => ⟨h.1, pure_ok h.2 (gok T.g T.b 1 G_is_last (fm (val_int T (by kernel_rfl)) (fm ((ok_is_alone T W).imp fun _ h => ⟨h.1, h.2.le (Nat.le_of_ble_eq_true rfl)⟩) (fn0)))) (Nat.le_of_ble_eq_true rfl)⟩

theorem ok_enters_right (T : Top vw (looseW vw []) mean mg mb h₀) (W : TopW vw mg h₀) : ∃ a, mg "enters_right" = some (.ref a) ∧ PureOK prog w h₀ 1 a P_enters_right :=
  (fa_enters_right T).imp fun a h => ⟨h.1, pure_ok h.2 (gok T.g T.b 0 G_enters_right (fm (val_int T (by kernel_rfl)) (fn0))) (Nat.le_of_ble_eq_true rfl)⟩

theorem ok_exits_right (T : Top vw (looseW vw []) mean mg mb h₀) (W : TopW vw mg h₀) : ∃ a, mg "exits_right" = some (.ref a) ∧ PureOK prog w h₀ 2 a P_exits_right :=
  (fa_exits_right T).imp fun a h => ⟨h.1, pure_ok h.2 (gok T.g T.b 1 G_exits_right (fm (val_int T (by kernel_rfl)) (fm ((ok_is_catching T W).imp fun _ h => ⟨h.1, h.2.le (Nat.le_of_ble_eq_true rfl)⟩) (fn0)))) (Nat.le_of_ble_eq_true rfl)⟩

theorem ok_jump_fault (T : Top vw (looseW vw []) mean mg mb h₀) (W : TopW vw mg h₀) : ∃ a, mg "jump_fault" = some (.ref a) ∧ PureOK prog w h₀ 3 a P_jump_fault :=
  (fa_jump_fault T).imp fun a h => ⟨h.1, pure_ok h.2 (gok T.g T.b 2 G_jump_fault (fm (bi_len T) (fm (val_int T (by kernel_rfl)) (fm ((ok_region_of T W).imp fun _ h => ⟨h.1, h.2.le (Nat.le_of_ble_eq_true rfl)⟩) (fm ((ok_exits_right T W).imp fun _ h => ⟨h.1, h.2.le (Nat.le_of_ble_eq_true rfl)⟩) (fm ((ok_enters_right T W).imp fun _ h => ⟨h.1, h.2.le (Nat.le_of_ble_eq_true rfl)⟩) (fm (val_int T (by kernel_rfl)) (fn0)))))))) (Nat.le_of_ble_eq_true rfl)⟩

theorem ok_rethrow_fault (T : Top vw (looseW vw []) mean mg mb h₀) (W : TopW vw mg h₀) : ∃ a, mg "rethrow_fault" = some (.ref a) ∧ PureOK prog w h₀ 2 a P_rethrow_fault :=
  (fa_rethrow_fault T).imp fun a h => ⟨h.1, pure_ok h.2 (gok T.g T.b 1 G_rethrow_fault (fm (bi_reversed T) (fm (val_int T (by kernel_rfl)) (fm ((ok_is_catching T W).imp fun _ h => ⟨h.1, h.2.le (Nat.le_of_ble_eq_true rfl)⟩) (fm (val_int T (by kernel_rfl)) (fn0)))))) (Nat.le_of_ble_eq_true rfl)⟩

theorem ok_end_fault (T : Top vw (looseW vw []) mean mg mb h₀) (W : TopW vw mg h₀) : ∃ a, mg "end_fault" = some (.ref a) ∧ PureOK prog w h₀ 3 a P_end_fault :=
  (fa_end_fault T).imp fun a h => ⟨h.1, pure_ok h.2 (gok T.g T.b 2 G_end_fault (fm (bi_len T) (fm (val_int T (by kernel_rfl)) (fm (val_int T (by kernel_rfl)) (fm ((ok_is_last T W).imp fun _ h => ⟨h.1, h.2.le (Nat.le_of_ble_eq_true rfl)⟩) (fm (val_int T (by kernel_rfl)) (fm (val_int T (by kernel_rfl)) (fn0)))))))) (Nat.le_of_ble_eq_true rfl)⟩

theorem ok_stand_fault (T : Top vw (looseW vw []) mean mg mb h₀) (W : TopW vw mg h₀) : ∃ a, mg "stand_fault" = some (.ref a) ∧ PureOK prog w h₀ 4 a P_stand_fault :=
  (fa_stand_fault T).imp fun a h => ⟨h.1, pure_ok h.2 (gok T.g T.b 3 G_stand_fault (fm (val_int T (by kernel_rfl)) (fm (bi_len T) (fm ((ok_region_of T W).imp fun _ h => ⟨h.1, h.2.le (Nat.le_of_ble_eq_true rfl)⟩) (fm (val_int T (by kernel_rfl)) (fm (val_int T (by kernel_rfl)) (fm ((ok_rethrow_fault T W).imp fun _ h => ⟨h.1, h.2.le (Nat.le_of_ble_eq_true rfl)⟩) (fm (val_int T (by kernel_rfl)) (fm (val_int T (by kernel_rfl)) (fm ((ok_end_fault T W).imp fun _ h => ⟨h.1, h.2.le (Nat.le_of_ble_eq_true rfl)⟩) (fn0))))))))))) (Nat.le_of_ble_eq_true rfl)⟩

theorem ok_letters (T : Top vw (looseW vw []) mean mg mb h₀) (W : TopW vw mg h₀) : ∃ a, mg "_law_letters" = some (.ref a) ∧ PureOK prog w h₀ 1 a P_letters :=
  (fa_letters T).imp fun a h => ⟨h.1, pure_ok h.2 (gok T.g T.b 0 G_letters (fm (bi_len T) (fm (bi_range T) (fm (bi_enumerate T) (fn0))))) (Nat.le_of_ble_eq_true rfl)⟩

theorem ok_pair (T : Top vw (looseW vw []) mean mg mb h₀) (W : TopW vw mg h₀) : ∃ a, mg "_law_pair" = some (.ref a) ∧ PureOK prog w h₀ 1 a P_pair :=
  (fa_pair T).imp fun a h => ⟨h.1, pure_ok h.2 (gok T.g T.b 0 G_pair (fm (bi_zip T) (fm (bi_len T) (fn0)))) (Nat.le_of_ble_eq_true rfl)⟩

theorem ok_told (T : Top vw (looseW vw []) mean mg mb h₀) (W : TopW vw mg h₀) : ∃ a, mg "_law_told" = some (.ref a) ∧ PureOK prog w h₀ 2 a P_told :=
  (fa_told T).imp fun a h => ⟨h.1, pure_ok h.2 (gok T.g T.b 1 G_told (fm ((ok_letters T W).imp fun _ h => ⟨h.1, h.2.le (Nat.le_of_ble_eq_true rfl)⟩) (fm (bi_enumerate T) (fm (bi_range T) (fm (bi_len T) (fm ((ok_pair T W).imp fun _ h => ⟨h.1, h.2.le (Nat.le_of_ble_eq_true rfl)⟩) (fn0))))))) (Nat.le_of_ble_eq_true rfl)⟩

theorem ok_turned (T : Top vw (looseW vw []) mean mg mb h₀) (W : TopW vw mg h₀) : ∃ a, mg "_law_turned" = some (.ref a) ∧ PureOK prog w h₀ 1 a P_turned :=
  (fa_turned T).imp fun a h => ⟨h.1, pure_ok h.2 (gok T.g T.b 0 G_turned (fm (bi_len T) (fm (bi_list T) (fm (w_law_moves T W) (fm (bi_tuple T) (fn0)))))) (Nat.le_of_ble_eq_true rfl)⟩

theorem ok_take (T : Top vw (looseW vw []) mean mg mb h₀) (W : TopW vw mg h₀) : ∃ a, mg "_law_take" = some (.ref a) ∧ EffOK prog w h₀ 1 a E_take :=
  (fa_take T).imp fun a h => ⟨h.1, eff_ok h.2 (gok T.g T.b 0 G_take (fm (bi_len T) (fn0))) (Nat.le_of_ble_eq_true rfl)⟩

theorem ok_put (T : Top vw (looseW vw []) mean mg mb h₀) (W : TopW vw mg h₀) : ∃ a, mg "_law_put" = some (.ref a) ∧ EffOK prog w h₀ 1 a E_put :=
  (fa_put T).imp fun a h => ⟨h.1, eff_ok h.2 (gok T.g T.b 0 G_put (fn0)) (Nat.le_of_ble_eq_true rfl)⟩

theorem ok_region (T : Top vw (looseW vw []) mean mg mb h₀) (W : TopW vw mg h₀) : ∃ a, mg "_law_region" = some (.ref a) ∧ EffOK prog w h₀ 1 a E_region :=
  (fa_region T).imp fun a h => ⟨h.1, eff_ok h.2 (gok T.g T.b 0 G_region (fm (bi_len T) (fn0))) (Nat.le_of_ble_eq_true rfl)⟩

theorem ok_way (T : Top vw (looseW vw []) mean mg mb h₀) (W : TopW vw mg h₀) : ∃ a, mg "_law_way" = some (.ref a) ∧ EffOK prog w h₀ 1 a E_way :=
  (fa_way T).imp fun a h => ⟨h.1, eff_ok h.2 (gok T.g T.b 0 G_way (fm (bi_len T) (fn0))) (Nat.le_of_ble_eq_true rfl)⟩

theorem ok_stand (T : Top vw (looseW vw []) mean mg mb h₀) (W : TopW vw mg h₀) : ∃ a, mg "_law_stand" = some (.ref a) ∧ EffOK prog w h₀ 1 a E_stand :=
  (fa_stand T).imp fun a h => ⟨h.1, eff_ok h.2 (gok T.g T.b 0 G_stand (fn0)) (Nat.le_of_ble_eq_true rfl)⟩

theorem ok_block (T : Top vw (looseW vw []) mean mg mb h₀) (W : TopW vw mg h₀) (d : Nat) (tr : List (Str × GV)) (ht : ∀ p ∈ tr, GOK1 prog w h₀ (d + 1) mg mb p.1 p.2) : ∃ a, mg "_law_block" = some (.ref a) ∧ EffOK prog w h₀ (d + 2) a (E_block tr) :=
  (fa_block T).imp fun a h => ⟨h.1, eff_ok h.2 (gok T.g T.b (d + 1) (G_block tr) (fm ((ok_take T W).imp fun _ h => ⟨h.1, h.2.le (Nat.le_of_ble_eq_true rfl)⟩) (fm (bi_len T) (fm ((ok_put T W).imp fun _ h => ⟨h.1, h.2.le (Nat.le_of_ble_eq_true rfl)⟩) (fm (w_law_ops T W) ht))))) (by omega)⟩
theorem ok_try (T : Top vw (looseW vw []) mean mg mb h₀) (W : TopW vw mg h₀) (d : Nat) (f : List V → Sto → Option (V × Sto)) (hf : ∃ a, mg "_law_block" = some (.ref a) ∧ EffOK prog w h₀ (d + 1) a f) : ∃ a, mg "_law_try" = some (.ref a) ∧ EffOK prog w h₀ (d + 2) a (E_try f) :=
  (fa_try T).imp fun a h => ⟨h.1, eff_ok h.2 (gok T.g T.b (d + 1) (G_try f) (fm (bi_len T) (fm hf (fm ((ok_region T W).imp fun _ h => ⟨h.1, h.2.le (Nat.le_of_ble_eq_true rfl)⟩) (fm ((ok_take T W).imp fun _ h => ⟨h.1, h.2.le (Nat.le_of_ble_eq_true rfl)⟩) (fm (w_law_sorts T W) (fm ((ok_put T W).imp fun _ h => ⟨h.1, h.2.le (Nat.le_of_ble_eq_true rfl)⟩) (fm (w_law_ops T W) fn0)))))))) (by omega)⟩
theorem ok_EL (T : Top vw (looseW vw []) mean mg mb h₀) (W : TopW vw mg h₀) : ∀ d, ∃ a, mg "_law_block" = some (.ref a) ∧ EffOK prog w h₀ (2 * d + 2) a (EL d)
  | 0 => ok_block T W 0 [] fn0
  | d + 1 => ok_block T W (2 * d + 2) _ (fm (ok_try T W (2 * d + 1) (EL d) (ok_EL T W d)) fn0)

theorem ok_law (T : Top vw (looseW vw []) mean mg mb h₀) (W : TopW vw mg h₀) : GOK prog w h₀ 8 (mkG (G_law (EL 3) (E_try (EL 2)))) :=
  gok T.g T.b 8 _ (fm (bi_len T) (fm (bi_min T) (fm (bi_range T) (fm (ok_EL T W 3) (fm ((ok_try T W 5 (EL 2) (ok_EL T W 2)).imp fun _ h => ⟨h.1, h.2.le (by omega)⟩) (fm ((ok_region_faults T W).imp fun _ h => ⟨h.1, h.2.le (Nat.le_of_ble_eq_true rfl)⟩) (fm ((ok_take T W).imp fun _ h => ⟨h.1, h.2.le (Nat.le_of_ble_eq_true rfl)⟩) (fm ((ok_jump_fault T W).imp fun _ h => ⟨h.1, h.2.le (Nat.le_of_ble_eq_true rfl)⟩) (fm ((ok_way T W).imp fun _ h => ⟨h.1, h.2.le (Nat.le_of_ble_eq_true rfl)⟩) (fm (w_law_ops T W) (fm ((ok_stand_fault T W).imp fun _ h => ⟨h.1, h.2.le (Nat.le_of_ble_eq_true rfl)⟩) (fm ((ok_stand T W).imp fun _ h => ⟨h.1, h.2.le (Nat.le_of_ble_eq_true rfl)⟩) (fm ((ok_turned T W).imp fun _ h => ⟨h.1, h.2.le (Nat.le_of_ble_eq_true rfl)⟩) (fm ((ok_told T W).imp fun _ h => ⟨h.1, h.2.le (Nat.le_of_ble_eq_true rfl)⟩) (fn0)))))))))))))))

end
end Mine
end

section
open PySem PySem.W PyProof.Rows PySem.Calls
set_option autoImplicit false
set_option maxRecDepth 100000
set_option maxHeartbeats 4000000
set_option linter.unusedVariables false
namespace Mine
theorem caller_ok (env : Env) : AOk (callerA.deeper env) 8 150 := ⟨rfl, Nat.le_of_ble_eq_true rfl, Nat.le_of_ble_eq_true rfl⟩
theorem ints_rvs {X : Addr → Prop} {μ : List Addr} {h : Heap} {vs : List Value} {ns : List Int} (hI : IntsAre vs ns) : RVs X μ h (ns.map V.int) vs := by
  induction hI with
  | nil => exact .nil
  | cons n t _ ih => exact .cons (.int n t) ih
/-- what stands for the law: its body, run from a frame that holds the script alone, gives back True -/
noncomputable def LawRuns (script : List Int) : Prop := @cSs Fl (X_law (EL 3) (E_try (EL 2))) 150 F_law.body [("script", .lst (script.map .int))] [] kR = some (Fl.ret (.bool true))
theorem finish {prog : Program} {w : World} {s₁ s : Shared} {mg mb : Str → Option Value} {mean : ExcName → Option Value} {p : Program} {a : Addr} {vs : List Value} {script : List Int} {A : Around} {env : Env} {Q : Flow → Shared → Prop} {E : Value → Shared → Prop} {m : Str → Option Value}
    (hp : p = vw) (T : Top p (looseW p []) mean mg mb s₁.heap) (W : TopW p mg s₁.heap)
    (hL : s₁.heap.IsList a vs.toArray) (hI : IntsAre vs script) (F : Fr s₁.heap s₁.heap.objs.size s.heap m) (hm : m "script" = some (.ref a))
    (hA : AOk A 8 150) (hk : env.scope.kind = .function) (hn : ∀ x, env.kindOf x = F_law.names.lookup x) (hgl : env.globals = mainGlobals) (hbu : env.builtins = builtinsNs) (hlo : env.locals = s₁.heap.objs.size)
    (hrun : LawRuns script)
    (hQ : ∀ h' tk, (∀ b o, s₁.heap.get? b = some o → h'.get? b = some o) → Q (.ret (.bool true)) { s with heap := h', toks := tk }) :
    wpAny (model prog w) A (execs F_law.body env) Q E s := by
  subst hp
  have S : St prog w s₁.heap [] s.heap [] := ⟨F.keep, (fun a ha => by cases ha), List.nodup_nil, rfl, (fun k a c hk _ => by simp at hk)⟩
  have R : RM [] s.heap (.lst (script.map .int)) (.ref a) := by
    obtain ⟨o, ho, hc, n, hd⟩ := hL
    exact .lst (F.keep _ _ ho) hc hd (by simp) (by simpa using ints_rvs hI)
  have hoff : s₁.heap.get? env.locals = none := by rw [hlo]; exact size_none _
  have FF : FR s₁.heap (X_law (EL 3) (E_try (EL 2))) [("script", .lst (script.map .int))] env [] s.heap := by
    refine ⟨hk, fun x k hx => .inl ((hn x).trans hx), hgl, hbu, ⟨m, hlo ▸ F.ns, fun x V hx => ?_⟩, hoff, by simp, fun x V _ hx => ?_⟩
    · rw [List.lookup_cons] at hx
      split at hx
      · rename_i e
        cases hx
        have e : x = "script" := by simpa using e
        subst e
        exact ⟨_, hm, R⟩
      · simp at hx
    · simp [X_law] at hx
  refine (snd_stmts 150).2 (d := 8) hrun ⟨ok_law T W, FF, S, hA⟩ fun fl ρ' σ' f h' tk' μ' hK fr e' S' F' => ?_
  cases hK
  cases fr with
  | ret rv =>
    cases rv with
    | bool => exact hQ h' tk' fun b o ho => e'.1 b o (F.keep b o ho) (fun e => by rw [e, hoff] at ho; cases ho) (.inl (by simp))
set_option maxHeartbeats 8000000 in
/-- the law is well said, look by look -/
theorem law_said : PySem.Challenge.rw_sa0226_01.wellSaid = true := by
  unfold OpenLaw.wellSaid OpenRow.wellSaid OpenRow.partSaid looksOpen
  repeat' with_reducible refine look_both ?_ ?_
  all_goals as_aux_lemma => kernel_rfl
end Mine
end

open PySem PySem.W PyProof.Rows
set_option maxRecDepth 100000 in
set_option maxHeartbeats 8000000 in
theorem PySem.Challenge.cw_sa0226_01_holds : PySem.Challenge.rw_sa0226_01.Holds := by
  w_on
  refine PySem.W.holds_law Mine.law_said fun said => ?_
  o_head Hook.none
  (case hw => w_witness2)
  intro w s₀ s₁ mg mb G Y fa o pm cd doc dV kV ho hd hcd hD hmg hg args vals as hpre hlay hrd hwl hlo
  have X := (Ground.X G).1
  have V := (Ground.X G).2
  refine Ground.open G ?_
  intro T B D TE TW
  try (refine guard_noD D (by decide +kernel) ?_; clear D)
  obtain ⟨_, _, M⟩ := bmod_of_top T
  have TA := at_of_top T
  try (obtain ⟨_, _, he, B0⟩ := based_of_top T rfl hmg ho hd; have he' : cd = _ := he; subst he'; clear he)
  clear hmg
  wrow_args hpre hlay hrd hwl hlo
  all_goals (
    first | refine callC_kw (enter_call ?_) | refine enter_call ?_ | refine callC_kw (enter_callW ?_) | refine enter_callW ?_ | w_how
    w_top on
    try refine codeAny_mono ?_ (fun _ _ g => GoodW.toG g)
    w_call any ho hd hcd hD T F)
  rename Heap.IsList _ _ _ => hL
  rename IntsAre _ _ => hI
  rename ¬ _ < _ => hc
  refine Mine.finish (by kernel_rfl) T TW hL hI F rfl (Mine.caller_ok _) rfl (fun _ => rfl) rfl rfl rfl (Mine.runs _ (by omega)) (fun h' tk hk => ?_)
  refine ⟨.inl ⟨_, .bool true, [], rfl, raisesW_false ?_, .bool true, ?_, unshared_nil⟩, hk, rfl, hg⟩
  · wrow_none_raised
  · wrow_post
