import PyProof.Rows.All
import Wide.All
import OpenK.AllK
import Wide.FinOn
import PyProof.AttrMissHeap
import KE.KDictOf
import PySem.Challenge.RW_pq0166_01
open PySem PySem.W PyProof.Rows
set_option Elab.async false
set_option tactic.hygienic false
set_option autoImplicit false
set_option linter.all false
set_option maxRecDepth 100000
set_option maxHeartbeats 8000000
namespace Mine
set_option tactic.hygienic false
section
section
variable {a b c d x y i m : Nat}
theorem o1 (h : a ≤ b) (e : Nat.ble b c = true) : a ≤ c := Nat.le_trans h (Nat.le_of_ble_eq_true e)
theorem o2 (h : a ≤ b) (e : Nat.ble (b + 1) c = true) : a < c := Nat.lt_of_le_of_lt h (Nat.le_of_ble_eq_true e)
theorem o3 (h : a = b) (k : b ≤ c) : a ≤ c := h ▸ k
theorem o4 (h : b = a) (k : b ≤ c) : a ≤ c := h ▸ k
theorem oA (h : a ≤ OfNat.ofNat c) : a ≤ OfNat.ofNat c := h
theorem o5 (h : a < OfNat.ofNat c) : a ≤ OfNat.ofNat c - 1 := Nat.le_sub_one_of_lt h
theorem o6 (h : a + b ≤ OfNat.ofNat c) : a ≤ OfNat.ofNat c := Nat.le_trans (Nat.le_add_right a b) h
theorem o10 (h : b + a ≤ OfNat.ofNat c) : a ≤ OfNat.ofNat c := Nat.le_trans (Nat.le_add_left a b) h
theorem o12 (h : b + (x + a) ≤ OfNat.ofNat c) : a ≤ OfNat.ofNat c := Nat.le_trans (Nat.le_trans (Nat.le_add_left a x) (Nat.le_add_left _ b)) h
theorem o7 (h : a + (b + c) ≤ d) : a + b ≤ d := Nat.le_trans (Nat.add_le_add_left (Nat.le_add_right b c) a) h
theorem o8 (h : a + (b + c) ≤ d) : a + b + c ≤ d := Nat.add_assoc a b c ▸ h
theorem o9 (h : a + (b + c) ≤ d) : a + c ≤ d := Nat.le_trans (Nat.add_le_add_left (Nat.le_add_left c b) a) h
theorem o13 (h : a + (b + 1) ≤ d) : a + 1 + b ≤ d := o8 (Nat.add_comm b 1 ▸ h)
theorem oM {α β : Type _} {f : α → β} {l : List α} (h : l.length ≤ a) : (l.map f).length ≤ a := Nat.le_trans (Nat.le_of_eq (List.length_map f)) h
theorem oP {α : Type _} {l m : List α} (h : l.length ≤ a) (k : m.length ≤ b) : (l ++ m).length ≤ a + b := Nat.le_trans (Nat.le_of_eq List.length_append) (Nat.add_le_add h k)
theorem oC {α : Type _} {l : List α} {x : α} (h : l.length ≤ a) : (x :: l).length ≤ a + 1 := Nat.succ_le_succ h
theorem oN {α : Type _} : ([] : List α).length ≤ 0 := Nat.le_refl 0
theorem oR {α : Type _} {l : List α} (h : l.length ≤ a) : l.reverse.length ≤ a := Nat.le_trans (Nat.le_of_eq List.length_reverse) h
theorem oJ {p : Prop} (h : a ≤ OfNat.ofNat c ∧ p) : a ≤ OfNat.ofNat c := h.1
theorem oS (h : 1 ≤ a) : 0 < a := h
theorem oU (h : a + 70 < b) : a < b := Nat.lt_of_le_of_lt (Nat.le_add_right a 70) h
theorem oV (h : a + 70 < b) : a + 64 < b := Nat.lt_of_le_of_lt (Nat.add_le_add_left (Nat.le_of_ble_eq_true rfl) a) h
theorem oF (h : (a : Int) < 0) : False := Int.not_lt.mpr (Int.natCast_nonneg a) h
theorem e6 (h : x < 6) : x = 0 ∨ x = 1 ∨ x = 2 ∨ x = 3 ∨ x = 4 ∨ x = 5 := by omega
end
section
variable {a b x y i m : Int} {c d k : Nat}
theorem i1 (h : a ≤ b) (e : decide (b ≤ OfNat.ofNat c) = true) : a ≤ OfNat.ofNat c := Int.le_trans h (of_decide_eq_true e)
theorem i2 (h : b ≤ a) (e : decide (OfNat.ofNat c ≤ b) = true) : OfNat.ofNat c ≤ a := Int.le_trans (of_decide_eq_true e) h
theorem i3 (h : a ≤ b) (e : decide (b < OfNat.ofNat c) = true) : a < OfNat.ofNat c := Int.lt_of_le_of_lt h (of_decide_eq_true e)
theorem i4 (h : c ≤ d) : (c : Int) ≤ (d : Int) := Int.ofNat_le.mpr h
theorem iA (h : a ≤ OfNat.ofNat c) : a ≤ OfNat.ofNat c := h
theorem iB (k : 2 ≤ b) (h : a + b ≤ OfNat.ofNat c) : a ≤ OfNat.ofNat c := by omega
theorem i6 (h : c ≤ d) (e : Nat.ble d 9223372036854775807 = true) : (c : Int) < 2 ^ 63 := by have := Nat.le_of_ble_eq_true e; omega
theorem i7 : -2 ^ 63 ≤ (c : Int) := by omega
theorem i8 (h : 0 ≤ a) : -2 ^ 63 ≤ a := by omega
theorem i9 : a < a + 1 := Int.lt_succ a
theorem q0 (h : x ≤ i + m) (e : decide (m ≤ OfNat.ofNat c) = true) : x ≤ i + OfNat.ofNat c := Int.le_trans h (Int.add_le_add_left (of_decide_eq_true e) i)
theorem q1 {d : Int} (h : x ≤ y + d) (k : y ≤ i + m) : x ≤ i + (m + d) := by omega
theorem q2 {a b : Int} (h : x ≤ i + a + b) : x ≤ i + (a + b) := Int.add_assoc i a b ▸ h
theorem q3 {d : Int} (h : x ≤ i + m) : x + d ≤ i + (m + d) := by omega
theorem s2 (h : y < x) (k : i < y) : i < x := Int.lt_trans k h
theorem s3 (h : i < x) : i < x + 1 := Int.lt_trans h i9
theorem e2 (h : 0 ≤ x) (k : x < 2) : x = 0 ∨ x = 1 := by omega
theorem e3 (h : 0 ≤ x) (k : x < 3) : x = 0 ∨ x = 1 ∨ x = 2 := by omega
theorem e4 (h : 0 ≤ x) (k : x < 4) : x = 0 ∨ x = 1 ∨ x = 2 ∨ x = 3 := by omega
end
end
set_option tactic.hygienic false
section

inductive D where
  | none
  | bool (b : Bool)
  | int (i : Int)
  | str (x : Str)
  | tup (ds : List D)
  | lst (ds : List D)
  | dcts (kvs : List (Str × D))
  | dcti (kvs : List (Int × D))
  | rng (n : Nat)

inductive AV where
  | d (x : D)
  | cell (a : Addr)
  | raw (v : Value)

inductive Cell where
  | lst (ds : List D)
  | rev (ds : List D)
  | box (vs : List AV)
  | dcts (kvs : List (Str × AV))
  | dcti (kvs : List (Int × AV))

noncomputable abbrev PM := Addr → Option Obj
noncomputable abbrev St := Addr → Option Cell
noncomputable abbrev Ro := List (Str × AV)

noncomputable def SeqO (c : String) (vs : List Value) (o : Obj) : Prop := o.cls = .type c ∧ ∃ n, o.data = .seq vs.toArray n
theorem SeqO.of {c : String} {vs : List Value} {n : Nat} : SeqO c vs (seqObj c vs.toArray n) := ⟨rfl, _, rfl⟩
noncomputable def revTup (a : Addr) (i : Int) : Obj := { cls := .type "reversed", data := .fields #[.ref a, rawInt i] }
noncomputable abbrev rngObj (n : Nat) (t u v : Tok) : Obj := { cls := .type "range", dict := none, data := .fields #[.int 0 t, .int n u, .int 1 v], slots := #[] }

section
variable (prog : Program) (w : World)

mutual
inductive Rep (P : PM) : D → Value → Prop
  | none : Rep P .none .none
  | bool (b : Bool) : Rep P (.bool b) (.bool b)
  | int (i : Int) (t : Tok) : Rep P (.int i) (.int i t)
  | str (x : Str) (t : Tok) : Rep P (.str x) (.str x t)
  | tup {a : Addr} {o : Obj} {vs : List Value} {ds : List D} (h : P a = some o) (hs : SeqO "tuple" vs o) (r : Reps P ds vs) : Rep P (.tup ds) (.ref a)
  | lst {a : Addr} {o : Obj} {vs : List Value} {ds : List D} (h : P a = some o) (hs : SeqO "list" vs o) (r : Reps P ds vs) (nd : o.dict = none := by rfl) : Rep P (.lst ds) (.ref a)
  | rng {a : Addr} {n : Nat} {t u v : Tok} (h : P a = some (rngObj n t u v)) : Rep P (.rng n) (.ref a)
  | dcts {a : Addr} {o : Obj} {vk : List (Str × Value)} {kvs : List (Str × D)} (h : P a = some o) (hd : o.IsDictOf (strKind prog w) vk) (hlo : (a == sysModules) = false) (hk : kvs.map (·.1) = vk.map (·.1)) (r : Reps P (kvs.map (·.2)) (vk.map (·.2))) : Rep P (.dcts kvs) (.ref a)
  | dcti {a : Addr} {o : Obj} {vk : List (Int × Value)} {kvs : List (Int × D)} (h : P a = some o) (hd : o.IsDictOf (intKind prog w) vk) (hlo : (a == sysModules) = false) (hk : kvs.map (·.1) = vk.map (·.1)) (r : Reps P (kvs.map (·.2)) (vk.map (·.2))) : Rep P (.dcti kvs) (.ref a)
inductive Reps (P : PM) : List D → List Value → Prop
  | nil : Reps P [] []
  | cons {d : D} {ds : List D} {v : Value} {vs : List Value} (h : Rep P d v) (r : Reps P ds vs) : Reps P (d :: ds) (v :: vs)
end

theorem Reps.ind {P : PM} {m : List D → List Value → Prop} (nil : m [] []) (cons : ∀ {d : D} {ds : List D} {v : Value} {vs : List Value}, Rep prog w P d v → Reps prog w P ds vs → m ds vs → m (d :: ds) (v :: vs)) {ds : List D} {vs : List Value} (h : Reps prog w P ds vs) : m ds vs := by
  induction ds generalizing vs with
  | nil => cases h; exact nil
  | cons d ds ih => cases h with | cons a r => exact cons a r (ih r)
theorem Rep.mono {P P' : PM} (hle : ∀ a o, P a = some o → P' a = some o) {d : D} {v : Value} (h : Rep prog w P d v) : Rep prog w P' d v :=
  Rep.rec (motive_1 := fun d v _ => Rep prog w P' d v) (motive_2 := fun ds vs _ => Reps prog w P' ds vs) .none .bool .int .str
    (fun h hs _ ih => .tup (hle _ _ h) hs ih) (fun h hs _ nd ih => .lst (hle _ _ h) hs ih nd) (fun h => .rng (hle _ _ h))
    (fun h hd hlo hk _ ih => .dcts (hle _ _ h) hd hlo hk ih) (fun h hd hlo hk _ ih => .dcti (hle _ _ h) hd hlo hk ih) .nil (fun _ _ a b => .cons a b) h
theorem Reps.mono {P P' : PM} (hle : ∀ a o, P a = some o → P' a = some o) {ds : List D} {vs : List Value} (h : Reps prog w P ds vs) : Reps prog w P' ds vs :=
  Reps.ind prog w .nil (fun a _ ih => .cons (Rep.mono prog w hle a) ih) h

noncomputable def RepA (P : PM) : AV → Value → Prop
  | .d x, v => Rep prog w P x v
  | .cell a, v => v = .ref a
  | .raw u, v => v = u

inductive RepAs (P : PM) : List AV → List Value → Prop
  | nil : RepAs P [] []
  | cons {d : AV} {ds : List AV} {v : Value} {vs : List Value} (h : RepA prog w P d v) (r : RepAs P ds vs) : RepAs P (d :: ds) (v :: vs)

noncomputable def CellRep (P : PM) : Cell → Addr → Obj → Prop
  | .lst ds, _, o => ∃ vs n, o = seqObj "list" vs.toArray n ∧ Reps prog w P ds vs
  | .rev ds, _, o => ∃ l o' vs, P l = some o' ∧ Reps prog w P ds vs ∧ ((SeqO "list" vs o' ∧ o = revObj l ((vs.length : Int) - 1)) ∨ (SeqO "tuple" vs o' ∧ o = revTup l ((vs.length : Int) - 1)))
  | .box as, _, o => ∃ vs, SeqO "list" vs o ∧ RepAs prog w P as vs
  | .dcts kvs, a, o => ∃ vk, o.IsDictOf (strKind prog w) vk ∧ (a == sysModules) = false ∧ kvs.map (·.1) = vk.map (·.1) ∧ RepAs prog w P (kvs.map (·.2)) (vk.map (·.2))
  | .dcti kvs, a, o => ∃ vk, o.IsDictOf (intKind prog w) vk ∧ (a == sysModules) = false ∧ kvs.map (·.1) = vk.map (·.1) ∧ RepAs prog w P (kvs.map (·.2)) (vk.map (·.2))

variable {prog w}
theorem RepA.mono {P P' : PM} (hle : ∀ a o, P a = some o → P' a = some o) {a : AV} {v : Value} (h : RepA prog w P a v) : RepA prog w P' a v := by
  cases a with
  | d x => exact Rep.mono prog w hle h
  | cell a => exact h
  | raw u => exact h
theorem RepAs.mono {P P' : PM} (hle : ∀ a o, P a = some o → P' a = some o) {as : List AV} {vs : List Value} (h : RepAs prog w P as vs) : RepAs prog w P' as vs := by
  induction h with
  | nil => exact .nil
  | cons h _ ih => exact .cons (h.mono hle) ih
theorem CellRep.mono {P P' : PM} (hle : ∀ a o, P a = some o → P' a = some o) {c : Cell} {a : Addr} {o : Obj} (h : CellRep prog w P c a o) : CellRep prog w P' c a o := by
  cases c with
  | lst ds => obtain ⟨vs, n, h1, h2⟩ := h; exact ⟨vs, n, h1, Reps.mono prog w hle h2⟩
  | rev ds => obtain ⟨l, o', vs, h1, h2, h3⟩ := h; exact ⟨l, o', vs, hle _ _ h1, Reps.mono prog w hle h2, h3⟩
  | box as => obtain ⟨vs, h1, h2⟩ := h; exact ⟨vs, h1, h2.mono hle⟩
  | dcts kvs => obtain ⟨vk, h1, h2, h3, h4⟩ := h; exact ⟨vk, h1, h2, h3, h4.mono hle⟩
  | dcti kvs => obtain ⟨vk, h1, h2, h3, h4⟩ := h; exact ⟨vk, h1, h2, h3, h4.mono hle⟩

theorem Reps.length {P : PM} {ds : List D} {vs : List Value} (h : Reps prog w P ds vs) : vs.length = ds.length :=
  Reps.ind prog w (m := fun ds vs => vs.length = ds.length) rfl (fun _ _ ih => congrArg Nat.succ ih) h
theorem RepAs.length {P : PM} {ds : List AV} {vs : List Value} (h : RepAs prog w P ds vs) : vs.length = ds.length := by
  induction h with
  | nil => rfl
  | cons _ _ ih => exact congrArg Nat.succ ih
theorem Reps.append {P : PM} {ds : List D} {vs : List Value} {ds' : List D} {vs' : List Value} (h : Reps prog w P ds vs) (h' : Reps prog w P ds' vs') : Reps prog w P (ds ++ ds') (vs ++ vs') :=
  Reps.ind prog w (m := fun ds vs => Reps prog w P (ds ++ ds') (vs ++ vs')) h' (fun a _ ih => .cons a ih) h
theorem Reps.get {P : PM} {ds : List D} {vs : List Value} (h : Reps prog w P ds vs) {i : Nat} {d : D} (e : ds[i]? = some d) : ∃ v, vs[i]? = some v ∧ Rep prog w P d v := by
  induction i generalizing ds vs with
  | zero => cases h with
    | nil => cases e
    | cons h r => cases e; exact ⟨_, rfl, h⟩
  | succ i ih => cases h with
    | nil => cases e
    | cons h r => exact ih r e
theorem RepAs.get {P : PM} {ds : List AV} {vs : List Value} (h : RepAs prog w P ds vs) {i : Nat} {d : AV} (e : ds[i]? = some d) : ∃ v, vs[i]? = some v ∧ RepA prog w P d v := by
  induction i generalizing ds vs with
  | zero => cases h with
    | nil => cases e
    | cons h r => cases e; exact ⟨_, rfl, h⟩
  | succ i ih => cases h with
    | nil => cases e
    | cons h r => exact ih r e
theorem Reps.reverse {P : PM} {ds : List D} {vs : List Value} (h : Reps prog w P ds vs) : Reps prog w P ds.reverse vs.reverse :=
  Reps.ind prog w (m := fun ds vs => Reps prog w P ds.reverse vs.reverse) .nil (fun a _ ih => by rw [List.reverse_cons, List.reverse_cons]; exact ih.append (.cons a .nil)) h
theorem Reps.take {P : PM} {ds : List D} {vs : List Value} (h : Reps prog w P ds vs) : ∀ n, Reps prog w P (ds.take n) (vs.take n) :=
  Reps.ind prog w (m := fun ds vs => ∀ n, Reps prog w P (ds.take n) (vs.take n)) (fun n => by cases n <;> exact .nil) (fun a _ ih n => by cases n with | zero => exact .nil | succ n => exact .cons a (ih n)) h
theorem Reps.drop {P : PM} {ds : List D} {vs : List Value} (h : Reps prog w P ds vs) : ∀ n, Reps prog w P (ds.drop n) (vs.drop n) :=
  Reps.ind prog w (m := fun ds vs => ∀ n, Reps prog w P (ds.drop n) (vs.drop n)) (fun n => by cases n <;> exact .nil) (fun a r ih n => by cases n with | zero => exact .cons a r | succ n => exact ih n) h
theorem Reps.as {P : PM} {ds : List D} {vs : List Value} (h : Reps prog w P ds vs) : RepAs prog w P (ds.map .d) vs :=
  Reps.ind prog w (m := fun ds vs => RepAs prog w P (ds.map .d) vs) .nil (fun a _ ih => .cons a ih) h
theorem RepAs.ds {P : PM} {ds : List D} {vs : List Value} (h : RepAs prog w P (ds.map .d) vs) : Reps prog w P ds vs := by
  induction ds generalizing vs with
  | nil => cases h; exact .nil
  | cons d ds ih => cases h with | cons a r => exact .cons a (ih r)
end

structure SH (prog : Program) (w : World) (hB : Heap) (P : PM) (σ : St) (h : Heap) : Prop where
  base : ∀ a o, hB.get? a = some o → P a = some o
  keepP : ∀ a o, P a = some o → h.get? a = some o
  cells : ∀ a c, σ a = some c → P a = none ∧ ∃ o, h.get? a = some o ∧ CellRep prog w P c a o

structure SS (prog : Program) (w : World) (s₁ : Shared) (P : PM) (σ : St) (s : Shared) : Prop where
  sh : SH prog w s₁.heap P σ s.heap
  gens : s.gens = #[]
  os : s.os = s₁.os

structure Step (X : Addr → Prop) (P : PM) (σ : St) (h : Heap) (P' : PM) (σ' : St) (h' : Heap) : Prop where
  le : ∀ a o, P a = some o → P' a = some o
  keep : ∀ b o, h.get? b = some o → σ b = none → ¬ X b → h'.get? b = some o
  newP : ∀ b o, P' b = some o → P b = some o ∨ h.get? b = none ∨ σ b ≠ none
  newS : ∀ b c, σ' b = some c → σ b ≠ none ∨ h.get? b = none
  live : ∀ b o, h.get? b = some o → ¬ X b → ∃ o', h'.get? b = some o'

noncomputable def X0 : Addr → Prop := fun _ => False

theorem Step.refl {X : Addr → Prop} {P : PM} {σ : St} {h : Heap} : Step X P σ h P σ h :=
  ⟨fun _ _ e => e, fun _ _ e _ _ => e, fun _ _ e => .inl e, fun b c e => .inl (by rw [e]; exact fun x => nomatch x), fun _ o e _ => ⟨o, e⟩⟩

theorem Step.trans {X : Addr → Prop} {P P₁ P₂ : PM} {σ σ₁ σ₂ : St} {h h₁ h₂ : Heap} (a : Step X P σ h P₁ σ₁ h₁) (b : Step X P₁ σ₁ h₁ P₂ σ₂ h₂) (hX : ∀ x o, X x → h.get? x = some o → σ x = none ∧ ∃ o', h₁.get? x = some o') : Step X P σ h P₂ σ₂ h₂ where
  le := fun x o e => b.le x o (a.le x o e)
  keep := fun x o e hs hx => by
    refine b.keep x o (a.keep x o e hs hx) ?_ hx
    cases h1 : σ₁ x with
    | none => rfl
    | some c => rcases a.newS x c h1 with q | q
                · exact absurd hs q
                · rw [q] at e; cases e
  newP := fun x o e => by
    rcases b.newP x o e with q | q | q
    · exact a.newP x o q
    · cases h0 : h.get? x with
      | none => exact .inr (.inl rfl)
      | some o0 =>
        by_cases hs : σ x = none
        · by_cases hx : X x
          · obtain ⟨_, o', ho'⟩ := hX x o0 hx h0
            rw [ho'] at q; cases q
          · rw [a.keep x o0 h0 hs hx] at q; cases q
        · exact .inr (.inr hs)
    · cases h1 : σ₁ x with
      | none => exact absurd h1 q
      | some c => rcases a.newS x c h1 with q' | q'
                  · exact .inr (.inr q')
                  · exact .inr (.inl q')
  newS := fun x c e => by
    rcases b.newS x c e with q | q
    · cases h1 : σ₁ x with
      | none => exact absurd h1 q
      | some c => exact a.newS x c h1
    · cases h0 : h.get? x with
      | none => exact .inr rfl
      | some o0 =>
        by_cases hs : σ x = none
        · by_cases hx : X x
          · obtain ⟨_, o', ho'⟩ := hX x o0 hx h0
            rw [ho'] at q; cases q
          · rw [a.keep x o0 h0 hs hx] at q; cases q
        · exact .inl hs
  live := fun x o e hx => (a.live x o e hx).elim fun o' e' => b.live x o' e' hx

theorem Step.trans0 {P P₁ P₂ : PM} {σ σ₁ σ₂ : St} {h h₁ h₂ : Heap} (a : Step X0 P σ h P₁ σ₁ h₁) (b : Step X0 P₁ σ₁ h₁ P₂ σ₂ h₂) : Step X0 P σ h P₂ σ₂ h₂ := a.trans b fun _ _ x => x.elim

theorem Step.weaken {X : Addr → Prop} {P P' : PM} {σ σ' : St} {h h' : Heap} (a : Step X0 P σ h P' σ' h') : Step X P σ h P' σ' h' :=
  ⟨a.le, fun b o e hs _ => a.keep b o e hs id, a.newP, a.newS, fun b o e _ => a.live b o e id⟩

theorem Step.grow {P : PM} {σ : St} {h h' : Heap} (hk : ∀ b o, h.get? b = some o → h'.get? b = some o) : Step X0 P σ h P σ h' :=
  ⟨fun _ _ e => e, fun b o e _ _ => hk b o e, fun _ _ e => .inl e, fun b c e => .inl (by rw [e]; exact fun x => nomatch x), fun b o e _ => ⟨o, hk b o e⟩⟩

noncomputable def upd {α : Type} (f : Addr → Option α) (a : Addr) (x : α) : Addr → Option α := fun b => if b = a then some x else f b
noncomputable def del {α : Type} (f : Addr → Option α) (a : Addr) : Addr → Option α := fun b => if b = a then none else f b
@[simp] theorem upd_same {α : Type} {f : Addr → Option α} {a : Addr} {x : α} : upd f a x a = some x := if_pos rfl
theorem upd_ne {α : Type} {f : Addr → Option α} {a b : Addr} {x : α} (h : b ≠ a) : upd f a x b = f b := if_neg h
@[simp] theorem del_same {α : Type} {f : Addr → Option α} {a : Addr} : del f a a = none := if_pos rfl
theorem del_ne {α : Type} {f : Addr → Option α} {a b : Addr} (h : b ≠ a) : del f a b = f b := if_neg h
theorem upd_upd {α : Type} {f : Addr → Option α} {a : Addr} {x y : α} : upd (upd f a x) a y = upd f a y := by
  funext b; unfold upd; by_cases h : b = a <;> simp [h]

section
variable {prog : Program} {w : World} {hB : Heap} {P : PM} {σ : St} {h : Heap}

theorem SH.fresh (S : SH prog w hB P σ h) {b : Addr} (hb : h.get? b = none) : P b = none ∧ σ b = none := by
  constructor
  · cases e : P b with
    | none => rfl
    | some o => rw [S.keepP b o e] at hb; cases hb
  · cases e : σ b with
    | none => rfl
    | some c => obtain ⟨_, o, ho, _⟩ := S.cells b c e; rw [ho] at hb; cases hb

theorem SH.grow (S : SH prog w hB P σ h) {h' : Heap} (hk : ∀ b o, h.get? b = some o → h'.get? b = some o) : SH prog w hB P σ h' :=
  ⟨S.base, fun a o e => hk a o (S.keepP a o e), fun a c e => (S.cells a c e).imp id fun x => x.imp fun o y => ⟨hk a o y.1, y.2⟩⟩

theorem SH.off (S : SH prog w hB P σ h) {h' : Heap} {a : Addr} (hs : Heap.SameBut a h h') (hP : P a = none) (hσ : σ a = none) : SH prog w hB P σ h' :=
  ⟨S.base, fun b o e => (hs.2 b fun q => by subst q; rw [hP] at e; cases e).trans (S.keepP b o e),
   fun b c e => (S.cells b c e).imp id fun x => x.imp fun o y => ⟨(hs.2 b fun q => by subst q; rw [hσ] at e; cases e).trans y.1, y.2⟩⟩

theorem SH.newData (S : SH prog w hB P σ h) {h' : Heap} {a : Addr} {o : Obj} (hk : ∀ b o, h.get? b = some o → h'.get? b = some o) (ha : h.get? a = none) (ho : h'.get? a = some o) : SH prog w hB (upd P a o) σ h' := by
  have hf := S.fresh ha
  have hle : ∀ b o', P b = some o' → upd P a o b = some o' := fun b o' e => by
    rw [upd_ne (fun q => by subst q; rw [hf.1] at e; cases e)]; exact e
  refine ⟨fun b o' e => hle b o' (S.base b o' e), fun b o' e => ?_, fun b c e => ?_⟩
  · by_cases hb : b = a
    · subst hb; rw [upd_same] at e; cases e; exact ho
    · rw [upd_ne hb] at e; exact hk b o' (S.keepP b o' e)
  · obtain ⟨h1, o', ho', hr⟩ := S.cells b c e
    have hb : b ≠ a := fun q => by subst q; rw [hf.2] at e; cases e
    exact ⟨by rw [upd_ne hb]; exact h1, o', hk b o' ho', hr.mono hle⟩
theorem Step.newData (S : SH prog w hB P σ h) {h' : Heap} {a : Addr} {o : Obj} (hk : ∀ b o, h.get? b = some o → h'.get? b = some o) (ha : h.get? a = none) : Step X0 P σ h (upd P a o) σ h' := by
  have hf := S.fresh ha
  refine ⟨fun b o' e => by rw [upd_ne (fun q => by subst q; rw [hf.1] at e; cases e)]; exact e, fun b o e _ _ => hk b o e, fun b o' e => ?_, fun b c e => .inl (by rw [e]; exact fun x => nomatch x), fun b o e _ => ⟨o, hk b o e⟩⟩
  by_cases hb : b = a
  · subst hb; exact .inr (.inl ha)
  · rw [upd_ne hb] at e; exact .inl e

theorem SH.newCell (S : SH prog w hB P σ h) {h' : Heap} {a : Addr} {o : Obj} {c : Cell} (hk : ∀ b o, h.get? b = some o → h'.get? b = some o) (ha : h.get? a = none) (ho : h'.get? a = some o) (hr : CellRep prog w P c a o) : SH prog w hB P (upd σ a c) h' := by
  have hf := S.fresh ha
  refine ⟨S.base, fun b o' e => hk b o' (S.keepP b o' e), fun b c' e => ?_⟩
  by_cases hb : b = a
  · subst hb; rw [upd_same] at e; cases e; exact ⟨hf.1, o, ho, hr⟩
  · rw [upd_ne hb] at e
    obtain ⟨h1, o', ho', hr'⟩ := S.cells b c' e
    exact ⟨h1, o', hk b o' ho', hr'⟩
theorem Step.newCell {h' : Heap} {a : Addr} {c : Cell} (hk : ∀ b o, h.get? b = some o → h'.get? b = some o) (ha : h.get? a = none) : Step X0 P σ h P (upd σ a c) h' := by
  refine ⟨fun b o e => e, fun b o e _ _ => hk b o e, fun b o e => .inl e, fun b c' e => ?_, fun b o e _ => ⟨o, hk b o e⟩⟩
  by_cases hb : b = a
  · subst hb; exact .inr ha
  · rw [upd_ne hb] at e; exact .inl (by rw [e]; exact fun x => nomatch x)

theorem SH.setCell (S : SH prog w hB P σ h) {h' : Heap} {a : Addr} {o : Obj} {c : Cell} (hs : Heap.SameBut a h h') (hσ : σ a ≠ none) (ho : h'.get? a = some o) (hr : CellRep prog w P c a o) : SH prog w hB P (upd σ a c) h' := by
  cases hσa : σ a with
  | none => exact absurd hσa hσ
  | some c₀ =>
  have hPa := (S.cells a c₀ hσa).1
  refine ⟨S.base, fun b o' e => (hs.2 b fun q => by subst q; rw [hPa] at e; cases e).trans (S.keepP b o' e), fun b c' e => ?_⟩
  by_cases hb : b = a
  · subst hb; rw [upd_same] at e; cases e; exact ⟨hPa, o, ho, hr⟩
  · rw [upd_ne hb] at e
    obtain ⟨h1, o', ho', hr'⟩ := S.cells b c' e
    exact ⟨h1, o', (hs.2 b hb).trans ho', hr'⟩
theorem Step.setCell {h' : Heap} {a : Addr} {c : Cell} {o₀ : Obj} (hs : Heap.SameBut a h h') (hσ : σ a ≠ none) (ho : h'.get? a = some o₀) : Step X0 P σ h P (upd σ a c) h' := by
  refine ⟨fun b o e => e, fun b o e q _ => (hs.2 b fun x => by subst x; exact hσ q).trans e, fun b o e => .inl e, fun b c' e => ?_, fun b o e _ => ?_⟩
  rotate_left
  · by_cases hb : b = a
    · subst hb; exact ⟨_, ho⟩
    · exact ⟨o, (hs.2 b hb).trans e⟩
  by_cases hb : b = a
  · subst hb; exact .inl hσ
  · rw [upd_ne hb] at e; exact .inl (by rw [e]; exact fun x => nomatch x)

theorem SH.freeze (S : SH prog w hB P σ h) {a : Addr} {o : Obj} (hσ : σ a ≠ none) (ho : h.get? a = some o) : SH prog w hB (upd P a o) (del σ a) h := by
  cases hσa : σ a with
  | none => exact absurd hσa hσ
  | some c₀ =>
  have hPa := (S.cells a c₀ hσa).1
  have hle : ∀ b o', P b = some o' → upd P a o b = some o' := fun b o' e => by
    rw [upd_ne (fun q => by subst q; rw [hPa] at e; cases e)]; exact e
  refine ⟨fun b o' e => hle b o' (S.base b o' e), fun b o' e => ?_, fun b c e => ?_⟩
  · by_cases hb : b = a
    · subst hb; rw [upd_same] at e; cases e; exact ho
    · rw [upd_ne hb] at e; exact S.keepP b o' e
  · by_cases hb : b = a
    · subst hb; rw [del_same] at e; cases e
    · rw [del_ne hb] at e
      obtain ⟨h1, o', ho', hr⟩ := S.cells b c e
      exact ⟨by rw [upd_ne hb]; exact h1, o', ho', hr.mono hle⟩
theorem Step.freeze (S : SH prog w hB P σ h) {a : Addr} {o : Obj} (hσ : σ a ≠ none) : Step X0 P σ h (upd P a o) (del σ a) h := by
  cases hσa : σ a with
  | none => exact absurd hσa hσ
  | some c₀ =>
  have hPa := (S.cells a c₀ hσa).1
  refine ⟨fun b o' e => by rw [upd_ne (fun q => by subst q; rw [hPa] at e; cases e)]; exact e, fun b o e _ _ => e, fun b o' e => ?_, fun b c e => ?_, fun b o e _ => ⟨o, e⟩⟩
  · by_cases hb : b = a
    · subst hb; exact .inr (.inr hσ)
    · rw [upd_ne hb] at e; exact .inl e
  · by_cases hb : b = a
    · subst hb; exact .inl hσ
    · rw [del_ne hb] at e; exact .inl (by rw [e]; exact fun x => nomatch x)
end

structure SF (prog : Program) (w : World) (env : Env) (ρ : Ro) (P : PM) (σ : St) (h : Heap) : Prop where
  kind : env.scope.kind = .function
  glob : env.globals = mainGlobals
  blt : env.builtins = builtinsNs
  ns : ∃ m, h.Ns env.locals m ∧ ∀ p ∈ ρ, env.kindOf p.1 = some .local → ∃ v, m p.1 = some v ∧ RepA prog w P p.2 v
  cl : ∀ p ∈ ρ, env.kindOf p.1 ≠ some .local → ∃ c v, (env.kindOf p.1 = some .cell ∨ env.kindOf p.1 = some .free) ∧ env.cells.lookup p.1 = some c ∧ h.IsCell c (some v) ∧ RepA prog w P p.2 v
  offL : P env.locals = none ∧ σ env.locals = none
  offC : ∀ x c, env.cells.lookup x = some c → P c = none ∧ σ c = none ∧ ∃ u, h.IsCell c u
  has : ∀ x, (env.kindOf x = some .cell ∨ env.kindOf x = some .free) → ∃ c, env.cells.lookup x = some c
  inj : ∀ x y c, env.cells.lookup x = some c → env.cells.lookup y = some c → x = y
  nocd : env.cells.lookup (Str.ofString "__classdict__") = none

noncomputable def Fa (env : Env) (b : Addr) : Prop := b = env.locals ∨ ∃ x, env.cells.lookup x = some b
noncomputable def Own (env : Env) (b : Addr) : Prop := b = env.locals ∨ (env.func.isSome = true ∧ ∃ x, env.cells.lookup x = some b)
theorem Own.fa {env : Env} {b : Addr} (h : Own env b) : Fa env b := h.imp id fun h => h.2

theorem SF.fa {prog : Program} {w : World} {env : Env} {ρ : Ro} {P : PM} {σ : St} {h : Heap} (F : SF prog w env ρ P σ h) {b : Addr} (hb : Fa env b) : P b = none ∧ σ b = none ∧ ∃ o, h.get? b = some o := by
  rcases hb with rfl | ⟨x, hx⟩
  · obtain ⟨m, ⟨o, es, ep, ho, _⟩, _⟩ := F.ns
    exact ⟨F.offL.1, F.offL.2, o, ho⟩
  · obtain ⟨h1, h2, u, o, ho, _⟩ := F.offC x b hx
    exact ⟨h1, h2, o, ho⟩
theorem SF.own {prog : Program} {w : World} {env : Env} {ρ : Ro} {P : PM} {σ : St} {h : Heap} (F : SF prog w env ρ P σ h) {b : Addr} (hb : Own env b) : P b = none ∧ σ b = none ∧ ∃ o, h.get? b = some o := F.fa hb.fa

theorem SF.step {prog : Program} {w : World} {env : Env} {ρ : Ro} {P P' : PM} {σ σ' : St} {h h' : Heap} (F : SF prog w env ρ P σ h) (t : Step X0 P σ h P' σ' h') : SF prog w env ρ P' σ' h' := by
  have up : ∀ b, P b = none → σ b = none → (∃ o, h.get? b = some o) → P' b = none ∧ σ' b = none := by
    rintro b h1 h2 ⟨o, ho⟩
    constructor
    · cases e : P' b with
      | none => rfl
      | some o' => rcases t.newP b o' e with q | q | q
                   · rw [h1] at q; cases q
                   · rw [ho] at q; cases q
                   · exact absurd h2 q
    · cases e : σ' b with
      | none => rfl
      | some c => rcases t.newS b c e with q | q
                  · exact absurd h2 q
                  · rw [ho] at q; cases q
  have hL : ∀ o, h.get? env.locals = some o → h'.get? env.locals = some o := fun o e => t.keep _ o e F.offL.2 id
  have hC : ∀ x c u, env.cells.lookup x = some c → h.IsCell c u → h'.IsCell c u := fun x c u e y => y.imp fun o z => ⟨t.keep c o z.1 (F.offC x c e).2.1 id, z.2⟩
  refine ⟨F.kind, F.glob, F.blt, ?_, fun p hp hk => ?_, ?_, fun x c e => ?_, F.has, F.inj, F.nocd⟩
  · obtain ⟨m, hn, hm⟩ := F.ns
    exact ⟨m, hn.at' hL, fun p hp hk => (hm p hp hk).imp fun _ y => ⟨y.1, y.2.mono t.le⟩⟩
  · obtain ⟨c, v, h1, h2, h3, h4⟩ := F.cl p hp hk
    exact ⟨c, v, h1, h2, hC _ c _ h2 h3, h4.mono t.le⟩
  · obtain ⟨m, ⟨o, es, ep, ho, _⟩, _⟩ := F.ns
    exact up _ F.offL.1 F.offL.2 ⟨o, ho⟩
  · obtain ⟨h1, h2, u, o, ho, hd⟩ := F.offC x c e
    obtain ⟨h3, h4⟩ := up c h1 h2 ⟨o, ho⟩
    exact ⟨h3, h4, u, hC x c u e ⟨o, ho, hd⟩⟩

theorem SF.sub {prog : Program} {w : World} {env : Env} {ρ ρ' : Ro} {P : PM} {σ : St} {h : Heap} (F : SF prog w env ρ P σ h) (hs : ∀ p ∈ ρ', p ∈ ρ) : SF prog w env ρ' P σ h :=
  ⟨F.kind, F.glob, F.blt, F.ns.imp fun _ y => ⟨y.1, fun p hp => y.2 p (hs p hp)⟩, fun p hp => F.cl p (hs p hp), F.offL, F.offC, F.has, F.inj, F.nocd⟩

structure OkA (n : Nat) (A : Around) : Prop where
  handled : A.handled = none
  depth : A.depth + n < 900
  units : A.units + 8 * n + 100 < 9000
  guards : A.guards = some []
end
set_option tactic.hygienic false
section

structure Gm where
  prog : Program
  w : World
  s₁ : Shared

noncomputable abbrev Gm.M (g : Gm) : Model := model g.prog g.w

section
variable (g : Gm)

noncomputable def PostE (P : PM) (σ : St) (h : Heap) (Q : AV → St → Prop) (v : Value) (s' : Shared) : Prop :=
  ∃ a P' σ', Q a σ' ∧ RepA g.prog g.w P' a v ∧ SS g.prog g.w g.s₁ P' σ' s' ∧ Step X0 P σ h P' σ' s'.heap
noncomputable def PostEs (P : PM) (σ : St) (h : Heap) (Q : List AV → St → Prop) (vs : List Value) (s' : Shared) : Prop :=
  ∃ as P' σ', Q as σ' ∧ RepAs g.prog g.w P' as vs ∧ SS g.prog g.w g.s₁ P' σ' s' ∧ Step X0 P σ h P' σ' s'.heap
noncomputable def PostB (P : PM) (σ : St) (h : Heap) (Q : Bool → St → Prop) (b : Bool) (s' : Shared) : Prop :=
  ∃ P' σ', Q b σ' ∧ SS g.prog g.w g.s₁ P' σ' s' ∧ Step X0 P σ h P' σ' s'.heap
noncomputable def PostU (P : PM) (σ : St) (h : Heap) (Q : St → Prop) (s' : Shared) : Prop :=
  ∃ P' σ', Q σ' ∧ SS g.prog g.w g.s₁ P' σ' s' ∧ Step X0 P σ h P' σ' s'.heap

inductive Fl where
  | next | brk | cont
  | ret (a : AV)
noncomputable def FlRep (P : PM) : Fl → Flow → Prop
  | .next, f => f = .next
  | .brk, f => f = .brk
  | .cont, f => f = .cont
  | .ret a, f => ∃ v, f = .ret v ∧ RepA g.prog g.w P a v

noncomputable def PostS (env : Env) (P : PM) (σ : St) (h : Heap) (Q : Fl → Ro → St → Prop) (f : Flow) (s' : Shared) : Prop :=
  ∃ fl ρ' P' σ', Q fl ρ' σ' ∧ FlRep g P' fl f ∧ SS g.prog g.w g.s₁ P' σ' s' ∧ SF g.prog g.w env ρ' P' σ' s'.heap ∧ Step (Own env) P σ h P' σ' s'.heap

noncomputable def WE (n : Nat) (env : Env) (ρ : Ro) (σ : St) (e : Expr) (Q : AV → St → Prop) : Prop :=
  ∀ A E P s, OkA n A → SS g.prog g.w g.s₁ P σ s → SF g.prog g.w env ρ P σ s.heap → wpAny g.M A (eval e env) (PostE g P σ s.heap Q) E s
noncomputable def WT (n : Nat) (env : Env) (ρ : Ro) (σ : St) (e : Expr) (Q : Bool → St → Prop) : Prop :=
  ∀ A E P s, OkA n A → SS g.prog g.w g.s₁ P σ s → SF g.prog g.w env ρ P σ s.heap → wpAny g.M A (isTrue e env (eval e env)) (PostB g P σ s.heap Q) E s
noncomputable def WEs (n : Nat) (env : Env) (ρ : Ro) (σ : St) (es : List Expr) (Q : List AV → St → Prop) : Prop :=
  ∀ pos A E P s, OkA n A → SS g.prog g.w g.s₁ P σ s → SF g.prog g.w env ρ P σ s.heap → wpAny g.M A (spliced (backTo pos (starEach es env))) (PostEs g P σ s.heap Q) E s
noncomputable def WS (n : Nat) (env : Env) (ρ : Ro) (σ : St) (st : Stmt) (Q : Fl → Ro → St → Prop) : Prop :=
  ∀ A E P s, OkA n A → SS g.prog g.w g.s₁ P σ s → SF g.prog g.w env ρ P σ s.heap → wpAny g.M A (exec st env) (PostS g env P σ s.heap Q) E s
noncomputable def WSs (n : Nat) (env : Env) (ρ : Ro) (σ : St) (sts : List Stmt) (Q : Fl → Ro → St → Prop) : Prop :=
  ∀ A E P s, OkA n A → SS g.prog g.w g.s₁ P σ s → SF g.prog g.w env ρ P σ s.heap → wpAny g.M A (execs sts env) (PostS g env P σ s.heap Q) E s
noncomputable def W1 (n : Nat) (t : Value → Sem Value) (a : AV) (σ : St) (Q : AV → St → Prop) : Prop :=
  ∀ A E P s v, OkA n A → SS g.prog g.w g.s₁ P σ s → RepA g.prog g.w P a v → wpAny g.M A (t v) (PostE g P σ s.heap Q) E s
noncomputable def W2 (n : Nat) (t : Value → Value → Sem Value) (a b : AV) (σ : St) (Q : AV → St → Prop) : Prop :=
  ∀ A E P s v u, OkA n A → SS g.prog g.w g.s₁ P σ s → RepA g.prog g.w P a v → RepA g.prog g.w P b u → wpAny g.M A (t v u) (PostE g P σ s.heap Q) E s
noncomputable def WN (n : Nat) (t : List Value → Sem Value) (as : List AV) (σ : St) (Q : AV → St → Prop) : Prop :=
  ∀ A E P s vs, OkA n A → SS g.prog g.w g.s₁ P σ s → RepAs g.prog g.w P as vs → wpAny g.M A (t vs) (PostE g P σ s.heap Q) E s
noncomputable def WTr (n : Nat) (a : AV) (σ : St) (Q : Bool → St → Prop) : Prop :=
  ∀ A E P s v, OkA n A → SS g.prog g.w g.s₁ P σ s → RepA g.prog g.w P a v → wpAny g.M A (truthy v) (PostB g P σ s.heap Q) E s

noncomputable abbrev WC (n : Nat) (fv : Value) (as : List AV) (σ : St) (Q : AV → St → Prop) : Prop := WN g n (fun vs => call fv vs) as σ Q

noncomputable def GlobIs (x : Str) (v : Value) : Prop := ∃ mg, g.s₁.heap.Ns mainGlobals mg ∧ mg x = some v
noncomputable def BltIs (x : Str) (v : Value) : Prop := ∃ mg mb, g.s₁.heap.Ns mainGlobals mg ∧ mg x = none ∧ g.s₁.heap.Ns builtinsNs mb ∧ mb x = some v
end

section
variable {g : Gm} {P : PM} {σ : St} {h : Heap} {s s' : Shared}

theorem PostE.elim {Q : AV → St → Prop} {v : Value} {p : Prop} (x : PostE g P σ h Q v s') (k : ∀ a P' σ', Q a σ' → RepA g.prog g.w P' a v → SS g.prog g.w g.s₁ P' σ' s' → Step X0 P σ h P' σ' s'.heap → p) : p := by
  obtain ⟨a, P', σ', h1, h2, h3, h4⟩ := x; exact k a P' σ' h1 h2 h3 h4
theorem PostEs.elim {Q : List AV → St → Prop} {v : List Value} {p : Prop} (x : PostEs g P σ h Q v s') (k : ∀ a P' σ', Q a σ' → RepAs g.prog g.w P' a v → SS g.prog g.w g.s₁ P' σ' s' → Step X0 P σ h P' σ' s'.heap → p) : p := by
  obtain ⟨a, P', σ', h1, h2, h3, h4⟩ := x; exact k a P' σ' h1 h2 h3 h4
theorem PostB.elim {Q : Bool → St → Prop} {b : Bool} {p : Prop} (x : PostB g P σ h Q b s') (k : ∀ P' σ', Q b σ' → SS g.prog g.w g.s₁ P' σ' s' → Step X0 P σ h P' σ' s'.heap → p) : p := by
  obtain ⟨P', σ', h1, h3, h4⟩ := x; exact k P' σ' h1 h3 h4
theorem PostU.elim {Q : St → Prop} {p : Prop} (x : PostU g P σ h Q s') (k : ∀ P' σ', Q σ' → SS g.prog g.w g.s₁ P' σ' s' → Step X0 P σ h P' σ' s'.heap → p) : p := by
  obtain ⟨P', σ', h1, h3, h4⟩ := x; exact k P' σ' h1 h3 h4
theorem PostS.elim {env : Env} {Q : Fl → Ro → St → Prop} {f : Flow} {p : Prop} (x : PostS g env P σ h Q f s') (k : ∀ fl ρ' P' σ', Q fl ρ' σ' → FlRep g P' fl f → SS g.prog g.w g.s₁ P' σ' s' → SF g.prog g.w env ρ' P' σ' s'.heap → Step (Own env) P σ h P' σ' s'.heap → p) : p := by
  obtain ⟨fl, ρ', P', σ', h1, h2, h3, h4, h5⟩ := x; exact k fl ρ' P' σ' h1 h2 h3 h4 h5
theorem SS.up (S : SS g.prog g.w g.s₁ P σ s) : ∀ a o, g.s₁.heap.get? a = some o → s.heap.get? a = some o := fun a o e => S.sh.keepP a o (S.sh.base a o e)

theorem PostE.after {P₁ : PM} {σ₁ : St} {h₁ : Heap} {Q : AV → St → Prop} {v : Value} (t : Step X0 P σ h P₁ σ₁ h₁) (x : PostE g P₁ σ₁ h₁ Q v s') : PostE g P σ h Q v s' :=
  by obtain ⟨a, P', σ', h1, h2, h3, h4⟩ := x; exact ⟨a, P', σ', h1, h2, h3, t.trans0 h4⟩
theorem PostB.after {P₁ : PM} {σ₁ : St} {h₁ : Heap} {Q : Bool → St → Prop} {v : Bool} (t : Step X0 P σ h P₁ σ₁ h₁) (x : PostB g P₁ σ₁ h₁ Q v s') : PostB g P σ h Q v s' :=
  by obtain ⟨P', σ', h1, h3, h4⟩ := x; exact ⟨P', σ', h1, h3, t.trans0 h4⟩

theorem PostE.here {Q : AV → St → Prop} {v : Value} {a : AV} (S : SS g.prog g.w g.s₁ P σ s) (hq : Q a σ) (hr : RepA g.prog g.w P a v) {tk : Nat} : PostE g P σ s.heap Q v { s with toks := tk } :=
  ⟨a, P, σ, hq, hr, ⟨S.sh, S.gens, S.os⟩, .refl⟩
theorem PostE.grown {Q : AV → St → Prop} {v : Value} {a : AV} (S : SS g.prog g.w g.s₁ P σ s) (hq : Q a σ) (hr : RepA g.prog g.w P a v) {h' : Heap} {tk : Nat} (hk : ∀ b o, s.heap.get? b = some o → h'.get? b = some o) :
    PostE g P σ s.heap Q v { s with heap := h', toks := tk } :=
  ⟨a, P, σ, hq, hr, ⟨S.sh.grow hk, S.gens, S.os⟩, .grow hk⟩
theorem PostE.newData {Q : AV → St → Prop} {d : D} {b : Addr} {o : Obj} (S : SS g.prog g.w g.s₁ P σ s) (hq : Q (.d d) σ) {h' : Heap} {tk : Nat} (hk : ∀ b o, s.heap.get? b = some o → h'.get? b = some o) (hb : s.heap.get? b = none) (ho : h'.get? b = some o)
    (hr : (∀ a o', P a = some o' → upd P b o a = some o') → upd P b o b = some o → Rep g.prog g.w (upd P b o) d (.ref b)) : PostE g P σ s.heap Q (.ref b) { s with heap := h', toks := tk } :=
  have t := Step.newData (o := o) S.sh hk hb
  ⟨.d d, upd P b o, σ, hq, hr t.le upd_same, ⟨S.sh.newData hk hb ho, S.gens, S.os⟩, t⟩
theorem PostE.newCell {Q : AV → St → Prop} {c : Cell} {b : Addr} {o : Obj} (S : SS g.prog g.w g.s₁ P σ s) {h' : Heap} {tk : Nat} (hk : ∀ b o, s.heap.get? b = some o → h'.get? b = some o) (hb : s.heap.get? b = none) (ho : h'.get? b = some o)
    (hr : CellRep g.prog g.w P c b o) (hq : P b = none → σ b = none → Q (.cell b) (upd σ b c)) : PostE g P σ s.heap Q (.ref b) { s with heap := h', toks := tk } :=
  have hf := S.sh.fresh hb
  ⟨.cell b, P, upd σ b c, hq hf.1 hf.2, rfl, ⟨S.sh.newCell hk hb ho hr, S.gens, S.os⟩, .newCell hk hb⟩

theorem WE.mono {n : Nat} {env : Env} {ρ : Ro} {e : Expr} {Q Q' : AV → St → Prop} (h : WE g n env ρ σ e Q) (hq : ∀ a σ', Q a σ' → Q' a σ') : WE g n env ρ σ e Q' :=
  fun A E P s hA S F => wpAny_mono (h A E P s hA S F) (fun _ _ zq0_2 => by obtain ⟨a, P', σ', h1, h2⟩ := zq0_2; exact ⟨a, P', σ', hq _ _ h1, h2⟩) fun _ _ x => x
theorem WSs.mono {n : Nat} {env : Env} {ρ : Ro} {sts : List Stmt} {Q Q' : Fl → Ro → St → Prop} (h : WSs g n env ρ σ sts Q) (hq : ∀ f r σ', Q f r σ' → Q' f r σ') : WSs g n env ρ σ sts Q' :=
  fun A E P s hA S F => wpAny_mono (h A E P s hA S F) (fun _ _ zq2_2 => by obtain ⟨a, r, P', σ', h1, h2⟩ := zq2_2; exact ⟨a, r, P', σ', hq _ _ _ h1, h2⟩) fun _ _ x => x

variable {n : Nat} {env : Env} {ρ : Ro} {Q : AV → St → Prop}

-- constants, names
theorem WE.cNone {k : Nat} {pos : Pos} (hq : Q (.d .none) σ) : WE g n env ρ σ (.Constant .none k pos) Q := fun _ _ _ s _ S _ => wpAny_Constant_none (PostE.here (tk := s.toks) S hq .none)
theorem WE.cBool {b : Bool} {k : Nat} {pos : Pos} (hq : Q (.d (.bool b)) σ) : WE g n env ρ σ (.Constant (.bool b) k pos) Q := fun _ _ _ s _ S _ => wpAny_Constant_bool (PostE.here (tk := s.toks) S hq (.bool b))
theorem WE.cInt {i : Int} {k : Nat} {pos : Pos} (hq : Q (.d (.int i)) σ) : WE g n env ρ σ (.Constant (.int i) k pos) Q := fun _ _ _ _ _ S _ => wpAny_Constant_int (PostE.here S hq (.int i _))
theorem WE.cStr {x : Str} {k : Nat} {pos : Pos} (hq : Q (.d (.str x)) σ) : WE g n env ρ σ (.Constant (.str x) k pos) Q := fun _ _ _ _ _ S _ => wpAny_Constant_str (PostE.here S hq (.str x _))

theorem SF.load {x : Str} {a : AV} {A : Around} {E : Value → Shared → Prop} {P : PM} {s : Shared} (F : SF g.prog g.w env ρ P σ s.heap) (hm : (x, a) ∈ ρ) {Q' : Value → Shared → Prop} (h : ∀ v, RepA g.prog g.w P a v → Q' v s) : wpAny g.M A (loadName env x) Q' E s := by
  by_cases hk : env.kindOf x = some .local
  · obtain ⟨m, hn, hall⟩ := F.ns
    obtain ⟨v, h1, h2⟩ := hall _ hm hk
    exact wpAny_loadName_local F.kind hk hn h1 (h v h2)
  · obtain ⟨c, v, h1, h2, h3, h4⟩ := F.cl _ hm hk
    rcases h1 with h1 | h1
    · exact wpAny_loadName_cell F.kind h1 h2 h3 (h v h4)
    · refine wpAny_loadName_free F.kind h1 h2 h3 (h v h4) ?_
      cases hb : x == Str.ofString "__classdict__" with
      | false => rfl
      | true => rw [beq_iff_eq.mp hb, F.nocd] at h2; cases h2

theorem WE.name {x : Str} {pos : Pos} {a : AV} (hm : (x, a) ∈ ρ) (hq : Q a σ) (hd : (x == ("__debug__" : Str)) = false := by decide) : WE g n env ρ σ (.Name x pos) Q :=
  fun _ _ _ s _ S F => wpAny_Name (F.load hm fun _ hr => PostE.here (tk := s.toks) S hq hr) hd
theorem WE.glob {x : Str} {pos : Pos} {v : Value} (hg : GlobIs g x v) (hq : Q (.raw v) σ) (hk : env.kindOf x = some .globalImplicit := by rfl) (hd : (x == ("__debug__" : Str)) = false := by decide) : WE g n env ρ σ (.Name x pos) Q :=
  fun _ _ _ s _ S F => by
    obtain ⟨mg, hn, hv⟩ := hg
    refine Calls.Name_function_global F.kind hk (Calls.loadGlobal_global (mg := mg) (by rw [F.glob]; exact hn.keeps S.up) hv (PostE.here (tk := s.toks) S hq rfl)) hd
theorem WE.blt {x : Str} {pos : Pos} {v : Value} (hg : BltIs g x v) (hq : Q (.raw v) σ) (hk : env.kindOf x = some .globalImplicit := by rfl) (hd : (x == ("__debug__" : Str)) = false := by decide) : WE g n env ρ σ (.Name x pos) Q :=
  fun _ _ _ s _ S F => by
    obtain ⟨mg, mb, hn, hm, hb, hv⟩ := hg
    refine Calls.Name_function_global F.kind hk (Calls.loadGlobal_builtin (mg := mg) (mb := mb) (by rw [F.glob]; exact hn.keeps S.up) hm (by rw [F.blt]; exact hb.keeps S.up) hv (PostE.here (tk := s.toks) S hq rfl)) hd

-- operators
theorem WE.then {e : Expr} {R : AV → St → Prop} {A : Around} {E : Value → Shared → Prop} {P : PM} {s : Shared} {k : Value → Shared → Prop}
    (h : WE g n env ρ σ e R) (hA : OkA n A) (S : SS g.prog g.w g.s₁ P σ s) (F : SF g.prog g.w env ρ P σ s.heap)
    (hk : ∀ a P' σ' v s', R a σ' → RepA g.prog g.w P' a v → SS g.prog g.w g.s₁ P' σ' s' → SF g.prog g.w env ρ P' σ' s'.heap → Step X0 P σ s.heap P' σ' s'.heap → k v s') : wpAny g.M A (eval e env) k E s :=
  wpAny_mono (h A E P s hA S F) (fun v s' zq3_2 => by refine zq3_2.elim fun a P' σ' h1 h2 h3 h4 => ?_; exact hk a P' σ' v s' h1 h2 h3 (F.step h4) h4) fun _ _ x => x
theorem WT.then {e : Expr} {R : Bool → St → Prop} {A : Around} {E : Value → Shared → Prop} {P : PM} {s : Shared} {k : Bool → Shared → Prop}
    (h : WT g n env ρ σ e R) (hA : OkA n A) (S : SS g.prog g.w g.s₁ P σ s) (F : SF g.prog g.w env ρ P σ s.heap)
    (hk : ∀ b P' σ' s', R b σ' → SS g.prog g.w g.s₁ P' σ' s' → SF g.prog g.w env ρ P' σ' s'.heap → Step X0 P σ s.heap P' σ' s'.heap → k b s') : wpAny g.M A (isTrue e env (eval e env)) k E s :=
  wpAny_mono (h A E P s hA S F) (fun v s' zq4_2 => by refine zq4_2.elim fun P' σ' h1 h3 h4 => ?_; exact hk v P' σ' s' h1 h3 (F.step h4) h4) fun _ _ x => x

theorem WE.binop {l r : Expr} {op : Operator} {pos : Pos} (h : WE g n env ρ σ l fun a σ₁ => WE g n env ρ σ₁ r fun b σ₂ => W2 g n (binaryOp op) a b σ₂ Q) : WE g n env ρ σ (.BinOp l op r pos) Q :=
  fun A E P s hA S F => wpAny_BinOp (h.then hA S F fun a P₁ σ₁ v s₁ h₁ ra S₁ F₁ t₁ => h₁.then hA S₁ F₁ fun b P₂ σ₂ u s₂ h₂ rb S₂ _ t₂ =>
    wpAny_mono (h₂ A E P₂ s₂ v u hA S₂ (ra.mono t₂.le) rb) (fun _ _ x => x.after (t₁.trans0 t₂)) fun _ _ x => x)
theorem WE.compare {l r : Expr} {op : CmpOp} {pos : Pos} (h : WE g n env ρ σ l fun a σ₁ => WE g n env ρ σ₁ r fun b σ₂ => W2 g n (compareOp op) a b σ₂ Q) (hm : behindInMarks op r = false := by with_unfolding_all rfl) : WE g n env ρ σ (.Compare l [op] [r] pos) Q :=
  fun A E P s hA S F => wpAny_Compare1 (h.then hA S F fun a P₁ σ₁ v s₁ h₁ ra S₁ F₁ t₁ => h₁.then hA S₁ F₁ fun b P₂ σ₂ u s₂ h₂ rb S₂ _ t₂ =>
    wpAny_mono (h₂ A E P₂ s₂ v u hA S₂ (ra.mono t₂.le) rb) (fun _ _ x => x.after (t₁.trans0 t₂)) fun _ _ x => x) hm
theorem WT.compare {l r : Expr} {op : CmpOp} {pos : Pos} {R : Bool → St → Prop} (h : WE g n env ρ σ l fun a σ₁ => WE g n env ρ σ₁ r fun b σ₂ => W2 g n (compareOp op) a b σ₂ fun c σ₃ => WTr g n c σ₃ R) (hm : behindInMarks op r = false := by with_unfolding_all rfl) : WT g n env ρ σ (.Compare l [op] [r] pos) R :=
  fun A E P s hA S F => wpAny_isTrue_Compare1 (h.then hA S F fun a P₁ σ₁ v s₁ h₁ ra S₁ F₁ t₁ => h₁.then hA S₁ F₁ fun b P₂ σ₂ u s₂ h₂ rb S₂ _ t₂ =>
    wpAny_mono (h₂ A E P₂ s₂ v u hA S₂ (ra.mono t₂.le) rb) (fun c s₃ zq5_2 => by refine zq5_2.elim fun c' P₃ σ₃ h3 rc S₃ t₃ => ?_; exact wpAny_mono (h3 A E P₃ s₃ c hA S₃ rc) (fun _ _ x => x.after ((t₁.trans0 t₂).trans0 t₃)) fun _ _ x => x) fun _ _ x => x) hm
theorem WE.unary {e : Expr} {op : UnaryOp} {pos : Pos} (h : WE g n env ρ σ e fun a σ₁ => W1 g n (unaryOp op) a σ₁ Q) : WE g n env ρ σ (.UnaryOp op e pos) Q :=
  fun A E P s hA S F => wpAny_UnaryOp (h.then hA S F fun a P₁ σ₁ v s₁ h₁ ra S₁ F₁ t₁ => wpAny_mono (h₁ A E P₁ s₁ v hA S₁ ra) (fun _ _ x => x.after t₁) fun _ _ x => x)
theorem WE.not {e : Expr} {pos : Pos} (h : WE g n env ρ σ e fun a σ₁ => WTr g n a σ₁ fun b σ₂ => Q (.d (.bool (!b))) σ₂) : WE g n env ρ σ (.UnaryOp .Not e pos) Q :=
  WE.unary (h.mono fun a σ₁ h1 A E P s v hA S hr => not_value (wpAny_mono (h1 A E P s v hA S hr) (fun b s₁ zq6_2 => by refine zq6_2.elim fun P' σ' hq S' t => ?_; exact ⟨_, P', σ', hq, .bool _, S', t⟩) fun _ _ x => x))
theorem WT.not {e : Expr} {pos : Pos} {R : Bool → St → Prop} (h : WT g n env ρ σ e fun b σ₁ => R (!b) σ₁) : WT g n env ρ σ (.UnaryOp .Not e pos) R :=
  fun A E P s hA S F => wpAny_isTrue_Not (wpAny_mono (h A E P s hA S F) (fun b s₁ zq0_2 => by refine zq0_2.elim fun P' σ' hq S' t => ?_; exact ⟨P', σ', hq, S', t⟩) fun _ _ x => x)
theorem WE.ifexp {t a b : Expr} {pos : Pos} (h : WT g n env ρ σ t fun c σ₁ => if c = true then WE g n env ρ σ₁ a Q else WE g n env ρ σ₁ b Q) : WE g n env ρ σ (.IfExp t a b pos) Q :=
  fun A E P s hA S F => wpAny_IfExp (h.then hA S F fun c P₁ σ₁ s₁ h₁ S₁ F₁ t₁ => by
    cases c
    · exact wpAny_mono (h₁ A E P₁ s₁ hA S₁ F₁) (fun _ _ x => x.after t₁) fun _ _ x => x
    · exact wpAny_mono (h₁ A E P₁ s₁ hA S₁ F₁) (fun _ _ x => x.after t₁) fun _ _ x => x)
theorem WT.value {e : Expr} {R : Bool → St → Prop} (h : WE g n env ρ σ e fun a σ₁ => WTr g n a σ₁ R) (he : isTrue e env (eval e env) = (do let v ← eval e env; standAt e.pos; holding [v] (truthy v)) := by rfl) : WT g n env ρ σ e R :=
  fun A E P s hA S F => wpAny_isTrue_value (h.then hA S F fun a P₁ σ₁ v s₁ h₁ ra S₁ F₁ t₁ => wpAny_mono (h₁ A E P₁ s₁ v hA S₁ ra) (fun _ _ x => x.after t₁) fun _ _ x => x) he
theorem WT.and2 {x y : Expr} {pos : Pos} {R : Bool → St → Prop} (h : WT g n env ρ σ x fun c σ₁ => if c = true then WT g n env ρ σ₁ y R else R false σ₁) : WT g n env ρ σ (.BoolOp .And [x, y] pos) R :=
  fun A E P s hA S F => wpAny_isTrue_BoolOp (wpAny_allTrue_And_cons (h.then hA S F fun c P₁ σ₁ s₁ h₁ S₁ F₁ t₁ => by
    cases c
    · exact ⟨P₁, σ₁, h₁, S₁, t₁⟩
    · exact wpAny_allTrue_And_cons (wpAny_mono (h₁ A E P₁ s₁ hA S₁ F₁) (fun b s₂ x => by
        cases b
        · exact x.after t₁
        · exact wpAny_allTrue_And_nil (x.after t₁)) fun _ _ x => x)))
theorem WT.or_nil {pos : Pos} {R : Bool → St → Prop} (h : R false σ) : WT g n env ρ σ (.BoolOp .Or [] pos) R :=
  fun A E P s hA S F => wpAny_isTrue_BoolOp (wpAny_allTrue_Or_nil ⟨P, σ, h, S, .refl⟩)
theorem WT.or_cons {x : Expr} {ys : List Expr} {pos : Pos} {R : Bool → St → Prop} (h : WT g n env ρ σ x fun c σ₁ => if c = true then R true σ₁ else WT g n env ρ σ₁ (.BoolOp .Or ys pos) R) : WT g n env ρ σ (.BoolOp .Or (x :: ys) pos) R :=
  fun A E P s hA S F => wpAny_isTrue_BoolOp (wpAny_allTrue_Or_cons (h.then hA S F fun c P₁ σ₁ s₁ h₁ S₁ F₁ t₁ => by
    cases c
    · have := h₁ A E P₁ s₁ hA S₁ F₁
      rw [arm_isTrue_BoolOp] at this
      exact wpAny_mono this (fun b s₂ x => x.after t₁) fun _ _ x => x
    · exact ⟨P₁, σ₁, h₁, S₁, t₁⟩))
theorem WE.and2 {x y : Expr} {pos : Pos} (h : WE g n env ρ σ x fun a σ₁ => WTr g n a σ₁ fun c σ₂ => if c = true then WE g n env ρ σ₂ y Q else Q a σ₂) : WE g n env ρ σ (.BoolOp .And [x, y] pos) Q :=
  fun A E P s hA S F => wpAny_And2 (h.then hA S F fun a P₁ σ₁ v s₁ h₁ ra S₁ F₁ t₁ => wpAny_mono (h₁ A E P₁ s₁ v hA S₁ ra) (fun c s₂ zq1_2 => by
    refine zq1_2.elim fun P₂ σ₂ h₂ S₂ t₂ => ?_
    cases c
    · exact ⟨a, P₂, σ₂, h₂, ra.mono t₂.le, S₂, t₁.trans0 t₂⟩
    · exact wpAny_mono (h₂ A E P₂ s₂ hA S₂ (F₁.step t₂)) (fun _ _ x => x.after (t₁.trans0 t₂)) fun _ _ x => x) fun _ _ x => x)

-- several expressions
theorem WEs.nil {R : List AV → St → Prop} (hq : R [] σ) : WEs g n env ρ σ [] R := fun _ A E P s _ S _ => wpAny_items_nil ⟨[], P, σ, hq, .nil, S, .refl⟩
theorem WEs.cons {e : Expr} {es : List Expr} {R : List AV → St → Prop} (h : WE g n env ρ σ e fun a σ₁ => WEs g n env ρ σ₁ es fun as σ₂ => R (a :: as) σ₂) (he : starEach (e :: es) env = (false, eval e env) :: starEach es env := by rfl) : WEs g n env ρ σ (e :: es) R :=
  fun pos A E P s hA S F => wpAny_items_cons (h.then hA S F fun a P₁ σ₁ v s₁ h₁ ra S₁ F₁ t₁ => wpAny_mono (h₁ pos A E P₁ s₁ hA S₁ F₁) (fun vs s₂ zq2_2 => by refine zq2_2.elim fun as P₂ σ₂ h₂ rs S₂ t₂ => ?_; exact ⟨a :: as, P₂, σ₂, h₂, .cons (ra.mono t₂.le) rs, S₂, t₁.trans0 t₂⟩) fun _ _ x => x) he

theorem RepAs.allD {P : PM} : ∀ {as : List AV} {vs : List Value} {ds : List D}, RepAs g.prog g.w P as vs → as = ds.map .d → Reps g.prog g.w P ds vs
  | _, _, _, h, rfl => h.ds

theorem push_new {h : Heap} {o : Obj} (hf : o.isFreed = false := by rfl) : (∀ b o', h.get? b = some o' → (h.push o).get? b = some o') ∧ h.get? h.objs.size = none ∧ (h.push o).get? h.objs.size = some o :=
  ⟨fun _ _ e => Heap.get?_push_of_some _ e, Heap.get?_none_of_le (Nat.le_refl _), Heap.get?_push_size _ hf⟩

theorem WE.tuple {es : List Expr} {k : Nat} {pos : Pos} (h : WEs g n env ρ σ es fun as σ₁ => ∃ ds : List D, as = ds.map .d ∧ ds.length ≤ 1000 ∧ Q (.d (.tup ds)) σ₁) : WE g n env ρ σ (.Tuple es k pos) Q :=
  fun A E P s hA S F => wpAny_Tuple (wpAny_mono (h pos A E P s hA S F) (fun vs s₁ zq3_2 => by
    refine zq3_2.elim fun as P₁ σ₁ zn3 rs S₁ t₁ => ?_; obtain ⟨ds, hd, hl, hq⟩ := zn3
    have rd := rs.allD hd
    obtain ⟨k1, k2, k3⟩ := push_new (h := s₁.heap) (o := seqObj "tuple" vs.toArray 0)
    exact ⟨by rw [rd.length, sizeLine_eq]; exact o1 hl rfl, (PostE.newData (tk := s₁.toks) S₁ hq k1 k2 k3 fun hle hb => .tup hb .of (rd.mono (prog := g.prog) (w := g.w) hle)).after t₁⟩) fun _ _ x => x)
theorem WE.list {es : List Expr} {pos : Pos} (h : WEs g n env ρ σ es fun as σ₁ => ∃ ds : List D, as = ds.map .d ∧ ds.length ≤ 1000 ∧ Q (.d (.lst ds)) σ₁) : WE g n env ρ σ (.List es pos) Q :=
  fun A E P s hA S F => wpAny_List (wpAny_mono (h pos A E P s hA S F) (fun vs s₁ zq4_2 => by
    refine zq4_2.elim fun as P₁ σ₁ zn3 rs S₁ t₁ => ?_; obtain ⟨ds, hd, hl, hq⟩ := zn3
    have rd := rs.allD hd
    obtain ⟨k1, k2, k3⟩ := push_new (h := s₁.heap) (o := seqObj "list" vs.toArray 0)
    exact ⟨by rw [rd.length, sizeLine_eq]; exact o1 hl rfl, (PostE.newData (tk := s₁.toks) S₁ hq k1 k2 k3 fun hle hb => .lst hb .of (rd.mono (prog := g.prog) (w := g.w) hle)).after t₁⟩) fun _ _ x => x)
theorem WE.listCell {es : List Expr} {pos : Pos} (h : WEs g n env ρ σ es fun as σ₁ => ∃ ds : List D, as = ds.map .d ∧ ds.length ≤ 1000 ∧ ∀ b, σ₁ b = none → Q (.cell b) (upd σ₁ b (.lst ds))) : WE g n env ρ σ (.List es pos) Q :=
  fun A E P s hA S F => wpAny_List (wpAny_mono (h pos A E P s hA S F) (fun vs s₁ zq5_2 => by
    refine zq5_2.elim fun as P₁ σ₁ zn3 rs S₁ t₁ => ?_; obtain ⟨ds, hd, hl, hq⟩ := zn3
    have rd := rs.allD hd
    obtain ⟨k1, k2, k3⟩ := push_new (h := s₁.heap) (o := seqObj "list" vs.toArray 0)
    exact ⟨by rw [rd.length, sizeLine_eq]; exact o1 hl rfl, (PostE.newCell (c := .lst ds) (tk := s₁.toks) S₁ k1 k2 k3 ⟨vs, 0, rfl, rd⟩ fun _ h2 => hq _ h2).after t₁⟩) fun _ _ x => x)
theorem WE.listBox {es : List Expr} {pos : Pos} (h : WEs g n env ρ σ es fun as σ₁ => as.length ≤ 1000 ∧ ∀ b, σ₁ b = none → Q (.cell b) (upd σ₁ b (.box as))) : WE g n env ρ σ (.List es pos) Q :=
  fun A E P s hA S F => wpAny_List (wpAny_mono (h pos A E P s hA S F) (fun vs s₁ zq6_2 => by
    refine zq6_2.elim fun as P₁ σ₁ zn3 rs S₁ t₁ => ?_; obtain ⟨hl, hq⟩ := zn3
    obtain ⟨k1, k2, k3⟩ := push_new (h := s₁.heap) (o := seqObj "list" vs.toArray 0)
    exact ⟨by rw [rs.length, sizeLine_eq]; exact o1 hl rfl, (PostE.newCell (c := .box as) (tk := s₁.toks) S₁ k1 k2 k3 ⟨vs, .of, rs⟩ fun _ h2 => hq _ h2).after t₁⟩) fun _ _ x => x)
end
end
set_option tactic.hygienic false
section

noncomputable def Put (ρ : Ro) (x : Str) (a : AV) (ρ' : Ro) : Prop := ∀ p ∈ ρ', p = (x, a) ∨ (p ∈ ρ ∧ p.1 ≠ x)
inductive Off (x : Str) : Ro → Ro → Prop
  | nil : Off x [] []
  | skip {a : AV} {ρ ρ' : Ro} : Off x ρ ρ' → Off x ((x, a) :: ρ) ρ'
  | keep {y : Str} {a : AV} {ρ ρ' : Ro} : y ≠ x → Off x ρ ρ' → Off x ((y, a) :: ρ) ((y, a) :: ρ')
theorem Off.keepD {x y : Str} {a : AV} {ρ ρ' : Ro} (h : decide (y = x) = false) (r : Off x ρ ρ') : Off x ((y, a) :: ρ) ((y, a) :: ρ') := .keep (of_decide_eq_false h) r
theorem len1 {α : Type} {l : List α} (h : l.length = 1) : ∃ a, l = [a] := List.length_eq_one_iff.mp h
theorem len2 {α : Type} {l : List α} (h : l.length = 2) : ∃ a b, l = [a, b] := by
  cases l with
  | nil => cases h
  | cons a l => obtain ⟨b, rfl⟩ := len1 (Nat.succ.inj h); exact ⟨a, b, rfl⟩
theorem len3 {α : Type} {l : List α} (h : l.length = 3) : ∃ a b c, l = [a, b, c] := by
  cases l with
  | nil => cases h
  | cons a l => obtain ⟨b, c, rfl⟩ := len2 (Nat.succ.inj h); exact ⟨a, b, c, rfl⟩
theorem Off.sound {x : Str} {ρ ρ' : Ro} (h : Off x ρ ρ') : ∀ p ∈ ρ', p ∈ ρ ∧ p.1 ≠ x := by
  induction h with
  | nil => intro p hp; cases hp
  | skip _ ih => intro p hp; exact ⟨.tail _ (ih p hp).1, (ih p hp).2⟩
  | keep hne _ ih =>
    intro p hp
    rcases List.mem_cons.mp hp with rfl | hp
    · exact ⟨.head _, hne⟩
    · exact ⟨.tail _ (ih p hp).1, (ih p hp).2⟩
theorem Off.put {x : Str} {ρ ρ' : Ro} {a : AV} (h : Off x ρ ρ') : Put ρ x a ((x, a) :: ρ') := fun p hp => by
  rcases List.mem_cons.mp hp with rfl | hp
  · exact .inl rfl
  · exact .inr (h.sound p hp)

theorem Step.own {env : Env} {P : PM} {σ : St} {h h' : Heap} {b : Addr} (hb : Own env b) (hs : Heap.SameBut b h h') : Step (Own env) P σ h P σ h' :=
  ⟨fun _ _ e => e, fun x o e _ hx => (hs.2 x fun q => by subst q; exact hx hb).trans e, fun _ _ e => .inl e, fun b c e => .inl (by rw [e]; exact fun x => nomatch x), fun x o e hx => ⟨o, (hs.2 x fun q => by subst q; exact hx hb).trans e⟩⟩

section
variable {g : Gm} {P : PM} {σ : St} {n : Nat} {env : Env} {ρ : Ro} {s : Shared}

noncomputable def Bound (env : Env) (x : Str) : Prop := env.kindOf x = some .local ∨ (env.kindOf x = some .cell ∧ env.func.isSome = true)

theorem SF.store {x : Str} {v : Value} {a : AV} {ρ' : Ro} {A : Around} {E : Value → Shared → Prop} {Q' : Unit → Shared → Prop} (S : SS g.prog g.w g.s₁ P σ s) (F : SF g.prog g.w env ρ P σ s.heap) (hk : Bound env x) (hr : RepA g.prog g.w P a v) (hp : Put ρ x a ρ')
    (h : ∀ s', SS g.prog g.w g.s₁ P σ s' → SF g.prog g.w env ρ' P σ s'.heap → Step (Own env) P σ s.heap P σ s'.heap → Q' () s') : wpAny g.M A (storeName env x v) Q' E s := by
  have hpk : (env.scope.kind == .class || (env.scope.kind == .module && env.locals != env.globals)) = false := by rw [F.kind]; rfl
  obtain ⟨m, hn, hm⟩ := F.ns
  have hLc : ∀ y c, env.cells.lookup y = some c → c ≠ env.locals := by
    rintro y c e rfl
    obtain ⟨_, _, u, o, ho, hd⟩ := F.offC y _ e
    obtain ⟨o', es, ep, ho', hd', _⟩ := hn
    rw [ho] at ho'; cases ho'; rw [hd] at hd'; cases hd'
  rcases hk with hk | ⟨hk, hfn⟩
  · refine wpAny_storeName_local hk hn (fun h' hn' hs => ?_) hpk
    have hC : ∀ y c u, env.cells.lookup y = some c → s.heap.IsCell c u → h'.IsCell c u := fun y c u e zq0_4 => by obtain ⟨o, ho, hd⟩ := zq0_4; exact ⟨o, (hs.2 c (hLc y c e)).trans ho, hd⟩
    refine h _ ⟨S.sh.off hs F.offL.1 F.offL.2, S.gens, S.os⟩ ⟨F.kind, F.glob, F.blt, ⟨_, hn', fun p hp' hkp => ?_⟩, fun p hp' hkp => ?_, F.offL, fun y c e => ?_, F.has, F.inj, F.nocd⟩ (Step.own (.inl rfl) hs)
    · rcases hp p hp' with rfl | ⟨h1, h2⟩
      · exact ⟨v, if_pos rfl, hr⟩
      · obtain ⟨u, h3, h4⟩ := hm p h1 hkp
        exact ⟨u, by rw [if_neg h2]; exact h3, h4⟩
    · rcases hp p hp' with rfl | ⟨h1, h2⟩
      · exact absurd hk hkp
      · obtain ⟨c, u, h3, h4, h5, h6⟩ := F.cl p h1 hkp
        exact ⟨c, u, h3, h4, hC _ c _ h4 h5, h6⟩
    · obtain ⟨h1, h2, u, h3⟩ := F.offC y c e
      exact ⟨h1, h2, u, hC y c u e h3⟩
  · obtain ⟨c, hc⟩ := F.has x (.inl hk)
    obtain ⟨hPc, hσc, u₀, hcell⟩ := F.offC x c hc
    refine wpAny_storeName_cell F.kind hk hc hcell fun h' hv hs => ?_
    have hkn : env.kindOf x ≠ some .local := by rw [hk]; exact fun q => nomatch q
    have hC : ∀ y c' u, y ≠ x → env.cells.lookup y = some c' → s.heap.IsCell c' u → h'.IsCell c' u := fun y c' u hy e zq1_5 => by obtain ⟨o, ho, hd⟩ := zq1_5; exact ⟨o, (hs.2 c' fun q => by subst q; exact hy (F.inj y x _ e hc)).trans ho, hd⟩
    refine h { s with heap := h' } ⟨S.sh.off hs hPc hσc, S.gens, S.os⟩ ⟨F.kind, F.glob, F.blt, ⟨m, hn.sameBut hs (Ne.symm (hLc x c hc)), fun p hp' hkp => ?_⟩, fun p hp' hkp => ?_, F.offL, fun y c' e => ?_, F.has, F.inj, F.nocd⟩ (Step.own (.inr ⟨hfn, x, hc⟩) hs)
    · rcases hp p hp' with rfl | ⟨h1, h2⟩
      · exact absurd hkp hkn
      · exact hm p h1 hkp
    · rcases hp p hp' with rfl | ⟨h1, h2⟩
      · exact ⟨c, v, .inl hk, hc, hv, hr⟩
      · obtain ⟨c', u, h3, h4, h5, h6⟩ := F.cl p h1 hkp
        exact ⟨c', u, h3, h4, hC _ c' _ h2 h4 h5, h6⟩
    · obtain ⟨h1, h2, u, h3⟩ := F.offC y c' e
      by_cases hy : y = x
      · subst hy; rw [hc] at e; cases e; exact ⟨h1, h2, _, hv⟩
      · exact ⟨h1, h2, u, hC y c' u hy e h3⟩

theorem SF.ownKeeps {h' : Heap} {P' : PM} {σ' : St} {h : Heap} (F : SF g.prog g.w env ρ P σ h) : ∀ x o, Own env x → h.get? x = some o → σ x = none := fun x o hx _ => (F.own hx).2.1

theorem Step.transF {P P₁ P₂ : PM} {σ σ₁ σ₂ : St} {h h₁ h₂ : Heap} {ρ ρ₁ : Ro} (F : SF g.prog g.w env ρ P σ h) (F₁ : SF g.prog g.w env ρ₁ P₁ σ₁ h₁) (a : Step (Own env) P σ h P₁ σ₁ h₁) (b : Step (Own env) P₁ σ₁ h₁ P₂ σ₂ h₂) : Step (Own env) P σ h P₂ σ₂ h₂ :=
  a.trans b fun x o hx _ => ⟨(F.own hx).2.1, (F₁.own hx).2.2⟩

noncomputable def PostA (g : Gm) (env : Env) (P : PM) (σ : St) (h : Heap) (Q : Ro → Prop) (s' : Shared) : Prop :=
  ∃ ρ', Q ρ' ∧ SS g.prog g.w g.s₁ P σ s' ∧ SF g.prog g.w env ρ' P σ s'.heap ∧ Step (Own env) P σ h P σ s'.heap
theorem PostA.elim {h : Heap} {s' : Shared} {Q : Ro → Prop} {p : Prop} (x : PostA g env P σ h Q s') (k : ∀ ρ', Q ρ' → SS g.prog g.w g.s₁ P σ s' → SF g.prog g.w env ρ' P σ s'.heap → Step (Own env) P σ h P σ s'.heap → p) : p := by
  obtain ⟨ρ', h1, h2, h3, h4⟩ := x; exact k ρ' h1 h2 h3 h4
noncomputable def WA (g : Gm) (n : Nat) (env : Env) (t : Expr) (a : AV) (ρ : Ro) (σ : St) (Q : Ro → Prop) : Prop :=
  ∀ A E P s v, OkA n A → SS g.prog g.w g.s₁ P σ s → SF g.prog g.w env ρ P σ s.heap → RepA g.prog g.w P a v → wpAny g.M A (assign t env v) (fun _ => PostA g env P σ s.heap Q) E s

theorem WA.name {x : Str} {pos : Pos} {a : AV} {ρ' : Ro} {Q : Ro → Prop} (ho : Off x ρ ρ') (hq : Q ((x, a) :: ρ')) (hk : Bound env x := by first | exact Or.inl rfl | exact Or.inr ⟨rfl, rfl⟩) : WA g n env (.Name x pos) a ρ σ Q :=
  fun A E P s v hA S F hr => wpAny_assign_Name (F.store S hk hr ho.put fun s' S' F' t => ⟨_, hq, S', F', t⟩)

noncomputable def StoreOk (M : Model) (env : Env) (f : Value → Sem Unit) (x : Str) : Prop := ∀ v A Q E s, wpAny M A (storeName env x v) Q E s → wpAny M A (f v) Q E s
inductive StoresOk (M : Model) (env : Env) : List (Value → Sem Unit) → List Str → Prop
  | nil : StoresOk M env [] []
  | cons {f fs x xs} : StoreOk M env f x → StoresOk M env fs xs → StoresOk M env (f :: fs) (x :: xs)
inductive Offs : Ro → List Str → List AV → Ro → Prop
  | nil {ρ : Ro} : Offs ρ [] [] ρ
  | cons {ρ ρ₁ ρ₂ : Ro} {x : Str} {a : AV} {xs : List Str} {as : List AV} : Off x ρ ρ₁ → Offs ((x, a) :: ρ₁) xs as ρ₂ → Offs ρ (x :: xs) (a :: as) ρ₂

theorem stores_in_order {A : Around} {E : Value → Shared → Prop} {P : PM} {h₀ : Heap} {ρ₀ : Ro} (F₀ : SF g.prog g.w env ρ₀ P σ h₀) : ∀ (fs : List (Value → Sem Unit)) (xs : List Str) (as : List AV) (vs : List Value) (ρ ρ' : Ro) (s : Shared) (Q : Ro → Prop),
    StoresOk g.M env fs xs → (∀ x ∈ xs, Bound env x) → RepAs g.prog g.w P as vs → Offs ρ xs as ρ' → Q ρ' → SS g.prog g.w g.s₁ P σ s → SF g.prog g.w env ρ P σ s.heap → Step (Own env) P σ h₀ P σ s.heap →
      wpAny g.M A (assignInOrder fs vs) (fun _ => PostA g env P σ h₀ Q) E s := by
  intro fs
  induction fs with
  | nil =>
    intro xs as vs ρ ρ' s Q h1 _ h2 h3 hq S F t
    cases h1; cases h3; cases h2
    exact wpAny_pure ⟨_, hq, S, F, t⟩
  | cons f fs ih =>
    intro xs as vs ρ ρ' s Q h1 hb h2 h3 hq S F t
    cases h1 with
    | cons hf hfs =>
    cases h3 with
    | cons ho h3 =>
    cases h2 with
    | cons hr h2 =>
    show wpAny g.M A (do holding _ (f _); assignInOrder fs _) _ E s
    refine wpAny_bind (wpAny_holding (hf _ _ _ _ _ (F.store S (hb _ (.head _)) hr ho.put fun s' S' F' t' => ?_)))
    exact ih _ _ _ _ _ _ _ hfs (fun x hx => hb x (.tail _ hx)) h2 h3 hq S' F' (Step.transF F₀ F t t')

theorem names_stores {es : List Expr} {xs : List Str} (h : ∃ ps : List Pos, es = List.zipWith (fun x p => Expr.Name x p) xs ps ∧ ps.length = xs.length) : StoresOk g.M env ((assignEach es env).map (·.2)) xs := by
  obtain ⟨ps, rfl, hl⟩ := h
  induction xs generalizing ps with
  | nil => exact .nil
  | cons x xs ih =>
    cases ps with
    | nil => cases hl
    | cons p ps => exact .cons (fun v A Q E s h => wpAny_assign_Name h) (ih ps (by simpa using hl))

theorem assignEach_names {xs : List Str} {ps : List Pos} (hl : ps.length = xs.length) : (assignEach (List.zipWith (fun x p => Expr.Name x p) xs ps) env).length = xs.length ∧ (assignEach (List.zipWith (fun x p => Expr.Name x p) xs ps) env).findIdx? (·.1) = none := by
  induction xs generalizing ps with
  | nil => exact ⟨rfl, rfl⟩
  | cons x xs ih =>
    cases ps with
    | nil => cases hl
    | cons p ps =>
      obtain ⟨h1, h2⟩ := ih (ps := ps) (by simpa using hl)
      constructor
      · show ((false, assign (.Name x p) env) :: assignEach _ env).length = _
        rw [List.length_cons, h1]; rfl
      · show ((false, assign (.Name x p) env) :: assignEach _ env).findIdx? (·.1) = none
        rw [List.findIdx?_cons]
        simp [h2]

theorem extBut_old {h h' : Heap} {b : Addr} (hb : h.get? b = none) (hx : Heap.ExtBut b h h') : ∀ a o, h.get? a = some o → h'.get? a = some o := fun a o e => hx a o (fun q => by subst q; rw [hb] at e; cases e) e

set_option tactic.hygienic true in
theorem WA.tuple {es : List Expr} {k : Nat} {pos : Pos} {ds : List D} {xs : List Str} {ps : List Pos} {ρ' : Ro} {Q : Ro → Prop} (he : es = List.zipWith (fun x p => Expr.Name x p) xs ps) (hl : ps.length = xs.length) (hd : ds.length = xs.length) (hb : ∀ x ∈ xs, Bound env x) (ho : Offs ρ xs (ds.map .d) ρ') (hq : Q ρ') :
    WA g n env (.Tuple es k pos) (.d (.tup ds)) ρ σ Q := by
  intro A E P s v hA S F hr
  subst he
  cases hr with
  | tup hP hso rs =>
  rename_i a o vs
  obtain ⟨h1, h2⟩ := assignEach_names (env := env) hl
  have ht : s.heap.IsTuple a vs.toArray := ⟨_, S.sh.keepP _ _ hP, hso⟩
  refine wpAny_assign_Tuple hA.handled ht (by rw [h1, List.size_toArray, rs.length, hd]) h2 fun h' hx => ?_
  have hk := extBut_old (Heap.get?_none_of_le (Nat.le_refl _)) hx
  have S' : SS g.prog g.w g.s₁ P σ { s with heap := h' } := ⟨S.sh.grow hk, S.gens, S.os⟩
  exact stores_in_order F _ _ _ _ _ _ _ Q (names_stores ⟨ps, rfl, hl⟩) hb (by simpa using rs.as) ho hq S' (F.step (.grow hk)) (Step.grow hk).weaken

-- statements
theorem WSs.nil {Q : Fl → Ro → St → Prop} (hq : Q .next ρ σ) : WSs g n env ρ σ [] Q := fun A E P s _ S F => wpAny_execs_nil ⟨.next, ρ, P, σ, hq, rfl, S, F, .refl⟩
noncomputable def Then (g : Gm) (n : Nat) (env : Env) (rest : List Stmt) (Q : Fl → Ro → St → Prop) : Fl → Ro → St → Prop
  | .next, ρ, σ => WSs g n env ρ σ rest Q
  | f, ρ, σ => Q f ρ σ

theorem PostS.after {ρ₁ : Ro} {P₁ : PM} {σ₁ : St} {h h₁ : Heap} {Q : Fl → Ro → St → Prop} {f : Flow} {s' : Shared} (F : SF g.prog g.w env ρ P σ h) (F₁ : SF g.prog g.w env ρ₁ P₁ σ₁ h₁) (t : Step (Own env) P σ h P₁ σ₁ h₁) (x : PostS g env P₁ σ₁ h₁ Q f s') : PostS g env P σ h Q f s' :=
  by obtain ⟨a, r, P', σ', h1, h2, h3, h5, h4⟩ := x; exact ⟨a, r, P', σ', h1, h2, h3, h5, Step.transF F F₁ t h4⟩

theorem WSs.cons {st : Stmt} {rest : List Stmt} {Q : Fl → Ro → St → Prop} (h : WS g n env ρ σ st (Then g n env rest Q)) : WSs g n env ρ σ (st :: rest) Q :=
  fun A E P s hA S F => wpAny_execs_cons (env := env) (wpAny_mono (h A E P s hA S F) (fun f s₁ zq2_2 => by
    refine zq2_2.elim fun fl ρ₁ P₁ σ₁ h1 hf S₁ F₁ t₁ => ?_
    cases fl with
    | next =>
      have hf' : f = .next := hf
      subst hf'
      exact wpAny_mono (h1 A E P₁ s₁ hA S₁ F₁) (fun _ _ x => x.after F F₁ t₁) fun _ _ x => x
    | brk =>
      have hf' : f = .brk := hf
      subst hf'
      exact ⟨.brk, ρ₁, P₁, σ₁, h1, rfl, S₁, F₁, t₁⟩
    | cont =>
      have hf' : f = .cont := hf
      subst hf'
      exact ⟨.cont, ρ₁, P₁, σ₁, h1, rfl, S₁, F₁, t₁⟩
    | ret a =>
      obtain ⟨v, rfl, hr⟩ := id hf
      exact ⟨.ret a, ρ₁, P₁, σ₁, h1, ⟨v, rfl, hr⟩, S₁, F₁, t₁⟩) fun _ _ x => x)

theorem WS.ret {e : Expr} {pos : Pos} {Q : Fl → Ro → St → Prop} (h : WE g n env ρ σ e fun a σ₁ => Q (.ret a) ρ σ₁) : WS g n env ρ σ (.Return (some e) pos) Q :=
  fun A E P s hA S F => wpAny_Return_some (env := env) (h.then hA S F fun a P₁ σ₁ v s₁ hq hr S₁ F₁ t₁ => ⟨.ret a, ρ, P₁, σ₁, hq, ⟨v, rfl, hr⟩, S₁, F₁, t₁.weaken⟩)

theorem WS.expr {e : Expr} {pos : Pos} {Q : Fl → Ro → St → Prop} (h : WE g n env ρ σ e fun a σ₁ => a = .d .none ∧ Q .next ρ σ₁) (hs : swapsWith e none pos.line env = pure false := by rfl) : WS g n env ρ σ (.Expr e pos) Q :=
  fun A E P s hA S F => wpAny_Expr (env := env) (h.then hA S F fun a P₁ σ₁ v s₁ zq3_5 hr S₁ F₁ t₁ => by
    obtain ⟨ha, hq⟩ := zq3_5
    subst ha
    cases hr
    exact ⟨.next, ρ, P₁, σ₁, hq, rfl, S₁, F₁, t₁.weaken⟩) (by unfold interactive; rw [F.kind]; rfl) hs

theorem WS.assign {x : Str} {pos' : Pos} {value : Expr} {pos : Pos} {ρ' : Ro} {Q : Fl → Ro → St → Prop} (ho : Off x ρ ρ') (h : WE g n env ρ σ value fun a σ₁ => Q .next ((x, a) :: ρ') σ₁) (hk : Bound env x := by first | exact Or.inl rfl | exact Or.inr ⟨rfl, rfl⟩)
    (hs : swapsWith value (some (.Name x pos')) pos.line env = pure false := by rfl) : WS g n env ρ σ (.Assign [.Name x pos'] value pos) Q :=
  fun A E P s hA S F => wpAny_Assign_Name (env := env) (h.then hA S F fun a P₁ σ₁ v s₁ hq hr S₁ F₁ t₁ =>
    F₁.store S₁ hk hr ho.put fun s' S' F' t => ⟨.next, _, P₁, σ₁, hq, rfl, S', F', Step.transF F F₁ t₁.weaken t⟩) hs

theorem WS.cond {test : Expr} {body orelse : List Stmt} {pos : Pos} {Q : Fl → Ro → St → Prop} (h : WT g n env ρ σ test fun b σ₁ => if b = true then WSs g n env ρ σ₁ body Q else WSs g n env ρ σ₁ orelse Q) : WS g n env ρ σ (.If test body orelse pos) Q :=
  fun A E P s hA S F => wpAny_If (env := env) (h.then hA S F fun b P₁ σ₁ s₁ h₁ S₁ F₁ t₁ => by
    cases b
    · exact wpAny_mono (h₁ A E P₁ s₁ hA S₁ F₁) (fun _ _ x => x.after F F₁ t₁.weaken) fun _ _ x => x
    · exact wpAny_mono (h₁ A E P₁ s₁ hA S₁ F₁) (fun _ _ x => x.after F F₁ t₁.weaken) fun _ _ x => x)

theorem WS.assignTup {es : List Expr} {k : Nat} {tpos pos : Pos} {value : Expr} {Q : Fl → Ro → St → Prop} (h : WE g n env ρ σ value fun a σ₁ => WA g n env (.Tuple es k tpos) a ρ σ₁ fun ρ' => Q .next ρ' σ₁)
    (hs : swapsWithSole [.Tuple es k tpos] value pos.line env = pure false := by rfl) (hw : swappedStores [.Tuple es k tpos] value env = pure none := by rfl) : WS g n env ρ σ (.Assign [.Tuple es k tpos] value pos) Q :=
  fun A E P s hA S F => Assign_Tuple (h.then hA S F fun a P₁ σ₁ v s₁ h₁ hr S₁ F₁ t₁ => wpAny_mono (h₁ A E P₁ s₁ v hA S₁ F₁ hr) (fun _ s₂ zq4_2 => by refine zq4_2.elim fun ρ' hq S₂ F₂ t₂ => ?_; exact ⟨.next, ρ', P₁, σ₁, hq, rfl, S₂, F₂, Step.transF F F₁ t₁.weaken t₂⟩) fun _ _ x => x) hs hw

theorem WS.assignPar {es vs : List Expr} {k k' : Nat} {tpos vpos pos : Pos} {xs : List Str} {ps : List Pos} {Q : Fl → Ro → St → Prop} (he : es = List.zipWith (fun x p => Expr.Name x p) xs ps) (hl : ps.length = xs.length) (hb : ∀ x ∈ xs, Bound env x) (h31 : xs.length ≤ 30)
    (h : WEs g n env ρ σ vs fun as σ₁ => as.length = xs.length ∧ ∃ ρ', Offs ρ xs as ρ' ∧ Q .next ρ' σ₁)
    (hs : swapsWithSole [.Tuple es k tpos] (.Tuple vs k' vpos) pos.line env = pure false := by rfl) (hw : swappedStores [.Tuple es k tpos] (.Tuple vs k' vpos) env = pure none := by rfl) : WS g n env ρ σ (.Assign [.Tuple es k tpos] (.Tuple vs k' vpos) pos) Q := by
  intro A E P s hA S F
  subst he
  refine Assign_Tuple (wpAny_Tuple (wpAny_mono (h vpos A E P s hA S F) (fun us s₁ zs => ?_) fun _ _ x => x)) hs hw
  refine zs.elim fun as P₁ σ₁ zn3 rs S₁ t₁ => ?_; obtain ⟨hlen, ρ', ho, hq⟩ := zn3
  refine ⟨by rw [rs.length, hlen, sizeLine_eq]; exact o1 h31 rfl, ?_⟩
  obtain ⟨h1, h2⟩ := assignEach_names (env := env) hl
  obtain ⟨k1, k2, k3⟩ := push_new (h := s₁.heap) (o := seqObj "tuple" us.toArray 0)
  have ht : (s₁.heap.push (seqObj "tuple" us.toArray 0)).IsTuple s₁.heap.objs.size us.toArray := ⟨_, k3, rfl, _, rfl⟩
  refine wpAny_assign_Tuple hA.handled ht (by rw [h1, List.size_toArray, rs.length, hlen]) h2 fun h' hx => ?_
  have hk : ∀ b o, s₁.heap.get? b = some o → h'.get? b = some o := fun b o e => extBut_old (Heap.get?_none_of_le (Nat.le_refl _)) hx b o (k1 b o e)
  have F₁ := F.step t₁
  refine wpAny_mono (stores_in_order F₁ _ _ _ _ _ _ _ (fun r => Q .next r σ₁) (names_stores ⟨ps, rfl, hl⟩) hb (by simpa using rs) ho hq ⟨S₁.sh.grow hk, S₁.gens, S₁.os⟩ (F₁.step (.grow hk)) (Step.grow hk).weaken) (fun _ s₂ zr2 => ?_) fun _ _ x => x
  refine zr2.elim fun ρ₂ hq S₂ F₂ t₂ => ?_
  exact ⟨.next, ρ₂, P₁, σ₁, hq, rfl, S₂, F₂, Step.transF F F₁ t₁.weaken t₂⟩

theorem names_swapped {xs : List Str} : StoresOk g.M env (xs.map fun x => bindName env x) xs := by
  induction xs with
  | nil => exact .nil
  | cons x xs ih => exact .cons (fun v A Q E s h => wpAny_bindName h) ih
theorem RepAs.reverse : ∀ {as : List AV} {vs : List Value}, RepAs g.prog g.w P as vs → RepAs g.prog g.w P as.reverse vs.reverse := by
  have app : ∀ {as as' : List AV} {vs vs' : List Value}, RepAs g.prog g.w P as vs → RepAs g.prog g.w P as' vs' → RepAs g.prog g.w P (as ++ as') (vs ++ vs') := by
    intro as as' vs vs' h h'
    induction h with
    | nil => exact h'
    | cons h _ ih => exact .cons h ih
  intro as vs h
  induction h with
  | nil => exact .nil
  | cons h _ ih => rw [List.reverse_cons, List.reverse_cons]; exact app ih (.cons h .nil)

theorem WS.assignSwap {es vs : List Expr} {k k' : Nat} {tpos vpos pos : Pos} {xs : List Str} {Q : Fl → Ro → St → Prop} (hb : ∀ x ∈ xs, Bound env x) (h31 : xs.length ≤ 30)
    (h : WEs g n env ρ σ vs fun as σ₁ => as.length = xs.length ∧ ∃ ρ', Offs ρ xs.reverse as.reverse ρ' ∧ Q .next ρ' σ₁)
    (hs : swapsWithSole [.Tuple es k tpos] (.Tuple vs k' vpos) pos.line env = pure false := by rfl) (hw : swappedStores [.Tuple es k tpos] (.Tuple vs k' vpos) env = pure (some xs) := by rfl) : WS g n env ρ σ (.Assign [.Tuple es k tpos] (.Tuple vs k' vpos) pos) Q := by
  intro A E P s hA S F
  refine Assign_Tuple_swapped (wpAny_Tuple (wpAny_mono (h vpos A E P s hA S F) (fun us s₁ zs => ?_) fun _ _ x => x)) hs hw
  refine zs.elim fun as P₁ σ₁ zn3 rs S₁ t₁ => ?_; obtain ⟨hlen, ρ', ho, hq⟩ := zn3
  refine ⟨by rw [rs.length, hlen, sizeLine_eq]; exact o1 h31 rfl, ?_⟩
  obtain ⟨k1, k2, k3⟩ := push_new (h := s₁.heap) (o := seqObj "tuple" us.toArray 0)
  have ht : (s₁.heap.push (seqObj "tuple" us.toArray 0)).IsTuple s₁.heap.objs.size us.toArray := ⟨_, k3, rfl, _, rfl⟩
  have hsz : xs.length = us.toArray.size := by rw [List.size_toArray, rs.length, hlen]
  rw [hsz]
  refine wpAny_unpackItems_tuple hA.handled ht fun h' hx => ?_
  have hk : ∀ b o, s₁.heap.get? b = some o → h'.get? b = some o := fun b o e => extBut_old (Heap.get?_none_of_le (Nat.le_refl _)) hx b o (k1 b o e)
  have F₁ := F.step t₁
  refine wpAny_mono (stores_in_order F₁ _ _ _ _ _ _ _ (fun r => Q .next r σ₁) (names_swapped (xs := xs.reverse)) (fun x hx => hb x (List.mem_reverse.mp hx)) (by simpa using rs.reverse) ho hq ⟨S₁.sh.grow hk, S₁.gens, S₁.os⟩ (F₁.step (.grow hk)) (Step.grow hk).weaken) (fun _ s₂ zr2 => ?_) fun _ _ x => x
  refine zr2.elim fun ρ₂ hq S₂ F₂ t₂ => ?_
  exact ⟨.next, ρ₂, P₁, σ₁, hq, rfl, S₂, F₂, Step.transF F F₁ t₁.weaken t₂⟩

noncomputable abbrev FLk (Q : Fl → Ro → St → Prop) (next : Ro → St → Prop) (fl : Fl) (ρ : Ro) (σ : St) : Prop := match fl with
  | .next | .cont => next ρ σ
  | .brk => Q .next ρ σ
  | .ret a => Q (.ret a) ρ σ
theorem WS.while {test : Expr} {body : List Stmt} {pos : Pos} {Q : Fl → Ro → St → Prop} (I : Nat → Ro → St → Prop)
    (turn : ∀ k ρ σ, I k ρ σ → WT g n env ρ σ test fun b σ₁ => if b = true then WSs g n env ρ σ₁ body (FLk Q fun ρ₂ σ₂ => ∃ m, m < k ∧ I m ρ₂ σ₂) else Q .next ρ σ₁) (k : Nat) (h : I k ρ σ) : WS g n env ρ σ (.While test body [] pos) Q := by
  intro A E P s hA S F
  refine wpAny_While (env := env) (codeAny_whileLoop (fun k s' => ∃ ρ' P' σ', I k ρ' σ' ∧ SS g.prog g.w g.s₁ P' σ' s' ∧ SF g.prog g.w env ρ' P' σ' s'.heap ∧ Step (Own env) P σ s.heap P' σ' s'.heap) ?_ k ⟨ρ, P, σ, h, S, F, .refl⟩)
  rintro k s₀ ⟨ρ', P', σ', hI, S', F', t'⟩
  refine (turn k ρ' σ' hI).then hA S' F' fun b P₁ σ₁ s₁ h₁ S₁ F₁ t₁ => ?_
  have t01 := Step.transF F F' t' t₁.weaken
  cases b with
  | false => exact wpAny_execs_nil ⟨.next, ρ', P₁, σ₁, h₁, rfl, S₁, F₁, t01⟩
  | true =>
    refine wpAny_mono (h₁ A _ P₁ s₁ hA S₁ F₁) (fun f s₂ zr2 => ?_) fun _ _ x => x
    refine zr2.elim fun fl ρ₂ P₂ σ₂ h2 hf S₂ F₂ t₂ => ?_
    have t02 := Step.transF F F₁ t01 t₂
    cases fl with
    | next => cases (hf : f = .next)
              exact h2.elim fun m h2 => ⟨m, h2.1, ρ₂, P₂, σ₂, h2.2, S₂, F₂, t02⟩
    | cont => cases (hf : f = .cont)
              exact h2.elim fun m h2 => ⟨m, h2.1, ρ₂, P₂, σ₂, h2.2, S₂, F₂, t02⟩
    | brk => have hf' : f = .brk := hf
             subst hf'
             exact ⟨.next, ρ₂, P₂, σ₂, h2, rfl, S₂, F₂, t02⟩
    | ret a => obtain ⟨v, rfl, hr⟩ := id hf
               exact ⟨.ret a, ρ₂, P₂, σ₂, h2, ⟨v, rfl, hr⟩, S₂, F₂, t02⟩
end
end
set_option tactic.hygienic false
section

structure Ito (g : Gm) (A : Around) (target : Expr) (it : Addr) (fp wr : List Addr) (P : PM) (items : List D) (St : Nat → Heap → Prop) : Prop where
  frame : ∀ i h h', St i h → (∀ b ∈ fp, ∀ o, h.get? b = some o → h'.get? b = some o) → St i h'
  item : ∀ (i : Nat) (d : D) (s : Shared) (E : Value → Shared → Prop) (P₁ : PM), items[i]? = some d → St i s.heap → (∀ a o, P a = some o → P₁ a = some o) → (∀ a o, P₁ a = some o → s.heap.get? a = some o) →
    wpAny g.M A (pyNext (.ref it)) (fun r s₁ => ∃ v, r = some v ∧ wpAny g.M A (letOwnedTupleGo target (.ref it) v) (fun _ s₂ => ∃ h' tk P', s₂ = { s with heap := h', toks := tk } ∧
      (∀ a o, P₁ a = some o → P' a = some o) ∧ (∀ b o, P' b = some o → P₁ b = some o ∨ (s.heap.get? b = none ∧ h'.get? b = some o)) ∧ Rep g.prog g.w P' d v ∧ St (i + 1) h' ∧ (∀ b o, b ∉ wr → s.heap.get? b = some o → h'.get? b = some o)) E s₁) E s
  live : ∀ i h, St i h → ∀ b ∈ wr, ∃ o, h.get? b = some o
  done : ∀ (s : Shared) (E : Value → Shared → Prop), St items.length s.heap → wpAny g.M A (pyNext (.ref it)) (fun r s₁ => r = none ∧ ∃ h' tk, s₁ = { s with heap := h', toks := tk } ∧ (∀ b o, b ∉ wr → s.heap.get? b = some o → h'.get? b = some o)) E s
  self : ∀ i (s : Shared) (E : Value → Shared → Prop) (Q : Value → Shared → Prop), St i s.heap → Q (.ref it) s → wpAny g.M A (pyIter (.ref it)) Q E s

noncomputable def IterV (g : Gm) (n : Nat) (target : Expr) (a : AV) (items : List D) (σ : St) : Prop :=
  ∀ A E P s v (Q : Value → Shared → Prop), OkA n A → SS g.prog g.w g.s₁ P σ s → RepA g.prog g.w P a v →
    (∀ (it : Addr) (fp wr : List Addr) (St : Nat → Heap → Prop) (h' : Heap) (tk : Nat), Ito g A target it fp wr P items St → St 0 h' → (∀ b o, s.heap.get? b = some o → h'.get? b = some o) → (∀ b ∈ wr, s.heap.get? b = none ∧ ∃ o, h'.get? b = some o) → (∀ b ∈ fp, b ∈ wr ∨ ∃ o, P b = some o) → Q (.ref it) { s with heap := h', toks := tk }) →
    wpAny g.M A (pyIter v) Q E s

noncomputable def ownTypes : List String := ["enumerate", "zip", "dict_itemiterator", "dict_reverseitemiterator", "odict_iterator", "itertools.zip_longest", "itertools.pairwise"]

theorem letGo_plain {M : Model} {A : Around} {E : Value → Shared → Prop} {target : Expr} {it : Addr} {v : Value} {s : Shared} {T : String} {o : Obj} (ho : s.heap.get? it = some o) (hc : o.cls = .type T) (hT : ownTypes.contains T = false) {Q : Unit → Shared → Prop} (h : Q () s) :
    wpAny M A (letOwnedTupleGo target (.ref it) v) Q E s := by
  unfold letOwnedTupleGo
  have key : wpAny M A (do
    let (.ref r, .ref a) := (Value.ref it, v) | return
    let o ← load r
    match o.cls, o.data with
    | .type n, .fields vs =>
      if ["enumerate", "zip", "dict_itemiterator", "dict_reverseitemiterator", "odict_iterator", "itertools.zip_longest", "itertools.pairwise"].contains n && vs[0]? == some (rawInt a) then
        rule "for.unpacks-the-owned-tuple"
        updateField r 0 .none
    | _, _ => pure ()) Q E s := by
    cases v with
    | ref a =>
      refine wpAny_bind (wpAny_load ho ?_)
      rw [hc]
      cases hd : o.data with
      | fields vs =>
        dsimp only
        have : (["enumerate", "zip", "dict_itemiterator", "dict_reverseitemiterator", "odict_iterator", "itertools.zip_longest", "itertools.pairwise"].contains T && vs[0]? == some (rawInt a)) = false := by
          rw [show ["enumerate", "zip", "dict_itemiterator", "dict_reverseitemiterator", "odict_iterator", "itertools.zip_longest", "itertools.pairwise"].contains T = false from hT]; rfl
        rw [this]
        exact wpAny_pure h
      | _ => exact wpAny_pure h
    | _ => exact wpAny_pure h
  cases target <;> first | exact wpAny_pure h | exact key

section
variable {g : Gm} {n : Nat} {σ : St}

theorem Ito.of_walks {A : Around} {target : Expr} {it : Addr} {fp : List Addr} {P : PM} {items : List D} {St : Nat → Heap → Prop} {Pv : Nat → Value → Prop} {k : Nat} (W : Walks g.prog g.w A it fp [it] k Pv St) (hk : k = items.length)
    (hv : ∀ i v d, items[i]? = some d → Pv i v → Rep g.prog g.w P d v) (hT : ∀ i h, St i h → ∃ T o, h.get? it = some o ∧ o.cls = .type T ∧ ownTypes.contains T = false) : Ito g A target it fp [it] P items St where
  frame := W.frame
  live := fun i h hst b hb => by
    obtain ⟨T, o, ho, _⟩ := hT i h hst
    rw [List.mem_singleton.mp hb]; exact ⟨o, ho⟩
  item := fun i d s E P₁ hd hst hle hkp => by
    have hi : i < k := by rw [hk]; exact (List.getElem?_eq_some_iff.mp hd).1
    refine W.item i s _ E hi hst fun v h' tk hP hst' hkeep => ⟨v, rfl, ?_⟩
    obtain ⟨T, o, ho, hc, hT'⟩ := hT _ _ hst'
    exact letGo_plain (s := { s with heap := h', toks := tk }) ho hc hT' ⟨h', tk, P₁, rfl, fun _ _ e => e, fun _ _ e => .inl e, (hv i v d hd hP).mono (prog := g.prog) (w := g.w) hle, hst', hkeep⟩
  done := fun s E hst => W.done s _ E (hk ▸ hst) fun h' tk hkeep => ⟨rfl, h', tk, rfl, hkeep⟩
  self := fun i s E Q hst h => W.self i s Q E hst h

set_option tactic.hygienic true in
theorem IterV.lst {target : Expr} {ds : List D} : IterV g n target (.d (.lst ds)) ds σ := by
  intro A E P s v Q hA S hr h
  cases hr with
  | lst hP hs rs nd =>
  rename_i a o vs
  have hl : s.heap.IsList a vs.toArray := ⟨o, S.sh.keepP _ _ hP, hs⟩
  refine wpAny_pyIter_list hl ?_
  have hne : a ≠ s.heap.objs.size := Nat.ne_of_lt (Heap.lt_size (S.sh.keepP _ _ hP))
  obtain ⟨k1, k2, k3⟩ := push_new (h := s.heap) (o := { cls := .type "list_iterator", data := .fields #[.ref a, .int 0 0] })
  refine h _ [s.heap.objs.size, a] [s.heap.objs.size] _ _ s.toks (Ito.of_walks (Walks.list hA.handled s.heap.objs.size a hne vs.toArray) (by simp [rs.length]) (fun i v d hd hv => ?_) fun i h hst => ?_) ⟨⟨_, k3, rfl, rfl⟩, hl.at fun o e => k1 _ _ e⟩ k1 ?_ ?_
  · obtain ⟨u, h1, h2⟩ := rs.get hd
    have : vs[i]? = some v := by simpa using hv
    rw [this] at h1; cases h1; exact h2
  · obtain ⟨⟨o', ho', hc, _⟩, _⟩ := hst
    exact ⟨"list_iterator", o', ho', hc, by decide⟩
  · intro b hb
    rw [List.mem_singleton.mp hb]; exact ⟨k2, _, k3⟩
  · intro b hb
    rcases List.mem_cons.mp hb with rfl | hb
    · exact .inl (.head _)
    · rw [List.mem_singleton.mp hb]; exact .inr ⟨o, hP⟩
set_option tactic.hygienic true in
theorem IterV.tup {target : Expr} {ds : List D} : IterV g n target (.d (.tup ds)) ds σ := by
  intro A E P s v Q hA S hr h
  cases hr with
  | tup hP hs rs =>
  rename_i a o vs
  have hl : s.heap.IsTuple a vs.toArray := ⟨o, S.sh.keepP _ _ hP, hs⟩
  refine wpAny_pyIter_tuple hl ?_
  have hne : a ≠ s.heap.objs.size := Nat.ne_of_lt (Heap.lt_size (S.sh.keepP _ _ hP))
  obtain ⟨k1, k2, k3⟩ := push_new (h := s.heap) (o := { cls := .type "tuple_iterator", data := .fields #[.ref a, .int 0 0] })
  refine h _ [s.heap.objs.size, a] [s.heap.objs.size] _ _ s.toks (Ito.of_walks (Walks.tuple hA.handled s.heap.objs.size a hne vs.toArray) (by simp [rs.length]) (fun i v d hd hv => ?_) fun i h hst => ?_) ⟨⟨_, k3, rfl, rfl⟩, hl.at fun o e => k1 _ _ e⟩ k1 ?_ ?_
  · obtain ⟨u, h1, h2⟩ := rs.get hd
    have : vs[i]? = some v := by simpa using hv
    rw [this] at h1; cases h1; exact h2
  · obtain ⟨⟨o', ho', hc, _⟩, _⟩ := hst
    exact ⟨"tuple_iterator", o', ho', hc, by decide⟩
  · intro b hb
    rw [List.mem_singleton.mp hb]; exact ⟨k2, _, k3⟩
  · intro b hb
    rcases List.mem_cons.mp hb with rfl | hb
    · exact .inl (.head _)
    · rw [List.mem_singleton.mp hb]; exact .inr ⟨o, hP⟩

theorem Obj.IsDictOf.dictAt {K : Type} [DecidableEq K] {knd : KeyKind g.prog g.w K} {o : Obj} {kvs : List (K × Value)} {a : Addr} {h : Heap} (hd : o.IsDictOf knd kvs) (ho : h.get? a = some o) : ∃ ep, h.DictAt knd a kvs ep := by
  obtain ⟨o', es, ep, ho', r⟩ := Heap.dictOf_iff.mpr ⟨o, ho, hd⟩
  exact ⟨ep, o', es, ho', r⟩

theorem IterV.dict {K : Type} [DecidableEq K] (knd : KeyKind g.prog g.w K) (enc : K → D) (henc : ∀ k v P, knd.is k v = true → Rep g.prog g.w P (enc k) v) {target : Expr} {a : Addr} {o : Obj} {vk : List (K × Value)} {A : Around} {E : Value → Shared → Prop} {P : PM} {s : Shared} {Q : Value → Shared → Prop}
    (hA : OkA n A) (S : SS g.prog g.w g.s₁ P σ s) (hP : P a = some o) (hd : o.IsDictOf knd vk) (hlo : (a == sysModules) = false)
    (h : ∀ (it : Addr) (fp wr : List Addr) (St : Nat → Heap → Prop) (h' : Heap) (tk : Nat), Ito g A target it fp wr P (vk.map fun p => enc p.1) St → St 0 h' → (∀ b o, s.heap.get? b = some o → h'.get? b = some o) → (∀ b ∈ wr, s.heap.get? b = none ∧ ∃ o, h'.get? b = some o) → (∀ b ∈ fp, b ∈ wr ∨ ∃ o, P b = some o) → Q (.ref it) { s with heap := h', toks := tk }) :
    wpAny g.M A (pyIter (.ref a)) Q E s := by
  obtain ⟨ep, hat⟩ := Obj.IsDictOf.dictAt hd (S.sh.keepP _ _ hP)
  refine wpAny_pyIter_dict hlo hat ?_
  have hne : a ≠ s.heap.objs.size := Nat.ne_of_lt (Heap.lt_size (S.sh.keepP _ _ hP))
  obtain ⟨k1, k2, k3⟩ := push_new (h := s.heap) (o := { cls := .type "dict_keyiterator", data := .fields #[.ref a, .int 0 0, .int vk.length 0, .int ep 0] })
  refine h _ [s.heap.objs.size, a] [s.heap.objs.size] _ _ s.toks (Ito.of_walks (Walks.dictKeys hA.handled s.heap.objs.size a hne vk ep) (by simp) (fun i v d hd hv => ?_) fun i h hst => ?_) ⟨⟨_, k3, rfl, rfl⟩, hat.at' fun o e => k1 _ _ e⟩ k1 ?_ ?_
  · obtain ⟨k, x, hx, hk⟩ := hv
    rw [List.getElem?_map, hx] at hd
    cases hd
    exact henc k v P hk
  · obtain ⟨⟨o', ho', hc, _⟩, _⟩ := hst
    exact ⟨"dict_keyiterator", o', ho', hc, by decide⟩
  · intro b hb
    rw [List.mem_singleton.mp hb]; exact ⟨k2, _, k3⟩
  · intro b hb
    rcases List.mem_cons.mp hb with rfl | hb
    · exact .inl (.head _)
    · rw [List.mem_singleton.mp hb]; exact .inr ⟨o, hP⟩
set_option tactic.hygienic true in
theorem IterV.dcts {target : Expr} {kvs : List (Str × D)} : IterV g n target (.d (.dcts kvs)) (kvs.map fun p => .str p.1) σ := by
  intro A E P s v Q hA S hr h
  cases hr with
  | dcts hP hd hlo hk rs =>
  rename_i a o vk
  have e : (kvs.map fun p => D.str p.1) = vk.map fun p => .str p.1 := by
    have := congrArg (List.map D.str) hk
    simpa [List.map_map, Function.comp_def] using this
  rw [e] at h
  exact IterV.dict (strKind g.prog g.w) .str (fun k v P hk => by obtain ⟨t, rfl⟩ := Value.isStrOf_shape hk; exact .str _ _) hA S hP hd hlo h
set_option tactic.hygienic true in
theorem IterV.dcti {target : Expr} {kvs : List (Int × D)} : IterV g n target (.d (.dcti kvs)) (kvs.map fun p => .int p.1) σ := by
  intro A E P s v Q hA S hr h
  cases hr with
  | dcti hP hd hlo hk rs =>
  rename_i a o vk
  have e : (kvs.map fun p => D.int p.1) = vk.map fun p => .int p.1 := by
    have := congrArg (List.map D.int) hk
    simpa [List.map_map, Function.comp_def] using this
  rw [e] at h
  exact IterV.dict (intKind g.prog g.w) .int (fun k v P hk => by obtain ⟨t, rfl⟩ := Value.isInt_shape hk; exact .int _ _) hA S hP hd hlo h
set_option tactic.hygienic true in
theorem IterV.rng {target : Expr} {k : Nat} (hk : k < 1000) : IterV g n target (.d (.rng k)) ((List.range k).map fun (i : Nat) => D.int (Int.ofNat i)) σ := by
  intro A E P s v Q hA S hr h
  cases hr with
  | rng hP =>
  rename_i a t u v
  have hsz : Builtin.Range.rangeSize 0 (k : Int) 1 = (k : Int) := by
    unfold Builtin.Range.rangeSize
    simp
    omega
  refine wpAny_pyIter_range (S.sh.keepP _ _ hP) (PySem.small_one (by decide) (by decide) (by omega) (by omega)) ?_
  obtain ⟨k1, k2, k3⟩ := push_new (h := s.heap) (o := { cls := .type "range_iterator", data := .fields #[rawInt 0, rawInt (Builtin.Range.rangeSize 0 (k : Int) 1), rawInt 1] })
  refine h _ [s.heap.objs.size] [s.heap.objs.size] _ _ s.toks (Ito.of_walks (Walks.range hA.handled s.heap.objs.size 0 1 k) (by simp) (fun i v d hd hv => ?_) fun i h hst => ?_) (by show Heap.get? _ _ = _; rw [k3, hsz]; simp) k1 ?_ ?_
  · obtain ⟨t, rfl⟩ := hv
    have : i < k ∧ D.int (Int.ofNat i) = d := by
      rw [List.getElem?_map] at hd
      by_cases hi : i < k
      · rw [List.getElem?_range hi] at hd; cases hd; exact ⟨hi, rfl⟩
      · rw [List.getElem?_eq_none (by simpa using hi)] at hd; cases hd
    rw [← this.2]
    simpa using Rep.int (prog := g.prog) (w := g.w) (P := P) (i : Int) t
  · exact ⟨"range_iterator", _, hst, rfl, by decide⟩
  · intro b hb
    rw [List.mem_singleton.mp hb]; exact ⟨k2, _, k3⟩
  · intro b hb
    exact .inl hb

noncomputable def FL (g : Gm) (n : Nat) (env : Env) (t : Expr) (body : List Stmt) (Q : Fl → Ro → St → Prop) : List D → Ro → St → Prop
  | [], ρ, σ => Q .next ρ σ
  | d :: r, ρ, σ => WA g n env t (.d d) ρ σ fun ρ₁ => WSs g n env ρ₁ σ body (FLk Q (FL g n env t body Q r))

theorem SS.walk {P P' : PM} {s : Shared} {h' : Heap} {tk : Nat} {wr : List Addr} (S : SS g.prog g.w g.s₁ P σ s) (hle : ∀ a o, P a = some o → P' a = some o) (hnew : ∀ b o, P' b = some o → P b = some o ∨ (s.heap.get? b = none ∧ h'.get? b = some o))
    (hk : ∀ b o, b ∉ wr → s.heap.get? b = some o → h'.get? b = some o) (hw : ∀ b ∈ wr, P b = none ∧ σ b = none) : SS g.prog g.w g.s₁ P' σ { s with heap := h', toks := tk } := by
  have hwP : ∀ b o, P b = some o → b ∉ wr := fun b o e hb => by rw [(hw b hb).1] at e; cases e
  have hwS : ∀ b c, σ b = some c → b ∉ wr := fun b o e hb => by rw [(hw b hb).2] at e; cases e
  refine ⟨⟨fun a o e => hle a o (S.sh.base a o e), fun a o e => ?_, fun a c e => ?_⟩, S.gens, S.os⟩
  · rcases hnew a o e with q | q
    · exact hk a o (hwP a o q) (S.sh.keepP a o q)
    · exact q.2
  · obtain ⟨h1, o, ho, hr⟩ := S.sh.cells a c e
    refine ⟨?_, o, hk a o (hwS a c e) ho, hr.mono hle⟩
    cases hp : P' a with
    | none => rfl
    | some o' => rcases hnew a o' hp with q | q
                 · rw [h1] at q; cases q
                 · rw [ho] at q; cases q.1

theorem Step.walk {X : Addr → Prop} {P₀ P P' : PM} {σ₀ : St} {h₀ h h' : Heap} {wr : List Addr} (t : Step X P₀ σ₀ h₀ P σ h) (hX : ∀ x o, X x → h₀.get? x = some o → σ₀ x = none ∧ ∃ o', h.get? x = some o') (hle : ∀ a o, P a = some o → P' a = some o) (hnew : ∀ b o, P' b = some o → P b = some o ∨ (h.get? b = none ∧ h'.get? b = some o))
    (hk : ∀ b o, b ∉ wr → h.get? b = some o → h'.get? b = some o) (hw : ∀ b ∈ wr, h₀.get? b = none) : Step X P₀ σ₀ h₀ P' σ h' where
  le := fun a o e => hle a o (t.le a o e)
  keep := fun b o e hs hx => hk b o (fun hb => by rw [hw b hb] at e; cases e) (t.keep b o e hs hx)
  newP := fun b o e => by
    rcases hnew b o e with q | q
    · exact t.newP b o q
    · cases h0 : h₀.get? b with
      | none => exact .inr (.inl rfl)
      | some o0 =>
        by_cases hs : σ₀ b = none
        · by_cases hx : X b
          · obtain ⟨_, o', ho'⟩ := hX b o0 hx h0
            rw [ho'] at q; cases q.1
          · rw [t.keep b o0 h0 hs hx] at q; cases q.1
        · exact .inr (.inr hs)
  newS := t.newS
  live := fun b o e hx => by
    obtain ⟨o', e'⟩ := t.live b o e hx
    exact ⟨o', hk b o' (fun hb => by rw [hw b hb] at e; cases e) e'⟩

noncomputable def WrOk (env : Env) (wr : List Addr) (P : PM) (σ : St) (h : Heap) : Prop := ∀ b ∈ wr, P b = none ∧ σ b = none ∧ (∃ o, h.get? b = some o) ∧ ¬ Fa env b
theorem WrOk.two {env : Env} {wr : List Addr} {P : PM} {σ : St} {h : Heap} (w : WrOk env wr P σ h) : ∀ b ∈ wr, P b = none ∧ σ b = none := fun b hb => ⟨(w b hb).1, (w b hb).2.1⟩
theorem WrOk.walk {env : Env} {wr : List Addr} {P P₂ : PM} {σ : St} {h h₂ : Heap} (w : WrOk env wr P σ h) (hnew : ∀ b o, P₂ b = some o → P b = some o ∨ h.get? b = none ∧ h₂.get? b = some o) (hl : ∀ b ∈ wr, ∃ o, h₂.get? b = some o) : WrOk env wr P₂ σ h₂ := fun b hb => by
  obtain ⟨h1, h2, ⟨o, h3⟩, h4⟩ := w b hb
  refine ⟨?_, h2, hl b hb, h4⟩
  cases hp : P₂ b with
  | none => rfl
  | some o' => rcases hnew b o' hp with q | q
               · rw [h1] at q; cases q
               · rw [h3] at q; cases q.1
theorem WrOk.step {env : Env} {wr : List Addr} {X : Addr → Prop} {P P₂ : PM} {σ σ₂ : St} {h h₂ : Heap} (w : WrOk env wr P σ h) (t : Step X P σ h P₂ σ₂ h₂) (hl : ∀ b ∈ wr, ∃ o, h₂.get? b = some o) : WrOk env wr P₂ σ₂ h₂ := fun b hb => by
  obtain ⟨h1, h2, ⟨o, h3⟩, h4⟩ := w b hb
  refine ⟨?_, ?_, hl b hb, h4⟩
  · cases hp : P₂ b with
    | none => rfl
    | some o' => rcases t.newP b o' hp with q | q | q
                 · rw [h1] at q; cases q
                 · rw [h3] at q; cases q
                 · exact absurd h2 q
  · cases hp : σ₂ b with
    | none => rfl
    | some c => rcases t.newS b c hp with q | q
                · exact absurd h2 q
                · rw [h3] at q; cases q
theorem SF.walk {prog : Program} {w : World} {env : Env} {ρ : Ro} {wr : List Addr} {P P₂ : PM} {σ : St} {h h₂ : Heap} (F : SF prog w env ρ P σ h) (hle : ∀ a o, P a = some o → P₂ a = some o)
    (hnew : ∀ b o, P₂ b = some o → P b = some o ∨ h.get? b = none ∧ h₂.get? b = some o) (hk : ∀ b o, b ∉ wr → h.get? b = some o → h₂.get? b = some o) (hfa : ∀ b ∈ wr, ¬ Fa env b) : SF prog w env ρ P₂ σ h₂ := by
  have key : ∀ b, Fa env b → ∀ o, h.get? b = some o → h₂.get? b = some o := fun b hb o e => hk b o (fun hm => hfa b hm hb) e
  have off : ∀ b, Fa env b → P₂ b = none := fun b hb => by
    obtain ⟨h1, h2, o, h3⟩ := F.fa hb
    cases hp : P₂ b with
    | none => rfl
    | some o' => rcases hnew b o' hp with q | q
                 · rw [h1] at q; cases q
                 · rw [h3] at q; cases q.1
  have cellUp : ∀ x c u, env.cells.lookup x = some c → h.IsCell c u → h₂.IsCell c u := fun x c u e y => y.imp fun o z => ⟨key c (.inr ⟨x, e⟩) o z.1, z.2⟩
  refine ⟨F.kind, F.glob, F.blt, F.ns.imp fun m y => ⟨y.1.at' (key _ (.inl rfl)), fun p hp hkp => (y.2 p hp hkp).imp fun _ y => ⟨y.1, y.2.mono hle⟩⟩, fun p hp hkp => ?_, ⟨off _ (.inl rfl), F.offL.2⟩, fun x c e => ?_, F.has, F.inj, F.nocd⟩
  · obtain ⟨c, u, h1, h2, h3, h4⟩ := F.cl p hp hkp
    exact ⟨c, u, h1, h2, cellUp _ _ _ h2 h3, h4.mono hle⟩
  · obtain ⟨h1, h2, u, h3⟩ := F.offC x c e
    exact ⟨off c (.inr ⟨x, e⟩), h2, u, cellUp x c u e h3⟩
theorem Stt_step {X : Addr → Prop} {Stt : Nat → Heap → Prop} {k : Nat} {fp : List Addr} {P P₂ : PM} {σ σ₂ : St} {h h₂ : Heap} (hfr : ∀ i h h', Stt i h → (∀ b ∈ fp, ∀ o, h.get? b = some o → h'.get? b = some o) → Stt i h') (hst : Stt k h)
    (t : Step X P σ h P₂ σ₂ h₂) (hσ : ∀ b ∈ fp, σ b = none) (hX : ∀ b ∈ fp, ¬ X b) : Stt k h₂ := hfr _ _ _ hst fun b hb o e => t.keep b o e (hσ b hb) (hX b hb)
noncomputable def FEnd (Qn : Flow → Shared → Prop) (I : Nat → Shared → Prop) (k : Nat) (f : Flow) (s : Shared) : Prop := match f with
  | .next | .cont => ∃ m, m < k ∧ I m s
  | .brk => Qn .next s
  | .ret v => Qn (.ret v) s
noncomputable def Turn (M : Model) (A : Around) (env : Env) (t : Expr) (it : Addr) (body : List Stmt) (Qn : Flow → Shared → Prop) (E₁ : Value → Shared → Prop) (I : Nat → Shared → Prop) (k : Nat) (s : Shared) : Prop :=
  wpAny M A (pyNext (.ref it)) (fun r s₁ => (r = none ∧ Qn .next s₁) ∨ ∃ v, r = some v ∧ wpAny M A (letOwnedTupleGo t (.ref it) v) (fun _ s₂ => wpAny M A (assign t env v) (fun _ s₃ => wpAny M A (execs body env) (FEnd Qn I k) E₁ s₃) E₁ s₂) E₁ s₁) E₁ s
theorem For_run {A : Around} {E : Value → Shared → Prop} {env : Env} {t iter : Expr} {body : List Stmt} {pos : Pos} {s : Shared} {Qn : Flow → Shared → Prop}
    (h : wpAny g.M A (eval iter env) (fun x s₁ => wpAny g.M A (pyIter x) (fun v s₂ => ∃ it, v = .ref it ∧ ∃ I k, I k s₂ ∧ ∀ E₁ k s, I k s → Turn g.M A env t it body Qn E₁ I k s) E s₁) E s)
    (hs : ∀ x, foldedSetIterable iter env x = pure x) : wpAny g.M A (exec (.For t iter body [] pos) env) Qn E s := by
  refine wpAny_For (wpAny_mono h (fun x s₁ h => wpAny_mono h (fun v s₂ z => ?_) fun _ _ x => x) fun _ _ x => x) hs
  obtain ⟨it, rfl, I, k, hI, ht⟩ := z
  refine codeAny_forLoop_any I (fun n s hI => wpAny_mono (ht _ n s hI) (fun r s₁ z => ?_) fun _ _ x => x) k hI
  rcases z with ⟨rfl, hq⟩ | ⟨v, rfl, hv⟩
  · exact wpAny_execs_nil hq
  · refine wpAny_mono hv (fun _ s₂ z => wpAny_mono z (fun _ s₃ z => wpAny_mono z (fun f s₄ z => ?_) fun _ _ x => x) fun _ _ x => x) fun _ _ x => x
    cases f <;> exact z
theorem WS.for {env : Env} {ρ : Ro} {t iter : Expr} {body : List Stmt} {pos : Pos} {Q : Fl → Ro → St → Prop} (h : WE g n env ρ σ iter fun a σ₁ => ∃ items, IterV g n t a items σ₁ ∧ FL g n env t body Q items ρ σ₁)
    (hs : ∀ x, foldedSetIterable iter env x = pure x := by intro _; rfl) : WS g n env ρ σ (.For t iter body [] pos) Q := by
  intro A E P s hA S F
  refine For_run (h.then hA S F fun a P₀ σ₀ v s₀ zr5 hr S₀ F₀ t₀ => ?_) hs
  obtain ⟨items, hiter, hfl⟩ := zr5
  refine hiter A E P₀ s₀ v _ hA S₀ hr fun it fp wr Stt h' tk W hst hk hw hfp => ⟨it, rfl, ?_⟩
  have S0' : SS g.prog g.w g.s₁ P₀ σ₀ { s₀ with heap := h', toks := tk } := ⟨S₀.sh.grow hk, S₀.gens, S₀.os⟩
  have w0 : WrOk env wr P₀ σ₀ h' := fun b hb => ⟨(S₀.sh.fresh (hw b hb).1).1, (S₀.sh.fresh (hw b hb).1).2, (hw b hb).2, fun ho => by
      obtain ⟨_, _, o, ho'⟩ := F₀.fa ho
      rw [(hw b hb).1] at ho'; cases ho'⟩
  -- the loop
  obtain ⟨I, hI⟩ : ∃ I : Nat → Shared → Prop, ∀ k s', I k s' ↔ ∃ i ρ' P' σ', k = items.length - i ∧ i ≤ items.length ∧ FL g n env t body Q (items.drop i) ρ' σ' ∧ SS g.prog g.w g.s₁ P' σ' s' ∧ SF g.prog g.w env ρ' P' σ' s'.heap ∧ Step (Own env) P₀ σ₀ s₀.heap P' σ' s'.heap ∧ Stt i s'.heap ∧ WrOk env wr P' σ' s'.heap := ⟨_, fun _ _ => .rfl⟩
  refine ⟨I, items.length, (hI _ _).mpr ⟨0, ρ, P₀, σ₀, rfl, Nat.zero_le _, hfl, S0', F₀.step (.grow hk), (Step.grow hk).weaken, hst, w0⟩, fun E₁ k s' hI' => ?_⟩
  obtain ⟨i, ρ', P', σ', rfl, hi, hfl', S', F', t', hst', hw'⟩ := (hI _ _).mp hI'
  clear hI'
  have hX' : ∀ x o, Own env x → s₀.heap.get? x = some o → σ₀ x = none ∧ ∃ o', s'.heap.get? x = some o' := fun x o hx _ => ⟨(F₀.own hx).2.1, (F'.own hx).2.2⟩
  by_cases hlt : i < items.length
  · have hd : items[i]? = some items[i] := by simp [hlt]
    rw [List.drop_eq_getElem_cons hlt] at hfl'
    refine wpAny_mono (W.item i items[i] s' E₁ P' hd hst' t'.le S'.sh.keepP) (fun r s₁ zr2 => ?_) fun _ _ x => x
    obtain ⟨v, hv, hgo⟩ := zr2
    refine .inr ⟨v, hv, wpAny_mono hgo (fun _ s₂ zr2 => ?_) fun _ _ x => x⟩
    obtain ⟨h₂, tk₂, P₂, e₂, hle₂, hnew₂, hr₂, hst₂, hk₂⟩ := zr2
    subst e₂
    have S₂ : SS g.prog g.w g.s₁ P₂ σ' { s' with heap := h₂, toks := tk₂ } := S'.walk hle₂ hnew₂ hk₂ hw'.two
    have t₂ : Step (Own env) P₀ σ₀ s₀.heap P₂ σ' h₂ := t'.walk hX' hle₂ hnew₂ hk₂ fun b hb => (hw b hb).1
    have F₂ : SF g.prog g.w env ρ' P₂ σ' h₂ := F'.walk hle₂ hnew₂ hk₂ fun b hb => (hw' b hb).2.2.2
    have hw₂ := hw'.walk hnew₂ (W.live _ _ hst₂)
    have hσ₂ : ∀ b ∈ fp, σ' b = none := fun b hb => by
      rcases hfp b hb with q | ⟨o', q⟩
      · exact (hw₂ b q).2.1
      · cases hs : σ' b with
        | none => rfl
        | some c => have := (S₂.sh.cells b c hs).1; rw [hle₂ b o' (t'.le b o' q)] at this; cases this
    have ho₂ : ∀ b ∈ fp, ¬ Own env b := fun b hb ho => by
      rcases hfp b hb with q | ⟨o', q⟩
      · exact (hw₂ b q).2.2.2 ho.fa
      · have := (F₂.own ho).1; rw [hle₂ b o' (t'.le b o' q)] at this; cases this
    refine wpAny_mono (hfl' A E₁ P₂ { s' with heap := h₂, toks := tk₂ } v hA S₂ F₂ hr₂) (fun _ s₃ zr2 => ?_) fun _ _ x => x
    refine zr2.elim fun ρ₃ h₃ S₃ F₃ t₃ => ?_
    have hst₃ : Stt (i + 1) s₃.heap := Stt_step W.frame hst₂ t₃ hσ₂ ho₂
    have t03 := Step.transF F₀ F₂ t₂ t₃
    refine wpAny_mono (h₃ A E₁ P₂ s₃ hA S₃ F₃) (fun f s₄ zr2 => ?_) fun _ _ x => x
    refine zr2.elim fun fl ρ₄ P₄ σ₄ h₄ hf S₄ F₄ t₄ => ?_
    have t04 := Step.transF F₀ F₃ t03 t₄
    have hst₄ : Stt (i + 1) s₄.heap := Stt_step W.frame hst₃ t₄ hσ₂ ho₂
    have hw₄ : WrOk env wr P₄ σ₄ s₄.heap := (hw₂.step t₃ (W.live _ _ hst₃)).step t₄ (W.live _ _ hst₄)
    have again : FL g n env t body Q (items.drop (i + 1)) ρ₄ σ₄ → ∃ m, m < items.length - i ∧ I m s₄ := fun hq =>
      ⟨items.length - (i + 1), Nat.sub_succ_lt_self _ _ hlt, (hI _ _).mpr ⟨i + 1, ρ₄, P₄, σ₄, rfl, hlt, hq, S₄, F₄, t04, hst₄, hw₄⟩⟩
    have tend := Step.transF F F₀ t₀.weaken t04
    cases fl with
    | next => cases (hf : f = .next); exact again h₄
    | cont => cases (hf : f = .cont); exact again h₄
    | brk => cases (hf : f = .brk); exact ⟨.next, ρ₄, P₄, σ₄, h₄, rfl, S₄, F₄, tend⟩
    | ret a => obtain ⟨u, rfl, hr'⟩ := id hf
               exact ⟨.ret a, ρ₄, P₄, σ₄, h₄, ⟨u, rfl, hr'⟩, S₄, F₄, tend⟩
  · have hin : i = items.length := Nat.le_antisymm hi (Nat.not_lt.mp hlt)
    subst hin
    refine wpAny_mono (W.done s' E₁ hst') (fun r s₁ zr2 => ?_) fun _ _ x => x
    obtain ⟨hr₁, h₁, tk₁, e₁, hk₁⟩ := zr2
    subst e₁
    rw [List.drop_length] at hfl'
    have S₁ : SS g.prog g.w g.s₁ P' σ' { s' with heap := h₁, toks := tk₁ } := S'.walk (fun _ _ e => e) (fun _ _ e => .inl e) hk₁ hw'.two
    have t₁ : Step (Own env) P₀ σ₀ s₀.heap P' σ' h₁ := t'.walk hX' (fun _ _ e => e) (fun _ _ e => .inl e) hk₁ fun b hb => (hw b hb).1
    have F₁ : SF g.prog g.w env ρ' P' σ' h₁ := F'.walk (fun _ _ e => e) (fun _ _ e => .inl e) hk₁ fun b hb => (hw' b hb).2.2.2
    exact .inl ⟨hr₁, .next, ρ', P', σ', hfl', rfl, S₁, F₁, Step.transF F F₀ t₀.weaken t₁⟩
end
end
set_option tactic.hygienic false
section

section
variable (g : Gm) (n : Nat) (env : Env)

noncomputable def CIf (ρ : Ro) : List Expr → St → (Bool → St → Prop) → Prop
  | [], σ, R => R true σ
  | c :: cs, σ, R => WT g n env ρ σ c fun b σ₁ => if b = true then CIf ρ cs σ₁ R else R false σ₁
noncomputable def CLoop (t : Expr) (ifs : List Expr) (B : Ro → St → List D → (List D → St → Prop) → Prop) : List D → Ro → St → List D → (List D → St → Prop) → Prop
  | [], ρ, σ, out, R => R out σ
  | d :: r, ρ, σ, out, R => WA g n env t (.d d) ρ σ fun ρ₁ => (∀ p ∈ ρ, p ∈ ρ₁) ∧ CIf g n env ρ₁ ifs σ fun b σ₁ => if b = true then B ρ₁ σ₁ out (fun out' σ₂ => CLoop t ifs B r ρ σ₂ out' R) else CLoop t ifs B r ρ σ₁ out R
noncomputable def CElt (elt : Expr) (ρ : Ro) (σ : St) (out : List D) (R : List D → St → Prop) : Prop := WE g n env ρ σ elt fun a σ₁ => ∃ d, a = .d d ∧ out.length ≤ 100000 ∧ R (out ++ [d]) σ₁
noncomputable def CIn (t iter : Expr) (ifs : List Expr) (elt : Expr) (ρ : Ro) (σ : St) (out : List D) (R : List D → St → Prop) : Prop :=
  WE g n env ρ σ iter fun a σ₁ => ∃ items, IterV g n t a items σ₁ ∧ CLoop g n env t ifs (CElt g n env elt) items ρ σ₁ out R
end

structure Acc (g : Gm) (env : Env) (b : Addr) (out : List D) (P : PM) (σ : St) (h : Heap) : Prop where
  offP : P b = none
  offS : σ b = none
  offX : ¬ Fa env b
  nd : ∃ arr n, h.get? b = some (seqObj "list" arr n)
  is : ∃ o vs, h.get? b = some o ∧ SeqO "list" vs o ∧ Reps g.prog g.w P out vs

noncomputable def XD (env : Env) (D : Addr) (b : Addr) : Prop := Own env b ∨ b = D

section
variable {g : Gm} {n : Nat} {env : Env} {σ : St}

theorem CIf.run {ρ : Ro} {A : Around} {E : Value → Shared → Prop} (hA : OkA n A) : ∀ (ifs : List Expr) (b₀ : Bool) (P : PM) (σ : St) (s : Shared) (R : Bool → St → Prop) , SS g.prog g.w g.s₁ P σ s → SF g.prog g.w env ρ P σ s.heap → (if b₀ = true then CIf g n env ρ ifs σ R else R false σ) →
    wpAny g.M A (forIn ifs b₀ fun c r => if r = true then do let ok ← isTrue c env (eval c env); pure (ForInStep.yield ok) else pure (ForInStep.yield r)) (PostB g P σ s.heap R) E s
  | [], b₀, P, σ, s, R, S, F, h => by
    simp only [List.forIn_nil]
    cases b₀
    · exact wpAny_pure ⟨P, σ, h, S, .refl⟩
    · exact wpAny_pure ⟨P, σ, h, S, .refl⟩
  | c :: cs, b₀, P, σ, s, R, S, F, h => by
    rw [List.forIn_cons]
    cases b₀ with
    | false =>
      simp only [Bool.false_eq_true, if_false]
      exact wpAny_bind (wpAny_pure (CIf.run hA cs false P σ s R S F h))
    | true =>
      simp only [if_true]
      have h' : WT g n env ρ σ c fun b σ₁ => if b = true then CIf g n env ρ cs σ₁ R else R false σ₁ := h
      refine wpAny_bind (wpAny_bind (h'.then hA S F fun b P₁ σ₁ s₁ hb S₁ F₁ t₁ => wpAny_pure ?_))
      exact wpAny_mono (CIf.run hA cs b P₁ σ₁ s₁ R S₁ F₁ hb) (fun _ _ x => x.after t₁) fun _ _ x => x

theorem Acc.step {b : Addr} {out : List D} {P P' : PM} {σ σ' : St} {h h' : Heap} (a : Acc g env b out P σ h) (t : Step (Own env) P σ h P' σ' h') : Acc g env b out P' σ' h' := by
  obtain ⟨o, vs, h1, h2, h3⟩ := a.is
  refine ⟨?_, ?_, a.offX, (by obtain ⟨arr, n, e⟩ := a.nd; exact ⟨arr, n, t.keep b _ e a.offS (fun q => a.offX q.fa)⟩), o, vs, t.keep b o h1 a.offS (fun q => a.offX q.fa), h2, Reps.mono _ _ t.le h3⟩
  · cases e : P' b with
    | none => rfl
    | some o' => rcases t.newP b o' e with q | q | q
                 · rw [a.offP] at q; cases q
                 · rw [h1] at q; cases q
                 · exact absurd a.offS q
  · cases e : σ' b with
    | none => rfl
    | some c => rcases t.newS b c e with q | q
                · exact absurd a.offS q
                · rw [h1] at q; cases q

theorem Step.toX {X Y : Addr → Prop} {P P' : PM} {σ σ' : St} {h h' : Heap} (hXY : ∀ b, X b → Y b) (t : Step X P σ h P' σ' h') : Step Y P σ h P' σ' h' :=
  ⟨t.le, fun b o e hs hy => t.keep b o e hs fun hx => hy (hXY b hx), t.newP, t.newS, fun b o e hy => t.live b o e fun hx => hy (hXY b hx)⟩

structure ItOff (env : Env) (D : Addr) (P : PM) (σ : St) (h : Heap) (wr : List Addr) : Prop where
  off : ∀ b ∈ wr, P b = none ∧ σ b = none ∧ (∃ o, h.get? b = some o) ∧ ¬ Fa env b ∧ b ≠ D


noncomputable def CInv (g : Gm) (n : Nat) (env : Env) (t : Expr) (ifs : List Expr) (B : Ro → St → List Mine.D → (List Mine.D → St → Prop) → Prop) (D : Addr) (wr : List Addr) (items : List Mine.D) (ρ : Ro) (R : List Mine.D → St → Prop) (P₀ : PM) (σ₀ : St) (h₀ : Heap) (Stt : Nat → Heap → Prop) (k : Nat) (s' : Shared) : Prop :=
  ∃ (i : Nat) (P' : PM) (σ' : St) (out' : List Mine.D), k = items.length - i ∧ i ≤ items.length ∧ CLoop g n env t ifs B (items.drop i) ρ σ' out' R ∧ SS g.prog g.w g.s₁ P' σ' s' ∧ SF g.prog g.w env ρ P' σ' s'.heap ∧ Acc g env D out' P' σ' s'.heap ∧
      Step (fun b => XD env D b ∨ b ∈ wr) P₀ σ₀ h₀ P' σ' s'.heap ∧ Stt i s'.heap ∧ ItOff env D P' σ' s'.heap wr

theorem ItOff.two {D : Addr} {P : PM} {h : Heap} {wr : List Addr} (w : ItOff env D P σ h wr) : ∀ b ∈ wr, P b = none ∧ σ b = none := fun b hb => ⟨(w.off b hb).1, (w.off b hb).2.1⟩
theorem ItOff.fa {D : Addr} {P : PM} {h : Heap} {wr : List Addr} (w : ItOff env D P σ h wr) : ∀ b ∈ wr, ¬ Fa env b := fun b hb => (w.off b hb).2.2.2.1
theorem ItOff.liv {D : Addr} {P : PM} {h : Heap} {wr : List Addr} (w : ItOff env D P σ h wr) : ∀ b ∈ wr, ∃ o, h.get? b = some o := fun b hb => (w.off b hb).2.2.1
theorem ItOff.wr {D : Addr} {P : PM} {h : Heap} {wr : List Addr} (w : ItOff env D P σ h wr) : WrOk env wr P σ h := fun b hb => ⟨(w.off b hb).1, (w.off b hb).2.1, (w.off b hb).2.2.1, (w.off b hb).2.2.2.1⟩
theorem ItOff.of {D : Addr} {P P' : PM} {σ' : St} {h h' : Heap} {wr : List Addr} (w : ItOff env D P σ h wr) (w' : WrOk env wr P' σ' h') : ItOff env D P' σ' h' wr := ⟨fun b hb => ⟨(w' b hb).1, (w' b hb).2.1, (w' b hb).2.2.1, (w' b hb).2.2.2, (w.off b hb).2.2.2.2⟩⟩
theorem Acc.walk {D : Addr} {out : List Mine.D} {P P' : PM} {h h' : Heap} {wr : List Addr} (A' : Acc g env D out P σ h) (w : ItOff env D P σ h wr) (hle : ∀ a o, P a = some o → P' a = some o) (hnew : ∀ b o, P' b = some o → P b = some o ∨ (h.get? b = none ∧ h'.get? b = some o))
    (hk : ∀ b o, b ∉ wr → h.get? b = some o → h'.get? b = some o) : Acc g env D out P' σ h' := by
  obtain ⟨o, vs, h1, h2, h3⟩ := A'.is
  have nD : D ∉ wr := fun hm => (w.off D hm).2.2.2.2 rfl
  refine ⟨?_, A'.offS, A'.offX, A'.nd.imp fun arr y => y.imp fun n e => hk D _ nD e, o, vs, hk D o nD h1, h2, Reps.mono _ _ hle h3⟩
  cases hp : P' D with
  | none => rfl
  | some o' => rcases hnew D o' hp with q | q
               · rw [A'.offP] at q; cases q
               · rw [h1] at q; cases q.1
theorem Step.walkX {X : Addr → Prop} {wr : List Addr} {P₀ P P' : PM} {σ₀ : St} {h₀ h h' : Heap} (t' : Step (fun b => X b ∨ b ∈ wr) P₀ σ₀ h₀ P σ h) (hle : ∀ a o, P a = some o → P' a = some o) (hnew : ∀ b o, P' b = some o → P b = some o ∨ (h.get? b = none ∧ h'.get? b = some o))
    (hk : ∀ b o, b ∉ wr → h.get? b = some o → h'.get? b = some o) (hX : ∀ x o, (X x ∨ x ∈ wr) → h₀.get? x = some o → σ₀ x = none ∧ ∃ o', h.get? x = some o') : Step (fun b => X b ∨ b ∈ wr) P₀ σ₀ h₀ P' σ h' := by
  refine t'.trans ⟨hle, fun b o e hs hx => hk b o (fun hm => hx (.inr hm)) e, fun b o e => ?_, fun b c e => .inl (by rw [e]; exact fun x => nomatch x), fun b o e hx => ⟨o, hk b o (fun hm => hx (.inr hm)) e⟩⟩ hX
  exact (hnew b o e).imp id fun q => .inl q.1
theorem XD.live {D : Addr} {ρ : Ro} {out : List Mine.D} {P P₂ : PM} {σ₂ : St} {h h₂ : Heap} {x : Addr} (hx : XD env D x) (F : SF g.prog g.w env ρ P σ h) (a : Acc g env D out P σ h) (F₂ : SF g.prog g.w env ρ P₂ σ₂ h₂) (a₂ : Acc g env D out P₂ σ₂ h₂) : σ x = none ∧ ∃ o', h₂.get? x = some o' := by
  rcases hx with hx | rfl
  · exact ⟨(F.own hx).2.1, (F₂.own hx).2.2⟩
  · obtain ⟨o, vs, h1, _⟩ := a₂.is; exact ⟨a.offS, o, h1⟩
theorem comp_turn {c : Code} {t : Expr} {ifs : List Expr} {it D : Addr} {Bsem : Sem Unit} {B : Ro → St → List Mine.D → (List Mine.D → St → Prop) → Prop} {A : Around} {PO : Fin → Shared → Prop} {E₁ : Value → Shared → Prop} (hA : OkA n A)
    (hB : ∀ P σ s ρ out R E, SS g.prog g.w g.s₁ P σ s → SF g.prog g.w env ρ P σ s.heap → Acc g env D out P σ s.heap → B ρ σ out R →
      wpAny g.M A Bsem (fun _ s' => ∃ P' σ' out', R out' σ' ∧ SS g.prog g.w g.s₁ P' σ' s' ∧ SF g.prog g.w env ρ P' σ' s'.heap ∧ Acc g env D out' P' σ' s'.heap ∧ Step (XD env D) P σ s.heap P' σ' s'.heap) E s)
    {fp wr : List Addr} {Stt : Nat → Heap → Prop} {P₀ : PM} {σ₀ : St} {s₀ : Shared} {ρ : Ro} {items out : List Mine.D} {R : List Mine.D → St → Prop}
    (W : Ito g A t it fp wr P₀ items Stt) (F₀ : SF g.prog g.w env ρ P₀ σ₀ s₀.heap) (A₀ : Acc g env D out P₀ σ₀ s₀.heap) (hw : ItOff env D P₀ σ₀ s₀.heap wr) (hfp : ∀ b ∈ fp, b ∈ wr ∨ ∃ o, P₀ b = some o) {k : Nat} {s' : Shared}
    (hag : ∀ m s, m < k → CInv g n env t ifs B D wr items ρ R P₀ σ₀ s₀.heap Stt m s → PO (.again c) s)
    (fin : ∀ P' σ' s' out', R out' σ' → SS g.prog g.w g.s₁ P' σ' s' → SF g.prog g.w env ρ P' σ' s'.heap → Acc g env D out' P' σ' s'.heap → Step (fun b => XD env D b ∨ b ∈ wr) P₀ σ₀ s₀.heap P' σ' s'.heap → PO (.done .next) s')
    (hI : CInv g n env t ifs B D wr items ρ R P₀ σ₀ s₀.heap Stt k s') :
    wpAny g.M A (pyNext (.ref it) >>= fun r => match r with
      | none => pure (.done .next)
      | some v => letOwnedTupleGo t (.ref it) v >>= fun _ => assign t env v >>= fun _ =>
        (forIn ifs true fun c r => if r = true then do let ok ← isTrue c env (eval c env); pure (ForInStep.yield ok) else pure (ForInStep.yield r)) >>= fun ok =>
          (if ok = true then Bsem else pure ()) >>= fun _ => again c) PO E₁ s' := by
  have hXY : ∀ b, XD env D b → XD env D b ∨ b ∈ wr := fun b h => .inl h
  have hX0 : ∀ x o, (XD env D x ∨ x ∈ wr) → s₀.heap.get? x = some o → σ₀ x = none := fun x o hx _ => by
    rcases hx with (hx | rfl) | hx
    · exact (F₀.own hx).2.1
    · exact A₀.offS
    · exact (hw.off x hx).2.1
  have hXt : ∀ {h'' : Heap} {P'' : PM} {σ'' : St} {o'' : List Mine.D}, SF g.prog g.w env ρ P'' σ'' h'' → Acc g env D o'' P'' σ'' h'' → (∀ b ∈ wr, ∃ o, h''.get? b = some o) → ∀ x o, (XD env D x ∨ x ∈ wr) → s₀.heap.get? x = some o → σ₀ x = none ∧ ∃ o', h''.get? x = some o' := fun F'' A'' hlive x o hx e => ⟨hX0 x o hx e, by
    rcases hx with (hx | rfl) | hx
    · exact (F''.own hx).2.2
    · obtain ⟨o, vs, h1, _⟩ := A''.is; exact ⟨o, h1⟩
    · exact hlive x hx⟩
  obtain ⟨i, P', σ', out', rfl, hi, hl', S', F', A', t', hst', hw'⟩ := hI
  refine wpAny_bind ?_
  by_cases hlt : i < items.length
  · have hd : items[i]? = some items[i] := by simp [hlt]
    rw [List.drop_eq_getElem_cons hlt] at hl'
    refine wpAny_mono (W.item i items[i] s' _ P' hd hst' t'.le S'.sh.keepP) (fun r s₁ zr2 => ?_) fun _ _ x => x
    obtain ⟨v, hv, hgo⟩ := zr2
    subst hv
    refine wpAny_bind (wpAny_mono hgo (fun _ s₂ zr2 => ?_) fun _ _ x => x)
    obtain ⟨h₂, tk₂, P₂, e₂, hle₂, hnew₂, hr₂, hst₂, hk₂⟩ := zr2
    subst e₂
    have S₂ : SS g.prog g.w g.s₁ P₂ σ' { s' with heap := h₂, toks := tk₂ } := S'.walk hle₂ hnew₂ hk₂ hw'.two
    have F₂ : SF g.prog g.w env ρ P₂ σ' h₂ := F'.walk hle₂ hnew₂ hk₂ hw'.fa
    have A₂ : Acc g env D out' P₂ σ' h₂ := A'.walk hw' hle₂ hnew₂ hk₂
    have w₂ : ItOff env D P₂ σ' h₂ wr := hw'.of (hw'.wr.walk hnew₂ (W.live _ _ hst₂))
    have t₂ : Step (fun b => XD env D b ∨ b ∈ wr) P₀ σ₀ s₀.heap P₂ σ' h₂ := t'.walkX hle₂ hnew₂ hk₂ (hXt F' A' hw'.liv)
    have hσ₂ : ∀ b ∈ fp, σ' b = none := fun b hb => by
      rcases hfp b hb with q | ⟨o', q⟩
      · exact (w₂.off b q).2.1
      · cases hs : σ' b with
        | none => rfl
        | some c => have := (S₂.sh.cells b c hs).1; rw [hle₂ b o' (t'.le b o' q)] at this; cases this
    have hX₂ : ∀ b ∈ fp, ¬ XD env D b := fun b hb ho => by
      rcases hfp b hb with q | ⟨o', q⟩
      · rcases ho with ho | rfl
        · exact (w₂.off b q).2.2.2.1 ho.fa
        · exact (w₂.off b q).2.2.2.2 rfl
      · have q' := hle₂ b o' (t'.le b o' q)
        rcases ho with ho | rfl
        · rw [(F₂.own ho).1] at q'; cases q'
        · rw [A₂.offP] at q'; cases q'
    -- the target
    refine wpAny_bind (wpAny_mono (hl' A _ P₂ { s' with heap := h₂, toks := tk₂ } v hA S₂ F₂ hr₂) (fun _ s₃ zr2 => ?_) fun _ _ x => x)
    refine zr2.elim fun ρ₃ zn1 S₃ F₃ t₃ => ?_; obtain ⟨hsub, hif⟩ := zn1
    have hXD : ∀ b, Own env b → XD env D b := fun b h => .inl h
    have A₃ := A₂.step t₃
    -- the tests
    refine wpAny_bind (wpAny_mono (CIf.run hA ifs true P₂ σ' s₃ _ S₃ F₃ hif) (fun b s₄ zr2 => ?_) fun _ _ x => x)
    refine zr2.elim fun P₄ σ₄ hb S₄ t₄ => ?_
    have F₄ := F₃.step t₄
    have A₄ := A₃.step (t₄.weaken (X := Own env))
    have t24 : Step (XD env D) P₂ σ' h₂ P₄ σ₄ s₄.heap := (t₃.toX hXD).trans t₄.weaken fun x o hx e => hx.live F₂ A₂ (F₃.sub hsub) A₃
    have again : ∀ {P₅ : PM} {σ₅ : St} {s₅ : Shared} {out₅ : List Mine.D}, CLoop g n env t ifs B (items.drop (i + 1)) ρ σ₅ out₅ R → SS g.prog g.w g.s₁ P₅ σ₅ s₅ → SF g.prog g.w env ρ₃ P₅ σ₅ s₅.heap → Acc g env D out₅ P₅ σ₅ s₅.heap → Step (XD env D) P₂ σ' h₂ P₅ σ₅ s₅.heap →
        wpAny g.M A (again c) PO E₁ s₅ := fun {P₅ σ₅ s₅ out₅} hl₅ S₅ F₅ A₅ t₅ => by
      have hst₅ : Stt (i + 1) s₅.heap := Stt_step W.frame hst₂ t₅ hσ₂ hX₂
      exact wpAny_pure (hag (items.length - (i + 1)) _ (Nat.sub_succ_lt_self _ _ hlt) ⟨i + 1, P₅, σ₅, out₅, rfl, hlt, hl₅, S₅, F₅.sub hsub, A₅, t₂.trans (t₅.toX hXY) (hXt F₂ A₂ w₂.liv), hst₅, w₂.of (w₂.wr.step t₅ (W.live _ _ hst₅))⟩)
    cases b with
    | false => exact wpAny_bind (wpAny_pure (again hb S₄ F₄ A₄ t24))
    | true =>
      refine wpAny_bind (wpAny_mono (hB P₄ σ₄ s₄ ρ₃ out' _ _ S₄ F₄ A₄ hb) (fun _ s₅ zr2 => ?_) fun _ _ x => x)
      obtain ⟨P₅, σ₅, out₅, hl₅, S₅, F₅, A₅, t₅⟩ := zr2
      exact again hl₅ S₅ F₅ A₅ (t24.trans t₅ fun x o hx e => hx.live F₂ A₂ (F₄.sub hsub) A₄)
  · have hin : i = items.length := Nat.le_antisymm hi (Nat.not_lt.mp hlt)
    subst hin
    refine wpAny_mono (W.done s' _ hst') (fun r s₁ zr2 => ?_) fun _ _ x => x
    obtain ⟨hr₁, h₁, tk₁, e₁, hk₁⟩ := zr2
    subst hr₁ e₁
    rw [List.drop_length] at hl'
    have S₁ : SS g.prog g.w g.s₁ P' σ' { s' with heap := h₁, toks := tk₁ } := S'.walk (fun _ _ e => e) (fun _ _ e => .inl e) hk₁ hw'.two
    exact wpAny_pure (fin P' σ' _ out' hl' S₁ (F'.walk (fun _ _ e => e) (fun _ _ e => .inl e) hk₁ hw'.fa) (A'.walk hw' (fun _ _ e => e) (fun _ _ e => .inl e) hk₁) (t'.walkX (fun _ _ e => e) (fun _ _ e => .inl e) hk₁ (hXt F' A' hw'.liv)))
theorem comp_loop {c : Code} {t iter : Expr} {ifs : List Expr} {it D : Addr} {Bsem : Sem Unit} {B : Ro → St → List Mine.D → (List Mine.D → St → Prop) → Prop} {A : Around} {Res : Result → Shared → Prop}
    (hq : c.quiet = true) (hden : g.M.den c = ((standAt iter.pos >>= fun _ => pyNext (.ref it) >>= fun r => match r with
      | none => pure (.done .next)
      | some v => letOwnedTupleGo t (.ref it) v >>= fun _ => assign t env v >>= fun _ =>
        (forIn ifs true fun c r => if r = true then do let ok ← isTrue c env (eval c env); pure (ForInStep.yield ok) else pure (ForInStep.yield r)) >>= fun ok =>
          (if ok = true then Bsem else pure ()) >>= fun _ => again c : Sem Fin).onRaise (fun x => do noteFrame x env; theTreesLotGoes x)))
    (hunder : A.under c = A) (hA : OkA n A)
    (hB : ∀ P σ s ρ out R E, SS g.prog g.w g.s₁ P σ s → SF g.prog g.w env ρ P σ s.heap → Acc g env D out P σ s.heap → B ρ σ out R →
      wpAny g.M A Bsem (fun _ s' => ∃ P' σ' out', R out' σ' ∧ SS g.prog g.w g.s₁ P' σ' s' ∧ SF g.prog g.w env ρ P' σ' s'.heap ∧ Acc g env D out' P' σ' s'.heap ∧ Step (XD env D) P σ s.heap P' σ' s'.heap) E s)
    {fp wr : List Addr} {Stt : Nat → Heap → Prop} {P₀ : PM} {σ₀ : St} {s₀ : Shared} {ρ : Ro} {items out : List Mine.D} {R : List Mine.D → St → Prop}
    (W : Ito g A t it fp wr P₀ items Stt) (S₀ : SS g.prog g.w g.s₁ P₀ σ₀ s₀) (F₀ : SF g.prog g.w env ρ P₀ σ₀ s₀.heap) (A₀ : Acc g env D out P₀ σ₀ s₀.heap) (hst : Stt 0 s₀.heap) (hw : ItOff env D P₀ σ₀ s₀.heap wr) (hfp : ∀ b ∈ fp, b ∈ wr ∨ ∃ o, P₀ b = some o)
    (hl : CLoop g n env t ifs B items ρ σ₀ out R)
    (fin : ∀ P' σ' s' out', R out' σ' → SS g.prog g.w g.s₁ P' σ' s' → SF g.prog g.w env ρ P' σ' s'.heap → Acc g env D out' P' σ' s'.heap → Step (fun b => XD env D b ∨ b ∈ wr) P₀ σ₀ s₀.heap P' σ' s'.heap → Res (.ok .next) s') :
    codeAny g.M A c Res s₀ := by
  refine codeAny_loop hq (CInv g n env t ifs B D wr items ρ R P₀ σ₀ s₀.heap Stt) (fun k s' hI => ?_) items.length ⟨0, P₀, σ₀, out, rfl, Nat.zero_le _, hl, S₀, F₀, A₀, .refl, hst, hw⟩
  rw [hunder, hden]
  exact wpAny_noted (env := env) (wpAny_bind (wpAny_standAt (comp_turn hA hB W F₀ A₀ hw hfp (fun m s hm hi => ⟨rfl, m, hm, hi⟩) fin hI)))
end
end
set_option tactic.hygienic false
section
section
variable {g : Gm} {env : Env}
theorem den_comp1 {t iter elt : Expr} {ifs : List Expr} {scope : Scope} {pos : Pos} {it D : Addr} :
  g.M.den (.compLoop (.ListComp elt [⟨t, iter, ifs, 0⟩] scope pos) 0 (.ref it) (.ref D) env) = ((standAt iter.pos >>= fun _ => pyNext (.ref it) >>= fun r => match r with
      | none => pure (.done .next)
      | some v => letOwnedTupleGo t (.ref it) v >>= fun _ => assign t env v >>= fun _ =>
        (forIn ifs true fun c r => if r = true then do let ok ← isTrue c env (eval c env); pure (ForInStep.yield ok) else pure (ForInStep.yield r)) >>= fun ok =>
          (if ok = true then (do let _ ← call (.builtin "list.append") [.ref D, ← eval elt env]) else pure ()) >>= fun _ => again (.compLoop (.ListComp elt [⟨t, iter, ifs, 0⟩] scope pos) 0 (.ref it) (.ref D) env) : Sem Fin).onRaise (fun x => do noteFrame x env; theTreesLotGoes x)) := by
  show (compTurn _ _ _ _ _).onRaise _ = _
  rw [compTurn_list]
  refine congrArg (fun t => Sem.onRaise t _) ?_
  refine congrArg (fun k => standAt iter.pos >>= k) (funext fun _ => ?_)
  refine congrArg (fun k => pyNext (.ref it) >>= k) (funext fun r => ?_)
  cases r with
  | none => rfl
  | some v =>
    refine congrArg (fun k => letOwnedTupleGo t (.ref it) v >>= k) (funext fun _ => ?_)
    refine congrArg (fun k => assign t env v >>= k) (funext fun _ => ?_)
    refine congrArg (fun k => _ >>= k) (funext fun ok => ?_)
    cases ok <;> rfl

theorem den_comp2a {t iter t' iter' elt : Expr} {ifs ifs' : List Expr} {scope : Scope} {pos : Pos} {it D : Addr} :
  g.M.den (.compLoop (.ListComp elt [⟨t, iter, ifs, 0⟩, ⟨t', iter', ifs', 0⟩] scope pos) 0 (.ref it) (.ref D) env) = ((standAt iter.pos >>= fun _ => pyNext (.ref it) >>= fun r => match r with
      | none => pure (.done .next)
      | some v => letOwnedTupleGo t (.ref it) v >>= fun _ => assign t env v >>= fun _ =>
        (forIn ifs true fun c r => if r = true then do let ok ← isTrue c env (eval c env); pure (ForInStep.yield ok) else pure (ForInStep.yield r)) >>= fun ok =>
          (if ok = true then (do
            let x ← eval iter' env
            standAt iter'.pos
            let x ← foldedSetIterable iter' env x
            let _ ← runOwn (.compStart (.ListComp elt [⟨t, iter, ifs, 0⟩, ⟨t', iter', ifs', 0⟩] scope pos) 1 (← holding [x] (pyIter x)) (.ref D) env) env) else pure ()) >>= fun _ => again (.compLoop (.ListComp elt [⟨t, iter, ifs, 0⟩, ⟨t', iter', ifs', 0⟩] scope pos) 0 (.ref it) (.ref D) env) : Sem Fin).onRaise (fun x => do noteFrame x env; theTreesLotGoes x)) := by
  show (compTurn _ _ _ _ _).onRaise _ = _
  refine congrArg (fun t => Sem.onRaise t _) ?_
  show (standAt iter.pos >>= _) = _
  refine congrArg (fun k => standAt iter.pos >>= k) (funext fun _ => ?_)
  show (pyNext (.ref it) >>= _) = _
  refine congrArg (fun k => pyNext (.ref it) >>= k) (funext fun r => ?_)
  cases r with
  | none => rfl
  | some v =>
    show (letOwnedTupleGo t (.ref it) v >>= _) = _
    refine congrArg (fun k => letOwnedTupleGo t (.ref it) v >>= k) (funext fun _ => ?_)
    show (assign t env v >>= _) = _
    refine congrArg (fun k => assign t env v >>= k) (funext fun _ => ?_)
    refine congrArg (fun k => _ >>= k) (funext fun ok => ?_)
    cases ok with
    | false => rfl
    | true =>
      show (eval iter' env >>= fun x => standAt iter'.pos >>= fun _ => foldedSetIterable iter' env x >>= fun x => holding [x] (pyIter x) >>= fun i => runOwn (.compStart (.ListComp elt [⟨t, iter, ifs, 0⟩, ⟨t', iter', ifs', 0⟩] scope pos) 1 i (.ref D) env) env >>= fun _ => again (.compLoop (.ListComp elt [⟨t, iter, ifs, 0⟩, ⟨t', iter', ifs', 0⟩] scope pos) 0 (.ref it) (.ref D) env)) = _
      simp only [if_true, bind_assoc, pure_bind]
theorem den_comp2b {t iter t' iter' elt : Expr} {ifs ifs' : List Expr} {scope : Scope} {pos : Pos} {it D : Addr} :
  g.M.den (.compLoop (.ListComp elt [⟨t, iter, ifs, 0⟩, ⟨t', iter', ifs', 0⟩] scope pos) 1 (.ref it) (.ref D) env) = ((standAt iter'.pos >>= fun _ => pyNext (.ref it) >>= fun r => match r with
      | none => pure (.done .next)
      | some v => letOwnedTupleGo t' (.ref it) v >>= fun _ => assign t' env v >>= fun _ =>
        (forIn ifs' true fun c r => if r = true then do let ok ← isTrue c env (eval c env); pure (ForInStep.yield ok) else pure (ForInStep.yield r)) >>= fun ok =>
          (if ok = true then (do let _ ← call (.builtin "list.append") [.ref D, ← eval elt env]) else pure ()) >>= fun _ => again (.compLoop (.ListComp elt [⟨t, iter, ifs, 0⟩, ⟨t', iter', ifs', 0⟩] scope pos) 1 (.ref it) (.ref D) env) : Sem Fin).onRaise (fun x => do noteFrame x env; theTreesLotGoes x)) := by
  show (compTurn _ _ _ _ _).onRaise _ = _
  refine congrArg (fun t => Sem.onRaise t _) ?_
  show (standAt iter'.pos >>= _) = _
  refine congrArg (fun k => standAt iter'.pos >>= k) (funext fun _ => ?_)
  show (pyNext (.ref it) >>= _) = _
  refine congrArg (fun k => pyNext (.ref it) >>= k) (funext fun r => ?_)
  cases r with
  | none => rfl
  | some v =>
    show (letOwnedTupleGo t' (.ref it) v >>= _) = _
    refine congrArg (fun k => letOwnedTupleGo t' (.ref it) v >>= k) (funext fun _ => ?_)
    show (assign t' env v >>= _) = _
    refine congrArg (fun k => assign t' env v >>= k) (funext fun _ => ?_)
    refine congrArg (fun k => _ >>= k) (funext fun ok => ?_)
    cases ok <;> rfl
end

noncomputable def closL (env : Env) : List (Str × NameKind) → List (Str × Addr) → List (Str × Addr)
  | [], acc => acc
  | (x, k) :: r, acc => if k = .free then (match env.cells.lookup x with | some c => closL env r ((x, c) :: acc) | none => closL env r acc) else closL env r acc
theorem closL_sound (env : Env) : ∀ (names : List (Str × NameKind)) (acc : List (Str × Addr)) (x : Str) (c : Addr), (closL env names acc).lookup x = some c → acc.lookup x = some c ∨ env.cells.lookup x = some c
  | [], acc, x, c, h => .inl h
  | (y, k) :: r, acc, x, c, h => by
    unfold closL at h
    split at h
    · split at h
      · rename_i c' hc
        rcases closL_sound env r _ x c h with q | q
        · rw [List.lookup_cons] at q
          cases hb : x == y with
          | true => rw [hb] at q; cases q; rw [beq_iff_eq.mp hb]; exact .inr hc
          | false => rw [hb] at q; exact .inl q
        · exact .inr q
      · exact closL_sound env r _ x c h
    · exact closL_sound env r _ x c h
set_option tactic.hygienic true in
theorem closL_has (env : Env) : ∀ (names : List (Str × NameKind)) (acc : List (Str × Addr)) (x : Str), (∃ c, acc.lookup x = some c) ∨ ((x, NameKind.free) ∈ names ∧ ∃ c, env.cells.lookup x = some c) → ∃ c, (closL env names acc).lookup x = some c
  | [], acc, x, h => h.elim id fun h => nomatch h.1
  | (y, k) :: r, acc, x, h => by
    unfold closL
    have consHas : ∀ c', (∃ c, acc.lookup x = some c) ∨ x = y → ∃ c, ((y, c') :: acc).lookup x = some c := fun c' q => by
      rw [List.lookup_cons]
      cases hb : x == y with
      | true => exact ⟨c', rfl⟩
      | false => rcases q with q | q
                 · exact q
                 · rw [q] at hb; simp at hb
    split
    · rename_i hk
      split
      · rename_i c' hc
        refine closL_has env r _ x ?_
        rcases h with h | ⟨h, hx⟩
        · exact .inl (consHas c' (.inl h))
        · rcases List.mem_cons.mp h with q | q
          · cases q; exact .inl (consHas c' (.inr rfl))
          · exact .inr ⟨q, hx⟩
      · rename_i hc
        refine closL_has env r _ x (h.imp id fun z => ⟨?_, z.2⟩)
        obtain ⟨h, hx⟩ := z
        rcases List.mem_cons.mp h with q | q
        · cases q; obtain ⟨c, hx⟩ := hx; rw [hc] at hx; cases hx
        · exact q
    · rename_i hk
      refine closL_has env r _ x (h.imp id fun z => ⟨?_, z.2⟩)
      obtain ⟨h, hx⟩ := z
      rcases List.mem_cons.mp h with q | q
      · cases q; exact absurd rfl hk
      · exact q
theorem closureFor_eq {scope : Scope} {env : Env} (h : ∀ y ∈ scope.names, y.2 = .free → ∃ c, env.cells.lookup y.1 = some c) : closureFor scope env = pure (closL env scope.names []) := by
  unfold closureFor
  generalize scope.names = names at h
  have key : ∀ (names : List (Str × NameKind)) (cs : List (Str × Addr)), (∀ y ∈ names, y.2 = .free → ∃ c, env.cells.lookup y.1 = some c) →
      (forIn names cs fun (x : Str × NameKind) (r : List (Str × Addr)) => match x with | (name, kind) => if (kind == NameKind.free) = true then (cellOf env name >>= fun a => pure (ForInStep.yield ((name, a) :: r)) : Sem (ForInStep (List (Str × Addr)))) else pure (ForInStep.yield r)) = pure (closL env names cs) := by
    intro names
    induction names with
    | nil => intro cs _; rfl
    | cons y r ih =>
      intro cs hy
      obtain ⟨x, k⟩ := y
      rw [List.forIn_cons]
      unfold closL
      by_cases hk : k = .free
      · subst hk
        obtain ⟨c, hc⟩ := hy _ (.head _) rfl
        have hc' : env.cells.lookup x = some c := hc
        have e : cellOf env x = pure c := by unfold cellOf; rw [hc']
        simp only [beq_self_eq_true, if_true, e, pure_bind, hc']
        exact ih _ fun y hy' => hy y (.tail _ hy')
      · have hb : (k == NameKind.free) = false := by simpa using hk
        simp only [hb, Bool.false_eq_true, if_false, hk, pure_bind]
        exact ih _ fun y hy' => hy y (.tail _ hy')
  have := key names [] h
  rw [show (do
    let mut cs : List (Str × Addr) := []
    for (name, kind) in names do
      if kind == .free then cs := (name, ← cellOf env name) :: cs
    return cs : Sem (List (Str × Addr))) = (forIn names ([] : List (Str × Addr)) fun (x : Str × NameKind) (r : List (Str × Addr)) => match x with | (name, kind) => if (kind == NameKind.free) = true then (cellOf env name >>= fun a => pure (ForInStep.yield ((name, a) :: r)) : Sem (ForInStep (List (Str × Addr)))) else pure (ForInStep.yield r)) >>= pure from rfl]
  rw [this]
  rfl

theorem relabel_local {env : Env} {names : List (Str × NameKind)} {x : Str} (k : NameKind) (h : (names.map fun (n, k) => if (k == NameKind.free && env.scope.kind == .function && env.kindOf n == some .cell) then (n, NameKind.cell) else (n, k)).lookup x = some k) :
    names.lookup x = some k ∨ (names.lookup x = some .free ∧ k = .cell) := by
  induction names with
  | nil => simp at h
  | cons y r ih =>
    obtain ⟨n, k'⟩ := y
    rw [List.lookup_cons]
    rw [List.map_cons] at h
    by_cases hc : (k' == NameKind.free && env.scope.kind == .function && env.kindOf n == some .cell) = true
    · simp only [hc, if_true, List.lookup_cons] at h
      cases hb : x == n with
      | true =>
        rw [hb] at h
        cases h
        simp only [Bool.and_eq_true] at hc
        have := beq_iff_eq.mp hc.1.1
        subst this
        exact .inr ⟨rfl, rfl⟩
      | false => rw [hb] at h; exact ih h
    · dsimp only at h
      rw [if_neg hc, List.lookup_cons] at h
      cases hb : x == n with
      | true => rw [hb] at h; exact .inl h
      | false => rw [hb] at h; exact ih h
theorem relabel_free {env : Env} {names : List (Str × NameKind)} {x : Str} (h : names.lookup x = some .free) :
    (names.map fun (n, k) => if (k == NameKind.free && env.scope.kind == .function && env.kindOf n == some .cell) then (n, NameKind.cell) else (n, k)).lookup x = some .cell ∨ (names.map fun (n, k) => if (k == NameKind.free && env.scope.kind == .function && env.kindOf n == some .cell) then (n, NameKind.cell) else (n, k)).lookup x = some .free := by
  induction names with
  | nil => simp at h
  | cons y r ih =>
    obtain ⟨n, k'⟩ := y
    rw [List.lookup_cons] at h
    rw [List.map_cons]
    by_cases hc : (k' == NameKind.free && env.scope.kind == .function && env.kindOf n == some .cell) = true
    · simp only [hc, if_true, List.lookup_cons]
      cases hb : x == n with
      | true => exact .inl rfl
      | false => rw [hb] at h; exact ih h
    · dsimp only
      rw [if_neg hc, List.lookup_cons]
      cases hb : x == n with
      | true => rw [hb] at h; cases h; exact .inr rfl
      | false => rw [hb] at h; exact ih h

structure ScOk (scope : Scope) (env : Env) : Prop where
  kind : scope.kind = .function
  cell : ∀ y ∈ scope.names, y.2 ≠ .cell
  names : ∀ y ∈ scope.names, y.2 = .local → scope.names.lookup y.1 = some .local
  free : ∀ y ∈ scope.names, y.2 = .free → (env.kindOf y.1 = some .cell ∨ env.kindOf y.1 = some .free)
noncomputable def scOk (scope : Scope) (env : Env) : Bool := (scope.kind == .function) && scope.names.all fun y => (y.2 != .cell) && (y.2 != .local || scope.names.lookup y.1 == some .local) && (y.2 != .free || env.kindOf y.1 == some .cell || env.kindOf y.1 == some .free)
theorem ScOk.of {scope : Scope} {env : Env} (h : scOk scope env = true) : ScOk scope env := by
  obtain ⟨h1, h2⟩ := Bool.and_eq_true_iff.mp h
  have h3 := List.all_eq_true.mp h2
  refine ⟨beq_iff_eq.mp h1, fun y hy e => ?_, fun y hy e => ?_, fun y hy e => ?_⟩ <;> have q := h3 y hy <;> rw [e] at q
  · simp at q
  · simpa using q
  · simpa using q

section
variable {g : Gm} {n : Nat} {env : Env} {σ : St}

theorem lookup_mem {x : Str} {k : NameKind} : ∀ {names : List (Str × NameKind)}, names.lookup x = some k → (x, k) ∈ names
  | [], h => by simp at h
  | (y, k') :: r, h => by
    rw [List.lookup_cons] at h
    cases hb : x == y with
    | true => rw [hb] at h; cases h; rw [beq_iff_eq.mp hb]; exact .head _
    | false => rw [hb] at h; exact .tail _ (lookup_mem h)

theorem SF.comp {scope : Scope} {ρ ρc : Ro} {P : PM} {h h' : Heap} {C : Addr} {m : Str → Option Value} (F : SF g.prog g.w env ρ P σ h) (ok : ScOk scope env) (hk : ∀ b o, h.get? b = some o → h'.get? b = some o) (hC : P C = none ∧ σ C = none) (hn : h'.Ns C m)
    (hsub : ∀ p ∈ ρc, p ∈ ρ ∧ scope.names.lookup p.1 = some .free) : SF g.prog g.w (compEnvC scope (closL env scope.names []) C env) ρc P σ h' := by
  have hcl : ∀ x c, (closL env scope.names []).lookup x = some c → env.cells.lookup x = some c := fun x c e => by
    rcases closL_sound env _ _ x c e with q | q
    · simp at q
    · exact q
  have hex : ∀ x, scope.names.lookup x = some .free → ∃ c, (closL env scope.names []).lookup x = some c := fun x e =>
    closL_has env _ _ x (.inr ⟨lookup_mem e, F.has x (ok.free _ (lookup_mem e) rfl)⟩)
  have up : ∀ c u, h.IsCell c u → h'.IsCell c u := fun c u zq2_2 => by obtain ⟨o, ho, hd⟩ := zq2_2; exact ⟨o, hk c o ho, hd⟩
  have kfree : ∀ p ∈ ρc, (compEnvC scope (closL env scope.names []) C env).kindOf p.1 = some .cell ∨ (compEnvC scope (closL env scope.names []) C env).kindOf p.1 = some .free := fun p hp => relabel_free (hsub p hp).2
  refine ⟨ok.kind, F.glob, F.blt, ⟨m, hn, fun p hp hkp => ?_⟩, fun p hp hkp => ?_, hC, fun x c e => ?_, fun x hx => ?_, fun x y c e1 e2 => F.inj x y c (hcl _ _ e1) (hcl _ _ e2), ?_⟩
  · rcases kfree p hp with q | q <;> rw [q] at hkp <;> cases hkp
  · obtain ⟨h1, h2⟩ := hsub p hp
    have hne : env.kindOf p.1 ≠ some .local := by
      rcases ok.free _ (lookup_mem h2) rfl with q | q <;> rw [q] <;> exact fun x => nomatch x
    obtain ⟨c, v, h3, h4, h5, h6⟩ := F.cl p h1 hne
    obtain ⟨c', hc'⟩ := hex p.1 h2
    have := hcl _ _ hc'
    rw [h4] at this; cases this
    exact ⟨c, v, kfree p hp, hc', up _ _ h5, h6⟩
  · obtain ⟨h1, h2, u, h3⟩ := F.offC x c (hcl x c e)
    exact ⟨h1, h2, u, up _ _ h3⟩
  · have : scope.names.lookup x = some .free := by
      rcases hx with hx | hx
      · rcases relabel_local .cell hx with q | q
        · exact absurd rfl (ok.cell _ (lookup_mem q))
        · exact q.1
      · rcases relabel_local .free hx with q | q
        · exact q
        · exact q.1
    exact hex x this
  · cases e : (closL env scope.names []).lookup (Str.ofString "__classdict__") with
    | none => exact e
    | some c => have := hcl _ _ e; rw [F.nocd] at this; cases this

theorem Step.fresh {X : Addr → Prop} {P P' : PM} {σ' : St} {h h' : Heap} (t : Step X P σ h P' σ' h') (hX : ∀ b, X b → h.get? b = none) : Step X0 P σ h P' σ' h' :=
  ⟨t.le, fun b o e hs _ => t.keep b o e hs (fun hx => by rw [hX b hx] at e; cases e), t.newP, t.newS, fun b o e _ => t.live b o e (fun hx => by rw [hX b hx] at e; cases e)⟩

structure CEnd (g : Gm) (env : Env) (ρ : Ro) (P₁ : PM) (σ₁ : St) (h₁ : Heap) (D C : Addr) (out : List Mine.D) (P' : PM) (σ' : St) (s' : Shared) : Prop where
  ss : SS g.prog g.w g.s₁ P' σ' s'
  sf : SF g.prog g.w env ρ P' σ' s'.heap
  rep : Rep g.prog g.w P' (.lst out) (.ref D)
  step : Step X0 P₁ σ₁ h₁ P' σ' s'.heap
  offC : P' C = none ∧ σ' C = none ∧ ¬ Own env C ∧ h₁.get? C = none
  ns : ∃ m, s'.heap.Ns C m

theorem acc_append {cenv : Env} {D : Addr} {elt : Expr} {A : Around} {E : Value → Shared → Prop} {P : PM} {σ : St} {s : Shared} {ρ : Ro} {out : List Mine.D} {R : List Mine.D → St → Prop} (hA : OkA n A) (S : SS g.prog g.w g.s₁ P σ s) (F : SF g.prog g.w cenv ρ P σ s.heap) (Ac : Acc g cenv D out P σ s.heap)
    (h : CElt g n cenv elt ρ σ out R) : wpAny g.M A (do let _ ← call (.builtin "list.append") [.ref D, ← eval elt cenv]) (fun _ s' => ∃ P' σ' out', R out' σ' ∧ SS g.prog g.w g.s₁ P' σ' s' ∧ SF g.prog g.w cenv ρ P' σ' s'.heap ∧ Acc g cenv D out' P' σ' s'.heap ∧ Step (XD cenv D) P σ s.heap P' σ' s'.heap) E s := by
  refine wpAny_bind (WE.then h hA S F fun a P₁ σ₁ v s₁ zr5 hr S₁ F₁ t₁ => ?_)
  obtain ⟨d, hd, hlen, hR⟩ := zr5
  subst hd
  have Ac₁ := Ac.step (t₁.weaken (X := Own cenv))
  obtain ⟨o, vs, h1, h2, h3⟩ := Ac₁.is
  obtain ⟨arr, k, hx⟩ := Ac₁.nd
  have ho : o = seqObj "list" arr k := by rw [h1] at hx; exact Option.some.inj hx
  subst ho
  have ha : arr = vs.toArray := by obtain ⟨_, n', hd⟩ := h2; cases hd; rfl
  subst ha
  refine wpAny_bind (call_meets PySem.F.slot_list_append ⟨_, h1, rfl⟩ PySem.F.entry_list_append (PySem.F.args_list_append_2 _ _) (PySem.list_append D vs.toArray k v (by rw [List.size_toArray, h3.length, sizeLine_eq]; exact o1 hlen rfl)) ⟨h1, ?_⟩)
  have hup := IsL.update (n := k) (items := vs.toArray) h1 (fun x_1 => x_1.push v)
  have e : vs.toArray.push v = (vs ++ [v]).toArray := by simp
  have hs : Heap.SameBut D s₁.heap (s₁.heap.update D (Obj.mapSeq fun x_1 => x_1.push v)) := Heap.SameBut.update ..
  refine wpAny_pure ?_
  refine ⟨P₁, σ₁, out ++ [d], hR, ⟨S₁.sh.off hs Ac₁.offP Ac₁.offS, S₁.gens, S₁.os⟩, F₁.walk (wr := [D]) (fun _ _ e => e) (fun _ _ e => .inl e) (fun b o hb e => (hs.2 b fun q => hb (by simp [q])).trans e) (fun b hb => by rw [List.mem_singleton.mp hb]; exact Ac₁.offX),
    ⟨Ac₁.offP, Ac₁.offS, Ac₁.offX, ⟨_, _, hup⟩, _, vs ++ [v], hup, ⟨rfl, _, by rw [← e]⟩, h3.append (.cons hr .nil)⟩, ?_⟩
  refine (t₁.weaken (X := XD cenv D)).trans ⟨fun _ _ e => e, fun b o e _ hx => (hs.2 b fun q => hx (.inr q)).trans e, fun _ _ e => .inl e, fun b c e => .inl (by rw [e]; exact fun x => nomatch x), fun b o e hx => ⟨o, (hs.2 b fun q => hx (.inr q)).trans e⟩⟩ fun x o hx e => ?_
  rcases hx with hx | rfl
  · exact ⟨(F.own hx).2.1, (F₁.own hx).2.2⟩
  · exact ⟨Ac.offS, _, h1⟩

theorem codeAny_compStart_any {e : Expr} {depth : Nat} {it : Value} {acc : Value} {A : Around} {R : Result → Shared → Prop} {s : Shared} (hden : g.M.den (.compStart e depth it acc env) = (compStart e depth it acc env).onRaise (fun x => do noteFrame x env; standAt theWindowsPlace))
    (hunder : A.under (.compStart e depth it acc env) = A) (hquiet : (Code.compLoop e depth it acc env).quiet = true) (hquiet' : ∀ it', (Code.compLoop e depth it' acc env).quiet = true)
    (ha : ((clausesOf e)[depth]?).elim false (·.is_async != 0) = false) (h0 : codeAny g.M A (.compLoop e depth it acc env) R s)
    (h : wpAny g.M A (pyIter it) (fun it' s' => codeAny g.M A (.compLoop e depth it' acc env) R s') (notedBy g.M A env fun x s' => R (.error x) s') s) :
    codeAny g.M A (.compStart e depth it acc env) R s := by
  refine codeAny_of_tree ?_
  rw [hden, hunder]
  refine wpAny_notedAt ?_
  unfold compStart
  rw [ha]
  simp only [Bool.false_eq_true, if_false]
  refine wpAny_bind (wpAny_askSetting ?_)
  split
  · exact wpAny_bind (wpAny_pure (wpAny_pure ⟨hquiet, h0⟩))
  · refine wpAny_bind (wpAny_rule ?_)
    have fin : wpAny g.M A (pyIter it >>= fun x => again (.compLoop e depth x acc env)) (fun fin s' => match fin with | .done f => R (.ok f) s' | .again c' => c'.quiet = true ∧ codeAny g.M A c' R s') (notedBy g.M A env fun x s' => R (.error x) s') s :=
      wpAny_bind (wpAny_mono h (fun it' s' h' => wpAny_pure ⟨hquiet' _, h'⟩) fun _ _ x => x)
    split
    · exact wpAny_bind (wpAny_standAt fin)
    · exact fin
end
end
set_option tactic.hygienic false
section
section
variable {g : Gm} {n : Nat} {env : Env} {σ : St}

theorem SH.promote {hB h : Heap} {P : PM} (S : SH g.prog g.w hB P σ h) {a : Addr} {o : Obj} (hP : P a = none) (hσ : σ a = none) (ho : h.get? a = some o) : SH g.prog g.w hB (upd P a o) σ h := by
  have hle : ∀ b o', P b = some o' → upd P a o b = some o' := fun b o' e => by
    rw [upd_ne (fun q => by subst q; rw [hP] at e; cases e)]; exact e
  refine ⟨fun b o' e => hle b o' (S.base b o' e), fun b o' e => ?_, fun b c e => ?_⟩
  · by_cases hb : b = a
    · subst hb; rw [upd_same] at e; cases e; exact ho
    · rw [upd_ne hb] at e; exact S.keepP b o' e
  · obtain ⟨h1, o', ho', hr⟩ := S.cells b c e
    have hb : b ≠ a := fun q => by subst q; rw [hσ] at e; cases e
    exact ⟨by rw [upd_ne hb]; exact h1, o', ho', hr.mono hle⟩
theorem Step.promote {X : Addr → Prop} {P P' : PM} {σ' : St} {h h' : Heap} (t : Step X P σ h P' σ' h') {a : Addr} {o : Obj} (hP : P' a = none) (ha : h.get? a = none) : Step X P σ h (upd P' a o) σ' h' := by
  refine ⟨fun b o' e => ?_, t.keep, fun b o' e => ?_, t.newS, t.live⟩
  · have := t.le b o' e
    rw [upd_ne (fun q => by subst q; rw [hP] at this; cases this)]; exact this
  · by_cases hb : b = a
    · subst hb; exact .inr (.inl ha)
    · rw [upd_ne hb] at e; exact t.newP b o' e
theorem Step.behind {X : Addr → Prop} {P P' : PM} {σ' : St} {h h' h'' : Heap} {wr : List Addr} (hk : ∀ b o, h.get? b = some o → h'.get? b = some o) (hw : ∀ b ∈ wr, h.get? b = none) (t : Step (fun b => X b ∨ b ∈ wr) P σ h' P' σ' h'') : Step X P σ h P' σ' h'' := by
  have old : ∀ b, h'.get? b = none → h.get? b = none := fun b e => by
    cases q : h.get? b with
    | none => rfl
    | some o => rw [hk b o q] at e; cases e
  refine ⟨t.le, fun b o e hs hx => t.keep b o (hk b o e) hs fun q => ?_, fun b o e => ?_, fun b c e => (t.newS b c e).imp id (old b), fun b o e hx => t.live b o (hk b o e) fun q => ?_⟩
  · rcases q with q | q
    · exact hx q
    · rw [hw b q] at e; cases e
  · rcases t.newP b o e with q | q | q
    · exact .inl q
    · exact .inr (.inl (old b q))
    · exact .inr (.inr q)
  · rcases q with q | q
    · exact hx q
    · rw [hw b q] at e; cases e

theorem comp_core' {e t iter : Expr} {ifs : List Expr} {scope : Scope} {ρ ρc : Ro} {P₁ : PM} {σ₁ : St} {s₁ : Shared} {A : Around} {E : Value → Shared → Prop} {v : Value} {s' : Shared} {items : List Mine.D} {B : Env → Ro → St → List Mine.D → (List Mine.D → St → Prop) → Prop} {Bsem : Env → Addr → Sem Unit} {RR : Value → Addr → Result → Shared → Prop} {R : List Mine.D → St → Prop}
    (hA : OkA n A) (S₁ : SS g.prog g.w g.s₁ P₁ σ₁ s₁) (F₁ : SF g.prog g.w env ρ P₁ σ₁ s₁.heap) (hit : ∀ (Q : Value → Shared → Prop), (∀ (it : Addr) (fp wr : List Addr) (St : Nat → Heap → Prop) (h' : Heap) (tk : Nat), Ito g A t it fp wr P₁ items St → St 0 h' → (∀ b o, s₁.heap.get? b = some o → h'.get? b = some o) → (∀ b ∈ wr, s₁.heap.get? b = none ∧ ∃ o, h'.get? b = some o) → (∀ b ∈ fp, b ∈ wr ∨ ∃ o, P₁ b = some o) → Q (.ref it) { s₁ with heap := h', toks := tk }) → wpAny g.M A (pyIter v) Q E s') (ok : ScOk scope env) (hsub : ∀ p ∈ ρc, p ∈ ρ ∧ scope.names.lookup p.1 = some .free)
    (hden : ∀ cenv it D, g.M.den (.compLoop e 0 (.ref it) (.ref D) cenv) = ((standAt iter.pos >>= fun _ => pyNext (.ref it) >>= fun r => match r with
      | none => pure (.done .next)
      | some v => letOwnedTupleGo t (.ref it) v >>= fun _ => assign t cenv v >>= fun _ =>
        (forIn ifs true fun c r => if r = true then do let ok ← isTrue c cenv (eval c cenv); pure (ForInStep.yield ok) else pure (ForInStep.yield r)) >>= fun ok =>
          (if ok = true then Bsem cenv D else pure ()) >>= fun _ => again (.compLoop e 0 (.ref it) (.ref D) cenv) : Sem Fin).onRaise (fun x => do noteFrame x cenv; theTreesLotGoes x)))
    (hden' : ∀ cenv it D, g.M.den (.compStart e 0 (.ref it) (.ref D) cenv) = (compStart e 0 (.ref it) (.ref D) cenv).onRaise (fun x => do noteFrame x cenv; standAt theWindowsPlace))
    (hunder : ∀ cenv it D, A.under (.compStart e 0 (.ref it) (.ref D) cenv) = A) (hunder' : ∀ cenv it D, A.under (.compLoop e 0 (.ref it) (.ref D) cenv) = A) (hquiet : ∀ cenv it D, (Code.compLoop e 0 it (.ref D) cenv).quiet = true)
    (ha : ((clausesOf e)[0]?).elim false (·.is_async != 0) = false)
    (hB : ∀ cenv D P σ s ρ out R E, SS g.prog g.w g.s₁ P σ s → SF g.prog g.w cenv ρ P σ s.heap → Acc g cenv D out P σ s.heap → B cenv ρ σ out R →
      wpAny g.M A (Bsem cenv D) (fun _ s' => ∃ P' σ' out', R out' σ' ∧ SS g.prog g.w g.s₁ P' σ' s' ∧ SF g.prog g.w cenv ρ P' σ' s'.heap ∧ Acc g cenv D out' P' σ' s'.heap ∧ Step (XD cenv D) P σ s.heap P' σ' s'.heap) E s)
    (hl : ∀ C, CLoop g n (compEnvC scope (closL env scope.names []) C env) t ifs (B (compEnvC scope (closL env scope.names []) C env)) items ρc σ₁ [] R)
    (hRR : ∀ D C out P' σ' s', R out σ' → CEnd g env ρ P₁ σ₁ s₁.heap D C out P' σ' s' → RR (.ref D) C (.ok .next) s') :
    wpAny g.M A (pyIter v) (fun it s₂ => wpAny g.M A (newList []) (fun acc s₃ => wpAny g.M A (newFunctionEnv scope env.globals (closL env scope.names []) [] env.qual none .none (some env)) (fun cenv s₄ =>
      codeAny g.M A (.compStart e 0 it acc { cenv with scope := relabel scope env }) (RR acc cenv.locals) s₄) E s₃) E s₂) E s' := by
  refine hit _ fun it fp wr Stt h' tk W hst hk hw hfp => ?_
  refine wpAny_newObj_type (wpAny_newFunctionEnv ok.cell (by intro y hy; simp at hy) (fun h₃ hns hsb => ?_) ok.kind)
  dsimp only at hns hsb ⊢
  generalize hH2 : h'.push { cls := .type "list", dict := none, data := .seq ([] : List Value).toArray } = H2 at hns hsb ⊢
  generalize hDD : h'.objs.size = D at hns hsb ⊢
  have hCv : H2.objs.size = D + 1 := by rw [← hH2, Heap.size_push, hDD]
  generalize hCC : H2.objs.size = C at hns hsb ⊢
  have hC : C = D + 1 := by rw [← hCC]; exact hCv
  have hDC : D < C := by rw [hC]; exact Nat.lt_succ_self _
  have hfD : h'.get? D = none := by rw [← hDD]; exact Heap.get?_none_of_le (Nat.le_refl _)
  have hfC : h'.get? C = none := Heap.get?_none_of_le (by rw [hDD]; exact Nat.le_of_lt hDC)
  have up2 : ∀ b o, h'.get? b = some o → h₃.get? b = some o := fun b o e => by
    have hb : b < D := by rw [← hDD]; exact Heap.lt_size e
    exact hsb.extBut b o (Nat.ne_of_lt (Nat.lt_trans hb hDC)) (Heap.get?_push_of_some _ (hH2 ▸ Heap.get?_push_of_some _ e))
  have upAll : ∀ b o, s₁.heap.get? b = some o → h₃.get? b = some o := fun b o e => up2 b o (hk b o e)
  have old : ∀ b, h'.get? b = none → s₁.heap.get? b = none := fun b e => by
    cases q : s₁.heap.get? b with
    | none => rfl
    | some o => rw [hk b o q] at e; cases e
  have hDobj : h₃.get? D = some { cls := .type "list", dict := none, data := .seq ([] : List Value).toArray } := by
    refine hsb.extBut D _ (Nat.ne_of_lt hDC) (Heap.get?_push_of_some _ ?_)
    rw [← hH2, ← hDD]; exact Heap.get?_push_size _ rfl
  have fD := S₁.sh.fresh (old D hfD)
  have fC := S₁.sh.fresh (old C hfC)
  have S₃ : SS g.prog g.w g.s₁ P₁ σ₁ { s₁ with heap := h₃, toks := tk + ([] : List (Str × Value)).length } := ⟨S₁.sh.grow upAll, S₁.gens, S₁.os⟩
  have F₃ : SF g.prog g.w (compEnvC scope (closL env scope.names []) C env) ρc P₁ σ₁ h₃ := F₁.comp ok upAll fC hns hsub
  have ownOld : ∀ b, Fa (compEnvC scope (closL env scope.names []) C env) b → b = C ∨ ∃ o, s₁.heap.get? b = some o := fun b hb => by
    rcases hb with rfl | ⟨x, hx⟩
    · exact .inl rfl
    · rcases closL_sound env _ _ x b hx with q | q
      · simp at q
      · obtain ⟨_, _, u, o, ho, _⟩ := F₁.offC x b q
        exact .inr ⟨o, ho⟩
  have A₃ : Acc g (compEnvC scope (closL env scope.names []) C env) D [] P₁ σ₁ h₃ := by
    refine ⟨fD.1, fD.2, fun hb => ?_, ⟨_, _, hDobj⟩, _, [], hDobj, ⟨rfl, _, rfl⟩, .nil⟩
    rcases ownOld D hb with q | ⟨o, q⟩
    · exact absurd q (Nat.ne_of_lt hDC)
    · rw [old D hfD] at q; cases q
  have I₃ : ItOff (compEnvC scope (closL env scope.names []) C env) D P₁ σ₁ h₃ wr := ⟨fun b hb => by
    obtain ⟨h1, o, h2⟩ := hw b hb
    obtain ⟨f1, f2⟩ := S₁.sh.fresh h1
    refine ⟨f1, f2, ⟨o, up2 b o h2⟩, fun hx => ?_, fun q => by subst q; rw [hfD] at h2; cases h2⟩
    rcases ownOld b hx with q | ⟨o', q⟩
    · subst q; rw [hfC] at h2; cases h2
    · rw [h1] at q; cases q⟩
  have hst₃ : Stt 0 h₃ := W.frame _ _ _ hst fun b _ o e => up2 b o e
  have loop : codeAny g.M A (.compLoop e 0 (.ref it) (.ref D) (compEnvC scope (closL env scope.names []) C env)) (RR (.ref D) C) { s₁ with heap := h₃, toks := tk + ([] : List (Str × Value)).length } := by
    refine comp_loop (hquiet _ _ _) (hden _ _ _) (hunder' _ _ _) hA (fun P σ s ρ out R E => hB _ D P σ s ρ out R E) W S₃ F₃ A₃ hst₃ I₃ hfp (hl C) fun P' σ' s' out' hR S' F' A' t' => ?_
    obtain ⟨o, vs, h1, hso, hrs⟩ := A'.is
    have hnd : o.dict = none := by obtain ⟨arr, k, hx⟩ := A'.nd; rw [h1] at hx; rw [Option.some.inj hx]
    have t0 : Step X0 P₁ σ₁ s₁.heap P' σ' s'.heap := by
      refine Step.fresh (X := fun b => XD (compEnvC scope (closL env scope.names []) C env) D b ∧ s₁.heap.get? b = none) ?_ fun b hb => hb.2
      have tb := Step.behind (X := XD (compEnvC scope (closL env scope.names []) C env) D) upAll (fun b hb => (hw b hb).1) t'
      have notX : ∀ b o, s₁.heap.get? b = some o → ¬ XD (compEnvC scope (closL env scope.names []) C env) D b := fun b o e hxd => by
        have hbo : Own (compEnvC scope (closL env scope.names []) C env) b := by
          rcases hxd with q | q
          · exact q
          · subst q; rw [old b hfD] at e; cases e
        rcases hbo with q | ⟨q, _⟩
        · have : b = C := q
          subst this; rw [old b hfC] at e; cases e
        · cases q
      exact ⟨tb.le, fun b o e hs hx => tb.keep b o e hs (notX b o e), tb.newP, tb.newS, fun b o e hx => tb.live b o e (notX b o e)⟩
    have hPD : P' D = none := A'.offP
    have t1 : Step X0 P₁ σ₁ s₁.heap (upd P' D o) σ' s'.heap := t0.promote hPD (old D hfD)
    have hne : C ≠ D := Nat.ne_of_gt hDC
    refine hRR D C out' (upd P' D o) σ' s' hR ⟨⟨S'.sh.promote hPD A'.offS h1, S'.gens, S'.os⟩, F₁.step t1, .lst upd_same hso (hrs.mono (prog := g.prog) (w := g.w) ?_) hnd, t1, ⟨?_, F'.offL.2, fun hb => ?_, old C hfC⟩, by obtain ⟨m, hn, _⟩ := F'.ns; exact ⟨m, hn⟩⟩
    · exact fun a o' e => by rw [upd_ne (fun q => by subst q; rw [hPD] at e; cases e)]; exact e
    · rw [upd_ne hne]; exact F'.offL.1
    · obtain ⟨_, _, o', ho'⟩ := F₁.own hb
      rw [old C hfC] at ho'; cases ho'
  exact codeAny_compStart_any (hden' _ _ _) (hunder _ _ _) (hquiet _ _ _) (fun _ => hquiet _ _ _) ha loop (W.self 0 _ _ _ hst₃ loop)
theorem comp_core {e t iter : Expr} {ifs : List Expr} {scope : Scope} {ρ ρc : Ro} {P₁ : PM} {σ₁ : St} {s₁ : Shared} {A : Around} {E : Value → Shared → Prop} {a : AV} {v : Value} {items : List Mine.D} {B : Env → Ro → St → List Mine.D → (List Mine.D → St → Prop) → Prop} {Bsem : Env → Addr → Sem Unit} {RR : Value → Addr → Result → Shared → Prop} {R : List Mine.D → St → Prop}
    (hA : OkA n A) (S₁ : SS g.prog g.w g.s₁ P₁ σ₁ s₁) (F₁ : SF g.prog g.w env ρ P₁ σ₁ s₁.heap) (hr : RepA g.prog g.w P₁ a v) (hit : IterV g n t a items σ₁) (ok : ScOk scope env) (hsub : ∀ p ∈ ρc, p ∈ ρ ∧ scope.names.lookup p.1 = some .free)
    (hden : ∀ cenv it D, g.M.den (.compLoop e 0 (.ref it) (.ref D) cenv) = ((standAt iter.pos >>= fun _ => pyNext (.ref it) >>= fun r => match r with
      | none => pure (.done .next)
      | some v => letOwnedTupleGo t (.ref it) v >>= fun _ => assign t cenv v >>= fun _ =>
        (forIn ifs true fun c r => if r = true then do let ok ← isTrue c cenv (eval c cenv); pure (ForInStep.yield ok) else pure (ForInStep.yield r)) >>= fun ok =>
          (if ok = true then Bsem cenv D else pure ()) >>= fun _ => again (.compLoop e 0 (.ref it) (.ref D) cenv) : Sem Fin).onRaise (fun x => do noteFrame x cenv; theTreesLotGoes x)))
    (hden' : ∀ cenv it D, g.M.den (.compStart e 0 (.ref it) (.ref D) cenv) = (compStart e 0 (.ref it) (.ref D) cenv).onRaise (fun x => do noteFrame x cenv; standAt theWindowsPlace))
    (hunder : ∀ cenv it D, A.under (.compStart e 0 (.ref it) (.ref D) cenv) = A) (hunder' : ∀ cenv it D, A.under (.compLoop e 0 (.ref it) (.ref D) cenv) = A) (hquiet : ∀ cenv it D, (Code.compLoop e 0 it (.ref D) cenv).quiet = true)
    (ha : ((clausesOf e)[0]?).elim false (·.is_async != 0) = false)
    (hB : ∀ cenv D P σ s ρ out R E, SS g.prog g.w g.s₁ P σ s → SF g.prog g.w cenv ρ P σ s.heap → Acc g cenv D out P σ s.heap → B cenv ρ σ out R →
      wpAny g.M A (Bsem cenv D) (fun _ s' => ∃ P' σ' out', R out' σ' ∧ SS g.prog g.w g.s₁ P' σ' s' ∧ SF g.prog g.w cenv ρ P' σ' s'.heap ∧ Acc g cenv D out' P' σ' s'.heap ∧ Step (XD cenv D) P σ s.heap P' σ' s'.heap) E s)
    (hl : ∀ C, CLoop g n (compEnvC scope (closL env scope.names []) C env) t ifs (B (compEnvC scope (closL env scope.names []) C env)) items ρc σ₁ [] R)
    (hRR : ∀ D C out P' σ' s', R out σ' → CEnd g env ρ P₁ σ₁ s₁.heap D C out P' σ' s' → RR (.ref D) C (.ok .next) s') :
    wpAny g.M A (pyIter v) (fun it s₂ => wpAny g.M A (newList []) (fun acc s₃ => wpAny g.M A (newFunctionEnv scope env.globals (closL env scope.names []) [] env.qual none .none (some env)) (fun cenv s₄ =>
      codeAny g.M A (.compStart e 0 it acc { cenv with scope := relabel scope env }) (RR acc cenv.locals) s₄) E s₃) E s₂) E s₁ :=
  comp_core' hA S₁ F₁ (fun Q h => hit A E P₁ s₁ v Q hA S₁ hr h) ok hsub hden hden' hunder hunder' hquiet ha hB hl hRR
end
end
set_option tactic.hygienic false
section
section
variable {g : Gm} {n : Nat} {env : Env} {σ : St}

noncomputable abbrev cenvOf (scope : Scope) (env : Env) (C : Addr) : Env := compEnvC scope (closL env scope.names []) C env

theorem CEnd.post {ρ : Ro} {P₁ : PM} {σ₁ : St} {h₁ : Heap} {D C : Addr} {out : List Mine.D} {P' : PM} {σ' : St} {s' : Shared} (c : CEnd g env ρ P₁ σ₁ h₁ D C out P' σ' s') {Q : AV → St → Prop} (hq : Q (.d (.lst out)) σ') :
    ∃ m, s'.heap.Ns C m ∧ ∀ h', Heap.SameBut C s'.heap h' → PostE g P₁ σ₁ h₁ Q (.ref D) { s' with heap := h' } := by
  obtain ⟨m, hn⟩ := c.ns
  refine ⟨m, hn, fun h' hs => ⟨.d (.lst out), P', σ', hq, c.rep, ⟨c.ss.sh.off hs c.offC.1 c.offC.2.1, c.ss.gens, c.ss.os⟩, ?_⟩⟩
  refine ⟨c.step.le, fun b o e hσ hx => (hs.2 b fun q => by subst q; rw [c.offC.2.2.2] at e; cases e).trans (c.step.keep b o e hσ hx), c.step.newP, c.step.newS, fun b o e hx => by obtain ⟨o', e'⟩ := c.step.live b o e hx; exact ⟨o', (hs.2 b fun q => by subst q; rw [c.offC.2.2.2] at e; cases e).trans e'⟩⟩

theorem WE.comp1 {elt t iter : Expr} {ifs : List Expr} {scope : Scope} {pos : Pos} {ρ : Ro} (ρc : Ro) {Q : AV → St → Prop}
    (ok : scOk scope env = true) (hsub : ∀ p ∈ ρc, p ∈ ρ ∧ scope.names.lookup p.1 = some .free)
    (h : WE g n env ρ σ iter fun a σ₁ => ∃ items, IterV g n t a items σ₁ ∧ ∀ C, CLoop g n (cenvOf scope env C) t ifs (CElt g n (cenvOf scope env C) elt) items ρc σ₁ [] fun out σ₂ => Q (.d (.lst out)) σ₂)
    (hs : ∀ x, foldedSetIterable iter env x = pure x := by intro _; rfl) : WE g n env ρ σ (.ListComp elt [⟨t, iter, ifs, 0⟩] scope pos) Q := by
  intro A E P s hA S F
  rw [eval_ListComp]
  have hok := ScOk.of ok
  refine wpAny_comprehension_free (use := none) rfl hs (closureFor_eq fun y hy hf => F.has y.1 (hok.free y hy hf)) hok.kind hok.names (h.then hA S F fun a P₁ σ₁ v s₁ zr5 hr S₁ F₁ t₁ => ?_)
  obtain ⟨items, hit, hl⟩ := zr5
  refine comp_core (e := .ListComp elt [⟨t, iter, ifs, 0⟩] scope pos) (RR := fun acc C => compPost g.M A E none (PostE g P σ s.heap Q) acc C) (B := fun cenv => CElt g n cenv elt) (Bsem := fun cenv D => do let _ ← call (.builtin "list.append") [.ref D, ← eval elt cenv]) (R := fun out σ₂ => Q (.d (.lst out)) σ₂) hA S₁ F₁ hr hit hok hsub (fun cenv it D => den_comp1) (fun _ _ _ => rfl) (fun _ _ _ => Around.under_of_weight rfl rfl) (fun _ _ _ => Around.under_of_weight rfl rfl) (fun _ _ _ => rfl) rfl
    (fun cenv D P σ s ρ out R E S F Ac h => acc_append hA S F Ac h) hl fun D C out P' σ' s' hR c => ?_
  obtain ⟨m, hn, hq⟩ := c.post hR
  exact ⟨m, hn, fun h' hs => (hq h' hs).after t₁⟩

theorem WE.comp2 {elt t iter t' iter' : Expr} {ifs ifs' : List Expr} {scope : Scope} {pos : Pos} {ρ : Ro} (ρc : Ro) {Q : AV → St → Prop}
    (ok : scOk scope env = true) (hsub : ∀ p ∈ ρc, p ∈ ρ ∧ scope.names.lookup p.1 = some .free)
    (h : WE g n env ρ σ iter fun a σ₁ => ∃ items, IterV g n t a items σ₁ ∧ ∀ C, CLoop g n (cenvOf scope env C) t ifs (CIn g n (cenvOf scope env C) t' iter' ifs' elt) items ρc σ₁ [] fun out σ₂ => Q (.d (.lst out)) σ₂)
    (hs : ∀ x, foldedSetIterable iter env x = pure x := by intro _; rfl) (hs' : ∀ cenv x, foldedSetIterable iter' cenv x = pure x := by intro _ _; rfl) : WE g n env ρ σ (.ListComp elt [⟨t, iter, ifs, 0⟩, ⟨t', iter', ifs', 0⟩] scope pos) Q := by
  intro A E P s hA S F
  rw [eval_ListComp]
  have hok := ScOk.of ok
  refine wpAny_comprehension_free (use := none) rfl hs (closureFor_eq fun y hy hf => F.has y.1 (hok.free y hy hf)) hok.kind hok.names (h.then hA S F fun a P₁ σ₁ v s₁ zr5 hr S₁ F₁ t₁ => ?_)
  obtain ⟨items, hit, hl⟩ := zr5
  refine comp_core (e := .ListComp elt [⟨t, iter, ifs, 0⟩, ⟨t', iter', ifs', 0⟩] scope pos) (RR := fun acc C => compPost g.M A E none (PostE g P σ s.heap Q) acc C) (B := fun cenv => CIn g n cenv t' iter' ifs' elt) (Bsem := fun cenv D => (do
            let x ← eval iter' cenv
            standAt iter'.pos
            let x ← foldedSetIterable iter' cenv x
            let _ ← runOwn (.compStart (.ListComp elt [⟨t, iter, ifs, 0⟩, ⟨t', iter', ifs', 0⟩] scope pos) 1 (← holding [x] (pyIter x)) (.ref D) cenv) cenv)) (R := fun out σ₂ => Q (.d (.lst out)) σ₂) hA S₁ F₁ hr hit hok hsub (fun cenv it D => den_comp2a) (fun _ _ _ => rfl) (fun _ _ _ => Around.under_of_weight rfl rfl) (fun _ _ _ => Around.under_of_weight rfl rfl) (fun _ _ _ => rfl) rfl
    ?_ hl fun D C out P' σ' s' hR c => ?_
  · intro cenv D P σ s ρ out R E S F Ac h
    refine wpAny_bind (WE.then h hA S F fun a P₂ σ₂ v₂ s₂ z hr₂ S₂ F₂ t₂ => wpAny_bind (wpAny_standAt (wpAny_bind (wpAny_of_eq (hs' cenv v₂) (wpAny_bind (wpAny_holding ?_))))))
    obtain ⟨items₂, hit₂, hl₂⟩ := z
    have Ac₂ := Ac.step (t₂.weaken (X := Own cenv))
    refine hit₂ A E P₂ s₂ v₂ _ hA S₂ hr₂ fun it fp wr Stt h' tk W hst hk hw hfp => ?_
    refine wpAny_bind (wpAny_runOwn (env := cenv) ?_)
    have S₃ : SS g.prog g.w g.s₁ P₂ σ₂ { s₂ with heap := h', toks := tk } := ⟨S₂.sh.grow hk, S₂.gens, S₂.os⟩
    have F₃ := F₂.step (.grow hk)
    have Ac₃ : Acc g cenv D out P₂ σ₂ h' := Ac₂.step ((Step.grow hk).weaken (X := Own cenv))
    have I₃ : ItOff cenv D P₂ σ₂ h' wr := ⟨fun b hb => by
      obtain ⟨h1, o, h2⟩ := hw b hb
      obtain ⟨f1, f2⟩ := S₂.sh.fresh h1
      refine ⟨f1, f2, ⟨o, h2⟩, fun hx => ?_, fun q => ?_⟩
      · obtain ⟨_, _, o', ho'⟩ := F₂.fa hx
        rw [h1] at ho'; cases ho'
      · subst q
        obtain ⟨o', vs, h3, _⟩ := Ac₂.is
        rw [h1] at h3; cases h3⟩
    have loop : codeAny g.M A (.compLoop (.ListComp elt [⟨t, iter, ifs, 0⟩, ⟨t', iter', ifs', 0⟩] scope pos) 1 (.ref it) (.ref D) cenv) (fun r s' => match r with | .ok f => wpAny g.M A (pure ()) (fun _ s' => ∃ P' σ' out', R out' σ' ∧ SS g.prog g.w g.s₁ P' σ' s' ∧ SF g.prog g.w cenv ρ P' σ' s'.heap ∧ Acc g cenv D out' P' σ' s'.heap ∧ Step (XD cenv D) P σ s.heap P' σ' s'.heap) E s' | .error e => cameBackBy g.M A cenv E e s') { s₂ with heap := h', toks := tk } := by
      refine comp_loop (B := CElt g n cenv elt) (Bsem := (do let _ ← call (.builtin "list.append") [.ref D, ← eval elt cenv])) rfl den_comp2b (Around.under_of_weight rfl rfl) hA (fun P σ s ρ out R E S F Ac h => acc_append hA S F Ac h) W S₃ F₃ Ac₃ hst I₃ hfp hl₂ fun P' σ' s' out' hR S' F' A' t' => ?_
      refine wpAny_pure ⟨P', σ', out', hR, S', F', A', ?_⟩
      refine (t₂.weaken (X := XD cenv D)).trans (Step.behind hk (fun b hb => (hw b hb).1) t') fun x o hx e => ?_
      rcases hx with hx | rfl
      · exact ⟨(F.own hx).2.1, (F₂.own hx).2.2⟩
      · obtain ⟨o', vs, h3, _⟩ := Ac₂.is; exact ⟨Ac.offS, o', h3⟩
    exact codeAny_compStart_any rfl (Around.under_of_weight rfl rfl) rfl (fun _ => rfl) rfl loop (W.self 0 _ _ _ hst loop)
  · obtain ⟨m, hn, hq⟩ := c.post hR
    exact ⟨m, hn, fun h' hs => (hq h' hs).after t₁⟩

theorem WS.assignComp1 {elt t iter : Expr} {ifs : List Expr} {scope : Scope} {pos spos py : Pos} {y : Str} {ρ ρ' : Ro} (ρc : Ro) {Q : Fl → Ro → St → Prop}
    (hof : Mine.Off y ρ ρ') (ok : scOk scope env = true) (hsub : ∀ p ∈ ρc, p ∈ ρ ∧ scope.names.lookup p.1 = some .free)
    (h : WE g n env ρ σ iter fun a σ₁ => ∃ items, IterV g n t a items σ₁ ∧ ∀ C, CLoop g n (cenvOf scope env C) t ifs (CElt g n (cenvOf scope env C) elt) items ρc σ₁ [] fun out σ₂ => Q .next ((y, .d (.lst out)) :: ρ') σ₂)
    (hb : Bound env y := by first | exact Or.inl rfl | exact Or.inr ⟨rfl, rfl⟩)
    (hsw : swapsWith (.ListComp elt [⟨t, iter, ifs, 0⟩] scope pos) (some (.Name y py)) spos.line env = pure true := by rfl)
    (hs : ∀ x, foldedSetIterable iter env x = pure x := by intro _; rfl) : WS g n env ρ σ (.Assign [.Name y py] (.ListComp elt [⟨t, iter, ifs, 0⟩] scope pos) spos) Q := by
  intro A E P s hA S F
  rw [exec_Assign_Name_used _ _ _ _ hsw]
  have hok := ScOk.of ok
  refine wpAny_bind (wpAny_standAt (wpAny_bind ?_))
  show wpAny _ A (do let _ ← comprehension (.ListComp elt [⟨t, iter, ifs, 0⟩] scope pos) scope env _ (newList []) false (eval iter env) (some (PySem.assign (.Name y py) env))) _ _ s
  refine wpAny_bind (wpAny_mono (wpAny_comprehension_free (use := some (PySem.assign (.Name y py) env)) (Q := fun _ s' => PostS g env P σ s.heap Q .next s') rfl hs (closureFor_eq fun y hy hf => F.has y.1 (hok.free y hy hf)) hok.kind hok.names
    (h.then hA S F fun a P₁ σ₁ v s₁ z hr S₁ F₁ t₁ => ?_)) (fun _ s' hq => wpAny_pure (wpAny_pure hq)) fun _ _ e => e)
  obtain ⟨items, hit, hl⟩ := z
  refine comp_core (e := .ListComp elt [⟨t, iter, ifs, 0⟩] scope pos) (RR := fun acc C => compPost g.M A E (some (PySem.assign (.Name y py) env)) (fun _ s' => PostS g env P σ s.heap Q .next s') acc C) (B := fun cenv => CElt g n cenv elt) (Bsem := fun cenv D => do let _ ← call (.builtin "list.append") [.ref D, ← eval elt cenv]) (R := fun out σ₂ => Q .next ((y, .d (.lst out)) :: ρ') σ₂) hA S₁ F₁ hr hit hok hsub (fun cenv it D => den_comp1) (fun _ _ _ => rfl) (fun _ _ _ => Around.under_of_weight rfl rfl) (fun _ _ _ => Around.under_of_weight rfl rfl) (fun _ _ _ => rfl) rfl
    (fun cenv D P σ s ρ out R E S F Ac h => acc_append hA S F Ac h) hl fun D C out P' σ' s' hR c => ?_
  show wpAny _ A (PySem.assign (.Name y py) env (.ref D)) _ _ s'
  refine wpAny_assign_Name (c.sf.store c.ss hb (a := .d (.lst out)) c.rep hof.put fun s'' S'' F'' t'' => ?_)
  obtain ⟨m, hn⟩ := c.ns
  have hoff := c.offC
  refine ⟨m, hn.at' fun o e => t''.keep C o e hoff.2.1 hoff.2.2.1, fun h' hs => ?_⟩
  refine ⟨.next, _, P', σ', hR, rfl, ⟨S''.sh.off hs hoff.1 hoff.2.1, S''.gens, S''.os⟩, F''.walk (wr := [C]) (fun _ _ e => e) (fun _ _ e => .inl e) (fun b o hb e => (hs.2 b fun q => hb (by simp [q])).trans e) (fun b hb hx => ?_), ?_⟩
  · rw [List.mem_singleton.mp hb] at hx
    obtain ⟨_, _, o, ho'⟩ := F₁.fa hx
    rw [hoff.2.2.2] at ho'; cases ho'
  · have tt : Step (Own env) P σ s.heap P' σ' s''.heap := Step.transF F c.sf ((t₁.trans0 c.step).weaken) t''
    have oldC : s.heap.get? C = none := by
      cases e : s.heap.get? C with
      | none => rfl
      | some o =>
        obtain ⟨o', e'⟩ := t₁.live C o e id
        rw [hoff.2.2.2] at e'; cases e'
    exact ⟨tt.le, fun b o e hσ hx => (hs.2 b fun q => by subst q; rw [oldC] at e; cases e).trans (tt.keep b o e hσ hx), tt.newP, tt.newS, fun b o e hx => by obtain ⟨o', e'⟩ := tt.live b o e hx; exact ⟨o', (hs.2 b fun q => by subst q; rw [oldC] at e; cases e).trans e'⟩⟩
end
end
set_option tactic.hygienic false
section

theorem bindL_off {k : Str → Option NameKind} (binds : List (Str × Value)) (m : Str → Option Value) (x : Str) (h : x ∉ binds.map (·.1)) : bindL k binds m x = m x := by
  induction binds generalizing m with
  | nil => rfl
  | cons p r ih =>
    have h1 : x ≠ p.1 := fun e => h (by rw [e]; exact .head _)
    show bindL k r (if k p.1 = some .local then (fun y => if y = p.1 then some p.2 else m y) else m) x = m x
    rw [ih _ fun q => h (.tail _ q)]
    by_cases hk : k p.1 = some .local
    · rw [if_pos hk]; exact if_neg h1
    · rw [if_neg hk]
theorem bindC_off {k : Str → Option NameKind} (binds : List (Str × Value)) (m : Str → Option Value) (x : Str) (h : x ∉ binds.map (·.1)) : bindC k binds m x = m x := by
  induction binds generalizing m with
  | nil => rfl
  | cons p r ih =>
    have h1 : x ≠ p.1 := fun e => h (by rw [e]; exact .head _)
    show bindC k r (if k p.1 = some .local then m else fun y => if y = p.1 then some p.2 else m y) x = m x
    rw [ih _ fun q => h (.tail _ q)]
    by_cases hk : k p.1 = some .local
    · rw [if_pos hk]
    · rw [if_neg hk]; exact if_neg h1
theorem bindL_at {k : Str → Option NameKind} (binds : List (Str × Value)) (m : Str → Option Value) (x : Str) (v : Value) (hn : (binds.map (·.1)).Nodup) (h : (x, v) ∈ binds) (hk : k x = some .local) : bindL k binds m x = some v := by
  induction binds generalizing m with
  | nil => cases h
  | cons p r ih =>
    have hn := List.nodup_cons.mp hn
    show bindL k r (if k p.1 = some .local then (fun y => if y = p.1 then some p.2 else m y) else m) x = some v
    rcases List.mem_cons.mp h with e | h
    · subst e
      rw [bindL_off r _ _ hn.1, if_pos hk]
      exact if_pos rfl
    · exact ih _ hn.2 h
theorem bindC_at {k : Str → Option NameKind} (binds : List (Str × Value)) (m : Str → Option Value) (x : Str) (v : Value) (hn : (binds.map (·.1)).Nodup) (h : (x, v) ∈ binds) (hk : k x ≠ some .local) : bindC k binds m x = some v := by
  induction binds generalizing m with
  | nil => cases h
  | cons p r ih =>
    have hn := List.nodup_cons.mp hn
    show bindC k r (if k p.1 = some .local then m else fun y => if y = p.1 then some p.2 else m y) x = some v
    rcases List.mem_cons.mp h with e | h
    · subst e
      rw [bindC_off r _ _ hn.1, if_neg hk]
      exact if_pos rfl
    · exact ih _ hn.2 h
theorem cellsFrom_mem : ∀ (names : List (Str × NameKind)) (k : Nat) (acc : List (Str × Addr)) (x : Str) (c : Addr), (x, c) ∈ cellsFrom k names acc → (x, c) ∈ acc ∨ (x, NameKind.cell) ∈ names
  | [], k, acc, x, c, h => .inl h
  | (y, kd) :: r, k, acc, x, c, h => by
    unfold cellsFrom at h
    split at h
    · rename_i hk
      rcases cellsFrom_mem r _ _ x c h with q | q
      · rcases List.mem_cons.mp q with e | q
        · cases e; rw [beq_iff_eq.mp hk]; exact .inr (.head _)
        · exact .inl q
      · exact .inr (.tail _ q)
    · exact (cellsFrom_mem r _ _ x c h).imp id (.tail _)

section
variable {g : Gm} {n : Nat} {σ : St}

noncomputable def FnAt (g : Gm) (d : DefRec) (a : Addr) : Prop := ∃ o pm cd doc, g.s₁.heap.get? a = some o ∧ o.data = .func (Calls.docDef d.name d.params d.body d.scope pm cd doc) ∧ g.s₁.heap.CodeRec cd d.name

theorem Step.under {Y : Addr → Prop} {P P' : PM} {σ σ' : St} {h h' h'' : Heap} (hk : ∀ b o, h.get? b = some o → h'.get? b = some o) (hY : ∀ b, Y b → h.get? b = none) (t : Step Y P σ h' P' σ' h'') : Step X0 P σ h P' σ' h'' := by
  have old : ∀ b, h'.get? b = none → h.get? b = none := fun b e => by
    cases q : h.get? b with
    | none => rfl
    | some o => rw [hk b o q] at e; cases e
  refine ⟨t.le, fun b o e hs _ => t.keep b o (hk b o e) hs fun q => ?_, fun b o e => (t.newP b o e).imp id fun q => q.imp (old b) id, fun b c e => (t.newS b c e).imp id (old b), fun b o e _ => t.live b o (hk b o e) fun q => ?_⟩
  · rw [hY b q] at e; cases e
  · rw [hY b q] at e; cases e

noncomputable def retOf : Fl → AV
  | .ret a => a
  | _ => .d .none

theorem zip_mem {P : PM} : ∀ {xs : List Str} {as : List AV} {vs : List Value}, RepAs g.prog g.w P as vs → ∀ p ∈ xs.zip as, ∃ v, (p.1, v) ∈ xs.zip vs ∧ RepA g.prog g.w P p.2 v
  | [], _, _, _, p, hp => by simp at hp
  | x :: xs, _, _, .nil, p, hp => by simp at hp
  | x :: xs, _, _, .cons h r, p, hp => by
    rw [List.zip_cons_cons] at hp ⊢
    rcases List.mem_cons.mp hp with rfl | hp
    · exact ⟨_, .head _, h⟩
    · obtain ⟨v, h1, h2⟩ := zip_mem r p hp
      exact ⟨v, .tail _ h1, h2⟩

theorem WC.fn {d : DefRec} {a : Addr} {as : List AV} {xs : List Str} {Q : AV → St → Prop} (hf : FnAt g d a) (hlim : g.s₁.heap.NoLimit) (hx : as.length = xs.length)
    (hbind : ∀ pm cd doc vs, vs.length = xs.length → bindArgs (Calls.docDef d.name d.params d.body d.scope pm cd doc) ⟨vs, []⟩ = pure (xs.zip vs))
    (hnd : xs.Nodup) (hkind : ∀ x ∈ xs, d.scope.names.lookup x = some .local ∨ d.scope.names.lookup x = some .cell) (hfree : ∀ y ∈ d.scope.names, y.2 ≠ .free) (hcd : (Str.ofString "__classdict__", NameKind.cell) ∉ d.scope.names)
    (hco : d.scope.isCoroutine = false) (hgen : d.scope.isGenerator = false) (hk : d.scope.kind = .function)
    (h : ∀ L cd, WSs g n (envOfC d.name d.scope L a cd) (xs.zip as) σ d.body fun fl _ σ' => Q (retOf fl) σ') : WC g (n + 1) (.ref a) as σ Q := by
  intro A E P s vs hA S rs
  obtain ⟨o, pm, cd, doc, ho, hdat, hcode⟩ := hf
  have hvl : vs.length = xs.length := rs.length.trans hx
  refine wpAny_call (call_cells_ret (s := s) (args := vs) (by have := hA.depth; unfold recursionLimit; omega) (S.up a o ho) hdat (hlim.keeps S.up) (hcode.keeps S.up) (hbind pm cd doc vs hvl) ?_ ?_ hco hgen hk)
  · intro x hx'
    have hx1 : x.1 ∈ xs := (List.of_mem_zip (a := x.1) (b := x.2) hx').1
    rcases hkind x.1 hx1 with q | q
    · exact .inl q
    · exact .inr ⟨q, cellsFrom_some _ _ _ (.inl q)⟩
  intro h₁ tk F X
  have hA' : OkA n (A.deeper (envOfC d.name d.scope s.heap.objs.size a cd)) := ⟨hA.handled, by have := hA.depth; show A.depth + 1 + n < 900; omega, by have := hA.units; show A.units + 3 + 8 * n + 100 < 9000; omega, hA.guards⟩
  have S' : SS g.prog g.w g.s₁ P σ { s with heap := h₁, toks := tk } := ⟨S.sh.grow F.keep, S.gens, S.os⟩
  have hnd' : ((xs.zip vs).map (·.1)).Nodup := by
    have : (xs.zip vs).map (·.1) = xs := by
      rw [List.map_fst_zip]; exact Nat.le_of_eq (Eq.symm hvl)
    rw [this]; exact hnd
  have fresh : ∀ b, s.heap.objs.size ≤ b → s.heap.get? b = none := fun b hb => Heap.get?_none_of_le hb
  have hF : SF g.prog g.w (envOfC d.name d.scope s.heap.objs.size a cd) (xs.zip as) P σ h₁ := by
    refine ⟨hk, rfl, rfl, ⟨_, F.ns, fun p hp hkp => ?_⟩, fun p hp hkp => ?_, S.sh.fresh (fresh _ (Nat.le_refl _)), fun x c e => ?_, fun x hx' => ?_, fun x y c e1 e2 => name_of_addr X.apart (mem_of_lookup e1) (mem_of_lookup e2), ?_⟩
    · obtain ⟨v, h1, h2⟩ := zip_mem rs p hp
      exact ⟨v, bindL_at _ _ _ _ hnd' h1 hkp, h2⟩
    · obtain ⟨v, h1, h2⟩ := zip_mem rs p hp
      have hx1 : p.1 ∈ xs := (List.of_mem_zip (a := p.1) (b := p.2) hp).1
      rcases hkind p.1 hx1 with q | q
      · exact absurd q hkp
      · have hs := cellsFrom_some (x := p.1) d.scope.names (s.heap.objs.size + 1) [] (.inl q)
        obtain ⟨c, hc⟩ := Option.isSome_iff_exists.mp hs
        have := X.cell p.1 c hc
        rw [bindC_at _ _ _ _ hnd' h1 hkp] at this
        exact ⟨c, v, .inl q, hc, this, h2⟩
    · have hlt := X.above x c (mem_of_lookup e)
      obtain ⟨h1, h2⟩ := S.sh.fresh (fresh c (Nat.le_of_lt hlt))
      exact ⟨h1, h2, _, X.cell x c e⟩
    · rcases hx' with q | q
      · exact Option.isSome_iff_exists.mp (cellsFrom_some (x := x) d.scope.names (s.heap.objs.size + 1) [] (.inl q))
      · exact absurd rfl (hfree _ (lookup_mem q))
    · cases e : (cellsFrom (s.heap.objs.size + 1) d.scope.names []).lookup (Str.ofString "__classdict__") with
      | none => exact e
      | some c => rcases cellsFrom_mem _ _ _ _ _ (mem_of_lookup e) with q | q
                  · cases q
                  · exact absurd q hcd
  refine wpAny_mono (h _ cd _ (fun _ _ => False) P { s with heap := h₁, toks := tk } hA' S' hF) (fun f s' zr2 => ?_) fun _ _ x => x
  refine zr2.elim fun fl ρ' P' σ' hq hfl S₂ F₂ t₂ => ?_
  have tt : Step X0 P σ s.heap P' σ' s'.heap := t₂.under F.keep fun b hb => by
    rcases hb with rfl | ⟨_, x, hx'⟩
    · exact fresh _ (Nat.le_refl _)
    · exact fresh _ (Nat.le_of_lt (X.above x b (mem_of_lookup hx')))
  cases fl with
  | next => have hf' : f = .next := hfl
            subst hf'
            exact ⟨_, P', σ', hq, .none, S₂, tt⟩
  | brk => have hf' : f = .brk := hfl
           subst hf'
           exact ⟨_, P', σ', hq, .none, S₂, tt⟩
  | cont => have hf' : f = .cont := hfl
            subst hf'
            exact ⟨_, P', σ', hq, .none, S₂, tt⟩
  | ret r => obtain ⟨v, rfl, hr⟩ := id hfl
             exact ⟨r, P', σ', hq, hr, S₂, tt⟩

variable {env : Env} {ρ : Ro}

theorem WEs.run {e : Expr} {es : List Expr} {f : Value} {pos : Pos} {R : List AV → St → Prop} {A : Around} {E : Value → Shared → Prop} {P : PM} {s : Shared} {k : Args → Shared → Prop} (h : WEs g n env ρ σ (e :: es) R) (hA : OkA n A) (S : SS g.prog g.w g.s₁ P σ s) (F : SF g.prog g.w env ρ P σ s.heap)
    (he : starEach (e :: es) env = (false, eval e env) :: starEach es env)
    (hk : ∀ as P' σ' vs s', R as σ' → RepAs g.prog g.w P' as vs → SS g.prog g.w g.s₁ P' σ' s' → Step X0 P σ s.heap P' σ' s'.heap → k ⟨vs, []⟩ s') : wpAny g.M A (evalArgs f true (backTo pos (starEach (e :: es) env)) []) k E s := by
  have h' := h pos A E P s hA S F
  rw [he] at h' ⊢
  exact Calls.evalArgs_plain (wpAny_mono h' (fun vs s' zq1_2 => by refine zq1_2.elim fun as P' σ' h1 h2 h3 h4 => ?_; exact hk as P' σ' vs s' h1 h2 h3 h4) fun _ _ x => x)

noncomputable def noStar (e : Expr) : Bool := match e with | .Starred .. => false | _ => true
theorem noStars {es : List Expr} {pos : Pos} (h : es.all noStar = true) : (backTo pos (starEach es env)).any (·.1) = false := by
  induction es with
  | nil => rfl
  | cons e es ih =>
    have h' := Bool.and_eq_true_iff.mp h
    have ih := ih h'.2
    cases e <;> first | exact ih | exact nomatch (h'.1 : false = true)

theorem WE.callFn {f : Str} {p pos : Pos} {e : Expr} {es : List Expr} {a : Addr} {d : DefRec} {Q : AV → St → Prop} (hg : GlobIs g f (.ref a)) (hfn : FnAt g d a) (h : WEs g n env ρ σ (e :: es) fun as σ₁ => WC g n (.ref a) as σ₁ Q)
    (hk : env.kindOf f = some .globalImplicit := by rfl) (hd : (f == ("__debug__" : Str)) = false := by decide) (he : starEach (e :: es) env = (false, eval e env) :: starEach es env := by rfl) : WE g n env ρ σ (.Call (.Name f p) (e :: es) [] pos) Q := by
  intro A E P s hA S F
  refine Call_Name rfl ((WE.glob (Q := fun a' σ' => a' = .raw (.ref a) ∧ σ' = σ) hg ⟨rfl, rfl⟩ hk hd).then hA S F fun a' P₁ σ₁ v s₁ zr5 hr S₁ F₁ t₁ => ?_)
  obtain ⟨ha, hσ⟩ := zr5
  subst ha hσ
  have hv : v = .ref a := hr
  subst hv
  obtain ⟨o, pm, cd, doc, ho, hdat, hcode⟩ := hfn
  refine Calls.callWith_function (o := o) (h.run hA S₁ F₁ he fun as P₂ σ₂ vs s₂ hq rs S₂ t₂ => ⟨⟨S₂.up a o ho, hdat⟩, ?_⟩)
  exact wpAny_mono (hq A E P₂ s₂ vs hA S₂ rs) (fun _ _ x => x.after (t₁.trans0 t₂)) fun _ _ x => x

theorem WE.callB {f : Str} {id : String} {p pos : Pos} {e : Expr} {es : List Expr} {Q : AV → St → Prop} (hg : BltIs g f (.builtin id)) (h : WEs g n env ρ σ (e :: es) fun as σ₁ => WC g n (.builtin id) as σ₁ Q)
    (hns : (e :: es).all noStar = true := by rfl)
    (hk : env.kindOf f = some .globalImplicit := by rfl) (hd : (f == ("__debug__" : Str)) = false := by decide) (he : starEach (e :: es) env = (false, eval e env) :: starEach es env := by rfl) : WE g n env ρ σ (.Call (.Name f p) (e :: es) [] pos) Q := by
  intro A E P s hA S F
  refine Call_Name rfl ((WE.blt (Q := fun a' σ' => a' = .raw (.builtin id) ∧ σ' = σ) hg ⟨rfl, rfl⟩ hk hd).then hA S F fun a' P₁ σ₁ v s₁ zr5 hr S₁ F₁ t₁ => ?_)
  obtain ⟨ha, hσ⟩ := zr5
  subst ha hσ
  have hv : v = .builtin id := hr
  subst hv
  refine Calls.callWith_builtin (noStars hns) (h.run hA S₁ F₁ he fun as P₂ σ₂ vs s₂ hq rs S₂ t₂ => ?_)
  exact wpAny_mono (hq A E P₂ s₂ vs hA S₂ rs) (fun _ _ x => x.after (t₁.trans0 t₂)) fun _ _ x => x

theorem WE.callT {f : Str} {T : String} {p pos : Pos} {e : Expr} {es : List Expr} {Q : AV → St → Prop} (hg : BltIs g f (.type T)) (h : WEs g n env ρ σ (e :: es) fun as σ₁ => WC g n (.type T) as σ₁ Q)
    (hns : (e :: es).all noStar = true := by rfl)
    (hk : env.kindOf f = some .globalImplicit := by rfl) (hd : (f == ("__debug__" : Str)) = false := by decide) (he : starEach (e :: es) env = (false, eval e env) :: starEach es env := by rfl) : WE g n env ρ σ (.Call (.Name f p) (e :: es) [] pos) Q := by
  intro A E P s hA S F
  refine Call_Name rfl ((WE.blt (Q := fun a' σ' => a' = .raw (.type T) ∧ σ' = σ) hg ⟨rfl, rfl⟩ hk hd).then hA S F fun a' P₁ σ₁ v s₁ zr5 hr S₁ F₁ t₁ => ?_)
  obtain ⟨ha, hσ⟩ := zr5
  subst ha hσ
  have hv : v = .type T := hr
  subst hv
  refine PyProof.Rows.callWith_type (noStars hns) (h.run hA S₁ F₁ he fun as P₂ σ₂ vs s₂ hq rs S₂ t₂ => ?_)
  exact wpAny_mono (hq A E P₂ s₂ vs hA S₂ rs) (fun _ _ x => x.after (t₁.trans0 t₂)) fun _ _ x => x

noncomputable def TyOf (g : Gm) (a : AV) (σ : St) (T : String) : Prop := ∀ P s v, SS g.prog g.w g.s₁ P σ s → RepA g.prog g.w P a v → s.TypeIs v T ∧ ∀ b, v = .ref b → ∃ ob, s.heap.get? b = some ob ∧ ob.dict = none
theorem TyOf.str {x : Str} : TyOf g (.d (.str x)) σ "str" := fun P s v S hr => by cases hr; exact ⟨rfl, fun b e => nomatch e⟩
theorem TyOf.lst {a : Addr} {ds : List D} (h : σ a = some (.lst ds)) : TyOf g (.cell a) σ "list" := fun P s v S hr => by
  have hv : v = .ref a := hr
  subst hv
  obtain ⟨_, o, ho, vs, k, rfl, _⟩ := S.sh.cells a _ h
  exact ⟨⟨_, ho, rfl⟩, fun b e => by cases e; exact ⟨_, ho, rfl⟩⟩

theorem WE.meth {o e : Expr} {es : List Expr} {name : Str} {apos pos : Pos} {Q : AV → St → Prop} (T id : String) (pa : PlainAttrs T) (sl : Slot T name id) (hty : typeOf (.builtin id) = pure (.type "method_descriptor"))
    (h : WE g n env ρ σ o fun a σ₁ => TyOf g a σ₁ T ∧ WEs g n env ρ σ₁ (e :: es) fun as σ₂ => WC g n (.builtin id) (a :: as) σ₂ Q)
    (hbase : attributeBase o name env (eval o env) = eval o env := by rfl) (hline : (apos.endLine == pos.line) = true := by rfl)
    (hfew : ((backTo pos (starEach (e :: es) env)).all (fun x => !x.1) && (backToKw pos (keywordEach [] env)).all (fun x => x.1.isSome)
      && decide ((e :: es).length + ([] : List Keyword).length + (if ([] : List Keyword).isEmpty then 0 else 1) < 30)) = true := by rfl)
    (he : starEach (e :: es) env = (false, eval e env) :: starEach es env := by rfl)
    (hns : (e :: es).all noStar = true := by rfl) : WE g n env ρ σ (.Call (.Attribute o name apos) (e :: es) [] pos) Q := by
  intro A E P s hA S F
  refine wpAny_Call_method_late hbase hfew hline rfl (h.then hA S F fun a P₁ σ₁ v s₁ zr5 hr S₁ F₁ t₁ => ?_)
  obtain ⟨hT, h₂⟩ := zr5
  obtain ⟨q1, q2⟩ := hT P₁ s₁ v S₁ hr
  refine ⟨T, id, pa, sl, hty, q1, q2, ?_⟩
  refine Calls.callWith_builtin (noStars hns) ?_
  refine h₂.run hA S₁ F₁ he fun as P₂ σ₂ vs s₂ hq rs S₂ t₂ => ?_
  exact wpAny_mono (hq A E P₂ s₂ (v :: vs) hA S₂ (.cons (hr.mono t₂.le) rs)) (fun _ _ x => x.after (t₁.trans0 t₂)) fun _ _ x => x
theorem WE.meth0 {o : Expr} {name : Str} {apos pos : Pos} {Q : AV → St → Prop} (T id : String) (pa : PlainAttrs T) (sl : Slot T name id) (hty : typeOf (.builtin id) = pure (.type "method_descriptor"))
    (h : WE g n env ρ σ o fun a σ₁ => TyOf g a σ₁ T ∧ WC g n (.builtin id) [a] σ₁ Q)
    (hbase : attributeBase o name env (eval o env) = eval o env := by rfl) (hline : (apos.endLine == pos.line) = true := by rfl) : WE g n env ρ σ (.Call (.Attribute o name apos) [] [] pos) Q := by
  intro A E P s hA S F
  refine wpAny_Call_method_late hbase rfl hline rfl (h.then hA S F fun a P₁ σ₁ v s₁ zr5 hr S₁ F₁ t₁ => ?_)
  obtain ⟨hT, h₂⟩ := zr5
  obtain ⟨q1, q2⟩ := hT P₁ s₁ v S₁ hr
  refine ⟨T, id, pa, sl, hty, q1, q2, ?_⟩
  refine Calls.callWith_builtin rfl (evalArgs_nil3 ?_)
  exact wpAny_mono (h₂ A E P₁ s₁ [v] hA S₁ (.cons hr .nil)) (fun _ _ x => x.after t₁) fun _ _ x => x
end
end
set_option tactic.hygienic false
section
section
variable {g : Gm} {n : Nat} {σ : St} {Q : AV → St → Prop}

theorem str_beq (x y : Str) : (x == y) = decide (x = y) := by
  by_cases h : x = y
  · subst h; simp
  · rw [decide_eq_false h]; exact beq_eq_false_iff_ne.mpr h
theorem str_bne (x y : Str) : (x != y) = decide (x ≠ y) := by
  have := str_beq x y
  simp only [bne, this, decide_not]

-- ints
theorem W2.addI {i j : Int} (hq : Q (.d (.int (i + j))) σ) : W2 g n (binaryOp .Add) (.d (.int i)) (.d (.int j)) σ Q := fun A E P s v u hA S hv hu => by
  cases hv; cases hu; exact add_int (PostE.here S hq (.int _ _))
theorem W2.subI {i j : Int} (hq : Q (.d (.int (i - j))) σ) : W2 g n (binaryOp .Sub) (.d (.int i)) (.d (.int j)) σ Q := fun A E P s v u hA S hv hu => by
  cases hv; cases hu; exact sub_int (PostE.here S hq (.int _ _))
theorem W2.mulI {i j : Int} (hm : IntMulOk i j) (hq : Q (.d (.int (i * j))) σ) : W2 g n (binaryOp .Mult) (.d (.int i)) (.d (.int j)) σ Q := fun A E P s v u hA S hv hu => by
  cases hv; cases hu; exact mul_int (PostE.here S hq (.int _ _)) hm
theorem W2.modI {i j : Int} (hj : j ≠ 0) (hq : Q (.d (.int (i.fmod j))) σ) : W2 g n (binaryOp .Mod) (.d (.int i)) (.d (.int j)) σ Q := fun A E P s v u hA S hv hu => by
  cases hv; cases hu; exact mod_int' hj (PostE.here S hq (.int _ _))
theorem W2.divI {i j : Int} (hj : j ≠ 0) (hp : Builtin.divisionGoesByPylong i j = false) (hq : Q (.d (.int (i.fdiv j))) σ) : W2 g n (binaryOp .FloorDiv) (.d (.int i)) (.d (.int j)) σ Q := fun A E P s v u hA S hv hu => by
  cases hv; cases hu; exact floordiv_int hj (PostE.here S hq (.int _ _)) (.inl hp)
theorem W2.eqI {i j : Int} (hq : Q (.d (.bool (decide (i = j)))) σ) : W2 g n (compareOp .Eq) (.d (.int i)) (.d (.int j)) σ Q := fun A E P s v u hA S hv hu => by
  cases hv; cases hu; exact eq_int (PostE.here (tk := s.toks) S hq (by have : (i == j) = decide (i = j) := rfl; rw [← this]; exact .bool _))
theorem W2.ltI {i j : Int} (hq : Q (.d (.bool (decide (i < j)))) σ) : W2 g n (compareOp .Lt) (.d (.int i)) (.d (.int j)) σ Q := fun A E P s v u hA S hv hu => by
  cases hv; cases hu; exact lt_int (PostE.here (tk := s.toks) S hq (.bool _))
theorem W2.gtI {i j : Int} (hq : Q (.d (.bool (decide (j < i)))) σ) : W2 g n (compareOp .Gt) (.d (.int i)) (.d (.int j)) σ Q := fun A E P s v u hA S hv hu => by
  cases hv; cases hu; exact gt_int (PostE.here (tk := s.toks) S hq (.bool _))
-- strs
theorem W2.eqS {x y : Str} (hq : Q (.d (.bool (decide (x = y)))) σ) : W2 g n (compareOp .Eq) (.d (.str x)) (.d (.str y)) σ Q := fun A E P s v u hA S hv hu => by
  cases hv; cases hu; exact eq_str (PostE.here (tk := s.toks) S hq (by rw [← str_beq]; exact .bool _))
theorem W2.neS {x y : Str} (hq : Q (.d (.bool (decide (x ≠ y)))) σ) : W2 g n (compareOp .NotEq) (.d (.str x)) (.d (.str y)) σ Q := fun A E P s v u hA S hv hu => by
  cases hv; cases hu; exact ne_str (PostE.here (tk := s.toks) S hq (by rw [← str_bne]; exact .bool _))
theorem W2.addS {x y : Str} (hz : x.length + y.length ≤ sizeLine) (hq : Q (.d (.str (x ++ y))) σ) : W2 g n (binaryOp .Add) (.d (.str x)) (.d (.str y)) σ Q := fun A E P s v u hA S hv hu => by
  cases hv; cases hu
  exact add_str (fun t tk => PostE.here (tk := tk) S hq (.str _ _)) hz
-- truth
theorem WTr.bool {b : Bool} {R : Bool → St → Prop} (h : R b σ) : WTr g n (.d (.bool b)) σ R := fun A E P s v hA S hv => by
  cases hv; exact wpAny_truthy_bool ⟨P, σ, h, S, .refl⟩
-- lists and tuples, joined
theorem Rep.isList {P : PM} {s : Shared} {ds : List D} {v : Value} (S : SS g.prog g.w g.s₁ P σ s) (h : Rep g.prog g.w P (.lst ds) v) : ∃ a vs, v = .ref a ∧ s.heap.IsList a vs.toArray ∧ Reps g.prog g.w P ds vs := by
  cases h with
  | lst hP hs r => exact ⟨_, _, rfl, ⟨_, S.sh.keepP _ _ hP, hs⟩, r⟩
theorem Rep.isTup {P : PM} {s : Shared} {ds : List D} {v : Value} (S : SS g.prog g.w g.s₁ P σ s) (h : Rep g.prog g.w P (.tup ds) v) : ∃ a vs, v = .ref a ∧ s.heap.IsTuple a vs.toArray ∧ Reps g.prog g.w P ds vs := by
  cases h with
  | tup hP hs r => exact ⟨_, _, rfl, ⟨_, S.sh.keepP _ _ hP, hs⟩, r⟩
theorem W2.addL {xs ys : List D} (hz : xs.length + ys.length ≤ 100000) (hq : Q (.d (.lst (xs ++ ys))) σ) : W2 g n (binaryOp .Add) (.d (.lst xs)) (.d (.lst ys)) σ Q := fun A E P s v u hA S hv hu => by
  obtain ⟨a, vs, rfl, hl, r1⟩ := Rep.isList S hv
  obtain ⟨b, ws, rfl, hb, r2⟩ := Rep.isList S hu
  obtain ⟨⟨cls, dd, data, sl⟩, ho, hc, m, hd⟩ := hl
  obtain ⟨⟨cls2, dd2, data2, sl2⟩, ho2, hc2, m2, hd2⟩ := hb
  simp only at hc hd hc2 hd2
  subst hc hd hc2 hd2
  have e : vs.toArray ++ ws.toArray = (vs ++ ws).toArray := by simp
  refine concat_meets ⟨_, ho, rfl⟩ ⟨_, ho2, rfl⟩ noFill_list_add seq_list_add PySem.F.slot_list_add PySem.F.entry_list_add (PySem.F.args_list_add_2 _ _) (list_addW a b vs.toArray ws.toArray m m2 dd dd2 sl sl2 (by rw [List.size_toArray, List.size_toArray, r1.length, r2.length, sizeLine_eq]; exact o1 hz rfl)) ⟨ho, ho2, ?_⟩
  rw [e]
  obtain ⟨k1, k2, k3⟩ := push_new (h := s.heap) (o := seqObj "list" (vs ++ ws).toArray 0)
  exact PostE.newData (tk := s.toks) S hq k1 k2 k3 fun hle hbq => .lst hbq .of ((r1.append r2).mono (prog := g.prog) (w := g.w) hle)

-- items
variable {env : Env} {ρ : Ro}
theorem WE.sub {value slice : Expr} {pos : Pos} (h : WE g n env ρ σ value fun a σ₁ => WE g n env ρ σ₁ slice fun b σ₂ => W2 g n (subscriptTail value slice) a b σ₂ Q) : WE g n env ρ σ (.Subscript value slice pos) Q :=
  fun A E P s hA S F => Subscript_ (h.then hA S F fun a P₁ σ₁ v s₁ h₁ ra S₁ F₁ t₁ => h₁.then hA S₁ F₁ fun b P₂ σ₂ u s₂ h₂ rb S₂ _ t₂ =>
    wpAny_mono (h₂ A E P₂ s₂ v u hA S₂ (ra.mono t₂.le) rb) (fun _ _ x => x.after (t₁.trans0 t₂)) fun _ _ x => x)

theorem W2.itemT {value slice : Expr} {ds : List D} {i : Int} {d : D} (hi : 0 ≤ i) (hd : ds[i.toNat]? = some d) (hlen : ds.length ≤ 100000) (hq : Q (.d d) σ) (hs : ∀ o i, subscripted slice false o i = operate [o, i] (getItem o i) := by intro _ _; rfl) : W2 g n (subscriptTail value slice) (.d (.tup ds)) (.d (.int i)) σ Q := fun A E P s v u hA S hv hu => by
  obtain ⟨a, vs, rfl, hl, r⟩ := Rep.isTup S hv
  cases hu
  obtain ⟨x, hx, hr⟩ := r.get hd
  have hlt : i.toNat < vs.length := (List.getElem?_eq_some_iff.mp hx).1
  have hv' := r.length
  refine tail_any (T := "tuple") hl.typeIs slot_tuple_getitem.lookup (getItem_tuple hl (by exact i8 hi) (by omega) (j := i.toNat) ?_ (by simpa using hx) (PostE.here (tk := s.toks) S hq hr)) (hs _ _)
  · unfold seqIndex?
    rw [List.size_toArray]
    simp only [Option.ite_none_right_eq_some]
    split <;> simp_all <;> omega
theorem W2.itemL {value slice : Expr} {ds : List D} {i : Int} {d : D} (hi : 0 ≤ i) (hd : ds[i.toNat]? = some d) (hlen : ds.length ≤ 100000) (hq : Q (.d d) σ) (hs : ∀ o i, subscripted slice false o i = operate [o, i] (getItem o i) := by intro _ _; rfl) : W2 g n (subscriptTail value slice) (.d (.lst ds)) (.d (.int i)) σ Q := fun A E P s v u hA S hv hu => by
  obtain ⟨a, vs, rfl, hl, r⟩ := Rep.isList S hv
  cases hu
  obtain ⟨x, hx, hr⟩ := r.get hd
  have hlt : i.toNat < vs.length := (List.getElem?_eq_some_iff.mp hx).1
  have hv' := r.length
  exact tail_any (T := "list") hl.typeIs slot_list_getitem.lookup (wpAny_getItem_list hl hi (by omega) (by simpa using hx) (PostE.here (tk := s.toks) S hq hr)) (hs _ _)
theorem W2.itemCell {value slice : Expr} {a : Addr} {ds : List D} {i : Int} {d : D} (hc : σ a = some (.lst ds)) (hi : 0 ≤ i) (hd : ds[i.toNat]? = some d) (hlen : ds.length ≤ 100000) (hq : Q (.d d) σ) (hs : ∀ o i, subscripted slice false o i = operate [o, i] (getItem o i) := by intro _ _; rfl) : W2 g n (subscriptTail value slice) (.cell a) (.d (.int i)) σ Q := fun A E P s v u hA S hv hu => by
  have hv' : v = .ref a := hv
  subst hv'
  cases hu
  obtain ⟨_, o, ho, vs, k, rfl, r⟩ := S.sh.cells a _ hc
  obtain ⟨x, hx, hr⟩ := r.get hd
  have hlt : i.toNat < vs.length := (List.getElem?_eq_some_iff.mp hx).1
  have hv' := r.length
  have hl : s.heap.IsList a vs.toArray := ⟨_, ho, rfl, _, rfl⟩
  exact tail_any (T := "list") hl.typeIs slot_list_getitem.lookup (wpAny_getItem_list hl hi (by omega) (by simpa using hx) (PostE.here (tk := s.toks) S hq hr)) (hs _ _)
theorem W2.itemBox {value slice : Expr} {a : Addr} {as : List AV} {i : Int} {d : AV} (hc : σ a = some (.box as)) (hi : 0 ≤ i) (hd : as[i.toNat]? = some d) (hlen : as.length ≤ 100000) (hq : Q d σ) (hs : ∀ o i, subscripted slice false o i = operate [o, i] (getItem o i) := by intro _ _; rfl) : W2 g n (subscriptTail value slice) (.cell a) (.d (.int i)) σ Q := fun A E P s v u hA S hv hu => by
  have hv' : v = .ref a := hv
  subst hv'
  cases hu
  obtain ⟨_, o, ho, vs, ⟨hcl, k, hda⟩, r⟩ := S.sh.cells a _ hc
  obtain ⟨x, hx, hr⟩ := r.get hd
  have hlt : i.toNat < vs.length := (List.getElem?_eq_some_iff.mp hx).1
  have hv' := r.length
  have hl : s.heap.IsList a vs.toArray := ⟨_, ho, hcl, _, hda⟩
  exact tail_any (T := "list") hl.typeIs slot_list_getitem.lookup (wpAny_getItem_list hl hi (by omega) (by simpa using hx) (PostE.here (tk := s.toks) S hq hr)) (hs _ _)

-- len
theorem WC.lenT {ds : List D} (hlen : ds.length ≤ 100000) (hq : Q (.d (.int ds.length)) σ) : WC g n (.builtin "len") [.d (.tup ds)] σ Q := fun A E P s vs hA S hv => by
  cases hv with
  | cons h r =>
  cases r
  obtain ⟨a, us, rfl, hl, r⟩ := Rep.isTup S h
  refine len_tuple hl (by rw [List.size_toArray, r.length]; exact i6 hlen rfl) ?_
  rw [List.size_toArray, r.length]
  exact PostE.here S hq (.int _ _)
theorem WC.lenL {ds : List D} (hlen : ds.length ≤ 100000) (hq : Q (.d (.int ds.length)) σ) : WC g n (.builtin "len") [.d (.lst ds)] σ Q := fun A E P s vs hA S hv => by
  cases hv with
  | cons h r =>
  cases r
  obtain ⟨a, us, rfl, hl, r⟩ := Rep.isList S h
  refine len_list hl (by rw [List.size_toArray, r.length]; exact i6 hlen rfl) ?_
  rw [List.size_toArray, r.length]
  exact PostE.here S hq (.int _ _)
theorem WC.lenCell {a : Addr} {ds : List D} (hc : σ a = some (.lst ds)) (hlen : ds.length ≤ 100000) (hq : Q (.d (.int ds.length)) σ) : WC g n (.builtin "len") [.cell a] σ Q := fun A E P s vs hA S hv => by
  cases hv with
  | cons h r =>
  cases r
  have hv' := h
  cases hv'
  obtain ⟨_, o, ho, us, k, rfl, r⟩ := S.sh.cells a _ hc
  have hl : s.heap.IsList a us.toArray := ⟨_, ho, rfl, _, rfl⟩
  refine len_list hl (by rw [List.size_toArray, r.length]; exact i6 hlen rfl) ?_
  rw [List.size_toArray, r.length]
  exact PostE.here S hq (.int _ _)

-- isinstance
noncomputable def D.ty : D → String
  | .none => "NoneType"
  | .bool _ => "bool"
  | .int _ => "int"
  | .str _ => "str"
  | .tup _ => "tuple"
  | .lst _ => "list"
  | .dcts _ => "dict"
  | .dcti _ => "dict"
  | .rng _ => "range"
end
end
set_option tactic.hygienic false
section

mutual
noncomputable def D.py : D → PyData
  | .none => .none
  | .bool b => .bool b
  | .int i => .int i
  | .str x => .str x
  | .tup ds => .tuple (D.pys ds)
  | .lst ds => .list (D.pys ds)
  | .dcts _ => .none
  | .dcti _ => .none
  | .rng _ => .none
noncomputable def D.pys : List D → List PyData
  | [] => []
  | d :: ds => D.py d :: D.pys ds
end
mutual
noncomputable def D.flat : D → Bool
  | .none => true
  | .bool _ => true
  | .int _ => true
  | .str _ => true
  | .tup ds => D.flats ds
  | .lst ds => D.flats ds
  | .dcts _ => false
  | .dcti _ => false
  | .rng _ => false
noncomputable def D.flats : List D → Bool
  | [] => true
  | d :: ds => D.flat d && D.flats ds
end
section
variable {prog : Program} {w : World} {P : PM} {h : Heap}
theorem Rep.reads (hP : ∀ a o, P a = some o → h.get? a = some o) {d : D} {v : Value} (hf : d.flat = true) (hr : Rep prog w P d v) : ∃ as, Reads h v d.py as :=
  Rep.rec (motive_1 := fun d v _ => d.flat = true → ∃ as, Reads h v d.py as) (motive_2 := fun ds vs _ => D.flats ds = true → ∃ as, ReadsAll h vs (D.pys ds) as)
    (fun _ => ⟨_, .none⟩) (fun b _ => ⟨_, .bool b⟩) (fun i t _ => ⟨_, .int i t⟩) (fun x t _ => ⟨_, .str x t⟩)
    (fun h1 hs _ ih hf => (ih hf).elim fun _ ra => hs.2.elim fun _ hd => ⟨_, .tuple (hP _ _ h1) hs.1 hd ra⟩)
    (fun h1 hs _ _ ih hf => (ih hf).elim fun _ ra => hs.2.elim fun _ hd => ⟨_, .list (hP _ _ h1) hs.1 hd ra⟩)
    (fun _ hf => nomatch (hf : false = true)) (fun _ _ _ _ _ _ hf => nomatch (hf : false = true)) (fun _ _ _ _ _ _ hf => nomatch (hf : false = true))
    (fun _ => ⟨_, .nil⟩) (fun _ _ a b hf => (a (Bool.and_eq_true_iff.mp hf).1).elim fun _ ra => (b (Bool.and_eq_true_iff.mp hf).2).elim fun _ rb => ⟨_, .cons ra rb⟩) hr hf
theorem Reps.reads (hP : ∀ a o, P a = some o → h.get? a = some o) {ds : List D} {vs : List Value} (hf : D.flats ds = true) (hr : Reps prog w P ds vs) : ∃ as, ReadsAll h vs (D.pys ds) as := by
  induction ds generalizing vs with
  | nil => cases hr; exact ⟨_, .nil⟩
  | cons d ds ih => cases hr with
    | cons a r => exact (Rep.reads hP (Bool.and_eq_true_iff.mp hf).1 a).elim fun _ ra => (ih (Bool.and_eq_true_iff.mp hf).2 r).elim fun _ rb => ⟨_, .cons ra rb⟩
end

section
variable {g : Gm} {n : Nat} {σ : St} {Q : AV → St → Prop}
theorem SS.keepP {P : PM} {s : Shared} (S : SS g.prog g.w g.s₁ P σ s) : ∀ a o, P a = some o → s.heap.get? a = some o := S.sh.keepP
theorem OkA.room {A : Around} (hA : OkA n A) : A.units + 70 < cLine := by have := hA.units; unfold cLine; omega

noncomputable def D.ok (d : D) : Bool := d.flat && SeqAt.shaped d.py
theorem W2.neD {x y : D} (hx : x.ok = true) (hy : y.ok = true) (hq : Q (.d (.bool (!PyData.eqv x.py y.py))) σ) : W2 g n (compareOp .NotEq) (.d x) (.d y) σ Q := fun A E P s v u hA S hv hu => by
  simp only [D.ok, Bool.and_eq_true] at hx hy
  obtain ⟨as, ra⟩ := Rep.reads S.keepP hx.1 hv
  obtain ⟨bs, rb⟩ := Rep.reads S.keepP hy.1 hu
  exact ne_dataH ra rb hx.2 hy.2 (by have := hA.room; exact oV this) (PostE.here (tk := s.toks) S hq (.bool _))
theorem pys_any (ds : List D) (p : PyData → Bool) : (D.pys ds).any p = ds.any fun d => p d.py := by
  induction ds with
  | nil => rfl
  | cons d ds ih => simp only [D.pys, List.any_cons, ih]
theorem any_eqv_of {ds : List D} {x : D} : ((D.pys ds).any fun y => PyData.eqv y x.py) = ds.any fun d => PyData.eqv d.py x.py := pys_any ds _
theorem room_in {A : Around} (hA : OkA n A) {a b : Nat} (hb : b ≤ 64) : A.units + 1 + min a b < cLine := by
  have := hA.room
  have h2 : min a b ≤ b := Nat.min_le_right _ _
  omega
theorem W2.inL {x : D} {ds : List D} (hx : x.ok = true) (hds : (D.lst ds).flat = true) (hl : PyData.canLayAll0 (D.pys ds) = true) (hq : Q (.d (.bool (ds.any fun d => PyData.eqv d.py x.py))) σ) : W2 g n (compareOp .In) (.d x) (.d (.lst ds)) σ Q := fun A E P s v u hA S hv hu => by
  simp only [D.ok, Bool.and_eq_true] at hx
  obtain ⟨as, ra⟩ := Rep.reads S.keepP hx.1 hv
  obtain ⟨bs, rb⟩ := Rep.reads S.keepP hds hu
  refine SeqAt.in_list_reads rb ra hl (SeqAt.canLay_of_shaped hx.2) (room_in hA (SeqAt.depth_of_shaped hx.2)) ?_
  rw [any_eqv_of]
  exact PostE.here (tk := s.toks) S hq (.bool _)
theorem W2.notInL {x : D} {ds : List D} (hx : x.ok = true) (hds : (D.lst ds).flat = true) (hl : PyData.canLayAll0 (D.pys ds) = true) (hq : Q (.d (.bool (!ds.any fun d => PyData.eqv d.py x.py))) σ) : W2 g n (compareOp .NotIn) (.d x) (.d (.lst ds)) σ Q := fun A E P s v u hA S hv hu => by
  simp only [D.ok, Bool.and_eq_true] at hx
  obtain ⟨as, ra⟩ := Rep.reads S.keepP hx.1 hv
  obtain ⟨bs, rb⟩ := Rep.reads S.keepP hds hu
  refine SeqAt.notIn_list_reads rb ra hl (SeqAt.canLay_of_shaped hx.2) (room_in hA (SeqAt.depth_of_shaped hx.2)) ?_
  rw [any_eqv_of]
  exact PostE.here (tk := s.toks) S hq (.bool _)
theorem W2.notInT {x : D} {ds : List D} (hx : x.ok = true) (hds : (D.tup ds).flat = true) (hl : PyData.canLayAll0 (D.pys ds) = true) (hq : Q (.d (.bool (!ds.any fun d => PyData.eqv d.py x.py))) σ) : W2 g n (compareOp .NotIn) (.d x) (.d (.tup ds)) σ Q := fun A E P s v u hA S hv hu => by
  simp only [D.ok, Bool.and_eq_true] at hx
  obtain ⟨as, ra⟩ := Rep.reads S.keepP hx.1 hv
  obtain ⟨bs, rb⟩ := Rep.reads S.keepP hds hu
  refine SeqAt.notIn_tuple_reads rb ra hl (SeqAt.canLay_of_shaped hx.2) (room_in hA (SeqAt.depth_of_shaped hx.2)) ?_
  rw [any_eqv_of]
  exact PostE.here (tk := s.toks) S hq (.bool _)
theorem cell_reads {P : PM} {s : Shared} {a : Addr} {ds : List D} (S : SS g.prog g.w g.s₁ P σ s) (hc : σ a = some (.lst ds)) (hds : D.flats ds = true) : ∃ as, Reads s.heap (.ref a) (.list (D.pys ds)) as := by
  obtain ⟨_, o, ho, vs, k, rfl, r⟩ := S.sh.cells a _ hc
  obtain ⟨as, ra⟩ := Reps.reads S.keepP hds r
  exact ⟨_, .list ho rfl rfl (by simpa using ra)⟩
theorem W2.notInCell {x : D} {a : Addr} {ds : List D} (hc : σ a = some (.lst ds)) (hx : x.ok = true) (hds : D.flats ds = true) (hl : PyData.canLayAll0 (D.pys ds) = true) (hq : Q (.d (.bool (!ds.any fun d => PyData.eqv d.py x.py))) σ) : W2 g n (compareOp .NotIn) (.d x) (.cell a) σ Q := fun A E P s v u hA S hv hu => by
  simp only [D.ok, Bool.and_eq_true] at hx
  have hu' : u = .ref a := hu
  subst hu'
  obtain ⟨as, ra⟩ := Rep.reads S.keepP hx.1 hv
  obtain ⟨bs, rb⟩ := cell_reads S hc hds
  refine SeqAt.notIn_list_reads rb ra hl (SeqAt.canLay_of_shaped hx.2) (room_in hA (SeqAt.depth_of_shaped hx.2)) ?_
  rw [any_eqv_of]
  exact PostE.here (tk := s.toks) S hq (.bool _)

-- repr
theorem WC.repr {ds : List D} (hf : (D.lst ds).flat = true) (hs : (D.lst ds).py.showable = true) (hnd : (D.lst ds).py.hasDict = false) (hdep : (D.lst ds).py.depth ≤ 64) (hz : (D.lst ds).py.shown.length ≤ sizeLine) (hq : Q (.d (.str (D.lst ds).py.shown)) σ) : WC g n (.builtin "repr") [.d (.lst ds)] σ Q := fun A E P s vs hA S hv => by
  cases hv with
  | cons h r =>
  cases r
  obtain ⟨a, us, rfl, _, _⟩ := Rep.isList S h
  obtain ⟨as, ra⟩ := Rep.reads S.keepP hf h
  refine repr_of_reads' ra hs (PyData.noDict_hsm hnd) hA.guards (by have := hA.room; omega) (fun _ _ e => e) (fun h' u tk hk => ?_) hz
  exact PostE.grown S hq (.str _ _) hk

-- isinstance
theorem WC.isiTuple {d : D} (hf : d.flat = true) (hq : Q (.d (.bool (d.ty == "tuple"))) σ) : WC g n (.builtin "isinstance") [.d d, .raw (.type "tuple")] σ Q := fun A E P s vs hA S hv => by
  cases hv with
  | cons h r =>
  cases r with
  | cons h2 r =>
  cases r
  have h2' := h2
  cases h2'
  cases h with
  | none => exact IsiPair.NoneType_tuple (PostE.here S hq (.bool _))
  | bool => exact IsiPair.bool_tuple (PostE.here S hq (.bool _))
  | int => exact IsiPair.int_tuple (PostE.here S hq (.bool _))
  | str => exact IsiPair.str_tuple (PostE.here S hq (.bool _))
  | tup hP hs r => exact IsiPair.tuple_tuple (S.sh.keepP _ _ hP) hs.1 (PostE.here (tk := s.toks) S hq (.bool _))
  | lst hP hs r => exact IsiPair.list_tuple (S.sh.keepP _ _ hP) hs.1 (PostE.here S hq (.bool _))
  | dcts => exact nomatch (hf : false = true)
  | dcti => exact nomatch (hf : false = true)
  | rng => exact nomatch (hf : false = true)
theorem WC.isiStr {d : D} (hf : d.flat = true) (hq : Q (.d (.bool (d.ty == "str"))) σ) : WC g n (.builtin "isinstance") [.d d, .raw (.type "str")] σ Q := fun A E P s vs hA S hv => by
  cases hv with
  | cons h r =>
  cases r with
  | cons h2 r =>
  cases r
  have h2' := h2
  cases h2'
  cases h with
  | none => exact IsiPair.NoneType_str (PostE.here S hq (.bool _))
  | bool => exact IsiPair.bool_str (PostE.here S hq (.bool _))
  | int => exact IsiPair.int_str (PostE.here S hq (.bool _))
  | str => exact IsiPair.str_str (PostE.here (tk := s.toks) S hq (.bool _))
  | tup hP hs r => exact IsiPair.tuple_str (S.sh.keepP _ _ hP) hs.1 (PostE.here S hq (.bool _))
  | lst hP hs r => exact IsiPair.list_str (S.sh.keepP _ _ hP) hs.1 (PostE.here S hq (.bool _))
  | dcts => exact nomatch (hf : false = true)
  | dcti => exact nomatch (hf : false = true)
  | rng => exact nomatch (hf : false = true)
theorem WC.isiInt {d : D} (hf : d.flat = true) (hq : Q (.d (.bool (d.ty == "int" || d.ty == "bool"))) σ) : WC g n (.builtin "isinstance") [.d d, .raw (.type "int")] σ Q := fun A E P s vs hA S hv => by
  cases hv with
  | cons h r =>
  cases r with
  | cons h2 r =>
  cases r
  have h2' := h2
  cases h2'
  cases h with
  | none => exact IsiPair.NoneType_int (PostE.here S hq (.bool _))
  | bool => exact IsiPair.bool_int (PostE.here (tk := s.toks) S hq (.bool _))
  | int => exact IsiPair.int_int (PostE.here (tk := s.toks) S hq (.bool _))
  | str => exact IsiPair.str_int (PostE.here S hq (.bool _))
  | tup hP hs r => exact IsiPair.tuple_int (S.sh.keepP _ _ hP) hs.1 (PostE.here S hq (.bool _))
  | lst hP hs r => exact IsiPair.list_int (S.sh.keepP _ _ hP) hs.1 (PostE.here S hq (.bool _))
  | dcts => exact nomatch (hf : false = true)
  | dcti => exact nomatch (hf : false = true)
  | rng => exact nomatch (hf : false = true)
theorem WC.isiBool {d : D} (hf : d.flat = true) (hq : Q (.d (.bool (d.ty == "bool"))) σ) : WC g n (.builtin "isinstance") [.d d, .raw (.type "bool")] σ Q := fun A E P s vs hA S hv => by
  cases hv with
  | cons h r =>
  cases r with
  | cons h2 r =>
  cases r
  have h2' := h2
  cases h2'
  cases h with
  | none => exact IsiPair.NoneType_bool (PostE.here S hq (.bool _))
  | bool => exact IsiPair.bool_bool (PostE.here (tk := s.toks) S hq (.bool _))
  | int => exact IsiPair.int_bool (PostE.here S hq (.bool _))
  | str => exact IsiPair.str_bool (PostE.here S hq (.bool _))
  | tup hP hs r => exact IsiPair.tuple_bool (S.sh.keepP _ _ hP) hs.1 (PostE.here S hq (.bool _))
  | lst hP hs r => exact IsiPair.list_bool (S.sh.keepP _ _ hP) hs.1 (PostE.here S hq (.bool _))
  | dcts => exact nomatch (hf : false = true)
  | dcti => exact nomatch (hf : false = true)
  | rng => exact nomatch (hf : false = true)
end
end
set_option tactic.hygienic false
section

-- the tables of the top
noncomputable def KTDg : KTD.Dat → Bool
  | .flat .none => true
  | .flat (.bool _) => true
  | .flat (.int _) => true
  | .flat (.str _) => true
  | .tup ds => ds.all fun d => match d with | .int _ => true | .str _ => true | _ => false
  | _ => false
noncomputable def dOfP : PyData → D
  | .int i => .int i
  | .str x => .str x
  | .bool b => .bool b
  | _ => .none
noncomputable def dOf : KTD.Dat → D
  | .flat d => dOfP d
  | .tup ds => .tup (ds.map dOfP)
  | _ => .none
section
variable {g : Gm} {n : Nat} {σ : St} {Q : AV → St → Prop}
theorem flats_rep {P : PM} {vs : List Value} {ds : List PyData} (h : KTD.Flats vs ds) (ha : (ds.all fun d => match d with | .int _ => true | .str _ => true | _ => false) = true) : Reps g.prog g.w P (ds.map dOfP) vs := by
  induction h with
  | nil => exact .nil
  | @cons v d vs ds h r ih =>
    have ha := Bool.and_eq_true_iff.mp ha
    refine .cons ?_ (ih ha.2)
    cases d <;> first | exact nomatch (show false = true from ha.1) | skip
    · obtain ⟨t, rfl⟩ := PyProof.V.Flat.int_inv h; exact .int _ _
    · obtain ⟨t, rfl⟩ := PyProof.V.Flat.str_inv h; exact .str _ _
theorem dat_rep {P : PM} {s : Shared} (S : SS g.prog g.w g.s₁ P σ s) {d : KTD.Dat} {v : Value} (hg : KTDg d = true) (h : d.At g.s₁.heap v) : Rep g.prog g.w P (dOf d) v := by
  cases d with
  | flat d =>
    have h' : PyProof.V.Flat v d := h
    cases d with
    | none => rw [h'.none_inv]; exact .none
    | bool b => rw [h'.bool_inv]; exact .bool _
    | int i => obtain ⟨t, rfl⟩ := h'.int_inv; exact .int _ _
    | str x => obtain ⟨t, rfl⟩ := h'.str_inv; exact .str _ _
    | _ => exact nomatch (hg : false = true)
  | tup ds =>
    obtain ⟨a, vs, rfl, ⟨o, ho, hc, m, hd⟩, hf⟩ := h
    exact .tup (S.sh.base a o ho) ⟨hc, m, hd⟩ (flats_rep hf hg)
  | _ => exact nomatch (hg : false = true)
theorem SS.here {P : PM} {s : Shared} (S : SS g.prog g.w g.s₁ P σ s) {a : Addr} {T : List (Str × KTD.Dat)} (hT : KTD.TextTab g.s₁.heap a T) : KTD.Here g.s₁.heap s.heap a T := ⟨hT, S.up⟩
theorem W2.inTab {a : Addr} {T : List (Str × KTD.Dat)} {k : Str} (hT : KTD.TextTab g.s₁.heap a T) (hq : Q (.d (.bool (KTD.inKeys k T))) σ) : W2 g n (compareOp .In) (.d (.str k)) (.raw (.ref a)) σ Q := fun A E P s v u hA S hv hu => by
  have hu' := hu; cases hu'; cases hv
  exact KTD.in_text (S.here hT) (PostE.here S hq (.bool _))
set_option tactic.hygienic true in
theorem W2.itemTab {value slice : Expr} {a : Addr} {T : List (Str × KTD.Dat)} {k : Str} {d : KTD.Dat} (hT : KTD.TextTab g.s₁.heap a T) (hd : KTD.datumAt k T = some d) (hg : KTDg d = true) (hq : Q (.d (dOf d)) σ)
    (hs : ∀ o t, subscripted slice false o (.str k t) = operate [o, .str k t] (getItem o (.str k t)) := by intro _ _; rfl) : W2 g n (subscriptTail value slice) (.raw (.ref a)) (.d (.str k)) σ Q := fun A E P s v u hA S hv hu => by
  have hv' := hv; cases hv'; cases hu
  have H := S.here hT
  refine tail_any (T := "dict") H.typeIs slot_dict_getitem.lookup ?_ (hs _ _)
  unfold getItem
  try with_reducible refine wpAny_holding ?_
  refine wpAny_bind (wpAny_sequenceKey H.typeIs (by decide) ?_)
  refine wpAny_bind (wpAny_callSpecial?_slot (name := Str.ofString "__getitem__") H.typeIs slot_dict_getitem
    (wpAny_call_entry slot_dict_getitem H.typeIs entry_dict_getitem ?_ (args_dict_getitem _ _)))
  rename_i t
  show wpAny _ _ (dictGet a (.str k t) >>= _) _ _ s
  exact wpAny_bind (KTD.dictGet_text H (fun d' v ha hv => wpAny_pure ⟨v, rfl, wpAny_pure (PostE.here S hq (by rw [hd] at ha; cases ha; exact dat_rep S hg hv))⟩) fun hn => by rw [hd] at hn; cases hn)
theorem WC.getTab {a : Addr} {T : List (Str × KTD.Dat)} {k : Str} {dflt : D} (hT : KTD.TextTab g.s₁.heap a T) (hq : match KTD.datumAt k T with | some d => KTDg d = true ∧ Q (.d (dOf d)) σ | none => Q (.d dflt) σ) : WC g n (.builtin "dict.get") [.raw (.ref a), .d (.str k), .d dflt] σ Q := fun A E P s vs hA S hv => by
  cases hv with
  | cons h1 r => cases r with
  | cons h2 r => cases r with
  | cons h3 r =>
  cases r
  have h1' := h1; cases h1'; cases h2
  have H := S.here hT
  refine call_meetsIn PySem.F.slot_dict_get H.typeIs PySem.F.entry_dict_get (PySem.F.args_dict_get_3 _ _ _) (KTD.meets_get2 (h₀ := g.s₁.heap) (D := T)) ⟨H, fun d v ha hv => ?_, fun hn => ?_⟩
  · rw [ha] at hq; exact PostE.here S hq.2 (dat_rep S hq.1 hv)
  · rw [hn] at hq; exact PostE.here S hq h3
theorem TyOf.tab {a : Addr} {T : List (Str × KTD.Dat)} (hT : KTD.TextTab g.s₁.heap a T) : TyOf g (.raw (.ref a)) σ "dict" := fun P s v S hr => by
  have hv := hr; cases hv
  exact ⟨(S.here hT).typeIs, (S.here hT).noDict⟩

-- isinstance(x, (tuple, list))
variable {env : Env} {ρ : Ro}
theorem isi_answers {P : PM} {d : D} {v : Value} (hf : d.flat = true) (h : Rep g.prog g.w P d v) : AnswersAll (fun s => s.TypeIs v d.ty) v [.type "tuple", .type "list"] [d.ty == "tuple", d.ty == "list"] := by
  cases h with
  | none => exact .cons (Answers.of_false_none (by decide +kernel) PySem.F.isi_meta_tuple PySem.F.sub_NoneType_tuple) (.cons (Answers.of_false_none (by decide +kernel) PySem.F.isi_meta_list PySem.F.sub_NoneType_list) .nil)
  | bool => exact .cons (Answers.of_false_bool (by decide +kernel) PySem.F.isi_meta_tuple PySem.F.sub_bool_tuple) (.cons (Answers.of_false_bool (by decide +kernel) PySem.F.isi_meta_list PySem.F.sub_bool_list) .nil)
  | int => exact .cons (Answers.of_false_int (by decide +kernel) PySem.F.isi_meta_tuple PySem.F.sub_int_tuple) (.cons (Answers.of_false_int (by decide +kernel) PySem.F.isi_meta_list PySem.F.sub_int_list) .nil)
  | str => exact .cons (Answers.of_false_str (by decide +kernel) PySem.F.isi_meta_tuple PySem.F.sub_str_tuple) (.cons (Answers.of_false_str (by decide +kernel) PySem.F.isi_meta_list PySem.F.sub_str_list) .nil)
  | tup => exact .cons (Answers.of_true PySem.F.isi_meta_tuple PySem.F.sub_tuple_tuple) (.cons (Answers.of_false_tuple (by decide +kernel) PySem.F.isi_meta_list PySem.F.sub_tuple_list) .nil)
  | lst => exact .cons (Answers.of_false_list (by decide +kernel) PySem.F.isi_meta_tuple PySem.F.sub_list_tuple) (.cons (Answers.of_true PySem.F.isi_meta_list PySem.F.sub_list_list) .nil)
  | dcts => exact nomatch (hf : false = true)
  | dcti => exact nomatch (hf : false = true)
  | rng => exact nomatch (hf : false = true)
theorem Rep.tyIs {P : PM} {s : Shared} {d : D} {v : Value} (hf : d.flat = true) (hP : ∀ a o, P a = some o → s.heap.get? a = some o) (rd : Rep g.prog g.w P d v) : s.TypeIs v d.ty := by
  cases rd with
  | tup h hs r => exact ⟨_, hP _ _ h, hs.1⟩
  | lst h hs r => exact ⟨_, hP _ _ h, hs.1⟩
  | none => rfl
  | bool => rfl
  | int => rfl
  | str => rfl
  | dcts => exact nomatch (hf : false = true)
  | dcti => exact nomatch (hf : false = true)
  | rng => exact nomatch (hf : false = true)
theorem WE.isiTL {f t l : Str} {p pt pl tp pos : Pos} {k : Nat} {e : Expr} (hg : BltIs g f (.builtin "isinstance")) (ht : BltIs g t (.type "tuple")) (hl : BltIs g l (.type "list"))
    (h : WE g n env ρ σ e fun a σ₁ => ∃ d, a = .d d ∧ d.flat = true ∧ Q (.d (.bool (d.ty == "tuple" || d.ty == "list"))) σ₁)
    (hns : ([e, .Tuple [.Name t pt, .Name l pl] k tp] : List Expr).all noStar = true := by rfl)
    (he : starEach [e, .Tuple [.Name t pt, .Name l pl] k tp] env = (false, eval e env) :: starEach [.Tuple [.Name t pt, .Name l pl] k tp] env := by rfl)
    (hk : env.kindOf f = some .globalImplicit := by rfl) (hd : (f == ("__debug__" : Str)) = false := by decide)
    (hkt : env.kindOf t = some .globalImplicit := by rfl) (hdt : (t == ("__debug__" : Str)) = false := by decide)
    (hkl : env.kindOf l = some .globalImplicit := by rfl) (hdl : (l == ("__debug__" : Str)) = false := by decide) : WE g n env ρ σ (.Call (.Name f p) [e, .Tuple [.Name t pt, .Name l pl] k tp] [] pos) Q := by
  intro A E P s hA S F
  refine Call_Name rfl ((WE.blt (Q := fun a' σ' => a' = .raw (.builtin "isinstance") ∧ σ' = σ) hg ⟨rfl, rfl⟩ hk hd).then hA S F fun a' P₁ σ₁ v s₁ zr5 hr S₁ F₁ t₁ => ?_)
  obtain ⟨ha, hσ⟩ := zr5
  subst ha hσ
  have hv : v = .builtin "isinstance" := hr
  subst hv
  refine Calls.callWith_builtin (noStars hns) ?_
  have key : wpAny g.M A (spliced (backTo pos (starEach [e, .Tuple [.Name t pt, .Name l pl] k tp] env))) (fun vs s' => wpAny g.M A (call (.builtin "isinstance") vs) (PostE g P σ₁ s.heap Q) E s') E s₁ := by
    refine wpAny_items_cons (h.then hA S₁ F₁ fun a P₂ σ₂ v s₂ zr5 ra S₂ F₂ t₂ => ?_) he
    obtain ⟨d, had, hf, hq⟩ := zr5
    subst had
    have hW : WEs g n env ρ σ₂ [.Name t pt, .Name l pl] fun as σ' => as = [.raw (.type "tuple"), .raw (.type "list")] ∧ σ' = σ₂ :=
      WEs.cons (WE.blt ht (WEs.cons (WE.blt hl (WEs.nil ⟨rfl, rfl⟩) hkl hdl) rfl) hkt hdt) rfl
    refine wpAny_items_cons (wpAny_Tuple (wpAny_mono (hW _ A E P₂ s₂ hA S₂ F₂) (fun vs s₃ zr2 => ?_) fun _ _ x => x)) rfl
    refine zr2.elim fun as P₃ σ₃ zn3 rs S₃ t₃ => ?_; obtain ⟨has, hσ⟩ := zn3
    subst has hσ
    cases rs with
    | cons r1 rs => cases rs with
    | cons r2 rs =>
    cases rs
    have r1' := r1; have r2' := r2
    cases r1'; cases r2'
    refine ⟨by rw [sizeLine_eq]; simp, wpAny_items_nil ?_⟩
    obtain ⟨k1, k2, k3⟩ := push_new (h := s₃.heap) (o := seqObj "tuple" [Value.type "tuple", Value.type "list"].toArray 0)
    have rd : Rep g.prog g.w P₃ d v := (show RepA g.prog g.w P₂ (.d d) v from ra).mono t₃.le
    have T' : ({ s₃ with heap := s₃.heap.push (seqObj "tuple" [Value.type "tuple", Value.type "list"].toArray 0) } : Shared).TypeIs v d.ty := Rep.tyIs hf (fun a o e => k1 _ _ (S₃.sh.keepP _ _ e)) rd
    refine IsiPair.tupleOfB (isi_answers hf rd) T' k3 (b := d.ty == "tuple" || d.ty == "list") (by simp) fun tk => ?_
    exact (PostE.grown S₃ hq (.bool _) k1).after ((t₁.trans0 t₂).trans0 t₃)
  rw [he] at key ⊢
  exact Calls.evalArgs_plain key
end
end
set_option tactic.hygienic false
section

noncomputable def look {K α : Type} [DecidableEq K] (kvs : List (K × α)) (k : K) : Option α := (kvs.find? fun kv => kv.1 = k).map (·.2)
noncomputable def store {K α : Type} [DecidableEq K] (kvs : List (K × α)) (k : K) (v : α) : List (K × α) :=
  if kvs.any (fun kv => kv.1 = k) then kvs.map (fun kv => if kv.1 = k then (kv.1, v) else kv) else kvs ++ [(k, v)]

section
variable {prog : Program} {w : World} {P : PM} {K : Type} [DecidableEq K]
inductive KV (prog : Program) (w : World) (P : PM) {K : Type} : List (K × AV) → List (K × Value) → Prop
  | nil : KV prog w P [] []
  | cons {k : K} {a : AV} {v : Value} {r : List (K × AV)} {r' : List (K × Value)} : RepA prog w P a v → KV prog w P r r' → KV prog w P ((k, a) :: r) ((k, v) :: r')
theorem KV.of : ∀ {kvs : List (K × AV)} {vk : List (K × Value)}, kvs.map (·.1) = vk.map (·.1) → RepAs prog w P (kvs.map (·.2)) (vk.map (·.2)) → KV prog w P kvs vk
  | [], [], _, _ => .nil
  | [], _ :: _, h, _ => by simp at h
  | _ :: _, [], h, _ => by simp at h
  | (k, a) :: r, (k', v) :: r', h, hr => by
    simp only [List.map_cons, List.cons.injEq] at h hr
    obtain ⟨rfl, h⟩ := h
    cases hr with
    | cons h1 h2 => exact .cons h1 (KV.of h h2)
theorem KV.keys : ∀ {kvs : List (K × AV)} {vk : List (K × Value)}, KV prog w P kvs vk → kvs.map (·.1) = vk.map (·.1)
  | _, _, .nil => rfl
  | _, _, .cons _ r => by simp only [List.map_cons]; rw [KV.keys r]
theorem KV.vals : ∀ {kvs : List (K × AV)} {vk : List (K × Value)}, KV prog w P kvs vk → RepAs prog w P (kvs.map (·.2)) (vk.map (·.2))
  | _, _, .nil => .nil
  | _, _, .cons h r => .cons h (KV.vals r)
theorem KV.length {kvs : List (K × AV)} {vk : List (K × Value)} (h : KV prog w P kvs vk) : kvs.length = vk.length := by
  have := congrArg List.length h.keys; simpa using this
theorem KV.look : ∀ {kvs : List (K × AV)} {vk : List (K × Value)}, KV prog w P kvs vk → ∀ k, (Mine.look kvs k = none ∧ valueAt vk k = none) ∨ ∃ a v, Mine.look kvs k = some a ∧ valueAt vk k = some v ∧ RepA prog w P a v
  | _, _, .nil, k => .inl ⟨rfl, rfl⟩
  | _, _, .cons (k := k') (a := a) (v := v) h r, k => by
    by_cases hk : k' = k
    · right; exact ⟨a, v, by simp [Mine.look, hk], by simp [valueAt, hk], h⟩
    · rcases KV.look r k with ⟨h1, h2⟩ | ⟨a, v, h1, h2, h3⟩
      · left
        unfold Mine.look at h1; unfold valueAt at h2
        exact ⟨by simp only [Mine.look, List.find?_cons, hk, decide_false]; exact h1, by simp only [valueAt, List.find?_cons, hk, decide_false]; exact h2⟩
      · right
        unfold Mine.look at h1; unfold valueAt at h2
        exact ⟨a, v, by simp only [Mine.look, List.find?_cons, hk, decide_false]; exact h1, by simp only [valueAt, List.find?_cons, hk, decide_false]; exact h2, h3⟩
theorem KV.append : ∀ {kvs : List (K × AV)} {vk : List (K × Value)} {k2 : List (K × AV)} {v2 : List (K × Value)}, KV prog w P kvs vk → KV prog w P k2 v2 → KV prog w P (kvs ++ k2) (vk ++ v2)
  | _, _, _, _, .nil, h => h
  | _, _, _, _, .cons h r, h' => .cons h (KV.append r h')
theorem KV.put {k : K} {a : AV} {v : Value} (hr : RepA prog w P a v) : ∀ {kvs : List (K × AV)} {vk : List (K × Value)}, KV prog w P kvs vk → KV prog w P (kvs.map fun kv => if kv.1 = k then (kv.1, a) else kv) (vk.map fun kv => if kv.1 = k then (kv.1, v) else kv)
  | _, _, .nil => .nil
  | _, _, .cons (k := k') h r => by
    simp only [List.map_cons]
    by_cases hk : k' = k
    · rw [if_pos hk, if_pos hk]; exact .cons hr (KV.put hr r)
    · rw [if_neg hk, if_neg hk]; exact .cons h (KV.put hr r)
theorem KV.any : ∀ {kvs : List (K × AV)} {vk : List (K × Value)} (k : K), KV prog w P kvs vk → (kvs.any fun kv => kv.1 = k) = vk.any fun kv => kv.1 = k
  | _, _, _, .nil => rfl
  | _, _, k, .cons h r => by simp only [List.any_cons]; rw [KV.any k r]
theorem KV.store {kvs : List (K × AV)} {vk : List (K × Value)} {k : K} {a : AV} {v : Value} (h : KV prog w P kvs vk) (hr : RepA prog w P a v) : KV prog w P (Mine.store kvs k a) (stored vk k v) := by
  unfold Mine.store stored
  rw [KV.any k h]
  split
  · exact h.put hr
  · exact h.append (.cons hr .nil)
end

section
variable {g : Gm} {n : Nat} {σ : St} {Q : AV → St → Prop} {K : Type} [DecidableEq K] {knd : PySem.KeyKind g.prog g.w K}
noncomputable def DictV (g : Gm) {K : Type} [DecidableEq K] (knd : PySem.KeyKind g.prog g.w K) (kvs : List (K × AV)) (a : AV) (σ : St) : Prop :=
  ∀ P s v, SS g.prog g.w g.s₁ P σ s → RepA g.prog g.w P a v → ∃ b vk, v = .ref b ∧ s.heap.DictOf knd b vk ∧ (b == sysModules) = false ∧ KV g.prog g.w P kvs vk
noncomputable def KeyV (g : Gm) {K : Type} [DecidableEq K] (knd : PySem.KeyKind g.prog g.w K) (k : K) (a : AV) : Prop := ∀ P v, RepA g.prog g.w P a v → knd.is k v = true
theorem KeyV.str {x : Str} : KeyV g (PySem.strKind g.prog g.w) x (.d (.str x)) := fun P v h => by cases h; simp [PySem.strKind, Value.isStrOf]
theorem KeyV.int {x : Int} : KeyV g (PySem.intKind g.prog g.w) x (.d (.int x)) := fun P v h => by cases h; simp [PySem.intKind, Value.isInt]
theorem map_d_keys {K : Type} {kvs : List (K × D)} : (kvs.map fun p => (p.1, AV.d p.2)).map (·.1) = kvs.map (·.1) := by simp
theorem map_d_vals {K : Type} {kvs : List (K × D)} : (kvs.map fun p => (p.1, AV.d p.2)).map (·.2) = (kvs.map (·.2)).map .d := by simp
theorem DictV.dcts {kvs : List (Str × D)} : DictV g (PySem.strKind g.prog g.w) (kvs.map fun p => (p.1, AV.d p.2)) (.d (.dcts kvs)) σ := fun P s v S h => by
  cases h with
  | dcts hP hd hlo hk r => exact ⟨_, _, rfl, Heap.dictOf_iff.mpr ⟨_, S.sh.keepP _ _ hP, hd⟩, hlo, KV.of (by rw [map_d_keys]; exact hk) (by rw [map_d_vals]; exact r.as)⟩
theorem DictV.dcti {kvs : List (Int × D)} : DictV g (PySem.intKind g.prog g.w) (kvs.map fun p => (p.1, AV.d p.2)) (.d (.dcti kvs)) σ := fun P s v S h => by
  cases h with
  | dcti hP hd hlo hk r => exact ⟨_, _, rfl, Heap.dictOf_iff.mpr ⟨_, S.sh.keepP _ _ hP, hd⟩, hlo, KV.of (by rw [map_d_keys]; exact hk) (by rw [map_d_vals]; exact r.as)⟩
theorem DictV.cellS {a : Addr} {kvs : List (Str × AV)} (hc : σ a = some (.dcts kvs)) : DictV g (PySem.strKind g.prog g.w) kvs (.cell a) σ := fun P s v S h => by
  have h' := h; cases h'
  obtain ⟨_, o, ho, vk, hd, hlo, hk, r⟩ := S.sh.cells a _ hc
  exact ⟨_, _, rfl, Heap.dictOf_iff.mpr ⟨_, ho, hd⟩, hlo, KV.of hk r⟩
theorem DictV.cellI {a : Addr} {kvs : List (Int × AV)} (hc : σ a = some (.dcti kvs)) : DictV g (PySem.intKind g.prog g.w) kvs (.cell a) σ := fun P s v S h => by
  have h' := h; cases h'
  obtain ⟨_, o, ho, vk, hd, hlo, hk, r⟩ := S.sh.cells a _ hc
  exact ⟨_, _, rfl, Heap.dictOf_iff.mpr ⟨_, ho, hd⟩, hlo, KV.of hk r⟩

theorem W2.notInDict {kvs : List (K × AV)} {a ka : AV} {k : K} (hd : DictV g knd kvs a σ) (hk : KeyV g knd k ka) (hq : Q (.d (.bool (!(look kvs k).isSome))) σ) : W2 g n (compareOp .NotIn) ka a σ Q := fun A E P s v u hA S hv hu => by
  obtain ⟨b, vk, rfl, hD, hlo, kv⟩ := hd P s u S hu
  refine wpAny_notIn_of (hk P v hv) hlo hD.mapOf ?_
  rcases kv.look k with ⟨h1, h2⟩ | ⟨a', v', h1, h2, h3⟩
  · rw [h2]; rw [h1] at hq; exact PostE.here S hq (.bool _)
  · rw [h2]; rw [h1] at hq; exact PostE.here S hq (.bool _)
theorem W2.itemDict {value slice : Expr} {kvs : List (K × AV)} {a ka x : AV} {k : K} (hd : DictV g knd kvs a σ) (hk : KeyV g knd k ka) (hx : look kvs k = some x) (hq : Q x σ)
    (hs : ∀ P v, RepA g.prog g.w P ka v → ∀ o, subscripted slice false o v = operate [o, v] (getItem o v)) : W2 g n (subscriptTail value slice) a ka σ Q := fun A E P s v u hA S hv hu => by
  obtain ⟨b, vk, rfl, hD, hlo, kv⟩ := hd P s v S hv
  refine tail_any (T := "dict") hD.mapOf.typeIs slot_dict_getitem.lookup ?_ (hs P u hu _)
  rcases kv.look k with ⟨h1, h2⟩ | ⟨a', v', h1, h2, h3⟩
  · rw [h1] at hx; cases hx
  · rw [h1] at hx; cases hx
    exact wpAny_getItem_of (hk P u hu) hD.mapOf h2 (PostE.here S hq h3)
theorem WC.dictGet {kvs : List (K × AV)} {a ka dflt : AV} {k : K} (hd : DictV g knd kvs a σ) (hk : KeyV g knd k ka) (hq : Q ((look kvs k).getD dflt) σ) : WC g n (.builtin "dict.get") [a, ka, dflt] σ Q := fun A E P s vs hA S hv => by
  cases hv with
  | cons h1 r => cases r with
  | cons h2 r => cases r with
  | cons h3 r =>
  cases r
  obtain ⟨b, vk, rfl, hD, hlo, kv⟩ := hd P s _ S h1
  refine call_meetsIn PySem.F.slot_dict_get hD.mapOf.typeIs PySem.F.entry_dict_get (PySem.F.args_dict_get_3 _ _ _) (meets_dict_get_default knd b (hk P _ h2) hlo _) ⟨_, hD.mapOf, ?_⟩
  rcases kv.look k with ⟨e1, e2⟩ | ⟨a', v', e1, e2, e3⟩
  · rw [e2]; rw [e1] at hq; exact PostE.here S hq h3
  · rw [e2]; rw [e1] at hq; exact PostE.here S hq e3
theorem DictV.ty {kvs : List (K × AV)} {a : AV} (hd : DictV g knd kvs a σ) : TyOf g a σ "dict" := fun P s v S hr => by
  obtain ⟨b, vk, rfl, hD, hlo, kv⟩ := hd P s v S hr
  refine ⟨hD.mapOf.typeIs, fun b' e => ?_⟩
  cases e
  obtain ⟨o, es, ep, ho, hx, _⟩ := hD
  exact ⟨o, ho, hx.2.1⟩

-- a store by a subscript
noncomputable def WSet (g : Gm) (n : Nat) (o i x : AV) (σ : St) (Q : St → Prop) : Prop :=
  ∀ A E P s vo vi vx, OkA n A → SS g.prog g.w g.s₁ P σ s → RepA g.prog g.w P o vo → RepA g.prog g.w P i vi → RepA g.prog g.w P x vx → wpAny g.M A (setItem vo vi vx) (fun _ s' => PostU g P σ s.heap Q s') E s
variable {env : Env} {ρ : Ro}
theorem WS.setItem {o i value : Expr} {pos' pos : Pos} {Q : Fl → Ro → St → Prop} (h : WE g n env ρ σ value fun x σ₁ => WE g n env ρ σ₁ o fun ov σ₂ => WE g n env ρ σ₂ i fun iv σ₃ => WSet g n ov iv x σ₃ fun σ₄ => Q .next ρ σ₄)
    (hs : swapsWith value (some (.Subscript o i pos')) pos.line env = pure false := by rfl) : WS g n env ρ σ (.Assign [.Subscript o i pos'] value pos) Q := fun A E P s hA S F => by
  refine wpAny_Assign_Subscript (h.then hA S F fun x P₁ σ₁ vx s₁ h₁ rx S₁ F₁ t₁ => h₁.then hA S₁ F₁ fun ov P₂ σ₂ vo s₂ h₂ ro S₂ F₂ t₂ => h₂.then hA S₂ F₂ fun iv P₃ σ₃ vi s₃ h₃ ri S₃ F₃ t₃ => ?_) hs
  refine wpAny_mono (h₃ A E P₃ s₃ vo vi vx hA S₃ (ro.mono t₃.le) ri ((rx.mono t₂.le).mono t₃.le)) (fun _ s₄ zr2 => ?_) fun _ _ x => x
  refine PostU.elim zr2 fun P₄ σ₄ hq S₄ t₄ => ?_
  have tt := ((t₁.trans0 t₂).trans0 t₃).trans0 t₄
  exact ⟨.next, ρ, P₄, σ₄, hq, rfl, S₄, F.step tt, tt.weaken⟩
theorem PostU.setCell {P : PM} {s : Shared} {Q : St → Prop} {h' : Heap} {tk : Nat} {a : Addr} {o : Obj} {c : Cell} (S : SS g.prog g.w g.s₁ P σ s) (hs : Heap.SameBut a s.heap h') (hσ : σ a ≠ none) (ho : h'.get? a = some o) (hr : CellRep g.prog g.w P c a o) (hq : Q (upd σ a c)) : PostU g P σ s.heap Q { s with heap := h', toks := tk } :=
  ⟨P, upd σ a c, hq, ⟨S.sh.setCell hs hσ ho hr, S.gens, S.os⟩, .setCell hs hσ ho⟩
theorem PostE.setCell {P : PM} {s : Shared} {h' : Heap} {tk : Nat} {a : Addr} {o : Obj} {c : Cell} {x : AV} {v : Value} (S : SS g.prog g.w g.s₁ P σ s) (hs : Heap.SameBut a s.heap h') (hσ : σ a ≠ none) (ho : h'.get? a = some o) (hr : CellRep g.prog g.w P c a o) (hx : RepA g.prog g.w P x v) (hq : Q x (upd σ a c)) : PostE g P σ s.heap Q v { s with heap := h', toks := tk } :=
  ⟨x, P, upd σ a c, hq, hx, ⟨S.sh.setCell hs hσ ho hr, S.gens, S.os⟩, .setCell hs hσ ho⟩
theorem WSet.dctS {a : Addr} {kvs : List (Str × AV)} {k : Str} {x : AV} {Q : St → Prop} (hc : σ a = some (.dcts kvs)) (hl : kvs.length ≤ 10000) (hq : Q (upd σ a (.dcts (store kvs k x)))) : WSet g n (.cell a) (.d (.str k)) x σ Q := fun A E P s vo vi vx hA S ho hi hx => by
  obtain ⟨b, vk, rfl, hD, hlo, kv⟩ := DictV.cellS hc P s vo S ho
  have ho' := ho; cases ho'
  refine wpAny_setItem_pairs (KeyV.str P vi hi) hD (fun h' hD' hs => ?_) (by rw [← kv.length, sizeLine_eq]; exact o1 hl rfl)
  obtain ⟨o', ho', hd'⟩ := Heap.dictOf_iff.mp hD'
  have kv' := kv.store (k := k) hx
  exact PostU.setCell (c := .dcts (store kvs k x)) S hs (by rw [hc]; simp) ho' ⟨_, hd', hlo, kv'.keys, kv'.vals⟩ hq
theorem WSet.dctI {a : Addr} {kvs : List (Int × AV)} {k : Int} {x : AV} {Q : St → Prop} (hc : σ a = some (.dcti kvs)) (hl : kvs.length ≤ 10000) (hq : Q (upd σ a (.dcti (store kvs k x)))) : WSet g n (.cell a) (.d (.int k)) x σ Q := fun A E P s vo vi vx hA S ho hi hx => by
  obtain ⟨b, vk, rfl, hD, hlo, kv⟩ := DictV.cellI hc P s vo S ho
  have ho' := ho; cases ho'
  refine wpAny_setItem_pairs (KeyV.int P vi hi) hD (fun h' hD' hs => ?_) (by rw [← kv.length, sizeLine_eq]; exact o1 hl rfl)
  obtain ⟨o', ho', hd'⟩ := Heap.dictOf_iff.mp hD'
  have kv' := kv.store (k := k) hx
  exact PostU.setCell (c := .dcti (store kvs k x)) S hs (by rw [hc]; simp) ho' ⟨_, hd', hlo, kv'.keys, kv'.vals⟩ hq
theorem RepAs.set {P : PM} {x : AV} {v : Value} (hx : RepA g.prog g.w P x v) : ∀ {as : List AV} {vs : List Value} (i : Nat), RepAs g.prog g.w P as vs → RepAs g.prog g.w P (as.set i x) (vs.set i v)
  | _, _, _, .nil => .nil
  | _, _, 0, .cons h r => .cons hx r
  | _, _, i + 1, .cons h r => .cons h (RepAs.set hx i r)
theorem WSet.box {a : Addr} {as : List AV} {i : Int} {x : AV} {Q : St → Prop} (hc : σ a = some (.box as)) (h0 : 0 ≤ i) (hi : i.toNat < as.length) (hl : as.length ≤ 10000) (hq : Q (upd σ a (.box (as.set i.toNat x)))) : WSet g n (.cell a) (.d (.int i)) x σ Q := fun A E P s vo vi vx hA S ho hvi hx => by
  have ho' := ho; cases ho'; cases hvi
  obtain ⟨_, o, ho, vs, ⟨hcl, k, hda⟩, r⟩ := S.sh.cells a _ hc
  have hvl := r.length
  refine wpAny_setItem_list (items := vs.toArray) ⟨_, ho, hcl, _, hda⟩ h0 (by omega) (by rw [List.size_toArray]; omega) fun h' hL hs => ?_
  obtain ⟨o', ho', hcl', k', hda'⟩ := hL
  refine PostU.setCell (tk := s.toks) (c := .box (as.set i.toNat x)) S hs (by rw [hc]; simp) ho' ⟨vs.set i.toNat vx, ⟨hcl', k', ?_⟩, RepAs.set hx _ r⟩ hq
  rw [hda']; simp
-- {}
theorem emptyDict {prog : Program} {w : World} {K : Type} [DecidableEq K] {knd : PySem.KeyKind prog w K} : ({ cls := .type "dict", data := .dict #[] } : Obj).IsDictOf knd [] :=
  ⟨#[], 0, ⟨rfl, rfl, rfl⟩, rfl, fun e he => by simp at he, by simpa using Pairs.nil, by simp⟩
theorem notMods (hlim : g.s₁.heap.NoLimit) {P : PM} {s : Shared} (S : SS g.prog g.w g.s₁ P σ s) : (s.heap.objs.size == sysModules) = false := by
  have := PyProof.Rows.modules_low (hlim.keeps S.up)
  exact beq_eq_false_iff_ne.mpr (Nat.ne_of_gt this)
theorem WE.dictS {pos : Pos} (hlim : g.s₁.heap.NoLimit) (hq : ∀ b, σ b = none → Q (.cell b) (upd σ b (.dcts []))) : WE g n env ρ σ (.Dict [] [] pos) Q := fun A E P s hA S F => by
  refine wpAny_Dict_empty ?_
  obtain ⟨k1, k2, k3⟩ := push_new (h := s.heap) (o := ({ cls := .type "dict", data := .dict #[] } : Obj))
  exact PostE.newCell (c := .dcts []) (tk := s.toks) S k1 k2 k3 ⟨[], emptyDict, notMods hlim S, rfl, .nil⟩ fun _ h2 => hq _ h2
theorem WE.dictI {pos : Pos} (hlim : g.s₁.heap.NoLimit) (hq : ∀ b, σ b = none → Q (.cell b) (upd σ b (.dcti []))) : WE g n env ρ σ (.Dict [] [] pos) Q := fun A E P s hA S F => by
  refine wpAny_Dict_empty ?_
  obtain ⟨k1, k2, k3⟩ := push_new (h := s.heap) (o := ({ cls := .type "dict", data := .dict #[] } : Obj))
  exact PostE.newCell (c := .dcti []) (tk := s.toks) S k1 k2 k3 ⟨[], emptyDict, notMods hlim S, rfl, .nil⟩ fun _ h2 => hq _ h2
end
end
set_option tactic.hygienic false
section
namespace RF
theorem nolen_lri : typeLookup (.type "list_reverseiterator") "__len__" = pure none := by rw [typeLookup_type, builtinLookup_eq_fast]; kernel_rfl
theorem hint_lri : typeLookup (.type "list_reverseiterator") "__length_hint__" = pure (some (.builtin "list_reverseiterator.__length_hint__")) := by rw [typeLookup_type, builtinLookup_eq_fast]; kernel_rfl
theorem owner_rv : Manifest.owners.lookup (String.ofList ['d', 'e', 's', 'r', 'e', 'v', 'e', 'r'].reverse) = some Manifest.sig_reversed := by kernel_rfl
theorem slot_rv_next : Slot "reversed" "__next__" "reversed.__next__" :=
  .of (owner := "reversed") (n := "__next__") (by rw [typeLookup_type, builtinLookup_eq_fast]; kernel_rfl) (by decide +kernel) (by decide +kernel) (by decide +kernel)
    (by first | exact .inl (by decide +kernel) | exact .inr (by decide +kernel)) (by rw [isSubtype_type]; kernel_rfl)
theorem entry_rv_next : entryFor table "reversed.__next__" = some Builtin.«reversed.__next__» := entryFor_of_tree (by kernel_rfl)
theorem args_rv_next (a : Value) : argsOk "reversed.__next__" ⟨[a], []⟩ := by
  unfold argsOk; rw [signature?_of (id := "reversed.__next__") (n := ['_', '_', 't', 'x', 'e', 'n', '_', '_']) (o := ['d', 'e', 's', 'r', 'e', 'v', 'e', 'r']) (by kernel_rfl) owner_rv]; kernel_rfl
theorem slot_rv_iter : Slot "reversed" "__iter__" "reversed.__iter__" :=
  .of (owner := "reversed") (n := "__iter__") (by rw [typeLookup_type, builtinLookup_eq_fast]; kernel_rfl) (by decide +kernel) (by decide +kernel) (by decide +kernel)
    (by first | exact .inl (by decide +kernel) | exact .inr (by decide +kernel)) (by rw [isSubtype_type]; kernel_rfl)
theorem args_rv_iter (a : Value) : argsOk "reversed.__iter__" ⟨[a], []⟩ := by
  unfold argsOk; rw [signature?_of (id := "reversed.__iter__") (n := ['_', '_', 'r', 'e', 't', 'i', '_', '_']) (o := ['d', 'e', 's', 'r', 'e', 'v', 'e', 'r']) (by kernel_rfl) owner_rv]; kernel_rfl
theorem entry_rv_iter : entryFor table "reversed.__iter__" = some Builtin.«dict_keyiterator.__iter__» :=
  entryFor_alias (id' := "dict_keyiterator.__iter__") (by kernel_rfl) (by first | rfl | decide +kernel | (unfold String.splitOn; simp +decide [String.splitOnAux])) (by decide +kernel) (by kernel_rfl)
theorem slot_rv_hint : Slot "reversed" "__length_hint__" "reversed.__length_hint__" :=
  .of (owner := "reversed") (n := "__length_hint__") (by rw [typeLookup_type, builtinLookup_eq_fast]; kernel_rfl) (by decide +kernel) (by decide +kernel) (by decide +kernel)
    (by first | exact .inl (by decide +kernel) | exact .inr (by decide +kernel)) (by rw [isSubtype_type]; kernel_rfl)
theorem entry_rv_hint : entryFor table "reversed.__length_hint__" = some Builtin.«reversed.__length_hint__» := entryFor_of_tree (by kernel_rfl)
theorem args_rv_hint (a : Value) : argsOk "reversed.__length_hint__" ⟨[a], []⟩ := by
  unfold argsOk; rw [signature?_of (id := "reversed.__length_hint__") (n := ['_', '_', 't', 'n', 'i', 'h', '_', 'h', 't', 'g', 'n', 'e', 'l', '_', '_']) (o := ['d', 'e', 's', 'r', 'e', 'v', 'e', 'r']) (by kernel_rfl) owner_rv]; kernel_rfl
theorem nolen_rv : typeLookup (.type "reversed") "__len__" = pure none := by rw [typeLookup_type, builtinLookup_eq_fast]; kernel_rfl
theorem norev_tuple : typeLookup (.type "tuple") "__reversed__" = pure none := by rw [typeLookup_type, builtinLookup_eq_fast]; kernel_rfl
theorem slot_rv_init : Slot "reversed" "__init__" "object.__init__" :=
  .of (owner := "object") (n := "__init__") (by rw [typeLookup_type, builtinLookup_eq_fast]; kernel_rfl) (by decide +kernel) (by decide +kernel) (by decide +kernel)
    (by first | exact .inl (by decide +kernel) | exact .inr (by decide +kernel)) (by rw [isSubtype_type]; kernel_rfl)
theorem called_rv : TypeCalled "reversed" "reversed.__new__" "object.__init__" :=
  ⟨by decide +kernel, PySem.F.create_reversed, ⟨_, _, PySem.F.mro_reversed⟩, PySem.F.made_reversed, PySem.F.plain_reversed_new, PySem.F.sub_reversed_self, slot_rv_init⟩
theorem sub_tuple_dict : isSubtype (.type "tuple") (.type "dict") = pure false := by rw [isSubtype_type]; kernel_rfl
end RF
section
variable {prog : Program} {w : World} {A : Around} {E : Value → Shared → Prop} {s : Shared}
noncomputable def IsRevTup (h : Heap) (a l : Addr) (i : Int) : Prop := ∃ o, h.get? a = some o ∧ o.cls = .type "reversed" ∧ o.data = .fields #[.ref l, rawInt i]
theorem IsRevTup.typeIs {a l : Addr} {i : Int} (x : IsRevTup s.heap a l i) : s.TypeIs (.ref a) "reversed" := by obtain ⟨o, ho, hc, _⟩ := x; exact ⟨o, ho, hc⟩
theorem IsRevTup.at {h h' : Heap} {a l : Addr} {i : Int} (x : IsRevTup h a l i) (e : ∀ o, h.get? a = some o → h'.get? a = some o) : IsRevTup h' a l i := by obtain ⟨o, ho, r⟩ := x; exact ⟨o, e _ ho, r⟩

theorem pyNext_revtup_item {it l : Addr} {i : Nat} {items : Array Value} {x : Value} {Q : Option Value → Shared → Prop} (hit : IsRevTup s.heap it l (i : Int)) (hl : s.heap.IsTuple l items) (hx : items[i]? = some x) (hsz : items.size ≤ 100000) (hne : l ≠ it)
    (hQ : ∀ h' tk, IsRevTup h' it l ((i : Int) - 1) → Heap.SameBut it s.heap h' → Q (some x) { s with heap := h', toks := tk }) : wpAny (model prog w) A (pyNext (.ref it)) Q E s := by
  obtain ⟨o, ho, hc, hd⟩ := id hit
  have hlt : i < items.size := (Array.getElem?_eq_some_iff.mp hx).1
  unfold pyNext
  refine wpAny_bind (wpAny_attempt (wpAny_callSpecial?_slot (name := Str.ofString "__next__") hit.typeIs RF.slot_rv_next
    (wpAny_call_entry RF.slot_rv_next hit.typeIs RF.entry_rv_next ?_ (RF.args_rv_next _))))
  unfold Builtin.«reversed.__next__»
  refine wpAny_bind (wpAny_of_eq (a := (Value.ref it, [])) rfl ?_)
  try dsimp only
  refine wpAny_bind (wpAny_field ho hd (x := .ref l) rfl ?_)
  refine wpAny_bind (wpAny_field ho hd (x := rawInt (i : Int)) rfl ?_)
  show wpAny _ _ (if (i : Int) < 0 then _ else _) _ _ s
  rw [if_neg (by omega)]
  refine wpAny_bind (wpAny_specialOf hl.typeIs slot_tuple_getitem.lookup ?_)
  show wpAny _ _ (if false = true then _ else _) _ _ s
  rw [if_neg (by decide)]
  refine wpAny_bind (wpAny_mkInt ?_)
  refine wpAny_bind (wpAny_attempt (getItem_tuple (s := { s with toks := s.toks + 1 }) hl (by exact i7) (by exact i6 (Nat.le_trans (Nat.le_of_lt hlt) hsz) rfl) (j := i) ?_ hx ?_))
  · unfold seqIndex?
    simp only [Option.ite_none_right_eq_some]
    split <;> simp_all <;> omega
  dsimp only
  refine wpAny_bind (wpAny_field (s := { s with toks := s.toks + 1 }) ho hd (x := rawInt (i : Int)) rfl ?_)
  show wpAny _ _ (setField (.ref it) 1 (rawInt ((i : Int) - 1)) >>= _) _ _ _
  refine wpAny_bind (wpAny_setField (s := { s with toks := s.toks + 1 }) ho hd (by simp) ?_)
  refine wpAny_pure ⟨x, rfl, wpAny_pure (hQ _ _ ?_ (Heap.SameBut.update ..))⟩
  exact ⟨_, Heap.get?_update_self _ ho (Obj.isFreed_of_fields (Obj.data_mapFields hd _)), (Obj.cls_mapFields ..).trans hc, by
    rw [Obj.data_mapFields hd]; simp⟩

theorem pyNext_revtup_end {it l : Addr} {Q : Option Value → Shared → Prop} (hh : A.handled = none) (hit : IsRevTup s.heap it l (-1))
    (hQ : ∀ h', Heap.ExtBut it s.heap h' → (∃ o, h'.get? it = some o) → Q none { s with heap := h' }) : wpAny (model prog w) A (pyNext (.ref it)) Q E s := by
  obtain ⟨o, ho, hc, hd⟩ := id hit
  unfold pyNext
  refine wpAny_bind (wpAny_attempt (wpAny_callSpecial?_slot (name := Str.ofString "__next__") hit.typeIs RF.slot_rv_next
    (wpAny_call_entry RF.slot_rv_next hit.typeIs RF.entry_rv_next ?_ (RF.args_rv_next _))))
  unfold Builtin.«reversed.__next__»
  refine wpAny_bind (wpAny_of_eq (a := (Value.ref it, [])) rfl ?_)
  try dsimp only
  refine wpAny_bind (wpAny_field ho hd (x := .ref l) rfl ?_)
  refine wpAny_bind (wpAny_field ho hd (x := rawInt (-1)) rfl ?_)
  show wpAny _ _ (if (-1 : Int) < 0 then _ else _) _ _ s
  rw [if_pos (by decide)]
  refine wpAny_bind (wpAny_rule ?_)
  refine wpAny_bind (m := (do setField (.ref it) 1 (rawInt (-1)); setField (.ref it) 0 .none : Sem Unit)) (wpAny_bind (wpAny_setField ho hd (by simp) ?_))
  have ho1 := Heap.get?_update_self (Obj.mapFields (·.setIfInBounds 1 (rawInt (-1)))) ho (Obj.isFreed_of_fields (Obj.data_mapFields hd _))
  refine wpAny_setField ho1 (Obj.data_mapFields hd _) (by simp) ?_
  have hx : Heap.ExtBut it s.heap ((s.heap.update it (Obj.mapFields (·.setIfInBounds 1 (rawInt (-1))))).update it (Obj.mapFields (·.setIfInBounds 0 Value.none))) := fun b o hb e =>
    (Heap.get?_update_other _ _ (Ne.symm hb)).trans ((Heap.get?_update_other _ _ (Ne.symm hb)).trans e)
  first
  | show wpAny _ _ (newExc (.type "StopIteration") [] >>= _) _ _ _
  | (refine wpAny_bind ?_; show wpAny _ _ (newExc (.type "StopIteration") [] >>= _) _ _ _)
  refine wpAny_bind ?_
  simp only [newExc, newTuple]
  refine wpAny_bind (wpAny_newObj_type ?_ (by size_fits))
  refine wpAny_bind (m := firstArgMember _ _) (wpAny_of_eq (a := Value.none) (by first | rfl | (simp only [firstArgMember]; rfl)) ?_)
  refine wpAny_newObj_type ?_ (by size_fits)
  simp only [raiseNew]
  refine wpAny_bind (wpAny_handled ?_)
  first | rw [show A.in1.handled = none from hh] | rw [hh]
  refine wpAny_bind (wpAny_pure (wpAny_throw ?_))
  refine wpAny_bind (wpAny_isInstance (T := "StopIteration") (b := true) ⟨_, Heap.get?_push_size _ rfl, rfl⟩ isSubtype_stop ?_)
  have ho2 := Heap.get?_update_self (Obj.mapFields (·.setIfInBounds 0 Value.none)) ho1 (Obj.isFreed_of_fields (Obj.data_mapFields (Obj.data_mapFields hd _) _))
  exact wpAny_pure (hQ _ ((hx.push _).push _) ⟨_, Heap.get?_push_of_some _ (Heap.get?_push_of_some _ ho2)⟩)

theorem pyNext_revlist_end {it l : Addr} {Q : Option Value → Shared → Prop} (hh : A.handled = none) (hit : s.heap.IsRevIter it l (-1))
    (hQ : ∀ h', Heap.ExtBut it s.heap h' → (∃ o, h'.get? it = some o) → Q none { s with heap := h' }) : wpAny (model prog w) A (pyNext (.ref it)) Q E s := by
  obtain ⟨o, ho, hc, hd⟩ := id hit
  unfold pyNext
  refine wpAny_bind (wpAny_attempt (wpAny_callSpecial?_slot (name := Str.ofString "__next__") hit.typeIs PySem.F.slot_lri_next
    (wpAny_call_entry PySem.F.slot_lri_next hit.typeIs PySem.F.entry_lri_next ?_ (PySem.F.args_lri_next_1 _))))
  unfold Builtin.«list_reverseiterator.__next__»
  refine wpAny_bind (wpAny_of_eq (a := (Value.ref it, [])) rfl ?_)
  try dsimp only
  refine wpAny_bind (wpAny_field ho hd (x := rawInt (-1)) rfl ?_)
  show wpAny _ _ (if (-1 : Int) < 0 then _ else _) _ _ s
  rw [if_pos (by decide)]
  refine wpAny_bind (wpAny_rule ?_)
  first
  | show wpAny _ _ (newExc (.type "StopIteration") [] >>= _) _ _ _
  | (refine wpAny_bind ?_; show wpAny _ _ (newExc (.type "StopIteration") [] >>= _) _ _ _)
  refine wpAny_bind ?_
  simp only [newExc, newTuple]
  refine wpAny_bind (wpAny_newObj_type ?_ (by size_fits))
  refine wpAny_bind (m := firstArgMember _ _) (wpAny_of_eq (a := Value.none) (by first | rfl | (simp only [firstArgMember]; rfl)) ?_)
  refine wpAny_newObj_type ?_ (by size_fits)
  simp only [raiseNew]
  refine wpAny_bind (wpAny_handled ?_)
  first | rw [show A.in1.handled = none from hh] | rw [hh]
  refine wpAny_bind (wpAny_pure (wpAny_throw ?_))
  refine wpAny_bind (wpAny_isInstance (T := "StopIteration") (b := true) ⟨_, Heap.get?_push_size _ rfl, rfl⟩ isSubtype_stop ?_)
  exact wpAny_pure (hQ _ (((Heap.ExtBut.refl _ _).push _).push _) ⟨_, Heap.get?_push_of_some _ (Heap.get?_push_of_some _ ho)⟩)

theorem pyIter_revTup {it l : Addr} {i : Int} {Q : Value → Shared → Prop} (hit : IsRevTup s.heap it l i) (h : Q (.ref it) s) : wpAny (model prog w) A (pyIter (.ref it)) Q E s := by
  refine wpAny_pyIter_slot hit.typeIs RF.slot_rv_iter (wpAny_call_entry RF.slot_rv_iter hit.typeIs RF.entry_rv_iter ?_ (RF.args_rv_iter _))
  show wpAny _ _ (ret (.ref it)) _ _ s
  exact wpAny_pure ⟨_, rfl, "reversed", _, hit.typeIs, RF.slot_rv_next.lookup, h⟩
end
theorem Walks_tupRev {prog : Program} {w : World} {A : Around} (hh : A.handled = none) (I l : Addr) (hne : l ≠ I) (items : Array Value) (hsz : items.size ≤ 100000) :
    Walks prog w A I [I, l] [I] items.size (fun i v => items[items.size - 1 - i]? = some v) (fun i h => i ≤ items.size ∧ IsRevTup h I l ((items.size : Int) - 1 - (i : Int)) ∧ h.IsTuple l items) where
  sub := fun b hb => by simp at hb; simp [hb]
  frame := fun _ _ _ x hk => ⟨x.1, x.2.1.at fun o e => hk I (by simp) o e, by obtain ⟨o, ho, r⟩ := x.2.2; exact ⟨o, hk l (by simp) o ho, r⟩⟩
  item := fun i s Q E hi x hQ => by
    have e : (items.size : Int) - 1 - (i : Int) = ((items.size - 1 - i : Nat) : Int) := by omega
    have hit := x.2.1
    rw [e] at hit
    have hx : items[items.size - 1 - i]? = some (items[items.size - 1 - i]'(by omega)) := Array.getElem?_eq_getElem (by omega)
    refine pyNext_revtup_item hit x.2.2 hx hsz hne fun h' tk hit' hs' => ?_
    have e2 : ((items.size - 1 - i : Nat) : Int) - 1 = (items.size : Int) - 1 - ((i + 1 : Nat) : Int) := by omega
    rw [e2] at hit'
    exact hQ _ h' tk hx ⟨hi, hit', by obtain ⟨o, ho, r⟩ := x.2.2; exact ⟨o, (hs'.2 l hne).trans ho, r⟩⟩ fun b o hb eo => hs'.extBut b o (fun h => hb (by simp [h])) eo
  done := fun s Q E x hQ => by
    have e : (items.size : Int) - 1 - (items.size : Int) = -1 := by omega
    have hit := x.2.1
    rw [e] at hit
    exact pyNext_revtup_end hh hit fun h' he' _ => hQ h' s.toks fun b o hb eo => he' b o (fun h => hb (by simp [h])) eo
  self := fun _ _ _ _ x hQ => pyIter_revTup x.2.1 hQ
section
variable {prog : Program} {w : World} {A : Around} {E : Value → Shared → Prop} {s : Shared}
theorem meets_rv_new (l : Addr) (items : Array Value) (hsz : items.size ≤ 100000) :
    Meets (Builtin.«reversed.__new__» ⟨[.type "reversed", .ref l], []⟩) (fun _ R s => s.heap.IsTuple l items ∧ ∀ tk, R (.ok (.ret (.ref s.heap.objs.size))) { s with heap := s.heap.push (revTup l ((items.size : Int) - 1)), toks := tk }) :=
  .of_wp fun prog w A R s zq0_5 => by
    obtain ⟨hl, h⟩ := zq0_5
    unfold Builtin.«reversed.__new__»
    refine wpAny_bind (wpAny_of_eq (newClass_reversed _) ?_)
    try dsimp only
    refine wpAny_bind (wpAny_of_eq (a := ()) (by first | rfl | kernel_rfl) ?_)
    refine wpAny_bind (wpAny_of_eq (a := ()) (by first | rfl | kernel_rfl) ?_)
    try dsimp only
    refine wpAny_bind (wpAny_specialOf hl.typeIs RF.norev_tuple ?_)
    try dsimp only
    refine wpAny_bind ?_
    refine wpAny_bind (wpAny_isInstance (T := "tuple") (b := false) hl.typeIs RF.sub_tuple_dict ?_)
    show wpAny _ _ (if false = true then _ else _) _ _ _
    rw [if_neg (by decide)]
    refine wpAny_bind (wpAny_specialOf hl.typeIs slot_tuple_getitem.lookup ?_)
    show wpAny _ _ (if (["tuple.__getitem__", "str.__getitem__", "bytes.__getitem__", "bytearray.__getitem__", "memoryview.__getitem__", "numpy.ndarray.__getitem__", "sqlite3.Row.__getitem__"].contains "tuple.__getitem__") = true then pure true else _) _ _ s
    rw [if_pos (by decide)]
    refine wpAny_pure ?_
    rw [if_neg (by decide)]
    refine wpAny_bind (len_tuple hl (by exact i6 hsz rfl) ?_)
    refine wpAny_bind (m := asInt? _) (wpAny_pure ?_)
    dsimp only
    refine wpAny_bind ?_
    unfold Builtin.SmallTypes.newRecord
    dsimp only
    refine wpAny_newObj_type ?_
    exact wpAny_pure ⟨_, rfl, h _⟩
theorem call_reversed_tuple {l : Addr} {items : Array Value} {Q : Value → Shared → Prop} (hl : s.heap.IsTuple l items) (hsz : items.size ≤ 100000)
    (h : ∀ tk, Q (.ref s.heap.objs.size) { s with heap := s.heap.push (revTup l ((items.size : Int) - 1)), toks := tk }) : wpAny (model prog w) A (call (.type "reversed") [.ref l]) Q E s := by
  refine callType_new RF.called_rv (by decide) (PySem.F.typeCall_reversed_1 _) (PySem.F.newCall_reversed_1 _) (fun obj => PySem.F.args_object_init_2 obj _) PySem.F.entry_reversed_new (meets_rv_new l items hsz) ⟨hl, fun tk => ⟨⟨_, Heap.get?_push_size _ rfl, rfl⟩, h tk⟩⟩

-- a list takes what an iterator gives
variable {R : Result → Shared → Prop}
noncomputable def DoneAlive (prog : Program) (w : World) (A : Around) (I : Addr) (wr : List Addr) (St : Heap → Prop) : Prop :=
  ∀ (s : Shared) (Q : Option Value → Shared → Prop) (E : Value → Shared → Prop), St s.heap → (∀ h' tk, (∀ b o, b ∉ wr → s.heap.get? b = some o → h'.get? b = some o) → (∃ o, h'.get? I = some o) → Q none { s with heap := h', toks := tk }) → wpAny (model prog w) A (pyNext (.ref I)) Q E s
theorem ext_loop {I S : Addr} {wr fp : List Addr} {items : List Value} {St : Nat → Heap → Prop} (W : Walks prog w A.in1 I fp wr items.length (fun i v => items[i]? = some v) St) (WD : DoneAlive prog w A.in1 I wr (St items.length)) (hSf : S ∉ fp) (res : Value) :
    ∀ (k i : Nat) (s : Shared) (acc : Array Value) (c : Nat), items.length - i = k → i ≤ items.length → St i s.heap → s.heap.get? S = some (seqObj "list" acc c) → acc.size + (items.length - i) ≤ 1000000 →
    (∀ h' tk c', (∀ b o, b ≠ S → b ∉ wr → s.heap.get? b = some o → h'.get? b = some o) → h'.get? S = some (seqObj "list" (acc ++ (items.drop i).toArray) c') → (∃ o, h'.get? I = some o) → R (.ok (.ret res)) { s with heap := h', toks := tk }) →
    codeAny (model prog w) A (.builtin "list.extend.loop" ⟨[.ref S, .ref I, res], []⟩) R s := by
  have hSw : S ∉ wr := fun h => hSf (W.sub _ h)
  intro k
  induction k with
  | zero =>
    intro i s acc c hk hi hst hS hz hR
    have hin : i = items.length := by omega
    subst hin
    refine codeAny_builtin PySem.F.entry_extend_loop ?_
    rw [Around.under_plainId PySem.F.plain_extend_loop _]
    show wpAny _ A.in1 (pyNext (.ref I) >>= _) _ _ s
    refine wpAny_bind (WD s _ _ hst fun h' tk hm hI => ?_)
    exact wpAny_pure (hR h' tk c (fun b o _ hb e => hm b o hb e) (by rw [List.drop_length]; simpa using hm S _ hSw hS) hI)
  | succ k ih =>
    intro i s acc c hk hi hst hS hz hR
    have hlt : i < items.length := by omega
    refine codeAny_builtin PySem.F.entry_extend_loop ?_
    rw [Around.under_plainId PySem.F.plain_extend_loop _]
    show wpAny _ A.in1 (pyNext (.ref I) >>= _) _ _ s
    refine wpAny_bind (W.item i s _ _ hlt hst fun v h' tk hP hst' hm => ?_)
    have hS' := hm S _ hSw hS
    show wpAny _ A.in1 (updateSeq S (·.push v) >>= _) _ _ _
    refine wpAny_bind ?_
    have hz1 : acc.size ≤ sizeLine := by rw [sizeLine_eq]; exact o1 (o6 hz) rfl
    have hz2 : (acc.push v).size ≤ sizeLine + 1 := by rw [Array.size_push, sizeLine_eq]; exact o1 (Nat.add_le_add (o6 hz) (Nat.le_refl _)) rfl
    refine wpAny_updateSeq (hz := hz1) (_hz' := hz2) (s := { s with heap := h', toks := tk }) hS' rfl (wpAny_pure ⟨plainId_quiet PySem.F.plain_extend_loop _, ih (i + 1) _ (acc.push v) _ (by omega) hlt (W.frame _ h' _ hst' fun b hb o e => ?_) (Heap.get?_update_self _ hS' rfl) (by rw [Array.size_push]; omega) fun h'' tk' c' hm' hS'' hI'' => ?_⟩)
    · exact (Heap.get?_update_other _ _ (fun h : S = b => hSf (by rw [h]; exact hb))).trans e
    · refine hR h'' tk' c' (fun b o hb hw e => hm' b o hb hw ((Heap.get?_update_other _ _ (Ne.symm hb)).trans (hm b o hw e))) ?_ hI''
      rw [hS'', List.drop_eq_getElem_cons hlt]
      have hv : v = items[i] := by
        have hP' : items[i]? = some v := hP
        rw [List.getElem?_eq_getElem hlt] at hP'; exact (Option.some.inj hP').symm
      subst hv
      congr 2
      apply Array.ext'
      simp

theorem call_rv_hint {I l : Addr} {n : Nat} {its : Array Value} {Q : Value → Shared → Prop} (hit : IsRevTup s.heap I l ((n : Int) - 1)) (hl : s.heap.IsTuple l its) (hn : its.size = n) (hz : n ≤ 1000000)
    (h : ∀ t tk, Q (.int n t) { s with toks := tk }) : wpAny (model prog w) A (call (.builtin "reversed.__length_hint__") [.ref I]) Q E s := by
  obtain ⟨o, ho, hc, hd⟩ := id hit
  refine wpAny_call_entry RF.slot_rv_hint hit.typeIs RF.entry_rv_hint ?_ (RF.args_rv_hint _)
  unfold Builtin.«reversed.__length_hint__»
  refine wpAny_bind (wpAny_of_eq (a := Value.ref I) rfl ?_)
  refine wpAny_bind (wpAny_field ho hd (x := .ref l) rfl ?_)
  show wpAny _ _ (if (Value.ref l == Value.none) = true then _ else _) _ _ s
  rw [if_neg (by simp)]
  refine wpAny_bind (len_tuple hl (by exact i6 (o3 hn hz) rfl) ?_)
  refine wpAny_bind (m := asInt? _) (wpAny_pure ?_)
  dsimp only
  refine wpAny_bind (wpAny_field (s := { s with toks := _ }) ho hd (x := rawInt ((n : Int) - 1)) rfl ?_)
  show wpAny _ _ (if ((its.size : Int) < (n : Int) - 1 + 1) then _ else _) _ _ _
  rw [if_neg (by rw [hn]; omega)]
  have e : (n : Int) - 1 + 1 = n := by omega
  rw [e]
  exact wpAny_bind (wpAny_mkInt (wpAny_pure ⟨_, rfl, h _ _⟩))

theorem ext_with {I S l : Addr} {items : List Value} {St : Nat → Heap → Prop} {T : String} (hT : T = "list_reverseiterator" ∨ T = "reversed") (W : Walks prog w A.in1 I [I, l] [I] items.length (fun i v => items[i]? = some v) St) (WD : DoneAlive prog w A.in1 I [I] (St items.length)) (hTy : s.TypeIs (.ref I) T) (hSI : S ≠ I) (hSl : S ≠ l) (res : Value)
    (hst : St 0 s.heap) (hfld : ∃ o, s.heap.get? I = some o ∧ o.data = .fields #[.ref l, rawInt ((items.length : Int) - 1)]) (htup : T = "reversed" → ∃ its, s.heap.IsTuple l its ∧ its.size = items.length)
    (acc : Array Value) (c : Nat) (hS : s.heap.get? S = some (seqObj "list" acc c)) (hz : acc.size + items.length ≤ 1000000)
    (hR : ∀ h' tk c', (∀ b o, b ≠ S → b ≠ I → s.heap.get? b = some o → h'.get? b = some o) → h'.get? S = some (seqObj "list" (acc ++ items.toArray) c') → (∃ o, h'.get? I = some o) → R (.ok (.ret res)) { s with heap := h', toks := tk }) :
    wpAny (model prog w) A.in1 (Builtin.List.listExtendWith (.ref S) (.ref I) res)
      (fun fin s' => match fin with | .done f => R (.ok f) s' | .again c' => c'.quiet = true ∧ codeAny (model prog w) A c' R s') (fun e s' => R (.error e) s') s := by
  have hSf : S ∉ [I, l] := by simp [hSI, hSl]
  have h1 : Builtin.List.listSameRef (.ref S) (.ref I) = false := by simp [Builtin.List.listSameRef, hSI]
  have fin : ∀ tk acc' c' h₂, h₂.get? S = some (seqObj "list" acc c') → (∀ b o, b ≠ S → s.heap.get? b = some o → h₂.get? b = some o) → acc' = acc → codeAny (model prog w) A (.builtin "list.extend.loop" ⟨[.ref S, .ref I, res], []⟩) R { s with heap := h₂, toks := tk } := by
    intro tk acc' c' h₂ hS₂ hk _
    refine ext_loop W WD hSf res items.length 0 _ acc c' (by omega) (Nat.zero_le _) (W.frame 0 s.heap _ hst fun b hb o e => hk b o (fun q => hSf (q ▸ hb)) e) hS₂ (by omega) fun h' tk' c'' hm hS' hI' => ?_
    exact hR h' tk' c'' (fun b o hb hI e => hm b o hb (by simpa using hI) (hk b o hb e)) (by simpa using hS') hI'
  unfold Builtin.List.listExtendWith
  refine wpAny_bind (wpAny_typeOf hTy ?_)
  rcases hT with rfl | rfl
  · rw [if_neg (by rw [h1]; decide)]
    refine wpAny_bind (W.self 0 _ _ _ hst ?_)
    refine wpAny_bind (wpAny_holding ?_)
    unfold Builtin.List.listLengthHint
    refine wpAny_bind (wpAny_specialOf hTy RF.nolen_lri ?_)
    show wpAny _ A.in1 (specialOf (Value.ref I) (Str.ofString "__length_hint__") >>= _) _ _ _
    refine wpAny_bind (wpAny_specialOf hTy RF.hint_lri ?_)
    (generalize hid : ("list_reverseiterator.__length_hint__" : String) = id0; (fail_if_success (clear hid id0)); wp_delta; rw [show splitId id0 = some ("list_reverseiterator", "__length_hint__") from by subst hid; decide +kernel]; subst hid)
    refine wpAny_bind (wpAny_isInstance (b := true) hTy (by rw [isSubtype_type]; kernel_rfl) ?_)
    refine wpAny_pure ?_
    rw [if_neg (by decide)]
    exact wpAny_pure ⟨plainId_quiet PySem.F.plain_extend_loop _, fin s.toks acc c s.heap hS (fun _ _ _ e => e) rfl⟩
  · rw [if_neg (by rw [h1]; decide)]
    refine wpAny_bind (W.self 0 _ _ _ hst ?_)
    refine wpAny_bind (wpAny_holding ?_)
    unfold Builtin.List.listLengthHint
    refine wpAny_bind (wpAny_specialOf hTy RF.nolen_rv ?_)
    show wpAny _ A.in1 (specialOf (Value.ref I) (Str.ofString "__length_hint__") >>= _) _ _ _
    refine wpAny_bind (wpAny_specialOf hTy RF.slot_rv_hint.lookup ?_)
    (generalize hid : ("reversed.__length_hint__" : String) = id0; (fail_if_success (clear hid id0)); wp_delta; rw [show splitId id0 = some ("reversed", "__length_hint__") from by subst hid; decide +kernel]; subst hid)
    refine wpAny_bind (wpAny_isInstance (b := true) hTy (by rw [isSubtype_type]; kernel_rfl) ?_)
    refine wpAny_ite_split (fun hab => absurd hab (by decide)) (fun _ => ?_)
    refine wpAny_ite_split (fun hab => absurd hab (by decide +kernel)) (fun _ => ?_)
    refine wpAny_bind (wpAny_rule ?_)
    refine wpAny_bind (wpAny_of_eq (RF.slot_rv_hint.bind _) ?_)
    dsimp only
    obtain ⟨its, hl, hn⟩ := htup rfl
    obtain ⟨o, ho, hd⟩ := hfld
    have hit : IsRevTup s.heap I l ((items.length : Int) - 1) := ⟨o, ho, by obtain ⟨o', ho', hc'⟩ := hTy; rw [ho] at ho'; cases ho'; exact hc', hd⟩
    refine wpAny_bind (wpAny_attempt (call_rv_hint hit hl hn (by exact o1 (o10 hz) rfl) fun t tk => ?_))
    dsimp only
    obtain ⟨k, hk⟩ : ∃ k : Int, k = items.length := ⟨_, rfl⟩
    rw [← hk]
    refine wpAny_bind (m := asInt? _) (wpAny_pure ?_)
    dsimp only
    refine wpAny_ite_split (fun hab => absurd hab (by simp [Builtin.List.listFitsIndex]; omega)) (fun _ => ?_)
    refine wpAny_ite_split (fun hab => absurd hab (by omega)) (fun _ => ?_)
    refine wpAny_ite_split (fun hab => absurd hab (by simp [Builtin.List.listTooLong, sizeLine_eq]; omega)) (fun _ => ?_)
    refine wpAny_pure ?_
    refine wpAny_ite_split (fun _ => ?_) (fun _ => wpAny_pure ⟨plainId_quiet PySem.F.plain_extend_loop _, fin tk acc c s.heap hS (fun _ _ _ e => e) rfl⟩)
    refine wpAny_bind (wpAny_rule ?_)
    refine wpAny_bind ?_
    show wpAny _ A.in1 (updateSeq S (·.push .none) >>= fun _ => updateSeq S (·.pop)) _ _ _
    have hz1 : acc.size ≤ sizeLine := by rw [sizeLine_eq]; exact o1 (o6 hz) rfl
    have hz2 : (acc.push Value.none).size ≤ sizeLine + 1 := by rw [Array.size_push, sizeLine_eq]; exact o1 (Nat.add_le_add (o6 hz) (Nat.le_refl _)) rfl
    have hz3 : (acc.push Value.none).size ≤ sizeLine := by rw [Array.size_push, sizeLine_eq]; exact o1 (Nat.add_le_add (o6 hz) (Nat.le_refl _)) rfl
    have hz4 : (acc.push Value.none).pop.size ≤ sizeLine + 1 := by simp [sizeLine_eq]; exact o1 (o6 hz) rfl
    refine wpAny_bind (wpAny_updateSeq (s := { s with toks := tk }) (hz := hz1) (_hz' := hz2) hS rfl ?_)
    have hS₂ := Heap.get?_update_self (Obj.mapSeq (·.push Value.none)) hS rfl
    refine wpAny_updateSeq (hz := hz3) (_hz' := hz4) hS₂ rfl ?_
    have hS₃ := Heap.get?_update_self (Obj.mapSeq (·.pop)) hS₂ rfl
    refine wpAny_pure ⟨plainId_quiet PySem.F.plain_extend_loop _, fin tk acc _ _ (hS₃.trans (congrArg some (show _ = seqObj "list" acc _ from by simp only [Obj.mapSeq, Array.pop_push]; rfl))) (fun b o hb e => ?_) rfl⟩
    exact (Heap.get?_update_other _ _ (Ne.symm hb)).trans ((Heap.get?_update_other _ _ (Ne.symm hb)).trans e)
end
end
set_option tactic.hygienic false
section
section
variable {prog : Program} {w : World} {A : Around} {E : Value → Shared → Prop} {s : Shared}
structure RevAt (s : Shared) (I l : Addr) (items : List Value) (T : String) : Prop where
  ty : T = "list_reverseiterator" ∨ T = "reversed"
  is : s.TypeIs (.ref I) T
  ne : l ≠ I
  fld : ∃ o, s.heap.get? I = some o ∧ o.data = .fields #[.ref l, rawInt ((items.length : Int) - 1)]
  lst : T = "list_reverseiterator" → s.heap.IsList l items.toArray
  tup : T = "reversed" → s.heap.IsTuple l items.toArray
theorem RevAt.walks (hh : A.handled = none) {I l : Addr} {items : List Value} {T : String} (r : RevAt s I l items T) (hz : items.length ≤ 100000) :
    ∃ St, Walks prog w A I [I, l] [I] items.reverse.length (fun i v => items.reverse[i]? = some v) St ∧ St 0 s.heap ∧ DoneAlive prog w A I [I] (St items.reverse.length) := by
  have hsz : items.toArray.size = items.length := by simp
  have conv : ∀ i v, i < items.length → items.toArray[items.toArray.size - 1 - i]? = some v → items.reverse[i]? = some v := fun i v hi h => by
    rw [List.getElem?_reverse hi]; simpa using h
  have mk : ∀ {St}, Walks prog w A I [I, l] [I] items.toArray.size (fun i v => items.toArray[items.toArray.size - 1 - i]? = some v) St → Walks prog w A I [I, l] [I] items.reverse.length (fun i v => items.reverse[i]? = some v) St := fun {St} W => by
    have e : items.reverse.length = items.toArray.size := by simp
    rw [e]
    exact ⟨W.sub, W.frame, fun i s Q E hi hst hQ => W.item i s Q E hi hst fun v h' tk hP => hQ v h' tk (conv i v (by simpa using hi) hP), W.done, W.self⟩
  rcases r.ty with h | h
  · have hl := r.lst h
    obtain ⟨o, ho, hd⟩ := r.fld
    obtain ⟨o', ho', hc'⟩ := r.is
    rw [ho] at ho'; cases ho'
    refine ⟨_, mk (Walks.listRev hh I l r.ne items.toArray), ⟨Nat.zero_le _, ⟨o, ho, by rw [hc', h], by rw [hd]; simp⟩, hl⟩, fun s Q E x hQ => ?_⟩
    have e : (items.toArray.size : Int) - 1 - (items.reverse.length : Int) = -1 := by simp; omega
    have hit := x.2.1
    rw [e] at hit
    exact pyNext_revlist_end hh hit fun h' he' hI => hQ h' s.toks (fun b o hb eo => he' b o (fun h => hb (by simp [h])) eo) hI
  · have hl := r.tup h
    obtain ⟨o, ho, hd⟩ := r.fld
    obtain ⟨o', ho', hc'⟩ := r.is
    rw [ho] at ho'; cases ho'
    refine ⟨_, mk (Walks_tupRev hh I l r.ne items.toArray (by rw [hsz]; exact hz)), ⟨Nat.zero_le _, ⟨o, ho, by rw [hc', h], by rw [hd]; simp⟩, hl⟩, fun s Q E x hQ => ?_⟩
    have e : (items.toArray.size : Int) - 1 - (items.reverse.length : Int) = -1 := by simp; omega
    have hit := x.2.1
    rw [e] at hit
    exact pyNext_revtup_end hh hit fun h' he' hI => hQ h' s.toks (fun b o hb eo => he' b o (fun h => hb (by simp [h])) eo) hI

theorem call_list_rev {I l : Addr} {items : List Value} {T : String} {Q : Value → Shared → Prop} (hh : A.handled = none) (r : RevAt s I l items T) (hz : items.length ≤ 100000)
    (hQ : ∀ h' tk c', (∀ b o, b ≠ I → s.heap.get? b = some o → h'.get? b = some o) → h'.get? s.heap.objs.size = some (seqObj "list" items.reverse.toArray c') → (∃ o, h'.get? I = some o) → Q (.ref s.heap.objs.size) { s with heap := h', toks := tk }) :
    wpAny (model prog w) A (call (.type "list") [.ref I]) Q E s := by
  refine callType_codes (Q₁ := fun obj s₁ => obj = .ref s.heap.objs.size ∧ s₁ = { s with heap := s.heap.push { cls := .type "list", data := .seq #[] } }) PySem.F.called_list (PySem.F.typeCall_list_1 _) PySem.F.entry_list_init
    (code_list_new _ ⟨rfl, rfl⟩) fun obj s₁ h₁ => ?_
  obtain ⟨rfl, rfl⟩ := h₁
  have hS : (s.heap.push { cls := .type "list", data := .seq #[] }).get? s.heap.objs.size = some { cls := .type "list", data := .seq #[] } := Heap.get?_push_size _ rfl
  refine ⟨⟨_, hS, rfl⟩, PySem.F.args_list_init_2 _ _, ?_⟩
  show wpAny _ _ (do let old ← Builtin.List.listItems (.ref s.heap.objs.size); Builtin.List.listUpdate (.ref s.heap.objs.size) (fun _ => #[]); letGo old.toList.reverse; Builtin.List.listExtendWith (.ref s.heap.objs.size) (.ref I) .none) _ _ _
  refine wpAny_bind ?_
  unfold Builtin.List.listItems
  refine wpAny_bind (wpAny_seqItems hS rfl (wpAny_pure ?_))
  show wpAny _ _ (updateSeq s.heap.objs.size (fun _ => #[]) >>= fun _ => letGo (#[] : Array Value).toList.reverse >>= fun _ => Builtin.List.listExtendWith (.ref s.heap.objs.size) (.ref I) .none) _ _ _
  refine wpAny_bind (wpAny_updateSeq hS rfl ?_)
  have hS₂ := Heap.get?_update_self (Obj.mapSeq (fun _ => (#[] : Array Value))) hS rfl
  have oth : ∀ b o, s.heap.get? b = some o → ((s.heap.push { cls := .type "list", data := .seq #[] }).update s.heap.objs.size (Obj.mapSeq (fun _ => (#[] : Array Value)))).get? b = some o :=
    fun b o e => (Heap.get?_update_other _ _ (Ne.symm (Nat.ne_of_lt (Heap.lt_size e)))).trans (Heap.get?_push_of_some _ e)
  refine wpAny_bind (wpAny_letGo ?_)
  obtain ⟨St, W, hst, WD⟩ := r.walks (prog := prog) (w := w) (A := A.in1.in1) hh hz
  obtain ⟨oI, hoI, hdI⟩ := r.fld
  have hIlt := Heap.lt_size hoI
  have hllt : l < s.heap.objs.size := by
    rcases r.ty with h | h
    · obtain ⟨o, ho, _⟩ := r.lst h; exact Heap.lt_size ho
    · obtain ⟨o, ho, _⟩ := r.tup h; exact Heap.lt_size ho
  have hlen : items.reverse.length = items.length := by simp
  refine ext_with (A := A.in1) (l := l) (items := items.reverse) r.ty W WD (by obtain ⟨o, ho, hc⟩ := r.is; exact ⟨o, oth _ _ ho, hc⟩) (Nat.ne_of_gt hIlt) (Nat.ne_of_gt hllt) .none (W.frame 0 _ _ hst fun b _ o e => oth b o e) ⟨oI, oth _ _ hoI, by rw [hlen]; exact hdI⟩
    (fun h => ⟨items.toArray, by obtain ⟨o, ho, x⟩ := r.tup h; exact ⟨o, oth _ _ ho, x⟩, by simp⟩) #[] _ hS₂ (by rw [hlen]; simp; exact o1 hz rfl) fun h' tk c' hk hS' hI' => ?_
  refine ⟨rfl, hQ h' tk c' (fun b o hb e => hk b o (Nat.ne_of_lt (Heap.lt_size e)) hb (oth b o e)) (by simpa using hS') hI'⟩

theorem call_extend_rev {S I l : Addr} {items : List Value} {T : String} {acc : Array Value} {c : Nat} {Q : Value → Shared → Prop} (hh : A.handled = none) (r : RevAt s I l items T) (hz : items.length ≤ 100000) (hS : s.heap.get? S = some (seqObj "list" acc c)) (hSl : S ≠ l) (hza : acc.size ≤ 100000)
    (hQ : ∀ h' tk c', (∀ b o, b ≠ S → b ≠ I → s.heap.get? b = some o → h'.get? b = some o) → h'.get? S = some (seqObj "list" (acc ++ items.reverse.toArray) c') → (∃ o, h'.get? I = some o) → Q .none { s with heap := h', toks := tk }) :
    wpAny (model prog w) A (call (.builtin "list.extend") [.ref S, .ref I]) Q E s := by
  have hTS : s.TypeIs (.ref S) "list" := ⟨_, hS, rfl⟩
  refine wpAny_call (codeAny_call_builtin PySem.F.slot_list_extend.plain PySem.F.entry_list_extend (PySem.F.slot_list_extend.check _ _ _ _ _ _ _ _ hTS (PySem.F.args_list_extend_2 _ _) ?_))
  show wpAny _ _ (Builtin.List.listExtendWith (.ref S) (.ref I) .none) _ _ _
  obtain ⟨St, W, hst, WD⟩ := r.walks (prog := prog) (w := w) (A := A.in1) hh hz
  obtain ⟨oI, hoI, hdI⟩ := r.fld
  have hSI : S ≠ I := fun e => by
    subst e
    rw [hS] at hoI; cases hoI
    cases hdI
  have hlen : items.reverse.length = items.length := by simp
  refine ext_with (R := wants Q E) (l := l) (items := items.reverse) r.ty W WD r.is hSI hSl .none hst ⟨oI, hoI, by rw [hlen]; exact hdI⟩ (fun h => ⟨items.toArray, r.tup h, by simp⟩) acc _ hS (by rw [hlen]; exact o1 (Nat.add_le_add hza hz) rfl) fun h' tk c' hk hS' hI' => ?_
  exact hQ h' tk c' hk hS' hI'
end
section
variable {g : Gm} {n : Nat} {σ : St} {Q : AV → St → Prop}
noncomputable def Sub (σ₀ σ : St) : Prop := ∀ b c, σ₀ b = some c → σ b = some c
theorem Sub.refl {σ : St} : Sub σ σ := fun _ _ e => e
theorem Sub.upd {σ₀ σ : St} {b : Addr} {c : Cell} (h : Sub σ₀ σ) (hb : σ₀ b = none) : Sub σ₀ (upd σ b c) := fun a x e => by
  rw [upd_ne (fun q => by subst q; rw [hb] at e; cases e)]; exact h a x e
theorem Sub.del {σ₀ σ : St} {b : Addr} (h : Sub σ₀ σ) (hb : σ₀ b = none) : Sub σ₀ (del σ b) := fun a x e => by
  rw [del_ne (fun q => by subst q; rw [hb] at e; cases e)]; exact h a x e
theorem SH.sub {prog : Program} {w : World} {hB : Heap} {P : PM} {σ₀ σ : St} {h : Heap} (S : SH prog w hB P σ h) (hs : Sub σ₀ σ) : SH prog w hB P σ₀ h := ⟨S.base, S.keepP, fun a c e => S.cells a c (hs a c e)⟩
theorem SS.sub {P : PM} {s : Shared} {σ₀ : St} (S : SS g.prog g.w g.s₁ P σ s) (hs : Sub σ₀ σ) : SS g.prog g.w g.s₁ P σ₀ s := ⟨S.sh.sub hs, S.gens, S.os⟩
theorem Step.sub {X : Addr → Prop} {P P' : PM} {σ' σ₀ : St} {h h' : Heap} (t : Step X P σ h P' σ' h') (hs : Sub σ₀ σ') : Step X P σ h P' σ₀ h' :=
  ⟨t.le, t.keep, t.newP, fun b c e => t.newS b c (hs b c e), t.live⟩
inductive Fz (Q : AV → St → Prop) (a : AV) (σ' : St) : Prop
  | drop {σ₀ : St} (hs : Sub σ₀ σ') (hq : Q a σ₀) : Fz Q a σ'
  | lst {c : Addr} {ds : List D} {σ₀ : St} (ha : a = .cell c) (hc : σ' c = some (.lst ds)) (hs : Sub σ₀ (del σ' c)) (hq : Q (.d (.lst ds)) σ₀) : Fz Q a σ'
theorem PostE.fz {P : PM} {h : Heap} {v : Value} {s' : Shared} (x : PostE g P σ h (Fz Q) v s') : PostE g P σ h Q v s' := by
  obtain ⟨a, P', σ', hq, hr, S', t⟩ := x
  cases hq with
  | drop hs hq => exact ⟨a, P', _, hq, hr, S'.sub hs, t.sub hs⟩
  | @lst c ds σ₀ ha hc hs hq =>
    subst ha
    have hv : v = .ref c := hr
    subst hv
    obtain ⟨_, o, ho, vs, k, rfl, r⟩ := S'.sh.cells c _ hc
    have hne : σ' c ≠ none := by rw [hc]; simp
    have t2 := Step.freeze (o := seqObj "list" vs.toArray k) S'.sh hne
    have S2 : SS g.prog g.w g.s₁ (Mine.upd P' c (seqObj "list" vs.toArray k)) (Mine.del σ' c) s' := ⟨S'.sh.freeze hne ho, S'.gens, S'.os⟩
    exact ⟨.d (.lst ds), _, _, hq, .lst upd_same .of (r.mono (prog := g.prog) (w := g.w) t2.le), S2.sub hs, (t.trans0 t2).sub hs⟩
theorem WN.fz {t : List Value → Sem Value} {as : List AV} (h : WN g n t as σ (Fz Q)) : WN g n t as σ Q := fun A E P s vs hA S hv => wpAny_mono (h A E P s vs hA S hv) (fun _ _ x => x.fz) fun _ _ x => x
variable {env : Env} {ρ : Ro}
-- frames, seen otherwise
theorem SF.recast {P : PM} {h : Heap} {ρ' : Ro} (F : SF g.prog g.w env ρ P σ h) (hr : ∀ p ∈ ρ', ∃ a, (p.1, a) ∈ ρ ∧ ∀ v, RepA g.prog g.w P a v → RepA g.prog g.w P p.2 v) : SF g.prog g.w env ρ' P σ h := by
  refine ⟨F.kind, F.glob, F.blt, ?_, fun p hp hk => ?_, F.offL, F.offC, F.has, F.inj, F.nocd⟩
  · obtain ⟨m, hn, hm⟩ := F.ns
    refine ⟨m, hn, fun p hp hk => ?_⟩
    obtain ⟨a, ha, hv⟩ := hr p hp
    obtain ⟨v, h1, h2⟩ := hm _ ha hk
    exact ⟨v, h1, hv v h2⟩
  · obtain ⟨a, ha, hv⟩ := hr p hp
    obtain ⟨c, v, h1, h2, h3, h4⟩ := F.cl _ ha hk
    exact ⟨c, v, h1, h2, h3, hv v h4⟩
theorem WSs.recast {sts : List Stmt} {Q : Fl → Ro → St → Prop} (h : ∀ P s, SS g.prog g.w g.s₁ P σ s → SF g.prog g.w env ρ P σ s.heap → ∃ ρ' P' σ', SS g.prog g.w g.s₁ P' σ' s ∧ SF g.prog g.w env ρ' P' σ' s.heap ∧ Step X0 P σ s.heap P' σ' s.heap ∧ WSs g n env ρ' σ' sts Q) : WSs g n env ρ σ sts Q := fun A E P s hA S F => by
  obtain ⟨ρ', P', σ', S', F', t, h'⟩ := h P s S F
  exact wpAny_mono (h' A E P' s hA S' F') (fun _ _ x => x.after F F' t.weaken) fun _ _ x => x
theorem WSs.freeze {sts : List Stmt} {Q : Fl → Ro → St → Prop} {c : Addr} {ds : List D} {ρ' : Ro} (hc : σ c = some (.lst ds)) (hρ : ∀ p ∈ ρ', p ∈ ρ ∨ (p.2 = .d (.lst ds) ∧ (p.1, AV.cell c) ∈ ρ)) (h : WSs g n env ρ' (del σ c) sts Q) : WSs g n env ρ σ sts Q :=
  WSs.recast fun P s S F => by
    obtain ⟨_, o, ho, vs, k, rfl, r⟩ := S.sh.cells c _ hc
    have hne : σ c ≠ none := by rw [hc]; simp
    have t2 := Step.freeze (o := seqObj "list" vs.toArray k) S.sh hne
    refine ⟨ρ', _, _, ⟨S.sh.freeze hne ho, S.gens, S.os⟩, (F.step t2).recast fun p hp => ?_, t2, h⟩
    rcases hρ p hp with q | ⟨q, q'⟩
    · exact ⟨p.2, q, fun v hv => hv⟩
    · exact ⟨_, q', fun v hv => by rw [q]; have hv' : v = .ref c := hv; subst hv'; exact .lst upd_same .of (r.mono (prog := g.prog) (w := g.w) t2.le)⟩

-- methods of lists
theorem RepAs.one {P : PM} {a : AV} {vs : List Value} (h : RepAs g.prog g.w P [a] vs) : ∃ v, vs = [v] ∧ RepA g.prog g.w P a v := by
  cases h with
  | cons h r => cases r; exact ⟨_, rfl, h⟩
theorem RepAs.two {P : PM} {a b : AV} {vs : List Value} (h : RepAs g.prog g.w P [a, b] vs) : ∃ v u, vs = [v, u] ∧ RepA g.prog g.w P a v ∧ RepA g.prog g.w P b u := by
  cases h with
  | cons h r => cases r with
  | cons h2 r => cases r; exact ⟨_, _, rfl, h, h2⟩
theorem cell_at {P : PM} {s : Shared} {a : Addr} {ds : List D} (S : SS g.prog g.w g.s₁ P σ s) (hc : σ a = some (.lst ds)) : ∃ us k, s.heap.get? a = some (seqObj "list" us.toArray k) ∧ Reps g.prog g.w P ds us ∧ us.length = ds.length := by
  obtain ⟨_, o, ho, us, k, rfl, r⟩ := S.sh.cells a _ hc
  exact ⟨us, k, ho, r, r.length⟩
theorem lstRep {P : PM} {ds : List D} {us : List Value} {a : Addr} {arr : Array Value} {m : Nat} (e : arr = us.toArray) (r : Reps g.prog g.w P ds us) : CellRep g.prog g.w P (.lst ds) a (seqObj "list" arr m) := ⟨us, m, by rw [e], r⟩
theorem WC.append {a : Addr} {ds : List D} {x : D} (hc : σ a = some (.lst ds)) (hl : ds.length ≤ 100000) (hq : Q (.d .none) (upd σ a (.lst (ds ++ [x])))) : WC g n (.builtin "list.append") [.cell a, .d x] σ Q := fun A E P s vs hA S hv => by
  obtain ⟨v, u, rfl, h1, h2⟩ := hv.two
  have h1' := h1; cases h1'
  obtain ⟨us, k, ho, r, hul⟩ := cell_at S hc
  have hz : us.toArray.size ≤ sizeLine := by rw [List.size_toArray, sizeLine_eq]; exact o1 (o3 hul hl) rfl
  refine call_meets PySem.F.slot_list_append ⟨_, ho, rfl⟩ PySem.F.entry_list_append (PySem.F.args_list_append_2 _ _) (PySem.list_append a us.toArray k u hz) ⟨ho, ?_⟩
  have hup := IsL.update (n := k) (items := us.toArray) ho (fun x_1 => x_1.push u)
  refine PostE.setCell (c := .lst (ds ++ [x])) (x := .d .none) S (Heap.SameBut.update ..) (by rw [hc]; simp) hup (lstRep (us := us ++ [u]) (by simp) (r.append (.cons h2 .nil))) Rep.none hq
theorem Reps.snoc {P : PM} {x : D} : ∀ {ds : List D} {us : List Value}, Reps g.prog g.w P (ds ++ [x]) us → ∃ vs u, us = vs ++ [u] ∧ Reps g.prog g.w P ds vs ∧ Rep g.prog g.w P x u
  | [], us, h => by
    cases h with
    | cons h r => cases r; exact ⟨[], _, rfl, .nil, h⟩
  | d :: ds, us, h => by
    cases h with
    | cons h r =>
      obtain ⟨vs, u, rfl, h1, h2⟩ := Reps.snoc r
      exact ⟨_ :: vs, u, rfl, .cons h h1, h2⟩
theorem WC.pop {a : Addr} {ds : List D} {x : D} (hc : σ a = some (.lst (ds ++ [x]))) (hl : ds.length ≤ 100000) (hq : Q (.d x) (upd σ a (.lst ds))) : WC g n (.builtin "list.pop") [.cell a] σ Q := fun A E P s vs hA S hv => by
  obtain ⟨v, rfl, h1⟩ := hv.one
  have h1' := h1; cases h1'
  obtain ⟨us, k, ho, r, hul⟩ := cell_at S hc
  obtain ⟨vs, u, rfl, r2⟩ := r.snoc
  have hvl := r2.1.length
  have hz : (vs ++ [u]).toArray.size ≤ sizeLine := by rw [List.size_toArray, sizeLine_eq, List.length_append, List.length_singleton]; exact o1 (Nat.add_le_add (o3 hvl hl) (Nat.le_refl _)) rfl
  have hy : (vs ++ [u]).toArray[(vs ++ [u]).toArray.size - 1]? = some u := by simp
  refine call_meets PySem.F.slot_list_pop ⟨_, ho, rfl⟩ PySem.F.entry_list_pop (PySem.F.args_list_pop_1 _) (MeetsSeq.list_pop_last a (vs ++ [u]).toArray k u hy hz) ⟨ho, ?_⟩
  have hup := IsL.update (n := k) (items := (vs ++ [u]).toArray) ho (fun xs => xs.eraseIdxIfInBounds ((vs ++ [u]).toArray.size - 1))
  refine PostE.setCell (tk := s.toks) (c := .lst ds) (x := .d x) S (Heap.SameBut.update ..) (by rw [hc]; simp) hup (lstRep (us := vs) ?_ r2.1) r2.2 hq
  apply Array.ext'
  simp [Array.eraseIdxIfInBounds, List.eraseIdx_append_of_length_le]
theorem WC.extendL {a : Addr} {ds es : List D} (hc : σ a = some (.lst ds)) (hl : ds.length ≤ 100000) (hl2 : es.length ≤ 100000) (hq : Q (.d .none) (upd σ a (.lst (ds ++ es)))) : WC g n (.builtin "list.extend") [.cell a, .d (.lst es)] σ Q := fun A E P s vs hA S hv => by
  obtain ⟨v, u, rfl, h1, h2⟩ := hv.two
  have h1' := h1; cases h1'
  obtain ⟨us, k, ho, r, hul⟩ := cell_at S hc
  have hTS : s.TypeIs (.ref a) "list" := ⟨_, ho, rfl⟩
  have h2' : Rep g.prog g.w P (.lst es) u := h2
  cases h2' with
  | @lst b ob ws _ hP hs rr =>
  have hob := S.sh.keepP _ _ hP
  obtain ⟨hcl, m, hd⟩ := hs
  have hwl := rr.length
  refine wpAny_call (codeAny_call_builtin PySem.F.slot_list_extend.plain PySem.F.entry_list_extend (PySem.F.slot_list_extend.check _ _ _ _ _ _ _ _ hTS (PySem.F.args_list_extend_2 _ _) ?_))
  show wpAny _ _ (Builtin.List.listExtendWith (.ref a) (.ref b) .none) _ _ _
  unfold Builtin.List.listExtendWith
  refine wpAny_bind (wpAny_typeOf (T := "list") ⟨ob, hob, hcl⟩ ?_)
  rw [if_pos (by simp)]
  unfold Builtin.List.listItems
  refine wpAny_bind (wpAny_bind (wpAny_seqItems hob hd (wpAny_pure ?_)))
  refine wpAny_bind (wpAny_bind (wpAny_seqItems ho rfl (wpAny_pure ?_)))
  rw [if_neg (by simp [Builtin.List.listTooLong, sizeLine_eq]; intro _; exact o1 (Nat.add_le_add (o3 hul hl) (o3 hwl hl2)) rfl)]
  have hz1 : us.toArray.size ≤ sizeLine := by rw [List.size_toArray, sizeLine_eq]; exact o1 (o3 hul hl) rfl
  have hz2 : (us.toArray ++ ws.toArray).size ≤ sizeLine + 1 := by rw [Array.size_append, List.size_toArray, List.size_toArray, sizeLine_eq]; exact o1 (Nat.add_le_add (o3 hul hl) (o3 hwl hl2)) rfl
  show wpAny _ _ (updateSeq a (· ++ ws.toArray) >>= fun _ => ret .none) _ _ _
  refine wpAny_bind (wpAny_updateSeq (hz := hz1) (_hz' := hz2) ho rfl (wpAny_pure ?_))
  have hup := IsL.update (n := k) (items := us.toArray) ho (fun xs => xs ++ ws.toArray)
  refine PostE.setCell (tk := s.toks) (c := .lst (ds ++ es)) (x := .d .none) S (Heap.SameBut.update ..) (by rw [hc]; simp) hup (lstRep (us := us ++ ws) (by simp) (r.append rr)) Rep.none hq
end
end
set_option tactic.hygienic false
section
section
variable {prog : Program} {w : World} {A : Around} {E : Value → Shared → Prop} {s : Shared}
theorem adjust_run (a b n : Nat) (hab : a ≤ b) (hb : b ≤ n) : Builtin.Slice.sliceAdjust (some (a : Int)) (some (b : Int)) 1 (n : Int) = ((a : Int), (b : Int)) := by
  unfold Builtin.Slice.sliceAdjust
  have h1 : ¬ ((1 : Int) < 0) := by omega
  have h2 : ¬ ((a : Int) < 0) := by omega
  have h3 : ¬ ((b : Int) < 0) := by omega
  simp only [h1, h2, h3, if_false]
  congr 1 <;> omega
theorem places_run (a b : Nat) (hab : a ≤ b) : Builtin.Slice.slicePlaces (a : Int) (b : Int) 1 = b - a := by
  unfold Builtin.Slice.slicePlaces
  have h1 : (1 : Int) > 0 := by exact i3 (Int.le_refl _) rfl
  simp only [h1, if_true, Int.ediv_one]
  split <;> omega
theorem sliceApplied_run {sl : Addr} {a b n : Nat} {u t : Tok} {Q : Int × Int × Nat → Shared → Prop} (hs : s.heap.IsSliceOf sl (.int a u) (.int b t) .none) (hab : a ≤ b) (hb : b ≤ n) (h : Q ((a : Int), 1, b - a) s) :
    wpAny (model prog w) A (Builtin.Slice.sliceApplied (.ref sl) (pure (n : Int))) Q E s := by
  obtain ⟨os, hos, hcs, hds⟩ := id hs
  unfold Builtin.Slice.sliceApplied Builtin.Slice.sliceFields
  refine wpAny_bind (wpAny_bind (wpAny_field hos hds (x := .int a u) rfl (wpAny_bind (wpAny_field hos hds (x := .int b t) rfl (wpAny_bind (wpAny_field hos hds (x := .none) rfl (wpAny_pure ?_)))))))
  refine wpAny_bind (slicePart_none ?_)
  show wpAny _ _ (if ((1 : Int) == 0) = true then _ else _) _ _ s
  rw [if_neg (by decide)]
  refine wpAny_bind (slicePart_int (wpAny_bind (slicePart_int (wpAny_bind (wpAny_pure ?_)))))
  show wpAny _ _ (match Builtin.Slice.sliceAdjust (some (a : Int)) (some (b : Int)) 1 (n : Int) with | (lo, hi) => pure (lo, (1 : Int), Builtin.Slice.slicePlaces lo hi 1)) _ _ s
  rw [adjust_run a b n hab hb]
  show wpAny _ _ (pure ((a : Int), (1 : Int), Builtin.Slice.slicePlaces (a : Int) (b : Int) 1)) _ _ s
  rw [places_run a b hab]
  exact wpAny_pure h
theorem pick_run' (xs : Array Value) (a b : Nat) : ((List.range (b - a)).filterMap fun (k : Nat) => xs[((a : Int) + (k : Int) * 1).toNat]?).toArray = ((xs.toList.drop a).take (b - a)).toArray := by
  have e : (fun (k : Nat) => xs[((a : Int) + (k : Int) * 1).toNat]?) = fun k => xs[a + k]? := by
    funext k
    have : ((a : Int) + (k : Int) * 1).toNat = a + k := by omega
    rw [this]
  rw [e]
  have := pick_run xs a (b - a)
  rw [List.filterMap_map] at this
  have e2 : ((fun x => xs[x]?) ∘ fun x => a + x) = fun k => xs[a + k]? := rfl
  rw [e2] at this
  rw [this]
theorem getItem_tuple_run {t sl : Addr} {items : Array Value} {a b : Nat} {u u' : Tok} {Q : Value → Shared → Prop} (ht : IsTup s.heap t items) (hs : s.heap.IsSliceOf sl (.int a u) (.int b u') .none) (h1 : 1 ≤ a) (hab : a ≤ b) (hb : b ≤ items.size) (hsz : items.size ≤ 1000000)
    (h : Q (.ref s.heap.objs.size) { s with heap := s.heap.push { cls := .type "tuple", data := .seq ((items.toList.drop a).take (b - a)).toArray } }) : wpAny (model prog w) A (getItem (.ref t) (.ref sl)) Q E s := by
  have hdrop : sizeOk (.seq ((items.toList.drop a).take (b - a)).toArray) := by
    show ((items.toList.drop a).take (b - a)).toArray.size ≤ sizeLine
    rw [List.size_toArray, List.length_take, List.length_drop, Array.length_toList, sizeLine_eq]
    exact o1 (Nat.le_trans (Nat.min_le_right _ _) (Nat.le_trans (Nat.sub_le _ _) hsz)) rfl
  obtain ⟨os, hos, hcs, hds⟩ := id hs
  have hTs : s.TypeIs (.ref sl) "slice" := ⟨os, hos, hcs⟩
  unfold getItem
  try with_reducible refine wpAny_holding ?_
  first | refine wpAny_bind (wpAny_pure ?_) | skip
  refine wpAny_bind (wpAny_sequenceKey ht.typeIs (by decide) ?_)
  refine wpAny_bind (wpAny_callSpecial?_slot (name := Str.ofString "__getitem__") ht.typeIs slot_tuple_getitem
    (wpAny_call_entry slot_tuple_getitem ht.typeIs entry_tuple_getitem ?_ (args_tuple_getitem _ _)))
  show wpAny _ _ (Builtin.Tuple.tupleItemsOf (.ref t) >>= _) _ _ s
  refine wpAny_bind (tupleItemsOf_ ht ?_)
  refine wpAny_bind (wpAny_typeOf hTs ?_)
  rw [if_pos (by decide)]
  refine wpAny_bind (sliceApplied_run hs hab hb ?_)
  have hno : ¬ (((a : Int) == 0 && (1 : Int) == 1 && (b - a) == items.size) = true) := by
    have : ((a : Int) == 0) = false := by rw [beq_eq_false_iff_ne]; omega
    rw [this]; simp
  show wpAny _ _ (if ((a : Int) == 0 && (1 : Int) == 1 && (b - a) == items.size) = true then _ else _) _ _ s
  rw [if_neg hno, pick_run' items a b]
  first
    | exact wpAny_bind (m := Builtin.Tuple.tupleExact _) (wpAny_newObj_type (wpAny_pure ⟨_, rfl, wpAny_pure h⟩) hdrop)
    | exact wpAny_bind (m := Builtin.Tuple.tupleExact _) (wpAny_newObj_type (wpAny_bind (wpAny_pure (wpAny_pure ⟨_, rfl, wpAny_pure h⟩))) hdrop)
    | exact wpAny_bind (wpAny_bind (m := Builtin.Tuple.tupleExact _) (wpAny_newObj_type (wpAny_pure (wpAny_pure ⟨_, rfl, wpAny_pure h⟩)) hdrop))
    | exact wpAny_bind (wpAny_bind (m := Builtin.Tuple.tupleExact _) (wpAny_newObj_type (wpAny_pure ⟨_, rfl, wpAny_pure h⟩) hdrop))
end
section
variable {g : Gm} {n : Nat} {σ : St} {Q : AV → St → Prop} {env : Env} {ρ : Ro}
noncomputable def WO (g : Gm) (n : Nat) (env : Env) (ρ : Ro) (σ : St) (o : Option Expr) (Q : AV → St → Prop) : Prop :=
  ∀ A E P s, OkA n A → SS g.prog g.w g.s₁ P σ s → SF g.prog g.w env ρ P σ s.heap → wpAny g.M A (evalPart o env) (PostE g P σ s.heap Q) E s
theorem WO.none (h : Q (.d .none) σ) : WO g n env ρ σ none Q := fun A E P s hA S F => wpAny_pure (PostE.here (tk := s.toks) S h .none)
theorem WO.some {e : Expr} (h : WE g n env ρ σ e Q) : WO g n env ρ σ (some e) Q := h
noncomputable abbrev sliceObj (l u : Value) : Obj := { cls := .type "slice", data := .fields #[l, u, .none] }
noncomputable def W3 (g : Gm) (n : Nat) (value slice : Expr) (a l u : AV) (σ : St) (Q : AV → St → Prop) : Prop :=
  ∀ A E P s va vl vu, OkA n A → SS g.prog g.w g.s₁ P σ s → RepA g.prog g.w P a va → RepA g.prog g.w P l vl → RepA g.prog g.w P u vu →
    wpAny g.M A (subscriptTail value slice va (.ref s.heap.objs.size)) (PostE g P σ s.heap Q) E { s with heap := s.heap.push (sliceObj vl vu) }
theorem WE.slice {value : Expr} {lower upper : Option Expr} {p pos : Pos} (h : WE g n env ρ σ value fun a σ₁ => WO g n env ρ σ₁ lower fun l σ₂ => WO g n env ρ σ₂ upper fun u σ₃ => W3 g n value (.Slice lower upper none p) a l u σ₃ Q) : WE g n env ρ σ (.Subscript value (.Slice lower upper none p) pos) Q :=
  fun A E P s hA S F => Subscript_ (h.then hA S F fun a P₁ σ₁ va s₁ h₁ ra S₁ F₁ t₁ => wpAny_Slice (wpAny_mono (h₁ A E P₁ s₁ hA S₁ F₁) (fun vl s₂ z => by
    refine z.elim fun l P₂ σ₂ h₂ rl S₂ t₂ => ?_
    exact wpAny_mono (h₂ A E P₂ s₂ hA S₂ (F₁.step t₂)) (fun vu s₃ z => by
     refine z.elim fun u P₃ σ₃ h₃ ru S₃ t₃ => ?_
     exact wpAny_pure
      (wpAny_mono (h₃ A E P₃ s₃ va vl vu hA S₃ ((ra.mono t₂.le).mono t₃.le) (rl.mono t₃.le) ru) (fun _ _ x => x.after ((t₁.trans0 t₂).trans0 t₃)) fun _ _ x => x)) fun _ _ x => x) fun _ _ x => x))
theorem two_push {h : Heap} {o o' : Obj} (hf : o'.isFreed = false) : (∀ b x, h.get? b = some x → ((h.push o).push o').get? b = some x) ∧ h.get? (h.push o).objs.size = none ∧ ((h.push o).push o').get? (h.push o).objs.size = some o' :=
  ⟨fun _ _ e => Heap.get?_push_of_some _ (Heap.get?_push_of_some _ e), Heap.get?_none_of_le (by rw [Heap.size_push]; omega), Heap.get?_push_size _ hf⟩
set_option tactic.hygienic true in
theorem W3.tupFrom {value slice : Expr} {ds : List D} {k : Nat} (h1 : 1 ≤ k) (hk : k ≤ ds.length) (hl : ds.length ≤ 100000) (hq : Q (.d (.tup (ds.drop k))) σ)
    (hs : ∀ o i, subscripted slice false o i = operate [i, o] (getItem o i) := by intro _ _; rfl) : W3 g n value slice (.d (.tup ds)) (.d (.int k)) (.d .none) σ Q := fun A E P s va vl vu hA S ha hvl hvu => by
  obtain ⟨a, vs, rfl, ht, r⟩ := Rep.isTup S ha
  cases hvl; cases hvu
  rename_i t
  have hvs := r.length
  have ht' : IsTup (s.heap.push (sliceObj (.int k t) .none)) a vs.toArray := IsTup.keeps ht fun _ _ e => Heap.get?_push_of_some _ e
  refine tail_any (T := "tuple") ht'.typeIs slot_tuple_getitem.lookup (getItem_tuple_from (a := k) (u := t) ht' (Heap.IsSliceOf.new ..) h1 (by rw [List.size_toArray]; omega) ?_ (by rw [List.size_toArray, sizeLine_eq]; exact o1 (o3 hvs hl) rfl)) (hs _ _)
  obtain ⟨k1, k2, k3⟩ := two_push (h := s.heap) (o := sliceObj (.int k t) .none) (o' := { cls := .type "tuple", data := .seq (vs.toArray.toList.drop k).toArray }) rfl
  exact PostE.newData (tk := s.toks) S hq k1 k2 k3 fun hle hb => .tup hb (SeqO.of (vs := vs.drop k)) ((r.drop k).mono (prog := g.prog) (w := g.w) hle)
set_option tactic.hygienic true in
theorem W3.tupRun {value slice : Expr} {ds : List D} {a b : Nat} (h1 : 1 ≤ a) (hab : a ≤ b) (hb : b ≤ ds.length) (hl : ds.length ≤ 100000) (hq : Q (.d (.tup ((ds.drop a).take (b - a)))) σ)
    (hs : ∀ o i, subscripted slice false o i = operate [i, o] (getItem o i) := by intro _ _; rfl) : W3 g n value slice (.d (.tup ds)) (.d (.int a)) (.d (.int b)) σ Q := fun A E P s va vl vu hA S ha hvl hvu => by
  obtain ⟨x, vs, rfl, ht, r⟩ := Rep.isTup S ha
  cases hvl; cases hvu
  rename_i t t'
  have hvs := r.length
  have ht' : IsTup (s.heap.push (sliceObj (.int a t) (.int b t'))) x vs.toArray := IsTup.keeps ht fun _ _ e => Heap.get?_push_of_some _ e
  refine tail_any (T := "tuple") ht'.typeIs slot_tuple_getitem.lookup (getItem_tuple_run (a := a) (b := b) (u := t) (u' := t') ht' (Heap.IsSliceOf.new ..) h1 hab (by rw [List.size_toArray]; omega) (by rw [List.size_toArray]; exact o1 (o3 hvs hl) rfl) ?_) (hs _ _)
  obtain ⟨k1, k2, k3⟩ := two_push (h := s.heap) (o := sliceObj (.int a t) (.int b t')) (o' := { cls := .type "tuple", data := .seq ((vs.toArray.toList.drop a).take (b - a)).toArray }) rfl
  exact PostE.newData (tk := s.toks) S hq k1 k2 k3 fun hle hb => .tup hb (SeqO.of (vs := (vs.drop a).take (b - a))) (((r.drop a).take (b - a)).mono (prog := g.prog) (w := g.w) hle)
theorem pick_to (items : Array Value) (k : Nat) : slicePick items none (some (k : Int)) none = (items.toList.take k).toArray := by
  rw [kms_pick_eq]
  congr 1
  unfold kms_pick kms_lo kms_hi
  have h0 : ¬ ((k : Int) < 0) := by omega
  simp [h0]
  try omega
set_option tactic.hygienic true in
theorem W3.strTo {value slice : Expr} {x : Str} {k : Int} (hl : x.length ≤ sizeLine) (hq : Q (.d (.str (Txt.slice x none (some k)))) σ)
    (hs : ∀ o i, subscripted slice false o i = operate [i, o] (getItem o i) := by intro _ _; rfl) : W3 g n value slice (.d (.str x)) (.d .none) (.d (.int k)) σ Q := fun A E P s va vl vu hA S ha hvl hvu => by
  cases ha; cases hvl; cases hvu
  rename_i t t'
  refine tail_any (T := "str") (typeIs_str _ _ _) PySem.F.slot_str_getitem.lookup (wpAny_getItem_str_slice (l := none) (u := some (k, t')) (st := none) ⟨_, Heap.get?_push_size _ rfl, rfl, rfl⟩ rfl
    (post_val_or_str ⟨Nat.le_trans (Txt.slice_le x _ _) hl, fun t' k => ?_⟩)) (hs _ _)
  exact PostE.grown S hq (.str _ _) fun _ _ e => Heap.get?_push_of_some _ e

-- reversed
theorem WC.reversedL {ds : List D} (hq : ∀ b, σ b = none → Q (.cell b) (upd σ b (.rev ds))) : WC g n (.type "reversed") [.d (.lst ds)] σ Q := fun A E P s vs hA S hv => by
  obtain ⟨v, rfl, h1⟩ := hv.one
  have h1' : Rep g.prog g.w P (.lst ds) v := h1
  cases h1' with
  | @lst a o vs _ hP hs r =>
  obtain ⟨hcl, m, hd⟩ := id hs
  refine call_reversed_list ⟨o, S.sh.keepP _ _ hP, hcl, m, hd⟩ ?_
  obtain ⟨k1, k2, k3⟩ := push_new (h := s.heap) (o := revObj a ((vs.toArray.size : Int) - 1))
  exact PostE.newCell (c := .rev ds) (tk := s.toks) S k1 k2 k3 ⟨a, o, vs, hP, r, .inl ⟨hs, by rw [List.size_toArray]⟩⟩ fun _ h2 => hq _ h2
theorem WC.reversedT {ds : List D} (hl : ds.length ≤ 100000) (hq : ∀ b, σ b = none → Q (.cell b) (upd σ b (.rev ds))) : WC g n (.type "reversed") [.d (.tup ds)] σ Q := fun A E P s vs hA S hv => by
  obtain ⟨v, rfl, h1⟩ := hv.one
  have h1' : Rep g.prog g.w P (.tup ds) v := h1
  cases h1' with
  | @tup a o vs _ hP hs r =>
  obtain ⟨hcl, m, hd⟩ := id hs
  have hvl := r.length
  refine call_reversed_tuple (items := vs.toArray) ⟨o, S.sh.keepP _ _ hP, hcl, m, hd⟩ (by rw [List.size_toArray]; exact o1 (o3 hvl hl) rfl) fun tk => ?_
  obtain ⟨k1, k2, k3⟩ := push_new (h := s.heap) (o := revTup a ((vs.toArray.size : Int) - 1))
  exact PostE.newCell (c := .rev ds) (tk := tk) S k1 k2 k3 ⟨a, o, vs, hP, r, .inr ⟨hs, by rw [List.size_toArray]⟩⟩ fun _ h2 => hq _ h2
theorem rev_at {P : PM} {s : Shared} {b : Addr} {ds : List D} (S : SS g.prog g.w g.s₁ P σ s) (hc : σ b = some (.rev ds)) : ∃ l vs T, RevAt s b l vs T ∧ Reps g.prog g.w P ds vs ∧ vs.length = ds.length ∧ P b = none ∧ ∃ o, P l = some o := by
  obtain ⟨hPb, o, ho, l, o', vs, hP, r, h⟩ := S.sh.cells b _ hc
  have hne : l ≠ b := fun e => by subst e; rw [hP] at hPb; cases hPb
  rcases h with ⟨hs, rfl⟩ | ⟨hs, rfl⟩
  · refine ⟨l, vs, "list_reverseiterator", ⟨.inl rfl, ⟨_, ho, rfl⟩, hne, ⟨_, ho, rfl⟩, fun _ => ⟨o', S.sh.keepP _ _ hP, hs.1, hs.2⟩, fun e => by simp at e⟩, r, r.length, hPb, o', hP⟩
  · refine ⟨l, vs, "reversed", ⟨.inr rfl, ⟨_, ho, rfl⟩, hne, ⟨_, ho, rfl⟩, fun e => by simp at e, fun _ => ⟨o', S.sh.keepP _ _ hP, hs.1, hs.2⟩⟩, r, r.length, hPb, o', hP⟩
theorem WC.listRev {b : Addr} {ds : List D} (hc : σ b = some (.rev ds)) (hl : ds.length ≤ 100000) (hq : ∀ a, σ a = none → Q (.cell a) (upd (del σ b) a (.lst ds.reverse))) : WC g n (.type "list") [.cell b] σ Q := fun A E P s vs hA S hv => by
  obtain ⟨v, rfl, h1⟩ := hv.one
  have h1' := h1; cases h1'
  obtain ⟨l, us, T, R, r, hul, hPb, o, hPl⟩ := rev_at S hc
  refine call_list_rev hA.handled R (by exact o1 (o3 hul hl) rfl) fun h' tk c' hk hS' hI' => ?_
  have hfr : s.heap.get? s.heap.objs.size = none := Heap.get?_none_of_le (Nat.le_refl _)
  have hf := S.sh.fresh hfr
  have hne : s.heap.objs.size ≠ b := fun e => by rw [e, hc] at hf; exact absurd hf.2 (by simp)
  refine ⟨.cell s.heap.objs.size, P, upd (del σ b) s.heap.objs.size (.lst ds.reverse), hq _ hf.2, rfl, ⟨⟨S.sh.base, fun a o e => hk a o (fun q => by subst q; rw [hPb] at e; cases e) (S.sh.keepP a o e), fun a c e => ?_⟩, S.gens, S.os⟩, ⟨fun _ _ e => e, fun a o e hs _ => hk a o (fun q => by subst q; rw [hc] at hs; cases hs) e, fun _ _ e => .inl e, fun a c e => ?_, fun a o e _ => ?_⟩⟩
  · by_cases ha : a = s.heap.objs.size
    · subst ha
      rw [upd_same] at e; cases e
      exact ⟨hf.1, _, hS', lstRep (us := us.reverse) rfl r.reverse⟩
    · rw [upd_ne ha] at e
      have hab : a ≠ b := fun q => by subst q; rw [del_same] at e; cases e
      rw [del_ne hab] at e
      obtain ⟨h1, o, ho, hr⟩ := S.sh.cells a c e
      exact ⟨h1, o, hk a o hab ho, hr⟩
  · by_cases ha : a = s.heap.objs.size
    · subst ha; exact .inr hfr
    · rw [upd_ne ha] at e
      have hab : a ≠ b := fun q => by subst q; rw [del_same] at e; cases e
      rw [del_ne hab] at e
      exact .inl (by rw [e]; simp)
  · by_cases hab : a = b
    · subst hab; exact hI'
    · exact ⟨o, hk a o hab e⟩
theorem WC.extendRev {a b : Addr} {ds es : List D} (hca : σ a = some (.lst ds)) (hc : σ b = some (.rev es)) (hl : ds.length ≤ 100000) (hl2 : es.length ≤ 100000) (hq : Q (.d .none) (upd (del σ b) a (.lst (ds ++ es.reverse)))) : WC g n (.builtin "list.extend") [.cell a, .cell b] σ Q := fun A E P s vs hA S hv => by
  obtain ⟨v, u, rfl, h1, h2⟩ := hv.two
  have h1' := h1; cases h1'
  have h2' := h2; cases h2'
  obtain ⟨l, us, T, R, r, hul, hPb, o, hPl⟩ := rev_at S hc
  obtain ⟨ws, k, ho, rw', hwl⟩ := cell_at S hca
  have hPa := (S.sh.cells a _ hca).1
  have hab : a ≠ b := fun e => by rw [e, hc] at hca; cases hca
  refine call_extend_rev hA.handled R (by exact o1 (o3 hul hl2) rfl) ho (fun e => by rw [e, hPl] at hPa; cases hPa) (by rw [List.size_toArray]; exact o1 (o3 hwl hl) rfl) fun h' tk c' hk hS' hI' => ?_
  refine ⟨.d .none, P, upd (del σ b) a (.lst (ds ++ es.reverse)), hq, .none, ⟨⟨S.sh.base, fun x o e => hk x o (fun q => by subst q; rw [hPa] at e; cases e) (fun q => by subst q; rw [hPb] at e; cases e) (S.sh.keepP x o e), fun x c e => ?_⟩, S.gens, S.os⟩,
    ⟨fun _ _ e => e, fun x o e hs _ => hk x o (fun q => by subst q; rw [hca] at hs; cases hs) (fun q => by subst q; rw [hc] at hs; cases hs) e, fun _ _ e => .inl e, fun x c e => ?_, fun x o e _ => ?_⟩⟩
  · by_cases hx : x = a
    · subst hx
      rw [upd_same] at e; cases e
      exact ⟨hPa, _, hS', lstRep (us := ws ++ us.reverse) (by simp) (rw'.append r.reverse)⟩
    · rw [upd_ne hx] at e
      have hxb : x ≠ b := fun q => by subst q; rw [del_same] at e; cases e
      rw [del_ne hxb] at e
      obtain ⟨h1, o, ho, hr⟩ := S.sh.cells x c e
      exact ⟨h1, o, hk x o hx hxb ho, hr⟩
  · by_cases hx : x = a
    · subst hx; exact .inl (by rw [hca]; simp)
    · rw [upd_ne hx] at e
      have hxb : x ≠ b := fun q => by subst q; rw [del_same] at e; cases e
      rw [del_ne hxb] at e
      exact .inl (by rw [e]; simp)
  · by_cases hxb : x = b
    · subst hxb; exact hI'
    · by_cases hx : x = a
      · subst hx; exact ⟨_, hS'⟩
      · exact ⟨o, hk x o hx hxb e⟩
theorem WC.listL {ds : List D} (hl : ds.length ≤ 100000) (hq : Q (.d (.lst ds)) σ) : WC g n (.type "list") [.d (.lst ds)] σ Q := fun A E P s vs hA S hv => by
  obtain ⟨v, rfl, h1⟩ := hv.one
  have h1' : Rep g.prog g.w P (.lst ds) v := h1
  cases h1' with
  | @lst a o vs _ hP hs r =>
  obtain ⟨hcl, m, hd⟩ := id hs
  have hvl := r.length
  refine call_list_seq a (.inl rfl) (S.sh.keepP _ _ hP) hcl hd (fun h' c' hk ho => ?_) (by rw [List.size_toArray, sizeLine_eq]; exact o1 (o3 hvl hl) rfl)
  exact PostE.newData (tk := s.toks) S hq hk (Heap.get?_none_of_le (Nat.le_refl _)) ho fun hle hb => .lst hb (SeqO.of (vs := vs)) (r.mono (prog := g.prog) (w := g.w) hle)
theorem WC.listT {ds : List D} (hl : ds.length ≤ 100000) (hq : Q (.d (.lst ds)) σ) : WC g n (.type "list") [.d (.tup ds)] σ Q := fun A E P s vs hA S hv => by
  obtain ⟨v, rfl, h1⟩ := hv.one
  have h1' : Rep g.prog g.w P (.tup ds) v := h1
  cases h1' with
  | @tup a o vs _ hP hs r =>
  obtain ⟨hcl, m, hd⟩ := id hs
  have hvl := r.length
  refine call_list_seq a (.inr rfl) (S.sh.keepP _ _ hP) hcl hd (fun h' c' hk ho => ?_) (by rw [List.size_toArray, sizeLine_eq]; exact o1 (o3 hvl hl) rfl)
  exact PostE.newData (tk := s.toks) S hq hk (Heap.get?_none_of_le (Nat.le_refl _)) ho fun hle hb => .lst hb (SeqO.of (vs := vs)) (r.mono (prog := g.prog) (w := g.w) hle)
end
end
set_option tactic.hygienic false
section
section
variable {g : Gm} {n : Nat} {σ : St} {Q : AV → St → Prop} {env : Env} {ρ : Ro}
theorem Reps.ints {P : PM} : ∀ {ns : List Int} {vs : List Value}, Reps g.prog g.w P (ns.map .int) vs → IntsAre vs ns
  | [], _, .nil => .nil
  | _ :: _, _, .cons h r => by cases h; exact .cons _ _ (Reps.ints r)
theorem Reps.strs {P : PM} : ∀ {ns : List Str} {vs : List Value}, Reps g.prog g.w P (ns.map .str) vs → StrsAre vs ns
  | [], _, .nil => .nil
  | _ :: _, _, .cons h r => by cases h; exact .cons _ _ (Reps.strs r)
theorem reps_of_strs {P : PM} : ∀ {vs : List Value} {ns : List Str}, StrsAre vs ns → Reps g.prog g.w P (ns.map .str) vs
  | _, _, .nil => .nil
  | _, _, .cons x t h => .cons (.str x t) (reps_of_strs h)
theorem IntsAre.all {vs : List Value} {ns : List Int} (h : IntsAre vs ns) : (∀ v ∈ vs, ∃ a t, v = .int a t) ∧ numsOf vs = ns := by
  induction h with
  | nil => exact ⟨fun v hv => by simp at hv, rfl⟩
  | cons n t _ ih =>
    refine ⟨fun v hv => ?_, ?_⟩
    · rcases List.mem_cons.mp hv with rfl | hv
      · exact ⟨n, t, rfl⟩
      · exact ih.1 v hv
    · show n :: numsOf _ = _
      rw [ih.2]

theorem WC.abs {i : Int} (hq : Q (.d (.int (if i < 0 then -i else i))) σ) : WC g n (.builtin "abs") [.d (.int i)] σ Q := fun A E P s vs hA S hv => by
  obtain ⟨v, rfl, h1⟩ := hv.one
  cases h1
  exact call_abs_int fun u tk => PostE.here S hq (.int _ _)
theorem WC.int {i : Int} (hq : Q (.d (.int i)) σ) : WC g n (.type "int") [.d (.int i)] σ Q := fun A E P s vs hA S hv => by
  obtain ⟨v, rfl, h1⟩ := hv.one
  cases h1
  exact call_int_int (PostE.here (tk := s.toks) S hq (.int _ _))
theorem WC.sum {ns : List Int} (hq : Q (.d (.int ns.sum)) σ) : WC g n (.builtin "sum") [.d (.lst (ns.map .int))] σ Q := fun A E P s vs hA S hv => by
  obtain ⟨v, rfl, h1⟩ := hv.one
  obtain ⟨a, us, rfl, hl, r⟩ := Rep.isList S h1
  obtain ⟨hall, hnums⟩ := IntsAre.all r.ints
  obtain ⟨xs, hxs⟩ := AllInts.items (vs := us.toArray) (fun v hv => hall v (by simpa using hv))
  rw [hxs] at hl
  refine sum_intListG hA.handled hl fun h' tk t' hk => ?_
  have e : preSum (numAt xs) xs.size = ns.sum := by
    rw [preSum_eq, List.take_of_length_le (by simp), ← nums_intItems, ← hxs]
    show (numsOf us).sum = _
    rw [hnums]
  rw [e]
  exact PostE.grown S hq (.int _ _) hk
set_option tactic.hygienic true in
theorem WC.range {k : Nat} (hq : Q (.d (.rng k)) σ) : WC g n (.type "range") [.d (.int k)] σ Q := fun A E P s vs hA S hv => by
  obtain ⟨v, rfl, h1⟩ := hv.one
  cases h1
  refine call_range_1 ?_
  rename_i t
  obtain ⟨k1, k2, k3⟩ := push_new (h := s.heap) (o := rngObj k s.toks t (s.toks + 1))
  exact PostE.newData S hq k1 k2 k3 fun hle hb => .rng hb
theorem WC.str {i : Int} (hi : i.natAbs.log2 < 1920) (hq : Q (.d (.str (toString i))) σ) : WC g n (.type "str") [.d (.int i)] σ Q := fun A E P s vs hA S hv => by
  obtain ⟨v, rfl, h1⟩ := hv.one
  cases h1
  exact PySem.P.str_of_int hi (PostE.here S hq (.str _ _))
theorem WC.join {x : Str} {ys : List Str} (hok : (ys.map (·.length)).sum + ys.length * x.length ≤ 16777216) (hq : Q (.d (.str (Txt.join x ys))) σ) : WC g n (.builtin "str.join") [.d (.str x), .d (.lst (ys.map .str))] σ Q := fun A E P s vs hA S hv => by
  obtain ⟨v, u, rfl, h1, h2⟩ := hv.two
  cases h1
  obtain ⟨a, us, rfl, hl, r⟩ := Rep.isList S h2
  exact join_list hl (by simpa using r.strs) hok fun t' k => PostE.here S hq (.str _ _)
theorem WC.find {x y : Str} (hq : Q (.d (.int (Txt.find x y))) σ) : WC g n (.builtin "str.find") [.d (.str x), .d (.str y)] σ Q := fun A E P s vs hA S hv => by
  obtain ⟨v, u, rfl, h1, h2⟩ := hv.two
  cases h1; cases h2
  exact call_gives PySem.F.slot_str_find (typeIs_str _ _ _) PySem.F.entry_str_find (PySem.F.args_str_find_2 _ _) (gives_str_find _ _ _ _) (PostE.here S hq (.int _ _))
end
end
set_option tactic.hygienic false
section
section
variable {prog : Program} {w : World} {A : Around} {E : Value → Shared → Prop} {s : Shared} {K : Type} [DecidableEq K] {knd : PySem.KeyKind prog w K}
theorem collect_dict {d : Addr} {vk : List (K × Value)} {ep : Nat} {Q : List Value → Shared → Prop} (hh : A.handled = none) (hlo : (d == sysModules) = false) (hat : s.heap.DictAt knd d vk ep) (hz : vk.length ≤ 100000)
    (h : ∀ h' tk acc, (∀ b o, s.heap.get? b = some o → h'.get? b = some o) → ItemsOf (fun i v => ∃ k x, vk[i]? = some (k, x) ∧ knd.is k v = true) acc vk.length → Q acc.toList { s with heap := h', toks := tk }) :
    wpAny (model prog w) A (collect (.ref d)) Q E s := by
  unfold collect
  refine wpAny_bind (wpAny_runValue (codeAny_builtin PySem.F.entry_proto_collect ?_))
  rw [Around.under_plainId PySem.F.plain_proto_collect _]
  show wpAny _ A.in1 (newList [] >>= fun l => again (.builtin "list.__iadd__" ⟨[l, .ref d], []⟩)) _ _ s
  refine wpAny_bind (wpAny_newObj_type ?_)
  refine wpAny_pure ⟨plainId_quiet PySem.F.plain_list_iadd _, codeAny_builtin PySem.F.entry_list_iadd ?_⟩
  rw [Around.under_plainId PySem.F.plain_list_iadd _]
  generalize hS : s.heap.objs.size = S
  have hdo : ∃ o, s.heap.get? d = some o := by obtain ⟨o, _, ho, _⟩ := hat; exact ⟨o, ho⟩
  have hdlt : d < S := by obtain ⟨o, ho⟩ := hdo; rw [← hS]; exact Heap.lt_size ho
  have hSd : S ≠ d := Nat.ne_of_gt hdlt
  have hS1S : S + 1 ≠ S := Nat.succ_ne_self S
  have hdS1 : d ≠ S + 1 := Nat.ne_of_lt (Nat.lt_succ_of_lt hdlt)
  have k0 : ∀ b o, s.heap.get? b = some o → (s.heap.push { cls := .type "list", data := .seq ([] : List Value).toArray }).get? b = some o := fun b o e => Heap.get?_push_of_some _ e
  have hS₁ : (s.heap.push { cls := .type "list", data := .seq ([] : List Value).toArray }).get? S = some (seqObj "list" #[] 0) := by rw [← hS]; exact Heap.get?_push_size _ rfl
  have hz1 : (s.heap.push { cls := .type "list", data := .seq ([] : List Value).toArray }).objs.size = S + 1 := by rw [Heap.size_push, hS]
  show wpAny _ A.in1 (Builtin.List.listExtendWith (.ref S) (.ref d) (.ref S)) _ _ { s with heap := s.heap.push { cls := .type "list", data := .seq ([] : List Value).toArray } }
  generalize hH : s.heap.push { cls := .type "list", data := .seq ([] : List Value).toArray } = H at *
  have hat1 : H.DictAt knd d vk ep := hat.at' fun o e => k0 _ _ e
  have hTd : ({ s with heap := H } : Shared).TypeIs (.ref d) "dict" := by
    obtain ⟨o, es, ho, hx, _⟩ := hat1; exact ⟨o, ho, hx.1⟩
  have h1 : Builtin.List.listSameRef (.ref S) (.ref d) = false := by simp [Builtin.List.listSameRef, hSd]
  unfold Builtin.List.listExtendWith
  refine wpAny_bind (wpAny_typeOf hTd ?_)
  rw [if_neg (by rw [h1]; decide)]
  refine wpAny_bind (wpAny_pyIter_dict hlo hat1 ?_)
  have kI : ∀ b o, H.get? b = some o → (H.push { cls := .type "dict_keyiterator", data := .fields #[.ref d, .int 0 0, .int vk.length 0, .int ep 0] }).get? b = some o := fun b o e => Heap.get?_push_of_some _ e
  have hI : (H.push { cls := .type "dict_keyiterator", data := .fields #[.ref d, .int 0 0, .int vk.length 0, .int ep 0] }).get? (S + 1) = some { cls := .type "dict_keyiterator", data := .fields #[.ref d, .int 0 0, .int vk.length 0, .int ep 0] } := by rw [← hz1]; exact Heap.get?_push_size _ rfl
  rw [hz1]
  generalize hH2 : H.push { cls := .type "dict_keyiterator", data := .fields #[.ref d, .int 0 0, .int vk.length 0, .int ep 0] } = H2 at *
  refine wpAny_bind (wpAny_holding ?_)
  have hTd2 : ({ s with heap := H2 } : Shared).TypeIs (.ref d) "dict" := by
    obtain ⟨o, ho, hc⟩ := hTd; exact ⟨o, kI _ _ ho, hc⟩
  unfold Builtin.List.listLengthHint
  refine wpAny_bind (wpAny_specialOf hTd2 PySem.F.slot_dict_len.lookup ?_)
  (generalize hid : ("dict.__len__" : String) = id0; (fail_if_success (clear hid id0)); wp_delta; rw [show splitId id0 = some ("dict", "__len__") from by subst hid; decide +kernel]; subst hid)
  refine wpAny_bind (wpAny_isInstance (b := true) hTd2 (by rw [isSubtype_type]; kernel_rfl) ?_)
  refine wpAny_ite_split (fun hab => absurd hab (by decide)) (fun _ => ?_)
  refine wpAny_ite_split (fun _ => ?_) (fun hab => absurd (by decide +kernel) hab)
  refine wpAny_bind (wpAny_typeOf hTd2 ?_)
  refine wpAny_pure ?_
  refine wpAny_ite_split (fun _ => ?_) (fun hab => absurd (by decide +kernel) hab)
  refine wpAny_bind (wpAny_rule ?_)
  refine wpAny_bind ?_
  show wpAny _ A.in1 (updateSeq S (·.push .none) >>= fun _ => updateSeq S (·.pop)) _ _ _
  have hS2 : H2.get? S = some (seqObj "list" #[] 0) := kI _ _ hS₁
  refine wpAny_bind (wpAny_updateSeq (hz := by rw [sizeLine_eq]; simp) (_hz' := by rw [sizeLine_eq]; simp) (s := { s with heap := H2 }) hS2 rfl ?_)
  have hS₂ := Heap.get?_update_self (Obj.mapSeq (·.push Value.none)) hS2 rfl
  refine wpAny_updateSeq (hz := by rw [sizeLine_eq]; simp) (_hz' := by rw [sizeLine_eq]; simp) hS₂ rfl ?_
  have hS₃ := Heap.get?_update_self (Obj.mapSeq (·.pop)) hS₂ rfl
  have oth : ∀ b o, b ≠ S → H2.get? b = some o → ((H2.update S (Obj.mapSeq (·.push Value.none))).update S (Obj.mapSeq (·.pop))).get? b = some o :=
    fun b o hb e => (Heap.get?_update_other _ _ (Ne.symm hb)).trans ((Heap.get?_update_other _ _ (Ne.symm hb)).trans e)
  have W := (Walks.dictKeys (prog := prog) (w := w) (A := A.in1) (knd := knd) hh (S + 1) d hdS1 vk ep).toS
  have hSf : S ∉ [S + 1, d] := by simp [hSd, Ne.symm hS1S]
  have hatU := hat1.at' (h' := H2) fun o e => kI _ _ e
  refine wpAny_pure ⟨plainId_quiet PySem.F.plain_extend_loop _, codeAny_extend_loopS W (by rw [sizeLine_eq]; exact o1 hz rfl) S hSf _ vk.length 0 _ #[] _ (Nat.sub_zero _) (Nat.zero_le _) ⟨⟨_, oth _ _ hS1S hI, rfl, rfl⟩, hatU.at' fun o e => oth _ _ (Ne.symm hSd) e⟩ (hS₃.trans (congrArg some (show _ = seqObj "list" #[] _ from by simp only [Obj.mapSeq, Array.pop_push]; rfl))) (ItemsOf.nil _) fun s' acc' c' hm hS' hacc => ?_⟩
  show wpAny _ A (load S >>= _) _ _ s'
  refine wpAny_bind (wpAny_load hS' ?_)
  rw [Moved.eq_with hm]
  refine wpAny_pure (h s'.heap s'.toks acc' (fun b o e => ?_) hacc)
  have hb : b < S := by rw [← hS]; exact Heap.lt_size e
  exact hm.heap b o (by simp [Nat.ne_of_lt hb, Nat.ne_of_lt (Nat.lt_succ_of_lt hb)]) (oth b o (Nat.ne_of_lt hb) (kI b o (k0 b o e)))
end
end
set_option tactic.hygienic false
section
-- what the sort asks, and what it gives when the answers are fixed
noncomputable def kasRun {α : Type} (lt : Nat → Nat → Bool) : KasT α → α
  | .ret a => a
  | .ask i j k => kasRun lt (k (lt i j))
noncomputable def KGood {α : Type} (n : Nat) (R : α → Prop) : KasT α → Prop
  | .ret a => R a
  | .ask i j k => i < n ∧ j < n ∧ ∀ b, KGood n R (k b)
theorem KGood.bind {α β : Type} {n : Nat} {R : α → Prop} {R' : β → Prop} {f : α → KasT β} (hf : ∀ a, R a → KGood n R' (f a)) : ∀ (t : KasT α), KGood n R t → KGood n R' (t.bind f)
  | .ret a, h => hf a h
  | .ask i j k, h => ⟨h.1, h.2.1, fun b => KGood.bind hf (k b) (h.2.2 b)⟩
theorem KGood.run {α : Type} {n : Nat} {R : α → Prop} (lt : Nat → Nat → Bool) : ∀ (t : KasT α), KGood n R t → R (kasRun lt t)
  | .ret a, h => h
  | .ask i j k, h => KGood.run lt (k (lt i j)) (h.2.2 _)
theorem KGood.wp {α : Type} {n : Nat} {R : α → Prop} {lt : Nat → Nat → Bool} {cmp : Nat → Nat → (Bool → Shared → Prop) → Shared → Prop} {s : Shared} {Q : α → Shared → Prop} (hc : ∀ i j (C : Bool → Shared → Prop), i < n → j < n → C (lt i j) s → cmp i j C s) :
    ∀ (t : KasT α), KGood n R t → Q (kasRun lt t) s → t.kasWp cmp Q s
  | .ret a, _, h => h
  | .ask i j k, g, h => hc i j _ g.1 g.2.1 (KGood.wp hc (k (lt i j)) (g.2.2 _) h)
noncomputable def Bd (n : Nat) (p : Array Nat) : Prop := (∀ x ∈ p, x < n) ∧ p.size = n
theorem Bd.getD {n : Nat} {p : Array Nat} (h : Bd n p) (h0 : 0 < n) (i : Nat) : p.getD i 0 < n := by
  unfold Array.getD
  split
  · exact h.1 _ (Array.getElem_mem ..)
  · exact h0
theorem Bd.perm {n : Nat} {p q : Array Nat} (h : Bd n p) (hp : q.Perm p) : Bd n q := ⟨fun x hx => h.1 x (hp.mem_iff.mp hx), by rw [hp.size_eq]; exact h.2⟩
theorem Bd.rev {n : Nat} {p : Array Nat} (h : Bd n p) (i j : Nat) : Bd n (kas_rev p i j) := h.perm (mirror_perm _ _ _ _)
theorem kgood_asc {n : Nat} {p : Array Nat} (h : Bd n p) (h0 : 0 < n) : ∀ f m, KGood n (fun _ => True) (kas_asc p f m)
  | 0, m => trivial
  | f + 1, m => ⟨h.getD h0 _, h.getD h0 _, fun b => by
      show KGood n _ (if b = true then _ else _)
      split
      · trivial
      · exact kgood_asc h h0 f _⟩
theorem kgood_desc {n : Nat} (h0 : 0 < n) : ∀ f (p : Array Nat) m q, Bd n p → KGood n (fun r => Bd n r.1) (kas_desc f p m q)
  | 0, p, m, q, h => h
  | f + 1, p, m, q, h => ⟨h.getD h0 _, h.getD h0 _, fun b => by
      show KGood n _ (if b = true then _ else _)
      split
      · split
        · exact kgood_desc h0 f _ _ _ (h.rev _ _)
        · exact kgood_desc h0 f _ _ _ h
      · exact ⟨h.getD h0 _, h.getD h0 _, fun d => by
          show KGood n _ (if d = true then _ else _)
          split
          · exact h
          · exact kgood_desc h0 f _ _ _ h⟩⟩
theorem kgood_tail {n : Nat} (h0 : 0 < n) {p : Array Nat} (m k : Nat) (h : Bd n p) : KGood n (fun r => Bd n r.2) (kas_tail3 m k p) := by
  unfold kas_tail3
  refine KGood.bind (R := fun _ => True) (fun a _ => ?_) _ (kgood_asc (h.rev _ _) h0 _ _)
  show Bd n (kas_rev p 0 m)
  exact h.rev _ _
theorem kgood_descPart {n : Nat} (h0 : 0 < n) {p : Array Nat} (m k : Nat) (h : Bd n p) : KGood n (fun r => Bd n r.2) (kas_descPart m k p) := by
  unfold kas_descPart
  refine KGood.bind (R := fun r => Bd n r.1) (fun r hr => ?_) _ (kgood_desc h0 _ _ _ _ h)
  split
  · exact kgood_tail h0 _ _ (Bd.rev hr _ _)
  · exact kgood_tail h0 _ _ hr
theorem kgood_count {n : Nat} (h0 : 0 < n) {p : Array Nat} (k : Nat) (h : Bd n p) : KGood n (fun r => Bd n r.2) (kas_count k p) := by
  unfold kas_count
  refine KGood.bind (R := fun _ => True) (fun m _ => ?_) _ (kgood_asc h h0 _ _)
  split
  · exact h
  · split
    · refine ⟨h.getD h0 _, h.getD h0 _, fun b => ?_⟩
      show KGood n _ (if b = true then _ else _)
      split
      · exact h
      · exact kgood_descPart h0 _ _ (h.rev _ _)
    · exact kgood_descPart h0 _ _ h
theorem kgood_place {n : Nat} (h0 : 0 < n) {p : Array Nat} (k : Nat) (h : Bd n p) : ∀ f l r, KGood n (fun _ => True) (kas_place p k f l r)
  | 0, _, _ => trivial
  | f + 1, l, r => by
    show KGood n _ (if l ≥ r then _ else _)
    split
    · trivial
    · exact ⟨h.getD h0 _, h.getD h0 _, fun b => by
        show KGood n _ (if b = true then _ else _)
        split
        · exact kgood_place h0 k h f _ _
        · exact kgood_place h0 k h f _ _⟩
theorem kgood_bin {n : Nat} (h0 : 0 < n) : ∀ f (p : Array Nat) k, Bd n p → KGood n (fun p' => Bd n p') (kas_bin f p k)
  | 0, p, k, h => h
  | f + 1, p, k, h => by
    unfold kas_bin
    exact KGood.bind (R := fun _ => True) (fun l _ => kgood_bin h0 f _ _ (h.perm (bubble_perm _ _ _))) _ (kgood_place h0 k h _ _ _)
theorem kgood_sort {n : Nat} (h0 : 0 < n) : KGood n (fun p => Bd n p) (kas_sort n) := by
  have hb : Bd n (List.toArray (List.range n)) := ⟨fun x hx => by simpa using hx, by simp⟩
  unfold kas_sort
  refine KGood.bind (R := fun r => Bd n r.2) (fun r hr => ?_) _ (kgood_count h0 n hb)
  split
  · exact kgood_bin h0 _ _ _ hr
  · exact hr
noncomputable def detIdx (lt : Nat → Nat → Bool) (n : Nat) : List Nat := if n < 2 then List.range n else (kasRun lt (kas_sort n)).toList
theorem detIdx_bd (lt : Nat → Nat → Bool) (n : Nat) : ∀ i ∈ detIdx lt n, i < n := by
  intro i hi
  unfold detIdx at hi
  split at hi
  · simpa using hi
  · exact KGood.run (R := fun p => Bd n p) lt _ (kgood_sort (n := n) (by omega)) |>.1 i (by simpa using hi)
theorem detIdx_len (lt : Nat → Nat → Bool) (n : Nat) : (detIdx lt n).length = n := by
  unfold detIdx
  split
  · simp
  · have := KGood.run (R := fun p => Bd n p) lt _ (kgood_sort (n := n) (by omega))
    simpa using this.2
noncomputable def detSort (lt : D → D → Bool) (l : List D) : List D := (detIdx (fun i j => lt (l.getD i D.none) (l.getD j D.none)) l.length).map fun i => l.getD i D.none
section
variable {prog : Program} {w : World} {A : Around} {E : Value → Shared → Prop} {s : Shared}
theorem range_getD (vs : List Value) : (List.range vs.length).map (fun i => vs.getD i Value.none) = vs := by
  apply List.ext_getElem
  · simp
  · intro i h1 h2
    simp at h1 ⊢
    simp [h2]
theorem list_sort_det {a : Addr} {vs : List Value} {n : Nat} {κ : SortKind} {lt : Nat → Nat → Bool} {P : PySem.Fin → Shared → Prop} (ho : s.heap.get? a = some (seqObj "list" vs.toArray n)) (h64 : vs.length < 64)
    (hkind : 2 ≤ vs.length → ∀ h' (Q : SortKind → Shared → Prop), (∀ b o, b ≠ a → s.heap.get? b = some o → h'.get? b = some o) → Q κ { s with heap := h' } → wpAny (model prog w) A (keyKind' vs.toArray) Q E { s with heap := h' })
    (hcmp : ∀ i j h' (C : Bool → Shared → Prop), i < vs.length → j < vs.length → (∀ b o, b ≠ a → s.heap.get? b = some o → h'.get? b = some o) → C (lt i j) { s with heap := h' } → wpAny (model prog w) A (keyLt' κ (vs.getD i Value.none) (vs.getD j Value.none)) C (fun _ _ => False) { s with heap := h' })
    (h : P (.done (.ret .none)) { s with heap := sortedHeap s.heap a vs ((detIdx lt vs.length).map fun i => vs.getD i Value.none).toArray }) :
    wpAny (model prog w) A (Builtin.«list.sort» ⟨[.ref a], []⟩) P E s := by
  have ha : a < s.heap.objs.size := Heap.lt_size ho
  rw [list_sort_plain]
  refine wpAny_bind (listItems_at ho rfl ?_)
  refine wpAny_bind (listUpdate_at ho rfl ?_ (by rw [List.size_toArray, sizeLine_eq]; exact o1 (o5 h64) rfl) (Nat.zero_le _))
  obtain ⟨e1, ho1⟩ : ∃ e1, (s.heap.update a (Obj.mapSeq fun _ => #[])).get? a = some (seqObj "list" #[] e1) := ⟨_, get?_update_seq ho (fun _ => #[])⟩
  refine wpAny_bind (seqEpoch_at ho1 rfl ?_)
  refine wpAny_bind (wpAny_newTuple ?_ (by show vs.length ≤ _; rw [sizeLine_eq]; exact o1 (o5 h64) rfl))
  refine wpAny_bind (wpAny_newList ?_ (Nat.zero_le _))
  refine wpAny_holding ?_
  have ho6 : (((s.heap.update a (Obj.mapSeq fun _ => #[])).push (seqObj "tuple" vs.toArray 0)).push (seqObj "list" #[] 0)).get? a = some (seqObj "list" #[] e1) := by
    rw [Heap.get?_push_ne _ _ _ (by rw [size_push', Heap.size_update]; exact Nat.ne_of_lt (Nat.lt_succ_of_lt ha)), Heap.get?_push_ne _ _ _ (by rw [Heap.size_update]; exact Nat.ne_of_lt ha)]
    exact ho1
  have keep : ∀ b o, b ≠ a → s.heap.get? b = some o → (((s.heap.update a (Obj.mapSeq fun _ => #[])).push (seqObj "tuple" vs.toArray 0)).push (seqObj "list" #[] 0)).get? b = some o := fun b o hb e =>
    Heap.get?_push_of_some _ (Heap.get?_push_of_some _ ((Heap.get?_update_other _ _ (Ne.symm hb)).trans e))
  show wpAny (model prog w) A _ P E { s with heap := ((s.heap.update a (Obj.mapSeq fun _ => #[])).push (seqObj "tuple" vs.toArray 0)).push (seqObj "list" #[] 0) }
  dsimp only
  by_cases h2 : vs.toArray.size < 2
  · rw [if_pos h2, if_pos h2]
    refine wpAny_bind (wpAny_pure ?_)
    rw [StateT.run_pure]
    refine wpAny_bind (wpAny_pure ?_)
    dsimp only
    refine wpAny_bind (seqEpoch_at ho6 rfl ?_)
    have e : (arrOf (SortSt.mk' general' (vs.toArray.zip vs.toArray) #[] 7 none)).map (·.2) = ((detIdx lt vs.length).map fun i => vs.getD i Value.none).toArray := by
      have hl2 : vs.length < 2 := by simpa using h2
      unfold detIdx
      rw [if_pos hl2, range_getD]
      show (vs.toArray.zip vs.toArray).map (·.2) = _
      apply Array.toList_inj.mp
      simp [List.map_snd_zip]
    rw [e]
    refine wpAny_bind (listUpdate_at ho6 rfl ?_ (Nat.zero_le _) (by rw [← e, Array.size_map]; show (vs.toArray.zip vs.toArray).size ≤ _; rw [sizeLine_eq]; simp; exact o1 (o5 h64) rfl))
    simp only [bne_self_eq_false, Bool.false_eq_true, if_false]
    exact wpAny_pure h
  · rw [if_neg h2, if_neg h2]
    have hl2 : 2 ≤ vs.length := by simpa using h2
    refine wpAny_bind (hkind hl2 _ _ keep ?_)
    have ask : (kas_sort vs.length).kasWp (kas_ask prog w A κ vs) (fun p s' => p = kasRun lt (kas_sort vs.length) ∧ s' = { s with heap := ((s.heap.update a (Obj.mapSeq fun _ => #[])).push (seqObj "tuple" vs.toArray 0)).push (seqObj "list" #[] 0) }) { s with heap := ((s.heap.update a (Obj.mapSeq fun _ => #[])).push (seqObj "tuple" vs.toArray 0)).push (seqObj "list" #[] 0) } :=
      KGood.wp (lt := lt) (R := fun p => Bd vs.length p) (fun i j C hi hj hC => hcmp i j _ C hi hj keep hC) _ (kgood_sort (by omega)) ⟨rfl, rfl⟩
    refine wpAny_bind (wpAny_mono (kat_run (Q := fun st' s' => (kasRun lt (kas_sort vs.length)).size = vs.length ∧ arrOf st' = (kasRun lt (kas_sort vs.length)).map (kas_item (vs.toArray.zip vs.toArray)) ∧ failedOf st' = none ∧ s' = { s with heap := ((s.heap.update a (Obj.mapSeq fun _ => #[])).push (seqObj "tuple" vs.toArray 0)).push (seqObj "list" #[] 0) })
      rfl hl2 h64 (fun p' st' s' a1 a2 a3 a4 => ⟨by rw [← a4.1]; exact a1, by rw [a2, a4.1], a3, a4.2⟩) ask) ?_ fun _ _ e => e)
    rintro ⟨⟨⟩, st'⟩ s' ⟨hps, har, hf, rfl⟩
    dsimp only
    have hout := kat_snds (ks := vs) (vs := vs) rfl har
    refine wpAny_bind (seqEpoch_at ho6 rfl ?_)
    have e : (arrOf st').map (·.2) = ((detIdx lt vs.length).map fun i => vs.getD i Value.none).toArray := by
      rw [hout]; unfold detIdx; rw [if_neg (by omega)]
    have hsz : (arrOf st').size = vs.length := by
      rw [har, Array.size_map, hps]
    rw [e]
    refine wpAny_bind (listUpdate_at ho6 rfl ?_ (Nat.zero_le _) (by rw [← e, Array.size_map, hsz, sizeLine_eq]; exact o1 (o5 h64) rfl))
    rw [hf]
    simp only [bne_self_eq_false, Bool.false_eq_true, if_false]
    exact wpAny_pure h
end
end
set_option tactic.hygienic false
section
noncomputable def ltD : D → D → Bool
  | .int i, .int j => decide (i < j)
  | .str x, .str y => decide (x.cps.toList < y.cps.toList)
  | .tup [.int i, .str x], .tup [.int j, .str y] => if i = j then (if x = y then false else decide (x.cps.toList < y.cps.toList)) else decide (i < j)
  | .tup [.int i, .int x], .tup [.int j, .int y] => if i = j then (if x = y then false else decide (x < y)) else decide (i < j)
  | _, _ => false
theorem ltD_m (i j : Int) (x y : Str) : ltD (.tup [.int i, .str x]) (.tup [.int j, .str y]) = if i = j then (if x = y then false else decide (x.cps.toList < y.cps.toList)) else decide (i < j) := rfl
theorem ltD_p (i j x y : Int) : ltD (.tup [.int i, .int x]) (.tup [.int j, .int y]) = if i = j then (if x = y then false else decide (x < y)) else decide (i < j) := rfl
section
variable {g : Gm} {n : Nat} {σ : St} {Q : AV → St → Prop}
noncomputable def SortOk (g : Gm) (ds : List D) : Prop := ∃ κ : SortKind, ∀ (P : PM) (A : Around) (E : Value → Shared → Prop) (s : Shared) (vs : List Value), (∀ a o, P a = some o → s.heap.get? a = some o) → Reps g.prog g.w P ds vs →
  (2 ≤ vs.length → ∀ Q : SortKind → Shared → Prop, Q κ s → wpAny g.M A (keyKind' vs.toArray) Q E s) ∧
  (∀ i j (C : Bool → Shared → Prop), i < vs.length → j < vs.length → C (ltD (ds.getD i D.none) (ds.getD j D.none)) s → wpAny g.M A (keyLt' κ (vs.getD i Value.none) (vs.getD j Value.none)) C (fun _ _ => False) s)
theorem two_of {α : Type} {l : List α} (h : 2 ≤ l.length) : ∃ a b r, l = a :: b :: r := by
  cases l with
  | nil => cases h
  | cons a l => cases l with
    | nil => exact absurd h (Nat.lt_irrefl 1)
    | cons b r => exact ⟨a, b, r, rfl⟩
theorem getD_of {α : Type} {l : List α} {i : Nat} {x d : α} (h : l[i]? = some x) : l.getD i d = x := by simp [List.getD, h]
theorem Reps.at {P : PM} {ds : List D} {vs : List Value} (r : Reps g.prog g.w P ds vs) {i : Nat} (h : i < vs.length) : Rep g.prog g.w P (ds.getD i D.none) (vs.getD i Value.none) := by
  have hd : i < ds.length := by rw [← r.length]; exact h
  obtain ⟨v, h1, h2⟩ := r.get (List.getElem?_eq_getElem hd)
  rw [getD_of (List.getElem?_eq_getElem hd), getD_of h1]
  exact h2
theorem SortOk.ints (ns : List Int) : SortOk g (ns.map .int) := ⟨oneType', fun P A E s vs hP r => ⟨fun h2 Q hq => by
    have hI := r.ints
    obtain ⟨v₁, v₂, rest, rfl⟩ := two_of h2
    rw [keyKind_ints hI]
    exact wpAny_pure hq, fun i j C hi hj hC => by
    have a := r.at hi
    have b := r.at hj
    have hi' : i < ns.length := by simpa [r.length] using hi
    have hj' : j < ns.length := by simpa [r.length] using hj
    have e1 : (ns.map D.int).getD i D.none = .int ns[i] := getD_of (by simp [hi'])
    have e2 : (ns.map D.int).getD j D.none = .int ns[j] := getD_of (by simp [hj'])
    rw [e1] at a hC; rw [e2] at b hC
    generalize vs.getD i Value.none = x at *
    generalize vs.getD j Value.none = y at *
    cases a; cases b
    exact kat_lt_int hC⟩⟩
theorem firsts_tups {P : PM} {h : Heap} (hP : ∀ a o, P a = some o → h.get? a = some o) {β : Type} (f : Int × β → D) (hf : ∀ p, ∃ x, f p = .tup [.int p.1, x]) : ∀ {ps : List (Int × β)} {vs : List Value}, Reps g.prog g.w P (ps.map f) vs → ∃ fs : List Value, KatTups h vs fs ∧ fs.length = vs.length ∧ ∀ v ∈ fs, ∃ i t, v = .int i t
  | [], _, .nil => ⟨[], trivial, rfl, fun v hv => by simp at hv⟩
  | p :: ps, _, .cons h1 r => by
    obtain ⟨fs, h2, h3, h4⟩ := firsts_tups hP f hf r
    obtain ⟨x, hx⟩ := hf p
    rw [hx] at h1
    cases h1 with
    | tup hPo hs rr =>
      cases rr with
      | cons q1 q2 =>
        cases q1 with
        | int i t =>
          obtain ⟨hcl, m, hd⟩ := hs
          exact ⟨.int p.1 t :: fs, KatTups.cons (hP _ _ hPo) hcl hd (by simp) h2, by simp [h3], fun v hv => by
            rcases List.mem_cons.mp hv with rfl | hv
            · exact ⟨_, _, rfl⟩
            · exact h4 v hv⟩
theorem tup_kind {P : PM} {A : Around} {E : Value → Shared → Prop} {s : Shared} (hP : ∀ a o, P a = some o → s.heap.get? a = some o) {β : Type} (f : Int × β → D) (hf : ∀ p, ∃ x, f p = .tup [.int p.1, x]) {ps : List (Int × β)} {vs : List Value} (r : Reps g.prog g.w P (ps.map f) vs) (h2 : 2 ≤ vs.length) {Q : SortKind → Shared → Prop} (hq : Q (tuples' true) s) : wpAny g.M A (keyKind' vs.toArray) Q E s := by
  obtain ⟨fs, h1, h3, h4⟩ := firsts_tups hP f hf r
  refine kat_kind (T := .type "int") h1 (by omega) (fun v hv => ?_) rfl hq
  obtain ⟨i, t, rfl⟩ := h4 v hv
  exact Looks.of_pure rfl
theorem two_items {P : PM} {h : Heap} (hP : ∀ a o, P a = some o → h.get? a = some o) {x y : D} {v : Value} (hr : Rep g.prog g.w P (.tup [x, y]) v) : ∃ a o m u w', v = .ref a ∧ h.get? a = some o ∧ o.data = .seq #[u, w'] m ∧ Rep g.prog g.w P x u ∧ Rep g.prog g.w P y w' := by
  cases hr with
  | tup hPo hs rr =>
    cases rr with
    | cons q1 rr =>
    cases rr with
    | cons q2 rr =>
    cases rr
    obtain ⟨hcl, m, hd⟩ := hs
    exact ⟨_, _, m, _, _, rfl, hP _ _ hPo, hd, q1, q2⟩
theorem SortOk.marks (ps : List (Int × Str)) : SortOk g (ps.map fun p => .tup [.int p.1, .str p.2]) := ⟨tuples' true, fun P A E s vs hP r => ⟨fun h2 Q hq => tup_kind hP _ (fun p => ⟨_, rfl⟩) r h2 hq, fun i j C hi hj hC => by
    have a := r.at hi
    have b := r.at hj
    have hi' : i < ps.length := by simpa [r.length] using hi
    have hj' : j < ps.length := by simpa [r.length] using hj
    have e1 : (ps.map fun p => D.tup [.int p.1, .str p.2]).getD i D.none = .tup [.int ps[i].1, .str ps[i].2] := getD_of (by simp [hi'])
    have e2 : (ps.map fun p => D.tup [.int p.1, .str p.2]).getD j D.none = .tup [.int ps[j].1, .str ps[j].2] := getD_of (by simp [hj'])
    rw [e1] at a hC; rw [e2] at b hC
    generalize ps[i] = p at *
    generalize ps[j] = q at *
    generalize vs.getD i Value.none = x at *
    generalize vs.getD j Value.none = y at *
    obtain ⟨a1, o1, m1, u1, w1, rfl, ho1, hd1, ru1, rw1⟩ := two_items hP a
    obtain ⟨a2, o2, m2, u2, w2, rfl, ho2, hd2, ru2, rw2⟩ := two_items hP b
    cases ru1; cases ru2; cases rw1; cases rw2
    refine kat_lt ho1 hd1 ho2 hd2 ?_
    refine kat_cons (SeqAt.EqAt.int_int _ _ _ _ _ _ _ _ ?_)
    by_cases h : p.1 = q.1
    · rw [h, beq_self_eq_true]
      refine kat_yes (kat_cons (SeqAt.EqAt.str_str _ _ _ _ _ _ _ _ ?_))
      by_cases h2 : p.2 = q.2
      · rw [h2, beq_self_eq_true]
        refine kat_yes (kat_nil ?_)
        rw [ltD_m, if_pos h, if_pos h2] at hC; exact hC
      · rw [beq_eq_false_iff_ne.mpr h2]
        refine kat_no ?_
        refine kat_one _ _ ?_
        refine PyProof.Rows.lt_str ?_
        show C _ s
        rw [ltD_m, if_pos h, if_neg h2] at hC; exact hC
    · rw [beq_eq_false_iff_ne.mpr h]
      refine kat_no ?_
      refine oneLt_int ?_
      rw [ltD_m, if_neg h] at hC; exact hC⟩⟩
theorem SortOk.pairs (ps : List (Int × Int)) : SortOk g (ps.map fun p => .tup [.int p.1, .int p.2]) := ⟨tuples' true, fun P A E s vs hP r => ⟨fun h2 Q hq => tup_kind hP _ (fun p => ⟨_, rfl⟩) r h2 hq, fun i j C hi hj hC => by
    have a := r.at hi
    have b := r.at hj
    have hi' : i < ps.length := by simpa [r.length] using hi
    have hj' : j < ps.length := by simpa [r.length] using hj
    have e1 : (ps.map fun p => D.tup [.int p.1, .int p.2]).getD i D.none = .tup [.int ps[i].1, .int ps[i].2] := getD_of (by simp [hi'])
    have e2 : (ps.map fun p => D.tup [.int p.1, .int p.2]).getD j D.none = .tup [.int ps[j].1, .int ps[j].2] := getD_of (by simp [hj'])
    rw [e1] at a hC; rw [e2] at b hC
    generalize ps[i] = p at *
    generalize ps[j] = q at *
    generalize vs.getD i Value.none = x at *
    generalize vs.getD j Value.none = y at *
    obtain ⟨a1, o1, m1, u1, w1, rfl, ho1, hd1, ru1, rw1⟩ := two_items hP a
    obtain ⟨a2, o2, m2, u2, w2, rfl, ho2, hd2, ru2, rw2⟩ := two_items hP b
    cases ru1; cases ru2; cases rw1; cases rw2
    refine kat_lt ho1 hd1 ho2 hd2 ?_
    refine kat_cons (SeqAt.EqAt.int_int _ _ _ _ _ _ _ _ ?_)
    by_cases h : p.1 = q.1
    · rw [h, beq_self_eq_true]
      refine kat_yes (kat_cons (SeqAt.EqAt.int_int _ _ _ _ _ _ _ _ ?_))
      by_cases h2 : p.2 = q.2
      · rw [h2, beq_self_eq_true]
        refine kat_yes (kat_nil ?_)
        rw [ltD_p, if_pos h, if_pos h2] at hC; exact hC
      · rw [beq_eq_false_iff_ne.mpr h2]
        refine kat_no ?_
        refine kat_one _ _ ?_
        refine PyProof.Rows.lt_int ?_
        show C _ s
        rw [ltD_p, if_pos h, if_neg h2] at hC; exact hC
    · rw [beq_eq_false_iff_ne.mpr h]
      refine kat_no ?_
      refine oneLt_int ?_
      rw [ltD_p, if_neg h] at hC; exact hC⟩⟩

-- sorted
theorem Reps.pick {P : PM} {ds : List D} {vs : List Value} (r : Reps g.prog g.w P ds vs) : ∀ (idx : List Nat), (∀ i ∈ idx, i < ds.length) → Reps g.prog g.w P (idx.map fun i => ds.getD i D.none) (idx.map fun i => vs.getD i Value.none)
  | [], _ => .nil
  | i :: idx, h => .cons (r.at (by rw [r.length]; exact h i (.head _))) (Reps.pick r idx fun k hk => h k (.tail _ hk))
noncomputable def Collects (g : Gm) (n : Nat) (a : AV) (ds : List D) (σ : St) : Prop :=
  ∀ A E P s v (Q : List Value → Shared → Prop), OkA n A → SS g.prog g.w g.s₁ P σ s → RepA g.prog g.w P a v →
    (∀ h' tk vs, (∀ b o, s.heap.get? b = some o → h'.get? b = some o) → Reps g.prog g.w P ds vs → Q vs { s with heap := h', toks := tk }) → wpAny g.M A.in1 (collect v) Q E s
theorem Collects.lst {ds : List D} (hl : ds.length ≤ 100000) : Collects g n (.d (.lst ds)) ds σ := fun A E P s v Q hA S hr h => by
  obtain ⟨a, us, rfl, hl', r⟩ := Rep.isList S hr
  have hul := r.length
  refine collect_list hl' (h _ s.toks us (fun b o e => ?_) r) (by rw [sizeLine_eq]; exact o1 (o3 hul hl) rfl)
  exact (Heap.get?_update_other _ _ (Ne.symm (Nat.ne_of_lt (Heap.lt_size e)))).trans (Heap.get?_push_of_some _ e)
theorem keys_reps {P : PM} {K : Type} [DecidableEq K] {knd : PySem.KeyKind g.prog g.w K} (enc : K → D) (henc : ∀ k v P, knd.is k v = true → Rep g.prog g.w P (enc k) v) : ∀ (vk : List (K × Value)) (l : List Value), l.length = vk.length → (∀ (i : Nat) (v : Value), l[i]? = some v → ∃ k x, vk[i]? = some (k, x) ∧ knd.is k v = true) → Reps g.prog g.w P (vk.map fun p => enc p.1) l
  | [], [], _, _ => .nil
  | [], _ :: _, h, _ => by simp at h
  | _ :: _, [], h, _ => by simp at h
  | p :: vk, v :: l, h, hh => by
    obtain ⟨k, x, h1, h2⟩ := hh 0 v rfl
    simp at h1
    refine .cons ?_ (keys_reps enc henc vk l (by simpa using h) fun i v hv => by simpa using hh (i + 1) v (by simpa using hv))
    rw [h1]; exact henc _ _ _ h2
theorem Collects.dcts {kvs : List (Str × D)} (hl : kvs.length ≤ 100000) : Collects g n (.d (.dcts kvs)) (kvs.map fun p => .str p.1) σ := fun A E P s v Q hA S hr h => by
  cases hr with
  | @dcts a o vk _ hP hd hlo hk r =>
  have hvl : vk.length = kvs.length := by have := congrArg List.length hk; simpa using this.symm
  obtain ⟨ep, hat⟩ := Obj.IsDictOf.dictAt hd (S.sh.keepP _ _ hP)
  refine collect_dict (A := A.in1) hA.handled hlo hat (by exact o1 (o3 hvl hl) rfl) fun h' tk acc hkeep hacc => h h' tk _ hkeep ?_
  have e : (kvs.map fun p => D.str p.1) = vk.map fun p => D.str p.1 := by
    have := congrArg (List.map D.str) hk
    rw [List.map_map, List.map_map] at this
    exact this
  rw [e]
  refine keys_reps D.str (fun k v P hv => ?_) vk acc.toList (by simpa using hacc.1) fun i v hv => hacc.2 i v (by simpa using hv)
  obtain ⟨t, rfl⟩ := Value.isStrOf_shape hv
  exact .str _ _
theorem Collects.dcti {kvs : List (Int × D)} (hl : kvs.length ≤ 100000) : Collects g n (.d (.dcti kvs)) (kvs.map fun p => .int p.1) σ := fun A E P s v Q hA S hr h => by
  cases hr with
  | @dcti a o vk _ hP hd hlo hk r =>
  have hvl : vk.length = kvs.length := by have := congrArg List.length hk; simpa using this.symm
  obtain ⟨ep, hat⟩ := Obj.IsDictOf.dictAt hd (S.sh.keepP _ _ hP)
  refine collect_dict (A := A.in1) hA.handled hlo hat (by exact o1 (o3 hvl hl) rfl) fun h' tk acc hkeep hacc => h h' tk _ hkeep ?_
  have e : (kvs.map fun p => D.int p.1) = vk.map fun p => D.int p.1 := by
    have := congrArg (List.map D.int) hk
    rw [List.map_map, List.map_map] at this
    exact this
  rw [e]
  refine keys_reps D.int (fun k v P hv => ?_) vk acc.toList (by simpa using hacc.1) fun i v hv => hacc.2 i v (by simpa using hv)
  obtain ⟨t, rfl⟩ := Value.isInt_shape hv
  exact .int _ _
theorem WC.sorted {a : AV} {ds : List D} (hc : Collects g n a ds σ) (hok : SortOk g ds) (h64 : ds.length < 64) (hq : Q (.d (.lst (detSort ltD ds))) σ) : WC g n (.builtin "sorted") [a] σ Q := fun A E P s vs hA S hv => by
  obtain ⟨v, rfl, h1⟩ := hv.one
  refine Calls.call_function_entry kind_sorted plain_sorted entry_sorted (args_sorted1 _) ?_
  unfold Builtin.«sorted»
  refine wpAny_bind (m := checkCount "sorted" 1 1 _) (wpAny_pure ?_)
  refine wpAny_bind (hc A E P s v _ hA S h1 fun h₁ tk₁ us hk₁ r => ?_)
  have hul := r.length
  refine wpAny_bind (wpAny_newList ?_ (by rw [sizeLine_eq]; exact o1 (o3 hul (o5 h64)) rfl))
  show wpAny _ _ _ _ _ { s with heap := h₁.push (seqObj "list" us.toArray 0), toks := tk₁ }
  have hoL : (h₁.push (seqObj "list" us.toArray 0)).get? h₁.objs.size = some (seqObj "list" us.toArray 0) := Heap.get?_push_size _ rfl
  have hfr : s.heap.get? h₁.objs.size = none := by
    cases e : s.heap.get? h₁.objs.size with
    | none => rfl
    | some o => exact absurd (Heap.lt_size (hk₁ _ _ e)) (Nat.lt_irrefl _)
  have hPf := (S.sh.fresh hfr).1
  have hP' : ∀ h' : Heap, (∀ b o, b ≠ h₁.objs.size → (h₁.push (seqObj "list" us.toArray 0)).get? b = some o → h'.get? b = some o) → ∀ a o, P a = some o → h'.get? a = some o := fun h' hk a o e =>
    hk a o (fun q => by subst q; rw [hPf] at e; cases e) (Heap.get?_push_of_some _ (hk₁ _ _ (S.sh.keepP _ _ e)))
  obtain ⟨κ, hκ⟩ := hok
  let lt : Nat → Nat → Bool := fun i j => ltD (ds.getD i D.none) (ds.getD j D.none)
  refine wpAny_bind (wpAny_holding (wpAny_call_entry slot_list_sort ⟨_, hoL, rfl⟩ entry_list_sort (list_sort_det (lt := lt) (κ := κ) hoL (by exact o2 (o3 hul (o5 h64)) rfl) (fun h2 h' Q' hk hq' => (hκ P _ _ { s with heap := h', toks := tk₁ } us (hP' h' hk) r).1 h2 Q' hq')
    (fun i j h' C hi hj hk hC => (hκ P _ E { s with heap := h', toks := tk₁ } us (hP' h' hk) r).2 i j C hi hj hC) ⟨_, rfl, ?_⟩) (args_list_sort _)))
  refine wpAny_pure ⟨_, rfl, ?_⟩
  obtain ⟨e1, he1⟩ := sortedHeap_at (out := ((detIdx lt us.length).map fun i => us.getD i Value.none).toArray) hoL
  have rr := r.pick (detIdx lt us.length) fun i hi => by rw [← hul]; exact detIdx_bd _ _ i hi
  have e : detSort ltD ds = (detIdx lt us.length).map fun i => ds.getD i D.none := by rw [hul]; rfl
  rw [e] at hq
  refine PostE.newData (tk := tk₁) S hq (fun b o eb => ?_) hfr he1 fun hle hb => .lst hb (SeqO.of (vs := (detIdx lt us.length).map fun i => us.getD i Value.none)) (rr.mono (prog := g.prog) (w := g.w) hle)
  have hlt := Heap.lt_size (hk₁ _ _ eb)
  rw [sortedHeap_old (Nat.ne_of_lt hlt) (by rw [Heap.size_push]; exact Nat.lt_succ_of_lt hlt)]
  exact Heap.get?_push_of_some _ (hk₁ _ _ eb)
end
end
set_option tactic.hygienic false
section
-- texts in order
noncomputable def leS (x y : Str) : Prop := ¬ y.cps.toList < x.cps.toList
noncomputable def leSb (x y : Str) : Bool := !decide (y.cps.toList < x.cps.toList)
theorem leSb_iff {x y : Str} : leSb x y = true ↔ leS x y := by unfold leSb leS; simp
theorem leS_trans {x y z : Str} (h1 : leS x y) (h2 : leS y z) : leS x z := by
  unfold leS at *
  intro h
  rcases PyProof.Rows.strKind.negTrans _ y.cps.toList _ (decide_eq_true h) with q | q
  · exact h2 (of_decide_eq_true q)
  · exact h1 (of_decide_eq_true q)
theorem leS_antisymm {x y : Str} (h1 : leS x y) (h2 : leS y x) : x = y := by
  have := PyProof.Rows.strKind.total x.cps.toList y.cps.toList (decide_eq_false h2) (decide_eq_false h1)
  cases x; cases y
  simp only [Str.mk.injEq]
  exact Array.toList_inj.mp this
theorem leS_total (x y : Str) : leS x y ∨ leS y x := by
  unfold leS
  by_cases h : y.cps.toList < x.cps.toList
  · right; intro h'
    have := PyProof.Rows.strKind.trans _ _ _ (decide_eq_true h) (decide_eq_true h')
    rw [PyProof.Rows.strKind.irrefl] at this; cases this
  · exact .inl h
noncomputable def sortS (xs : List Str) : List Str := xs.mergeSort leSb
theorem sortS_perm (xs : List Str) : (sortS xs).Perm xs := List.mergeSort_perm _ _
theorem sortS_pw (xs : List Str) : (sortS xs).Pairwise leS := by
  have := List.pairwise_mergeSort (le := leSb) (fun a b c h1 h2 => leSb_iff.mpr (leS_trans (leSb_iff.mp h1) (leSb_iff.mp h2))) (fun a b => by
    rcases leS_total a b with h | h
    · rw [leSb_iff.mpr h]; rfl
    · rw [leSb_iff.mpr h, Bool.or_true]) xs
  exact this.imp fun h => leSb_iff.mp h
theorem sortS_uniq {xs ys : List Str} (hp : ys.Perm xs) (hs : ys.Pairwise leS) : ys = sortS xs :=
  List.Perm.eq_of_pairwise (fun a b _ _ h1 h2 => leS_antisymm h1 h2) hs (sortS_pw xs) (hp.trans (sortS_perm xs).symm)
theorem sortS_filter (p : Str → Bool) (xs : List Str) : (sortS xs).filter p = sortS (xs.filter p) :=
  sortS_uniq ((sortS_perm xs).filter p) ((sortS_pw xs).filter p)
theorem rising_pw : ∀ (p : Str) (l : List Str), risingS p l = true → (p :: l).Pairwise leS
  | p, [], _ => by simp
  | p, x :: r, h => by
    have h' : (!PySem.Spec.ltCps x.cps.toList p.cps.toList && risingS x r) = true := h
    rw [Bool.and_eq_true] at h'
    have ih := rising_pw x r h'.2
    have hpx : leS p x := by
      have := h'.1
      rw [ltCps_eq] at this
      exact leSb_iff.mp this
    refine List.pairwise_cons.mpr ⟨fun y hy => ?_, ih⟩
    rcases List.mem_cons.mp hy with rfl | hy
    · exact hpx
    · exact leS_trans hpx ((List.pairwise_cons.mp ih).1 y hy)
theorem sortedS_uniq {xs ys : List Str} (hp : ys.Perm xs) (hs : sortedS ys = true) : ys = sortS xs := by
  refine sortS_uniq hp ?_
  cases ys with
  | nil => exact .nil
  | cons x r => exact rising_pw x r hs
section
variable {g : Gm} {n : Nat} {σ : St} {Q : AV → St → Prop}
theorem WC.sortedS {a : AV} {ns : List Str} (hc : Collects g n a (ns.map .str) σ) (h64 : ns.length < 64) (hq : Q (.d (.lst ((sortS ns).map .str))) σ) : WC g n (.builtin "sorted") [a] σ Q := fun A E P s vs hA S hv => by
  obtain ⟨v, rfl, h1⟩ := hv.one
  refine Calls.call_function_entry kind_sorted plain_sorted entry_sorted (args_sorted1 _) ?_
  unfold Builtin.«sorted»
  refine wpAny_bind (m := checkCount "sorted" 1 1 _) (wpAny_pure ?_)
  refine wpAny_bind (hc A E P s v _ hA S h1 fun h₁ tk₁ us hk₁ r => ?_)
  have hul : us.length = ns.length := by simpa using r.length
  refine wpAny_bind (wpAny_newList ?_ (by rw [sizeLine_eq]; exact o1 (o3 hul (o5 h64)) rfl))
  show wpAny _ _ _ _ _ { s with heap := h₁.push (seqObj "list" us.toArray 0), toks := tk₁ }
  have hoL : (h₁.push (seqObj "list" us.toArray 0)).get? h₁.objs.size = some (seqObj "list" us.toArray 0) := Heap.get?_push_size _ rfl
  have hfr : s.heap.get? h₁.objs.size = none := by
    cases e : s.heap.get? h₁.objs.size with
    | none => rfl
    | some o => exact absurd (Heap.lt_size (hk₁ _ _ e)) (Nat.lt_irrefl _)
  have hS := r.strs
  refine wpAny_bind (wpAny_holding (wpAny_call_entry slot_list_sort ⟨_, hoL, rfl⟩ entry_list_sort (list_sort_treeK strKind_oneLt hoL hS.keysOf (fun v₁ v₂ rest e => keyKind_strs (by rw [← e]; exact hS)) (by exact o2 (o3 hul (o5 h64)) rfl) fun st' hp hs => ⟨_, rfl, ?_⟩) (args_list_sort _)))
  refine wpAny_pure ⟨_, rfl, ?_⟩
  obtain ⟨ss', h1', h2, h3⟩ := sorted_out_str hS hp hs
  obtain ⟨e1, he1⟩ := sortedHeap_at (out := (arrOf st').map (·.2)) hoL
  rw [← sortedS_uniq h2 h3] at hq
  refine PostE.newData (tk := tk₁) S hq (fun b o eb => ?_) hfr he1 fun hle hb => .lst hb (vs := ((arrOf st').map (·.2)).toList) ⟨rfl, e1, congrArg (fun x => Data.seq x e1) (Array.toArray_toList).symm⟩ (reps_of_strs h1')
  have hlt := Heap.lt_size (hk₁ _ _ eb)
  rw [sortedHeap_old (Nat.ne_of_lt hlt) (by rw [Heap.size_push]; exact Nat.lt_succ_of_lt hlt)]
  exact Heap.get?_push_of_some _ (hk₁ _ _ eb)

-- dicts compared
theorem valueAt_self {K : Type} [DecidableEq K] : ∀ {vk : List (K × Value)} {k : K} {v : Value}, (vk.map (·.1)).Nodup → (k, v) ∈ vk → valueAt vk k = some v
  | (k', v') :: vk, k, v, hn, hm => by
    simp only [List.map_cons, List.nodup_cons] at hn
    rcases List.mem_cons.mp hm with e | hm
    · cases e; simp [valueAt]
    · have hne : k' ≠ k := fun e => hn.1 (List.mem_map.mpr ⟨_, hm, e.symm⟩)
      have := valueAt_self hn.2 hm
      unfold valueAt at this ⊢
      simp only [List.find?_cons, hne, decide_false]
      exact this
theorem hits_same {P : PM} {A : Around} {s : Shared} (hP : ∀ a o, P a = some o → s.heap.get? a = some o) (hu : A.units + 70 < cLine) {K : Type} [DecidableEq K] : ∀ {r : List (K × D)} {ra rb kb : List (K × Value)}, (∀ p ∈ r, p.2.ok = true) →
    r.map (·.1) = ra.map (·.1) → r.map (·.1) = rb.map (·.1) → Reps g.prog g.w P (r.map (·.2)) (ra.map (·.2)) → Reps g.prog g.w P (r.map (·.2)) (rb.map (·.2)) → (∀ p ∈ rb, p ∈ kb) → (kb.map (·.1)).Nodup → KeqHits A s kb ra true
  | [], [], _, _, _, _, _, _, _, _, _ => .nil
  | [], _ :: _, _, _, _, h, _, _, _, _, _ => by simp at h
  | p :: r, [], _, _, _, h, _, _, _, _, _ => by simp at h
  | p :: r, _ :: _, [], _, _, _, h, _, _, _, _ => by simp at h
  | (k, d) :: r, (ka, va) :: ra, (kb', vb) :: rb, kb, hok, h1, h2, r1, r2, hs, hn => by
    simp only [List.map_cons, List.cons.injEq] at h1 h2
    obtain ⟨rfl, h1⟩ := h1
    obtain ⟨rfl, h2⟩ := h2
    cases r1 with
    | cons a1 b1 => cases r2 with
    | cons a2 b2 =>
    have hd := hok _ (.head _)
    simp only [D.ok, Bool.and_eq_true] at hd
    obtain ⟨as, xa⟩ := Rep.reads hP hd.1 a1
    obtain ⟨bs, xb⟩ := Rep.reads hP hd.1 a2
    have he : SeqAt.EqAt A s va vb (PyData.eqv d.py d.py) := SeqAt.eqAt_reads _ _ A s va vb as bs xa xb (SeqAt.canLay_of_shaped hd.2) (SeqAt.canLay_of_shaped hd.2) (SeqAt.room_of_shaped hd.2 (by exact oV hu))
    rw [SeqAt.eqv_refl _ (SeqAt.canLay_of_shaped hd.2)] at he
    exact .hit (e := true) (valueAt_self hn (hs _ (.head _))) he (hits_same hP hu (fun p hp => hok p (.tail _ hp)) h1 h2 b1 b2 (fun p hp => hs p (.tail _ hp)) hn)
theorem isDictOf_nodup {prog : Program} {w : World} {K : Type} [DecidableEq K] {knd : PySem.KeyKind prog w K} {o : Obj} {kvs : List (K × Value)} (h : o.IsDictOf knd kvs) : (kvs.map (·.1)).Nodup := by obtain ⟨_, _, _, _, _, _, h⟩ := h; exact h
theorem W2.neDictI {kvs : List (Int × D)} (hok : ∀ p ∈ kvs, p.2.ok = true) (hq : Q (.d (.bool false)) σ) : W2 g n (compareOp .NotEq) (.d (.dcti kvs)) (.d (.dcti kvs)) σ Q := fun A E P s v u hA S hv hu => by
  have hv' : Rep g.prog g.w P (.dcti kvs) v := hv
  have hu' : Rep g.prog g.w P (.dcti kvs) u := hu
  cases hv' with
  | @dcti a o vk _ hP hd hlo hk r =>
  cases hu' with
  | @dcti b o' vk' _ hP' hd' hlo' hk' r' =>
  have hl1 : vk.length = kvs.length := by have := congrArg List.length hk; simpa using this.symm
  have hl2 : vk'.length = kvs.length := by have := congrArg List.length hk'; simpa using this.symm
  refine keq_ne (knd := PySem.intKind g.prog g.w) (r := true) hlo hlo' (Heap.dictOf_iff.mpr ⟨_, S.sh.keepP _ _ hP, hd⟩) (Heap.dictOf_iff.mpr ⟨_, S.sh.keepP _ _ hP', hd'⟩) (by have := hA.room; exact oU this)
    (fun _ => hits_same S.keepP (by have := hA.units; show A.units + 1 + 70 < _; unfold cLine; omega) hok hk hk' r r' (fun _ hp => hp) (isDictOf_nodup hd')) ?_
  rw [hl1, hl2, beq_self_eq_true]
  exact PostE.here (tk := s.toks) S hq (.bool _)
theorem W2.eqDictS {kvs : List (Str × D)} (hok : ∀ p ∈ kvs, p.2.ok = true) (hq : Q (.d (.bool true)) σ) : W2 g n (compareOp .Eq) (.d (.dcts kvs)) (.d (.dcts kvs)) σ Q := fun A E P s v u hA S hv hu => by
  have hv' : Rep g.prog g.w P (.dcts kvs) v := hv
  have hu' : Rep g.prog g.w P (.dcts kvs) u := hu
  cases hv' with
  | @dcts a o vk _ hP hd hlo hk r =>
  cases hu' with
  | @dcts b o' vk' _ hP' hd' hlo' hk' r' =>
  have hl1 : vk.length = kvs.length := by have := congrArg List.length hk; simpa using this.symm
  have hl2 : vk'.length = kvs.length := by have := congrArg List.length hk'; simpa using this.symm
  refine keq_eq (knd := PySem.strKind g.prog g.w) (r := true) hlo hlo' (Heap.dictOf_iff.mpr ⟨_, S.sh.keepP _ _ hP, hd⟩) (Heap.dictOf_iff.mpr ⟨_, S.sh.keepP _ _ hP', hd'⟩) (by have := hA.room; exact oU this)
    (fun _ => hits_same S.keepP (by have := hA.units; show A.units + 1 + 70 < _; unfold cLine; omega) hok hk hk' r r' (fun _ hp => hp) (isDictOf_nodup hd')) ?_
  rw [hl1, hl2, beq_self_eq_true]
  exact PostE.here (tk := s.toks) S hq (.bool _)
end
end
set_option tactic.hygienic false
section
noncomputable def delL (σ : St) : List Addr → St
  | [] => σ
  | a :: as => delL (del σ a) as
theorem delL_ne {σ : St} : ∀ {as : List Addr} {b : Addr}, b ∉ as → delL σ as b = σ b
  | [], _, _ => rfl
  | a :: as, b, h => by
    simp only [List.mem_cons, not_or] at h
    show delL (del σ a) as b = σ b
    rw [delL_ne h.2, del_ne h.1]
section
variable {g : Gm} {n : Nat} {σ : St} {env : Env} {ρ : Ro}
theorem freezeAll : ∀ (L : List (Addr × List D)) (P : PM) (σ : St) (s : Shared), SS g.prog g.w g.s₁ P σ s → (L.map (·.1)).Nodup → (∀ p ∈ L, σ p.1 = some (.lst p.2)) →
    ∃ P', SS g.prog g.w g.s₁ P' (delL σ (L.map (·.1))) s ∧ Step X0 P σ s.heap P' (delL σ (L.map (·.1))) s.heap ∧ ∀ p ∈ L, Rep g.prog g.w P' (.lst p.2) (.ref p.1)
  | [], P, σ, s, S, _, _ => ⟨P, S, .refl, fun p hp => by simp at hp⟩
  | (a, ds) :: L, P, σ, s, S, hn, hl => by
    simp only [List.map_cons, List.nodup_cons] at hn
    have hc := hl _ (.head _)
    obtain ⟨_, o, ho, vs, k, rfl, r⟩ := S.sh.cells a _ hc
    have hne : σ a ≠ none := by rw [hc]; simp
    have t := Step.freeze (o := seqObj "list" vs.toArray k) S.sh hne
    obtain ⟨P', S', t', hr⟩ := freezeAll L _ (del σ a) s ⟨S.sh.freeze hne ho, S.gens, S.os⟩ hn.2 fun p hp => by
      rw [del_ne (fun e => hn.1 (List.mem_map.mpr ⟨p, hp, e⟩))]; exact hl p (.tail _ hp)
    refine ⟨P', S', t.trans0 t', fun p hp => ?_⟩
    rcases List.mem_cons.mp hp with rfl | hp
    · exact (Rep.lst upd_same .of (r.mono (prog := g.prog) (w := g.w) t.le)).mono (prog := g.prog) (w := g.w) t'.le
    · exact hr p hp
theorem cells_reps {P : PM} {β : Type} (fa : β → Addr) (fd : β → List D) : ∀ (L : List β) (vs : List Value), RepAs g.prog g.w P (L.map fun p => AV.cell (fa p)) vs → (∀ p ∈ L, Rep g.prog g.w P (.lst (fd p)) (.ref (fa p))) → Reps g.prog g.w P (L.map fun p => D.lst (fd p)) vs
  | [], _, .nil, _ => .nil
  | p :: L, _, .cons h r, hh => by
    have h' := h; cases h'
    exact .cons (hh p (.head _)) (cells_reps fa fd L _ r fun q hq => hh q (.tail _ hq))

theorem WSs.freezeDSL {sts : List Stmt} {Q : Fl → Ro → St → Prop} {c : Addr} {L : List (Str × Addr × List D)} {ρ' : Ro} (hc : σ c = some (.dcts (L.map fun p => (p.1, .cell p.2.1)))) (hn : (L.map (·.2.1)).Nodup) (hl : ∀ p ∈ L, σ p.2.1 = some (.lst p.2.2))
    (hρ : ∀ p ∈ ρ', p ∈ ρ ∨ (p.2 = .d (.dcts (L.map fun p => (p.1, D.lst p.2.2))) ∧ (p.1, AV.cell c) ∈ ρ)) (h : WSs g n env ρ' (del (delL σ (L.map (·.2.1))) c) sts Q) : WSs g n env ρ σ sts Q :=
  WSs.recast fun P s S F => by
    obtain ⟨P₁, S₁, t₁, hr⟩ := freezeAll (L.map (·.2)) P σ s S (by rw [List.map_map]; exact hn) (fun p hp => by obtain ⟨q, hq, rfl⟩ := List.mem_map.mp hp; exact hl q hq)
    rw [show (L.map (·.2)).map (·.1) = L.map (·.2.1) by rw [List.map_map]; rfl] at S₁ t₁
    have hcne : c ∉ L.map (·.2.1) := fun hm => by obtain ⟨q, hq, e⟩ := List.mem_map.mp hm; have := hl q hq; rw [e, hc] at this; cases this
    have hc₁ : delL σ (L.map (·.2.1)) c = some (.dcts (L.map fun p => (p.1, .cell p.2.1))) := by rw [delL_ne hcne]; exact hc
    obtain ⟨_, o, ho, vk, hd, hlo, hk, r⟩ := S₁.sh.cells c _ hc₁
    have hne : delL σ (L.map (·.2.1)) c ≠ none := by rw [hc₁]; simp
    have t₂ := Step.freeze (o := o) S₁.sh hne
    have rd : Reps g.prog g.w P₁ (L.map fun p => D.lst p.2.2) (vk.map (·.2)) := by
      have r' : RepAs g.prog g.w P₁ (L.map fun p => AV.cell p.2.1) (vk.map (·.2)) := by rw [List.map_map] at r; exact r
      exact cells_reps (fun p => p.2.1) (fun p => p.2.2) L (vk.map (·.2)) r' fun p hp => hr p.2 (List.mem_map.mpr ⟨p, hp, rfl⟩)
    have hk' : (L.map fun p => (p.1, D.lst p.2.2)).map (·.1) = vk.map (·.1) := by rw [← hk, List.map_map, List.map_map]; rfl
    refine ⟨ρ', _, _, ⟨S₁.sh.freeze hne ho, S₁.gens, S₁.os⟩, (F.step (t₁.trans0 t₂)).recast fun p hp => ?_, t₁.trans0 t₂, h⟩
    rcases hρ p hp with q | ⟨q, q'⟩
    · exact ⟨p.2, q, fun v hv => hv⟩
    · exact ⟨_, q', fun v hv => by rw [q]; have hv' : v = .ref c := hv; subst hv'; exact .dcts upd_same hd hlo hk' (by rw [List.map_map]; exact rd.mono (prog := g.prog) (w := g.w) t₂.le)⟩
theorem WSs.freezeDS {sts : List Stmt} {Q : Fl → Ro → St → Prop} {c : Addr} {L : List (Str × D)} {ρ' : Ro} (hc : σ c = some (.dcts (L.map fun p => (p.1, .d p.2))))
    (hρ : ∀ p ∈ ρ', p ∈ ρ ∨ (p.2 = .d (.dcts L) ∧ (p.1, AV.cell c) ∈ ρ)) (h : WSs g n env ρ' (del σ c) sts Q) : WSs g n env ρ σ sts Q :=
  WSs.recast fun P s S F => by
    obtain ⟨_, o, ho, vk, hd, hlo, hk, r⟩ := S.sh.cells c _ hc
    have hne : σ c ≠ none := by rw [hc]; simp
    have t₂ := Step.freeze (o := o) S.sh hne
    have rd : Reps g.prog g.w P (L.map (·.2)) (vk.map (·.2)) := by rw [map_d_vals] at r; exact r.ds
    have hk' : L.map (·.1) = vk.map (·.1) := by rw [← hk, map_d_keys]
    refine ⟨ρ', _, _, ⟨S.sh.freeze hne ho, S.gens, S.os⟩, (F.step t₂).recast fun p hp => ?_, t₂, h⟩
    rcases hρ p hp with q | ⟨q, q'⟩
    · exact ⟨p.2, q, fun v hv => hv⟩
    · exact ⟨_, q', fun v hv => by rw [q]; have hv' : v = .ref c := hv; subst hv'; exact .dcts upd_same hd hlo hk' (rd.mono (prog := g.prog) (w := g.w) t₂.le)⟩

theorem WSs.freezeDIL {sts : List Stmt} {Q : Fl → Ro → St → Prop} {c : Addr} {L : List (Int × Addr × List D)} {ρ' : Ro} (hc : σ c = some (.dcti (L.map fun p => (p.1, .cell p.2.1)))) (hn : (L.map (·.2.1)).Nodup) (hl : ∀ p ∈ L, σ p.2.1 = some (.lst p.2.2))
    (hρ : ∀ p ∈ ρ', p ∈ ρ ∨ (p.2 = .d (.dcti (L.map fun p => (p.1, D.lst p.2.2))) ∧ (p.1, AV.cell c) ∈ ρ)) (h : WSs g n env ρ' (del (delL σ (L.map (·.2.1))) c) sts Q) : WSs g n env ρ σ sts Q :=
  WSs.recast fun P s S F => by
    obtain ⟨P₁, S₁, t₁, hr⟩ := freezeAll (L.map (·.2)) P σ s S (by rw [List.map_map]; exact hn) (fun p hp => by obtain ⟨q, hq, rfl⟩ := List.mem_map.mp hp; exact hl q hq)
    rw [show (L.map (·.2)).map (·.1) = L.map (·.2.1) by rw [List.map_map]; rfl] at S₁ t₁
    have hcne : c ∉ L.map (·.2.1) := fun hm => by obtain ⟨q, hq, e⟩ := List.mem_map.mp hm; have := hl q hq; rw [e, hc] at this; cases this
    have hc₁ : delL σ (L.map (·.2.1)) c = some (.dcti (L.map fun p => (p.1, .cell p.2.1))) := by rw [delL_ne hcne]; exact hc
    obtain ⟨_, o, ho, vk, hd, hlo, hk, r⟩ := S₁.sh.cells c _ hc₁
    have hne : delL σ (L.map (·.2.1)) c ≠ none := by rw [hc₁]; simp
    have t₂ := Step.freeze (o := o) S₁.sh hne
    have rd : Reps g.prog g.w P₁ (L.map fun p => D.lst p.2.2) (vk.map (·.2)) := by
      have r' : RepAs g.prog g.w P₁ (L.map fun p => AV.cell p.2.1) (vk.map (·.2)) := by rw [List.map_map] at r; exact r
      exact cells_reps (fun p => p.2.1) (fun p => p.2.2) L (vk.map (·.2)) r' fun p hp => hr p.2 (List.mem_map.mpr ⟨p, hp, rfl⟩)
    have hk' : (L.map fun p => (p.1, D.lst p.2.2)).map (·.1) = vk.map (·.1) := by rw [← hk, List.map_map, List.map_map]; rfl
    refine ⟨ρ', _, _, ⟨S₁.sh.freeze hne ho, S₁.gens, S₁.os⟩, (F.step (t₁.trans0 t₂)).recast fun p hp => ?_, t₁.trans0 t₂, h⟩
    rcases hρ p hp with q | ⟨q, q'⟩
    · exact ⟨p.2, q, fun v hv => hv⟩
    · exact ⟨_, q', fun v hv => by rw [q]; have hv' : v = .ref c := hv; subst hv'; exact .dcti upd_same hd hlo hk' (by rw [List.map_map]; exact rd.mono (prog := g.prog) (w := g.w) t₂.le)⟩
theorem WSs.freezeDI {sts : List Stmt} {Q : Fl → Ro → St → Prop} {c : Addr} {L : List (Int × D)} {ρ' : Ro} (hc : σ c = some (.dcti (L.map fun p => (p.1, .d p.2))))
    (hρ : ∀ p ∈ ρ', p ∈ ρ ∨ (p.2 = .d (.dcti L) ∧ (p.1, AV.cell c) ∈ ρ)) (h : WSs g n env ρ' (del σ c) sts Q) : WSs g n env ρ σ sts Q :=
  WSs.recast fun P s S F => by
    obtain ⟨_, o, ho, vk, hd, hlo, hk, r⟩ := S.sh.cells c _ hc
    have hne : σ c ≠ none := by rw [hc]; simp
    have t₂ := Step.freeze (o := o) S.sh hne
    have rd : Reps g.prog g.w P (L.map (·.2)) (vk.map (·.2)) := by rw [map_d_vals] at r; exact r.ds
    have hk' : L.map (·.1) = vk.map (·.1) := by rw [← hk, map_d_keys]
    refine ⟨ρ', _, _, ⟨S.sh.freeze hne ho, S.gens, S.os⟩, (F.step t₂).recast fun p hp => ?_, t₂, h⟩
    rcases hρ p hp with q | ⟨q, q'⟩
    · exact ⟨p.2, q, fun v hv => hv⟩
    · exact ⟨_, q', fun v hv => by rw [q]; have hv' : v = .ref c := hv; subst hv'; exact .dcti upd_same hd hlo hk' (rd.mono (prog := g.prog) (w := g.w) t₂.le)⟩
end
end
set_option tactic.hygienic false
section
section
variable {prog : Program} {w : World} {A : Around} {E : Value → Shared → Prop} {s : Shared}
theorem nextOf_tuple_item {it l : Addr} {i : Nat} {items : Array Value} {x : Value} {Q : Value → Shared → Prop} (hit : s.heap.IsTupleIter it l i)
    (hl : s.heap.IsTuple l items) (hx : items[i]? = some x)
    (hQ : ∀ h', h'.IsTupleIter it l (i + 1) → Heap.SameBut it s.heap h' → Q x { s with heap := h' }) :
    wpAny (model prog w) A (Builtin.SmallTypes.nextOf (.ref it)) Q E s := by
  obtain ⟨o, ho, hc, hd⟩ := id hit
  obtain ⟨ol, hol, _, nl, hdl⟩ := hl
  unfold Builtin.SmallTypes.nextOf
  refine wpAny_bind (wpAny_callSpecial?_slot (name := Str.ofString "__next__") hit.typeIs PySem.F.slot_tuple_iterator_next
    (wpAny_call_entry PySem.F.slot_tuple_iterator_next hit.typeIs PySem.F.entry_tuple_iterator_next ?_ (PySem.F.args_tuple_iterator_next_1 _)))
  show wpAny _ _ (field (.ref it) 0 >>= _) _ _ s
  refine wpAny_bind (wpAny_field ho hd (x := .ref l) rfl ?_)
  show wpAny _ _ (if (Value.ref l == Value.none) = true then _ else _) _ _ s
  rw [if_neg (show ¬ ((Value.ref l == Value.none) = true) from Bool.false_ne_true)]
  show wpAny _ _ (field (.ref it) 1 >>= _) _ _ s
  refine wpAny_bind (wpAny_field ho hd (x := .int i 0) rfl ?_)
  show wpAny _ _ (seqItems? (.ref l) >>= _) _ _ s
  refine wpAny_bind (wpAny_seqItems hol hdl ?_)
  simp only [Int.toNat_natCast, hx]
  refine wpAny_bind (wpAny_setField ho hd (by simp) (wpAny_pure ⟨x, rfl, wpAny_pure (hQ _ ?_ (Heap.SameBut.update ..))⟩))
  exact ⟨_, Heap.get?_update_self _ ho (Obj.isFreed_of_fields (Obj.data_mapFields hd _)), (Obj.cls_mapFields ..).trans hc, by
    rw [Obj.data_mapFields hd]; simp [rawInt]⟩
theorem nextOf_tuple_end {it l : Addr} {i : Nat} {items : Array Value} {Q : Value → Shared → Prop} (hh : A.handled = none)
    (hit : s.heap.IsTupleIter it l i) (hl : s.heap.IsTuple l items) (hx : items[i]? = none)
    (hE : ∀ h' e, Heap.ExtBut it s.heap h' → (∃ o, h'.get? e = some o ∧ o.cls = .type "StopIteration") → E (.ref e) { s with heap := h' }) :
    wpAny (model prog w) A (Builtin.SmallTypes.nextOf (.ref it)) Q E s := by
  obtain ⟨o, ho, hc, hd⟩ := id hit
  obtain ⟨ol, hol, _, nl, hdl⟩ := hl
  unfold Builtin.SmallTypes.nextOf
  refine wpAny_bind (wpAny_callSpecial?_slot (name := Str.ofString "__next__") hit.typeIs PySem.F.slot_tuple_iterator_next
    (wpAny_call_entry PySem.F.slot_tuple_iterator_next hit.typeIs PySem.F.entry_tuple_iterator_next ?_ (PySem.F.args_tuple_iterator_next_1 _)))
  show wpAny _ _ (field (.ref it) 0 >>= _) _ _ s
  refine wpAny_bind (wpAny_field ho hd (x := .ref l) rfl ?_)
  show wpAny _ _ (if (Value.ref l == Value.none) = true then _ else _) _ _ s
  rw [if_neg (show ¬ ((Value.ref l == Value.none) = true) from Bool.false_ne_true)]
  show wpAny _ _ (field (.ref it) 1 >>= _) _ _ s
  refine wpAny_bind (wpAny_field ho hd (x := .int i 0) rfl ?_)
  show wpAny _ _ (seqItems? (.ref l) >>= _) _ _ s
  refine wpAny_bind (wpAny_seqItems hol hdl ?_)
  simp only [Int.toNat_natCast, hx]
  refine wpAny_bind (wpAny_rule (wpAny_bind (wpAny_setField ho hd (by simp) ?_)))
  show wpAny _ _ (newExc (.type "StopIteration") [] >>= _) _ _ _
  refine wpAny_bind ?_
  simp only [newExc, newTuple]
  refine wpAny_bind (wpAny_newObj_type ?_ (by size_fits))
  refine wpAny_bind (m := firstArgMember _ _) (wpAny_of_eq (a := Value.none) (by first | rfl | (simp only [firstArgMember]; rfl)) ?_)
  refine wpAny_newObj_type ?_ (by size_fits)
  simp only [raiseNew]
  refine wpAny_bind (wpAny_handled ?_)
  first | rw [show A.in1.handled = none from hh] | rw [hh]
  refine wpAny_bind (wpAny_pure (wpAny_throw ?_))
  exact hE _ _ (((Heap.SameBut.update ..).extBut.push _).push _) ⟨_, Heap.get?_push_size _ rfl, rfl⟩
end
theorem Draws_tuple {prog : Program} {w : World} {A : Around} (hh : A.handled = none) (it l : Addr) (hne : l ≠ it) (items : Array Value) :
    Draws prog w A it [it, l] items.size (fun i v => items[i]? = some v) (fun i h => h.IsTupleIter it l i ∧ h.IsTuple l items) where
  live := fun _ _ st => by obtain ⟨o, ho, _⟩ := st.1; exact ⟨o, ho⟩
  frame := fun _ _ _ st hk => ⟨by obtain ⟨o, ho, r⟩ := st.1; exact ⟨o, hk it (by simp) o ho, r⟩, by obtain ⟨o, ho, r⟩ := st.2; exact ⟨o, hk l (by simp) o ho, r⟩⟩
  item := fun i s Q E hi st hQ => by
    refine nextOf_tuple_item st.1 st.2 (x := items[i]) (by simp [hi]) fun h' hit' hs' => ?_
    exact hQ _ h' s.toks (by simp [hi]) ⟨hit', st.2.extBut hs'.extBut hne⟩ hs'
  done := fun s Q E st hE => nextOf_tuple_end hh st.1 st.2 (by simp) hE
section
variable {prog : Program} {w : World} {A : Around} {E : Value → Shared → Prop} {s : Shared}
open AutoSeq1 (wpAny_loadPart')
set_option tactic.hygienic true in
theorem meets_enumerate_newT (l : Addr) (items : Array Value) (n : Nat) (dct : Option Addr) (sl : Array (Option Value)) :
    Meets (Builtin.«enumerate.__new__» ⟨[.type "enumerate", .ref l], []⟩) (fun _ R s => s.heap.get? l = some { cls := .type "tuple", dict := dct, data := .seq items n, slots := sl } ∧
      R (.ok (.ret (.ref (s.heap.push { cls := .type "tuple_iterator", data := .fields #[.ref l, .int 0 0] }).objs.size)))
        { s with heap := (s.heap.push { cls := .type "tuple_iterator", data := .fields #[.ref l, .int 0 0] }).push { cls := .type "enumerate", data := .fields #[.none, .bool false, .ref s.heap.objs.size, rawInt 0, .none, .none] } }) :=
  .of_wp fun prog w A R s h => by
    obtain ⟨hp, g, d, tk, os⟩ := s; obtain ⟨hl, h⟩ := h
    have hsub := sub_enumerate
    have hL : Heap.IsTuple (Shared.heap ⟨hp, g, d, tk, os⟩) l items := ⟨_, hl, rfl, n, rfl⟩
    wp_walk using wpAny_loadPart' hl
    refine wpAny_stack_any fun st => wpAny_pure ?_
    split
    · rename_i c _ _ _ _ _
      cases (c == Value.type "enumerate")
      · wp_walk using wpAny_loadPart' hl, wpAny_pyIter_tuple hL
        exact ⟨_, rfl, h⟩
      · wp_walk using wpAny_loadPart' hl, wpAny_pyIter_tuple hL
        exact ⟨_, rfl, h⟩
    · wp_walk using wpAny_loadPart' hl, wpAny_pyIter_tuple hL
      exact ⟨_, rfl, h⟩
theorem call_enumerate_tuple {l : Addr} {items : Array Value} {Q : Value → Shared → Prop} (hL : s.heap.IsTuple l items)
    (h : ∀ h', IsEnum h' (s.heap.objs.size + 1) s.heap.objs.size 0 .none → h'.IsTupleIter s.heap.objs.size l 0 →
      (∀ b o, s.heap.get? b = some o → h'.get? b = some o) → Q (.ref (s.heap.objs.size + 1)) { s with heap := h' }) :
    wpAny (model prog w) A (call (.type "enumerate") [.ref l]) Q E s := by
  obtain ⟨⟨c, dct, dt, sl⟩, hl, hc, n, hd⟩ := hL
  replace hc : c = .type "tuple" := hc
  replace hd : dt = .seq items n := hd
  subst hc hd
  refine callType_new PySem.F.called_enumerate (by decide) (PySem.F.typeCall_enumerate_1 _) (PySem.F.newCall_enumerate_1 _) (fun obj => PySem.F.args_object_init_2 obj _) PySem.F.entry_enumerate_new
    (meets_enumerate_newT l items n dct sl) ⟨hl, ?_⟩
  have hz : (s.heap.push { cls := .type "tuple_iterator", data := .fields #[.ref l, .int 0 0] }).objs.size = s.heap.objs.size + 1 := Heap.size_push ..
  show _ ∧ _
  rw [hz]
  have he : IsEnum ((s.heap.push { cls := .type "tuple_iterator", data := .fields #[.ref l, .int 0 0] }).push
      { cls := .type "enumerate", data := .fields #[.none, .bool false, .ref s.heap.objs.size, rawInt 0, .none, .none] }) (s.heap.objs.size + 1) s.heap.objs.size 0 .none := by
    have := Heap.get?_push_size (s.heap.push { cls := .type "tuple_iterator", data := .fields #[.ref l, .int 0 0] })
      (o := { cls := .type "enumerate", data := .fields #[.none, .bool false, .ref s.heap.objs.size, rawInt 0, .none, .none] }) rfl
    rw [hz] at this; exact this
  exact ⟨⟨_, he, rfl⟩, h _ he ⟨_, Heap.get?_push_of_some _ (Heap.get?_push_size _ rfl), rfl, rfl⟩ fun b o x => Heap.get?_push_of_some _ (Heap.get?_push_of_some _ x)⟩
end
noncomputable def enumD (ds : List D) : List D := (List.range ds.length).map fun i => .tup [.int (Int.ofNat i), ds.getD i D.none]
theorem enumD_at {ds : List D} {i : Nat} {d : D} (h : (enumD ds)[i]? = some d) : i < ds.length ∧ d = .tup [.int (Int.ofNat i), ds.getD i D.none] := by
  unfold enumD at h
  rw [List.getElem?_map] at h
  by_cases hi : i < ds.length
  · rw [List.getElem?_range hi] at h; cases h; exact ⟨hi, rfl⟩
  · rw [List.getElem?_eq_none (by simpa using hi)] at h; cases h
theorem enumD_length (ds : List D) : (enumD ds).length = ds.length := by simp [enumD]
section
variable {g : Gm} {n : Nat} {σ : St} {Q : AV → St → Prop} {env : Env}
theorem Ito_enum {A : Around} (hh : A.handled = none) {P : PM} {ds : List D} {vs : List Value} {elts : List Expr} {k : Nat} {tpos : Pos} (e it l : Addr) (hei : e ≠ it) (hle : l ≠ e) (hli : l ≠ it) (r : Reps g.prog g.w P ds vs) :
    Ito g A (.Tuple elts k tpos) e [e, it, l] [e, it] P (enumD ds) (fun i h => (∃ old, IsEnum h e it i old) ∧ h.IsTupleIter it l i ∧ h.IsTuple l vs.toArray) := by
  have W := WalksT.enumerateD (A := A) (Draws_tuple (prog := g.prog) (w := g.w) (A := A.in1) hh it l hli vs.toArray) e hei (by simp [hei, Ne.symm hle]) (by simp)
  have hsz : vs.toArray.size = ds.length := by rw [List.size_toArray, r.length]
  refine ⟨W.frame, fun i d s E P₁ hd hst hle' hkp => ?_, fun i h hst b hb => ?_, fun s E hst => ?_, fun i s E Q hst h => W.self i s Q E hst h⟩
  · obtain ⟨hi, rfl⟩ := enumD_at hd
    refine W.item i s _ E (by rw [hsz]; exact hi) hst fun T vals h' tk hP hT hTup hM hk => ⟨.ref T, rfl, ?_⟩
    refine W.go elts k tpos i T { s with heap := h', toks := tk } _ E hM fun h'' hst' hk' => ?_
    obtain ⟨t, x, hx, rfl⟩ := hP
    obtain ⟨o, ho, hoc, m, hod⟩ := hTup
    have hap := W.apart i T h' hM
    have hTn : s.heap.get? T = none := Heap.get?_none_of_le hT
    have hx' : vs[i]? = some x := by simpa using hx
    have hfr : P₁ T = none := by
      cases q : P₁ T with
      | none => rfl
      | some o' => rw [hkp T o' q] at hTn; cases hTn
    have hle2 : ∀ a o', P₁ a = some o' → upd P₁ T o a = some o' := fun a o' q => by rw [upd_ne (fun z => by subst z; rw [hfr] at q; cases q)]; exact q
    refine ⟨h'', tk, upd P₁ T o, rfl, hle2, fun b o' q => ?_, ?_, hst', fun b o' hb q => hk' b o' hb (hk b o' hb q)⟩
    · by_cases hb : b = T
      · subst hb; rw [upd_same] at q; cases q; exact .inr ⟨hTn, hk' _ _ hap ho⟩
      · rw [upd_ne hb] at q; exact .inl q
    · refine .tup upd_same ⟨hoc, m, by rw [hod]⟩ (vs := [.int i t, x]) (.cons (.int _ _) (.cons ?_ .nil))
      have hv : vs.getD i Value.none = x := getD_of hx'
      have := r.at (i := i) (by rw [r.length]; exact hi)
      rw [hv] at this
      exact (this.mono (prog := g.prog) (w := g.w) hle').mono (prog := g.prog) (w := g.w) hle2
  · rcases List.mem_cons.mp hb with rfl | hb
    · obtain ⟨⟨old, he⟩, _⟩ := hst; exact ⟨_, he⟩
    · rw [List.mem_singleton.mp hb]; obtain ⟨_, ⟨o, ho, _⟩, _⟩ := hst; exact ⟨o, ho⟩
  · rw [enumD_length, ← hsz] at hst
    exact W.done s _ E hst fun h' tk hk => ⟨rfl, h', tk, rfl, hk⟩
theorem WE.comp1E {elt e : Expr} {elts : List Expr} {k : Nat} {tpos fp cpos : Pos} {f : Str} {ifs : List Expr} {scope : Scope} {pos : Pos} {ρ : Ro} (ρc : Ro) {Q : AV → St → Prop} (hg : BltIs g f (.type "enumerate"))
    (ok : scOk scope env = true) (hsub : ∀ p ∈ ρc, p ∈ ρ ∧ scope.names.lookup p.1 = some .free)
    (h : WE g n env ρ σ e fun a σ₁ => ∃ ds, a = .d (.tup ds) ∧ ∀ C, CLoop g n (cenvOf scope env C) (.Tuple elts k tpos) ifs (CElt g n (cenvOf scope env C) elt) (enumD ds) ρc σ₁ [] fun out σ₂ => Q (.d (.lst out)) σ₂)
    (hs : ∀ x, foldedSetIterable (.Call (.Name f fp) [e] [] cpos) env x = pure x := by intro _; rfl)
    (hns : ([e] : List Expr).all noStar = true := by rfl)
    (hk : env.kindOf f = some .globalImplicit := by rfl) (hd : (f == ("__debug__" : Str)) = false := by decide) (he : starEach [e] env = (false, eval e env) :: starEach [] env := by rfl) : WE g n env ρ σ (.ListComp elt [⟨.Tuple elts k tpos, .Call (.Name f fp) [e] [] cpos, ifs, 0⟩] scope pos) Q := by
  intro A E P s hA S F
  rw [eval_ListComp]
  have hok := ScOk.of ok
  refine wpAny_comprehension_free (use := none) rfl hs (closureFor_eq fun y hy hf => F.has y.1 (hok.free y hy hf)) hok.kind hok.names ?_
  refine Call_Name rfl ((WE.blt (Q := fun a' σ' => a' = .raw (.type "enumerate") ∧ σ' = σ) hg ⟨rfl, rfl⟩ hk hd).then hA S F fun a' P₀ σ₀ v s₀ zr5 hr S₀ F₀ t₀ => ?_)
  obtain ⟨ha, hσ⟩ := zr5
  subst ha hσ
  have hv : v = .type "enumerate" := hr
  subst hv
  have hW : WEs g n env ρ σ₀ [e] fun as σ₁ => ∃ ds, as = [.d (.tup ds)] ∧ ∀ C, CLoop g n (cenvOf scope env C) (.Tuple elts k tpos) ifs (CElt g n (cenvOf scope env C) elt) (enumD ds) ρc σ₁ [] fun out σ₂ => Q (.d (.lst out)) σ₂ :=
    WEs.cons (h.mono fun a σ₁ zq1_2 => by obtain ⟨ds, h1, h2⟩ := zq1_2; exact WEs.nil ⟨ds, by rw [h1], h2⟩) he
  refine PyProof.Rows.callWith_type (noStars hns) (hW.run hA S₀ F₀ he fun as P₁ σ₁ us s₁ zr5 rs S₁ t₁ => ?_)
  obtain ⟨ds, has, hl⟩ := zr5
  subst has
  obtain ⟨v, rfl, h1⟩ := rs.one
  have F₁ := F₀.step t₁
  have h1' : Rep g.prog g.w P₁ (.tup ds) v := h1
  cases h1' with
  | @tup l o vs _ hP hso r =>
  obtain ⟨hcl, m, hda⟩ := id hso
  have hL : s₁.heap.IsTuple l vs.toArray := ⟨o, S₁.sh.keepP _ _ hP, hcl, m, hda⟩
  have hlt : l < s₁.heap.objs.size := Heap.lt_size (S₁.sh.keepP _ _ hP)
  refine call_enumerate_tuple hL fun h' he' hit' hk' => ?_
  refine comp_core' (e := .ListComp elt [⟨.Tuple elts k tpos, .Call (.Name f fp) [e] [] cpos, ifs, 0⟩] scope pos) (RR := fun acc C => compPost g.M A E none (PostE g P σ₀ s.heap Q) acc C) (B := fun cenv => CElt g n cenv elt) (Bsem := fun cenv D => do let _ ← call (.builtin "list.append") [.ref D, ← eval elt cenv]) (R := fun out σ₂ => Q (.d (.lst out)) σ₂) hA S₁ F₁ (items := enumD ds)
    (fun Q' hq' => ?_) hok hsub (fun cenv it D => den_comp1) (fun _ _ _ => rfl) (fun _ _ _ => Around.under_of_weight rfl rfl) (fun _ _ _ => Around.under_of_weight rfl rfl) (fun _ _ _ => rfl) rfl
    (fun cenv D P σ s ρ out R E S F Ac h => acc_append hA S F Ac h) hl fun D C out P' σ' s' hR c => ?_
  · refine wpAny_pyIter_enum he' ?_
    refine hq' _ [s₁.heap.objs.size + 1, s₁.heap.objs.size, l] [s₁.heap.objs.size + 1, s₁.heap.objs.size] _ h' s₁.toks (Ito_enum hA.handled _ _ l (Nat.succ_ne_self _) (Nat.ne_of_lt (Nat.lt_succ_of_lt hlt)) (Nat.ne_of_lt hlt) r) ⟨⟨_, he'⟩, hit', by obtain ⟨o, ho, x⟩ := hL; exact ⟨o, hk' _ _ ho, x⟩⟩ hk' (fun b hb => ?_) fun b hb => ?_
    · rcases List.mem_cons.mp hb with rfl | hb
      · exact ⟨Heap.get?_none_of_le (Nat.le_succ _), _, he'⟩
      · rw [List.mem_singleton.mp hb]; obtain ⟨o, ho, _⟩ := hit'; exact ⟨Heap.get?_none_of_le (Nat.le_refl _), o, ho⟩
    · rcases List.mem_cons.mp hb with rfl | hb
      · exact .inl (.head _)
      · rcases List.mem_cons.mp hb with rfl | hb
        · exact .inl (.tail _ (.head _))
        · rw [List.mem_singleton.mp hb]; exact .inr ⟨o, hP⟩
  · obtain ⟨m, hn, hq⟩ := c.post hR
    exact ⟨m, hn, fun h' hs => (hq h' hs).after (t₀.trans0 t₁)⟩
end
end
set_option tactic.hygienic false
section
namespace RF
theorem keys_miss : typeLookup (.type "list") "keys" = pure none := by rw [typeLookup_type, builtinLookup_eq_fast]; kernel_rfl
theorem entry_dict_loop : entryFor table "dict.update.loop" = some Builtin.«dict.update.loop» := entryFor_of_tree (by kernel_rfl)
theorem plain_dict_loop : plainId "dict.update.loop" = true := by decide +kernel
end RF
section
variable {prog : Program} {w : World} {A : Around} {E : Value → Shared → Prop} {s : Shared}
theorem keys_none {a : Addr} {xs : Array Value} {k : Nat} {sl : Array (Option Value)} {Q : Option Value → Shared → Prop} (hx : s.heap.get? a = some { cls := .type "list", dict := none, data := .seq xs k, slots := sl }) (hA : A.handled = none)
    (h : ∀ h' tk, (∀ b ob, s.heap.get? b = some ob → h'.get? b = some ob) → Q none { s with heap := h', toks := tk }) : wpAny (model prog w) A (getAttr? (.ref a) "keys") Q E s := by
  obtain ⟨hp, g, d, tk, os⟩ := s
  have hT : ∀ tk', (⟨hp, g, d, tk', os⟩ : Shared).TypeIs (.ref a) "list" := fun _ => ⟨_, hx, rfl⟩
  have f1 := sub_AttributeError
  have f3 := PySem.F.slot_list_getattribute.lookup
  have f4 := PySem.F.slot_list_getattribute.bind (.ref a)
  have f5 := am_list_getattr_none
  unfold getAttr? getAttrBy? getAttrBy
  repeat (any_goals (first | assumption | exact hT _ | ((with_reducible show wpAny _ _ (call (Value.builtin "list.__getattribute__") _ _) _ _ _); refine call_meets PySem.F.slot_list_getattribute (hT _) am_entry_list_getattribute (PySem.F.args_list_getattribute_2 _ _) (meets_getattribute_miss_list a xs k sl "keys" _ RF.keys_miss (by decide +kernel) (by decide +kernel)) ⟨hx, hA, fun h' tk' e hx' => ?_⟩) | wp_step))
  obtain ⟨t', u', he⟩ := hx'.there
  show wpAny _ _ (getattributeRaised _ _ _ _ _ _ _) _ _ _
  unfold getattributeRaised
  repeat (any_goals (first | assumption | wp_step))
  exact h _ _ hx'.keeps
noncomputable def PairAt (h : Heap) (v : Value) (p : Str × Value) : Prop := ∃ a o n t, v = .ref a ∧ h.get? a = some o ∧ o.cls = .type "tuple" ∧ o.data = .seq #[.str p.1 t, p.2] n
theorem PairAt.at {h h' : Heap} {v : Value} {p : Str × Value} (x : PairAt h v p) (hk : ∀ a o, v = .ref a → h.get? a = some o → h'.get? a = some o) : PairAt h' v p := by
  obtain ⟨a, o, n, t, h1, h2, h3, h4⟩ := x
  exact ⟨a, o, n, t, h1, hk a o h1 h2, h3, h4⟩
theorem pairItems_pair {v : Value} {p : Str × Value} {Q : List Value → Shared → Prop} (hp : PairAt s.heap v p) (h : ∀ t, Q [.str p.1 t, p.2] s) : wpAny (model prog w) A (Builtin.Dict.pairItems v) Q E s := by
  obtain ⟨a, o, n, t, rfl, ho, hc, hd⟩ := hp
  have hT : s.TypeIs (.ref a) "tuple" := ⟨o, ho, hc⟩
  unfold Builtin.Dict.pairItems
  refine wpAny_bind (wpAny_typeOf hT ?_)
  rw [if_pos (by decide)]
  refine wpAny_bind (wpAny_seqItems ho hd ?_)
  exact wpAny_pure (h t)
variable {R : Result → Shared → Prop}
theorem dict_loop {I D : Addr} {wr fp : List Addr} {items : List Value} {pairs : List (Str × Value)} {St : Nat → Heap → Prop} (W : Walks prog w A.in1 I fp wr items.length (fun i v => items[i]? = some v) St) (hDf : D ∉ fp) (hlen : pairs.length = items.length) :
    ∀ (k i : Nat) (s : Shared) (acc : List (Str × Value)), items.length - i = k → i ≤ items.length → St i s.heap → s.heap.DictOf (PySem.strKind prog w) D acc → acc.length + (items.length - i) ≤ 1000 →
    (∀ j v p, i ≤ j → items[j]? = some v → pairs[j]? = some p → PairAt s.heap v p ∧ ∀ a, v = .ref a → a ≠ D ∧ a ∉ wr) →
    (∀ h' tk, (∀ b o, b ≠ D → b ∉ wr → s.heap.get? b = some o → h'.get? b = some o) → h'.DictOf (PySem.strKind prog w) D (merged acc (pairs.drop i)) → R (.ok (.ret .none)) { s with heap := h', toks := tk }) →
    codeAny (model prog w) A (.builtin "dict.update.loop" ⟨[.ref D, .ref I, rawInt i, .none], []⟩) R s := by
  have hDw : D ∉ wr := fun h => hDf (W.sub _ h)
  intro k
  induction k with
  | zero =>
    intro i s acc hk hi hst hD hz hp hR
    have hin : i = items.length := by omega
    subst hin
    refine codeAny_builtin RF.entry_dict_loop ?_
    rw [Around.under_plainId RF.plain_dict_loop _]
    show wpAny _ A.in1 (pyNext (.ref I) >>= _) _ _ s
    refine wpAny_bind (W.done s _ _ hst fun h' tk hm => ?_)
    show wpAny _ _ (Builtin.Dict.addKeywords D [] >>= _) _ _ _
    refine wpAny_bind (wpAny_pure (wpAny_pure ?_))
    refine hR h' tk (fun b o _ hb e => hm b o hb e) ?_
    rw [← hlen, List.drop_length]
    obtain ⟨o, ho, hd⟩ := Heap.dictOf_iff.mp hD
    exact Heap.dictOf_iff.mpr ⟨o, hm D o hDw ho, hd⟩
  | succ k ih =>
    intro i s acc hk hi hst hD hz hp hR
    have hlt : i < items.length := by omega
    refine codeAny_builtin RF.entry_dict_loop ?_
    rw [Around.under_plainId RF.plain_dict_loop _]
    show wpAny _ A.in1 (pyNext (.ref I) >>= _) _ _ s
    refine wpAny_bind (W.item i s _ _ hlt hst fun v h' tk hP hst' hm => ?_)
    have hv : items[i]? = some v := hP
    have hpi : pairs[i]? = some pairs[i] := List.getElem?_eq_getElem (by omega)
    obtain ⟨pa, hne⟩ := hp i v _ (Nat.le_refl _) hv hpi
    have pa' : PairAt h' v pairs[i] := pa.at fun a o e ho => hm a o (hne a e).2 ho
    obtain ⟨o, ho, hd⟩ := Heap.dictOf_iff.mp hD
    have hD' : h'.DictOf (PySem.strKind prog w) D acc := Heap.dictOf_iff.mpr ⟨o, hm D o hDw ho, hd⟩
    refine wpAny_bind (wpAny_holding ?_)
    refine wpAny_bind (wpAny_tryCatch ?_)
    refine pairItems_pair (s := { s with heap := h', toks := tk }) pa' fun t => ?_
    show wpAny _ _ (holding [.str pairs[i].1 t, pairs[i].2] (dictSet D (.str pairs[i].1 t) pairs[i].2)) _ _ _
    refine wpAny_holding ?_
    refine wpAny_dictSet_pairs (knd := PySem.strKind prog w) (k := pairs[i].1) (by simp [PySem.strKind, Value.isStrOf]) hD' (fun h'' hD'' hs => ?_) (by rw [sizeLine_eq]; exact o1 (o6 hz) rfl)
    have hst'' : St (i + 1) h'' := W.frame _ h' _ hst' fun b hb o e => (hs.2 b fun q => hDf (by rw [← q]; exact hb)).trans e
    refine wpAny_pure ⟨plainId_quiet RF.plain_dict_loop _, ?_⟩
    refine ih (i + 1) { s with heap := h'', toks := tk + 1 } (stored acc pairs[i].1 pairs[i].2) (by omega) hlt hst'' hD'' ?_ (fun j u p hj hu hpj => ?_) fun h3 tk3 hm3 hD3 => ?_
    · have : (stored acc pairs[i].1 pairs[i].2).length ≤ acc.length + 1 := by
        unfold stored; split <;> simp
      omega
    · obtain ⟨q1, q2⟩ := hp j u p (by omega) hu hpj
      exact ⟨q1.at fun a o e ho => (hs.2 a (q2 a e).1).trans (hm a o (q2 a e).2 ho), q2⟩
    · refine hR h3 tk3 (fun b o hb hw e => hm3 b o hb hw ((hs.2 b hb).trans (hm b o hw e))) ?_
      rw [List.drop_eq_getElem_cons (by omega : i < pairs.length)]
      exact hD3
theorem call_dict_pairs {l : Addr} {items : List Value} {kk : Nat} {sl : Array (Option Value)} {pairs : List (Str × Value)} {Q : Value → Shared → Prop} (hh : A.handled = none)
    (hl : s.heap.get? l = some { cls := .type "list", dict := none, data := .seq items.toArray kk, slots := sl }) (hlen : pairs.length = items.length) (hz : items.length ≤ 1000) (hn : (pairs.map (·.1)).Nodup)
    (hp : ∀ (j : Nat) v p, items[j]? = some v → pairs[j]? = some p → PairAt s.heap v p)
    (h : ∀ h' tk D, s.heap.get? D = none → h'.DictOf (PySem.strKind prog w) D pairs → (∀ b o, s.heap.get? b = some o → h'.get? b = some o) → D = s.heap.objs.size → Q (.ref D) { s with heap := h', toks := tk }) :
    wpAny (model prog w) A (call (.type "dict") [.ref l]) Q E s := by
  refine callType_codes (Q₁ := fun obj s₁ => obj = .ref s.heap.objs.size ∧ s₁ = { s with heap := s.heap.push { cls := .type "dict", data := .dict #[] } }) PySem.F.kt_called_dict (PySem.F.kt_typeCall_dict_1 _) PySem.F.entry_dict_init (kt_code_dict_new _ ⟨rfl, rfl⟩) ?_
  rintro obj s₁ ⟨rfl, rfl⟩
  have hnew : (s.heap.push { cls := .type "dict", data := .dict #[] }).DictOf (PySem.strKind prog w) s.heap.objs.size [] := Heap.DictOf.new s.heap
  have hfr : s.heap.get? s.heap.objs.size = none := Heap.get?_none_of_le (Nat.le_refl _)
  have hup : ∀ b o, s.heap.get? b = some o → (s.heap.push { cls := .type "dict", data := .dict #[] }).get? b = some o := fun b o e => Heap.get?_push_of_some _ e
  have hl1 := hup _ _ hl
  have hlS : l < s.heap.objs.size := Heap.lt_size hl
  refine ⟨hnew.typeIs, PySem.F.args_dict_init_2 _ _, ?_⟩
  unfold Builtin.«dict.__init__»
  refine wpAny_bind ?_
  unfold Builtin.Dict.selfAndRest
  refine wpAny_bind (wpAny_notOrdered_dict hnew.typeIs ?_)
  show wpAny _ _ (pure (s.heap.objs.size, [Value.ref l])) _ _ _
  refine wpAny_pure ?_
  show wpAny _ _ (Builtin.Dict.updateFrom "dict.__init__" s.heap.objs.size (.ref l) [] .none) _ _ _
  unfold Builtin.Dict.updateFrom
  refine wpAny_bind (wpAny_typeOf (T := "list") ⟨_, hl1, rfl⟩ ?_)
  rw [if_pos (by decide)]
  refine wpAny_bind (keys_none hl1 (by simp [hh]) fun h₁ tk₁ hk₁ => ?_)
  rw [if_pos (by rfl)]
  refine wpAny_bind (wpAny_rule ?_)
  have hl2 := hk₁ _ _ hl1
  have hLs : h₁.IsList l items.toArray := ⟨_, hl2, rfl, kk, rfl⟩
  have hDold : ∀ o, (s.heap.push { cls := .type "dict", data := .dict #[] }).get? s.heap.objs.size = some o → h₁.get? s.heap.objs.size = some o := fun o e => hk₁ _ _ e
  have hD1 : h₁.DictOf (PySem.strKind prog w) s.heap.objs.size [] := by
    obtain ⟨o, ho, hd⟩ := Heap.dictOf_iff.mp hnew
    exact Heap.dictOf_iff.mpr ⟨o, hDold o ho, hd⟩
  have hDlt : s.heap.objs.size < h₁.objs.size := by
    obtain ⟨o, ho, hd⟩ := Heap.dictOf_iff.mp hD1
    exact Heap.lt_size ho
  refine wpAny_bind (wpAny_pyIter_list (s := { s with heap := h₁, toks := tk₁ }) hLs ?_)
  obtain ⟨k1, k2, k3⟩ := push_new (h := h₁) (o := { cls := .type "list_iterator", data := .fields #[.ref l, .int 0 0] })
  have hne : l ≠ h₁.objs.size := Nat.ne_of_lt (Nat.lt_trans hlS hDlt)
  refine wpAny_pure ⟨plainId_quiet RF.plain_dict_loop _, ?_⟩
  have W := Walks.list (prog := prog) (w := w) (A := A.in1.in1) (by simp [hh]) h₁.objs.size l hne items.toArray
  have W' : Walks prog w A.in1.in1 h₁.objs.size [h₁.objs.size, l] [h₁.objs.size] items.length (fun i v => items[i]? = some v) (fun i h => h.IsListIter h₁.objs.size l i ∧ h.IsList l items.toArray) := by simpa using W
  have hDf : s.heap.objs.size ∉ [h₁.objs.size, l] := by
    simp only [List.mem_cons, List.not_mem_nil, or_false, not_or]
    exact ⟨Nat.ne_of_lt hDlt, Nat.ne_of_gt hlS⟩
  refine dict_loop W' hDf hlen items.length 0 _ [] (by omega) (Nat.zero_le _) ⟨⟨_, k3, rfl, rfl⟩, hLs.at fun o e => k1 _ _ e⟩ ?_ (by simpa using hz) (fun j v p _ hv hpj => ?_) fun h' tk hm hD => ?_
  · obtain ⟨o, ho, hd⟩ := Heap.dictOf_iff.mp hD1
    exact Heap.dictOf_iff.mpr ⟨o, k1 _ _ ho, hd⟩
  · have pa := hp j v p hv hpj
    refine ⟨pa.at fun a o _ e => k1 _ _ (hk₁ _ _ (hup _ _ e)), fun a e => ?_⟩
    obtain ⟨a', o, n, t, h1, h2, _, _⟩ := pa
    rw [e] at h1; cases h1
    have := Heap.lt_size h2
    refine ⟨Nat.ne_of_lt this, fun hm => ?_⟩
    rw [List.mem_singleton] at hm
    exact Nat.ne_of_lt (Nat.lt_trans this hDlt) hm
  · rw [List.drop_zero, merged_nil_of_nodup pairs hn] at hD
    refine ⟨rfl, h h' tk _ hfr hD (fun b o e => ?_) rfl⟩
    have := Heap.lt_size e
    exact hm b o (Nat.ne_of_lt this) (fun hm => by rw [List.mem_singleton] at hm; exact Nat.ne_of_lt (Nat.lt_trans this hDlt) hm) (k1 _ _ (hk₁ _ _ (hup _ _ e)))
end
end
set_option tactic.hygienic false
section
section
variable {g : Gm} {n : Nat} {σ : St} {Q : AV → St → Prop} {env : Env} {ρ : Ro}
set_option tactic.hygienic true in
theorem pairs_of {P : PM} {h : Heap} (hP : ∀ a o, P a = some o → h.get? a = some o) : ∀ {kvs : List (Str × D)} {us : List Value}, Reps g.prog g.w P (kvs.map fun p => D.tup [.str p.1, p.2]) us →
    ∃ pairs : List (Str × Value), pairs.length = us.length ∧ kvs.map (·.1) = pairs.map (·.1) ∧ Reps g.prog g.w P (kvs.map (·.2)) (pairs.map (·.2)) ∧ ∀ (j : Nat) v p, us[j]? = some v → pairs[j]? = some p → PairAt h v p
  | [], _, .nil => ⟨[], rfl, rfl, .nil, fun j v p h _ => by simp at h⟩
  | p :: kvs, _, .cons (v := v) h1 r => by
    obtain ⟨pairs, e1, e2, e3, e4⟩ := pairs_of hP r
    cases h1 with
    | tup hp hs rr =>
    rename_i a o vs
    cases rr with
    | cons hx rr =>
    cases rr with
    | cons hd rr =>
    cases rr
    rename_i vx vd
    cases hx
    rename_i tk
    obtain ⟨m, hdat⟩ := hs.2
    refine ⟨(p.1, vd) :: pairs, by simp [e1], by simp [e2], .cons hd e3, fun j v q hj hq => ?_⟩
    cases j with
    | zero =>
      simp only [List.getElem?_cons_zero, Option.some.injEq] at hj hq
      subst hj hq
      exact ⟨a, o, m, tk, rfl, hP _ _ hp, hs.1, by rw [hdat]⟩
    | succ j =>
      simp only [List.getElem?_cons_succ] at hj hq
      exact e4 j v q hj hq
set_option tactic.hygienic true in
theorem WC.dictOf {kvs : List (Str × D)} (hlim : g.s₁.heap.NoLimit) (hnd : (kvs.map (·.1)).Nodup) (hl : kvs.length ≤ 900) (hq : Q (.d (.dcts kvs)) σ) : WC g n (.type "dict") [.d (.lst (kvs.map fun p => .tup [.str p.1, p.2]))] σ Q := fun A E P s vs hA S hv => by
  obtain ⟨v, rfl, h1⟩ := hv.one
  cases h1 with
  | lst hp hs r nd =>
  rename_i a o us
  obtain ⟨c, dct, dat, sl⟩ := o
  obtain ⟨hc, m, hdat⟩ := hs
  simp only at hc hdat nd
  subst hc hdat nd
  have hul := r.length
  rw [List.length_map] at hul
  obtain ⟨pairs, e1, e2, e3, e4⟩ := pairs_of S.keepP r
  refine call_dict_pairs (items := us) (pairs := pairs) hA.handled (S.keepP _ _ hp) e1 (by exact o1 (o3 hul hl) rfl) (by rw [← e2]; exact hnd) e4 fun h' tk D hfr hD hk hDe => ?_
  obtain ⟨o', ho', hd'⟩ := Heap.dictOf_iff.mp hD
  exact PostE.newData (tk := tk) S hq hk hfr ho' fun hle hb => .dcts hb hd' (by rw [hDe]; exact notMods hlim S) e2 (e3.mono (prog := g.prog) (w := g.w) hle)
noncomputable def WPs (g : Gm) (n : Nat) (env : Env) (ρ : Ro) : List (Option Expr) → List Expr → St → (List (Str × D) → St → Prop) → Prop
  | some k :: ks, v :: vs, σ, Q => WE g n env ρ σ k fun ka σ₁ => ∃ x, ka = .d (.str x) ∧ WE g n env ρ σ₁ v fun va σ₂ => ∃ d, va = .d d ∧ WPs g n env ρ ks vs σ₂ fun r σ₃ => Q ((x, d) :: r) σ₃
  | [], [], σ, Q => Q [] σ
  | _, _, _, _ => False
theorem WPs.run {pos : Pos} {A : Around} {E : Value → Shared → Prop} (hA : OkA n A) : ∀ (ks : List (Option Expr)) (vs : List Expr) (σ : St) (P : PM) (s : Shared) (Q : List (Str × D) → St → Prop), SS g.prog g.w g.s₁ P σ s → SF g.prog g.w env ρ P σ s.heap → WPs g n env ρ ks vs σ Q →
    wpAny g.M A (evalPairs (pairTrees ks vs env pos)) (fun us s' => ∃ kvs kvv P' σ', Q kvs σ' ∧ Carries (PySem.strKind g.prog g.w) us kvv ∧ kvs.map (·.1) = kvv.map (·.1) ∧ Reps g.prog g.w P' (kvs.map (·.2)) (kvv.map (·.2)) ∧ SS g.prog g.w g.s₁ P' σ' s' ∧ Step X0 P σ s.heap P' σ' s'.heap) E s
  | [], [], σ, P, s, Q, S, F, h => pairTrees_nil_walk ⟨[], [], P, σ, h, trivial, rfl, .nil, S, .refl⟩
  | some k :: ks, v :: vs, σ, P, s, Q, S, F, h => by
    refine pairTrees_cons_walk (WE.then h hA S F fun ka P₁ σ₁ kv s₁ z rk S₁ F₁ t₁ => z.elim fun x z => z.2.then hA S₁ F₁ fun va P₂ σ₂ vv s₂ zr5 rv S₂ F₂ t₂ => ?_)
    obtain ⟨hx, h1⟩ := z
    obtain ⟨d, hd, h2⟩ := zr5
    subst hx hd
    refine wpAny_mono (WPs.run hA ks vs σ₂ P₂ s₂ _ S₂ F₂ h2) (fun us s' zr2 => ?_) fun _ _ x => x
    obtain ⟨kvs, kvv, P', σ', q1, q2, q3, q4, q5, q6⟩ := zr2
    refine ⟨(x, d) :: kvs, (x, vv) :: kvv, P', σ', q1, ⟨KeyV.str P₁ kv rk, rfl, q2⟩, by simp [q3], .cons (rv.mono q6.le) q4, q5, (t₁.trans0 t₂).trans0 q6⟩
  | [], _ :: _, _, _, _, _, _, _, h => h.elim
  | none :: _, _, _, _, _, _, _, _, h => by cases h
  | some _ :: _, [], _, _, _, _, _, _, h => h.elim
theorem WE.dictD {keys : List (Option Expr)} {values : List Expr} {pos : Pos} (hlim : g.s₁.heap.NoLimit) (hsh : (keys.all (·.isSome) && decide (keys.length = values.length) && !keys.isEmpty && decide (keys.length ≤ 15)) = true) (h : WPs g n env ρ keys values σ fun kvs σ' => (kvs.map (·.1)).Nodup ∧ Q (.d (.dcts kvs)) σ') : WE g n env ρ σ (.Dict keys values pos) Q := fun A E P s hA S F => by
  simp only [Bool.and_eq_true, decide_eq_true_eq, Bool.not_eq_true', List.isEmpty_eq_false_iff] at hsh
  obtain ⟨⟨⟨h1, h2⟩, h3⟩, h4⟩ := hsh
  obtain ⟨k1, k2, k3⟩ := push_new (h := s.heap) (o := { cls := .type "dict", data := .dict #[] })
  have hf := S.sh.fresh k2
  have S0 : SS g.prog g.w g.s₁ P σ { s with heap := s.heap.push { cls := .type "dict", data := .dict #[] } } := ⟨S.sh.grow k1, S.gens, S.os⟩
  have t0 : Step X0 P σ s.heap P σ (s.heap.push { cls := .type "dict", data := .dict #[] }) := .grow k1
  refine wpAny_Dict_walk (knd := PySem.strKind g.prog g.w) h1 h2 h3 h4 ?_
  refine wpAny_mono (WPs.run hA keys values σ P _ _ S0 (F.step t0) h) (fun us s₁ z => ?_) fun _ _ x => x
  obtain ⟨kvs, kvv, P₁, σ₁, ⟨hnd, hq⟩, hc, hk, hr, S₁, t₁⟩ := z
  refine ⟨kvv, hc, ?_, fun h' hD hs => ?_⟩
  · have hnew : (s.heap.push { cls := .type "dict", data := .dict #[] }).DictOf (PySem.strKind g.prog g.w) s.heap.objs.size [] := Heap.DictOf.new s.heap
    obtain ⟨o, ho, hd⟩ := Heap.dictOf_iff.mp hnew
    exact Heap.dictOf_iff.mpr ⟨o, t₁.keep _ o ho hf.2 id, hd⟩
  · have P₁a : P₁ s.heap.objs.size = none := by
      cases e : P₁ s.heap.objs.size with
      | none => rfl
      | some o => rcases t₁.newP _ o e with q | q | q
                  · rw [hf.1] at q; cases q
                  · have q' : (s.heap.push { cls := .type "dict", data := .dict #[] }).get? s.heap.objs.size = none := q
                    rw [k3] at q'; cases q'
                  · exact absurd hf.2 q
    have σ₁a : σ₁ s.heap.objs.size = none := by
      cases e : σ₁ s.heap.objs.size with
      | none => rfl
      | some c => rcases t₁.newS _ c e with q | q
                  · exact absurd hf.2 q
                  · have q' : (s.heap.push { cls := .type "dict", data := .dict #[] }).get? s.heap.objs.size = none := q
                    rw [k3] at q'; cases q'
    rw [merged_nil_of_nodup kvv (by rw [← hk]; exact hnd)] at hD
    obtain ⟨o', ho', hd'⟩ := Heap.dictOf_iff.mp hD
    have T : Step X0 P σ s.heap P₁ σ₁ s₁.heap := t0.trans0 t₁
    have ne : ∀ b o, s.heap.get? b = some o → b ≠ s.heap.objs.size := fun b o e q => by rw [q, k2] at e; cases e
    have T' : Step X0 P σ s.heap P₁ σ₁ h' := ⟨T.le, fun b o e hσ hx => (hs.2 b (ne b o e)).trans (T.keep b o e hσ hx), T.newP, T.newS, fun b o e hx => by obtain ⟨o', e'⟩ := T.live b o e hx; exact ⟨o', (hs.2 b (ne b o e)).trans e'⟩⟩
    refine ⟨.d (.dcts kvs), _, σ₁, hq, ?_, ⟨(S₁.sh.off hs P₁a σ₁a).promote P₁a σ₁a ho', S₁.gens, S₁.os⟩, T'.promote P₁a k2⟩
    exact .dcts upd_same hd' (notMods hlim S) hk (hr.mono (prog := g.prog) (w := g.w) fun a o e => by rw [upd_ne (fun q => by subst q; rw [P₁a] at e; cases e)]; exact e)
theorem WPs.nil {R : List (Str × D) → St → Prop} (h : R [] σ) : WPs g n env ρ [] [] σ R := h
theorem WPs.str {x : Str} {k : Nat} {pos : Pos} {v : Expr} {ks : List (Option Expr)} {vs : List Expr} {R : List (Str × D) → St → Prop} (h : WE g n env ρ σ v fun va σ₂ => ∃ d, va = .d d ∧ WPs g n env ρ ks vs σ₂ fun r σ₃ => R ((x, d) :: r) σ₃) : WPs g n env ρ (some (.Constant (.str x) k pos) :: ks) (v :: vs) σ R := WE.cStr ⟨x, rfl, h⟩
end
end
local macro_rules | `(tactic| walk_at "s") => `(tactic| repeat (with_reducible first
  | refine WEs.cons (he := by with_unfolding_all rfl) ?_ | refine WEs.nil ?_
  | refine WE.name (by with_reducible repeat first | exact List.mem_cons_self | apply List.mem_cons_of_mem) ?_
  | refine WE.cInt ?_ | refine WE.cStr ?_ | refine WE.cBool ?_ | refine WE.cNone ?_
  | refine WE.slice ?_
  | refine WE.sub ?_ | refine WO.none ?_ | refine WO.some ?_
  | refine WT.compare ?_ | refine WE.compare ?_ | refine WE.binop ?_))
set_option tactic.hygienic false
section
noncomputable abbrev Pw : Program := PySem.Challenge.pw_pq0166_01
noncomputable def dOfStmt : Option Stmt → DefRec
  | some (.FunctionDef name args body _ _ _ scope _ _ pos) => ⟨name, args, body, scope, pos⟩
  | _ => ⟨"", ⟨[], [], none, [], [], none, []⟩, [], default, ⟨0, 0, 0, 0⟩⟩
noncomputable def dAt (i : Nat) : DefRec := dOfStmt (Pw.main.body[i]?)
noncomputable abbrev FnG (g : Gm) (x : Str) (i : Nat) : Prop := ∃ a, GlobIs g x (.ref a) ∧ FnAt g (dAt i) a
noncomputable abbrev TabG (g : Gm) (x : Str) (T : List (Str × KTD.Dat)) : Prop := ∃ a, GlobIs g x (.ref a) ∧ KTD.TextTab g.s₁.heap a T
noncomputable def tTrees : List (Str × KTD.Dat) := [("LET", .tup [.int 1]), ("MIDSET", .tup [.int 1]), ("SWAP", .tup [.int 1, .int 2])]
noncomputable def tLists : List (Str × KTD.Dat) := [("READ", .flat (.int 1)), ("INPUT", .flat (.int 4)), ("LINE", .flat (.int 4))]
noncomputable def tWords : List (Str × KTD.Dat) := [("FOR", .flat (.int 1)), ("LSET", .flat (.int 1)), ("RSET", .flat (.int 1))]
noncomputable def tUsed : List (Str × KTD.Dat) := [("NEXT", .flat (.int 1)), ("ERASE", .flat (.int 1)), ("COMMON", .flat (.int 1))]
noncomputable def tGoals : List (Str × KTD.Dat) := [("GOTO", .flat (.int 1)), ("GOSUB", .flat (.int 1)), ("RETURN", .flat (.int 1)), ("RESTORE", .flat (.int 1)), ("RESUME", .flat (.int 1)), ("ONERR", .flat (.int 1))]
structure Cx (g : Gm) : Prop where
  lim : g.s₁.heap.NoLimit
  is_whole : FnG g "is_whole" 6
  name_of_tree : FnG g "name_of_tree" 7
  is_tree : FnG g "is_tree" 8
  names_read : FnG g "names_read" 9
  set_trees : FnG g "set_trees" 10
  mat_uses : FnG g "mat_uses" 11
  own_uses : FnG g "own_uses" 12
  read_parts : FnG g "read_parts" 13
  goals_of : FnG g "goals_of" 14
  all_statements : FnG g "all_statements" 15
  noted : FnG g "noted" 16
  cross_reference : FnG g "cross_reference" 17
  lost_goals : FnG g "lost_goals" 18
  never_set : FnG g "never_set" 19
  shown_names : FnG g "shown_names" 20
  shown_goals : FnG g "shown_goals" 21
  draw : FnG g "_law_draw" 23
  exp : FnG g "_law_exp" 24
  place : FnG g "_law_place" 25
  goal : FnG g "_law_goal" 26
  simple : FnG g "_law_simple" 27
  statement : FnG g "_law_statement" 28
  lnoted : FnG g "_law_noted" 29
  law : FnG g "law" 30
  trees : TabG g "SET_TREES" tTrees
  lists : TabG g "SET_LISTS" tLists
  words : TabG g "SET_WORDS" tWords
  used : TabG g "USED_WORDS" tUsed
  goals : TabG g "GOAL_PLACES" tGoals
  isi : BltIs g "isinstance" (.builtin "isinstance")
  len : BltIs g "len" (.builtin "len")
  sorted : BltIs g "sorted" (.builtin "sorted")
  abs : BltIs g "abs" (.builtin "abs")
  sum : BltIs g "sum" (.builtin "sum")
  repr : BltIs g "repr" (.builtin "repr")
  int : BltIs g "int" (.type "int")
  bool : BltIs g "bool" (.type "bool")
  str : BltIs g "str" (.type "str")
  tuple : BltIs g "tuple" (.type "tuple")
  list : BltIs g "list" (.type "list")
  dict : BltIs g "dict" (.type "dict")
  range : BltIs g "range" (.type "range")
  reversed : BltIs g "reversed" (.type "reversed")
  enum : BltIs g "enumerate" (.type "enumerate")
section
variable {g : Gm} {n : Nat} {σ : St} {Q : AV → St → Prop}
theorem WC.fnR {d : DefRec} {a : Addr} {as : List AV} (xs : List Str) (ρ : Ro) (hρ : xs.zip as = ρ) (hf : FnAt g d a) (hlim : g.s₁.heap.NoLimit) (hx : as.length = xs.length)
    (hbind : ∀ pm cd doc vs, vs.length = xs.length → bindArgs (Calls.docDef d.name d.params d.body d.scope pm cd doc) ⟨vs, []⟩ = pure (xs.zip vs))
    (hok : (decide xs.Nodup && (xs.all fun x => decide (d.scope.names.lookup x = some .local ∨ d.scope.names.lookup x = some .cell)) && (d.scope.names.all fun y => decide (y.2 ≠ .free)) && decide ((Str.ofString "__classdict__", NameKind.cell) ∉ d.scope.names) && !d.scope.isCoroutine && !d.scope.isGenerator && decide (d.scope.kind = .function)) = true)
    (h : ∀ L cd, WSs g n (envOfC d.name d.scope L a cd) ρ σ d.body fun fl _ σ' => Q (retOf fl) σ') : WC g (n + 1) (.ref a) as σ Q := by
  subst hρ
  simp only [Bool.and_eq_true, decide_eq_true_eq, List.all_eq_true, Bool.not_eq_true'] at hok
  obtain ⟨⟨⟨⟨⟨⟨h1, h2⟩, h3⟩, h4⟩, h5⟩, h6⟩, h7⟩ := hok
  exact WC.fn hf hlim hx hbind h1 h2 h3 h4 h5 h6 h7 h
theorem is_whole_spec (C : Cx g) {d : D} (hf : d.flat = true) (hq : Q (.d (.bool (d.ty == "int"))) σ) {a : Addr} (hfn : FnAt g (dAt 6) a) : WC g (n + 1) (.ref a) [.d d] σ Q := by
  refine WC.fnR ["value"] [("value", .d d)] rfl hfn C.lim rfl (by intro pm cd doc vs hv; obtain ⟨_, e⟩ := len1 hv; subst e; exact rfl) (by decide +kernel) fun L cd => ?_
  refine WSs.cons (WS.ret ?_)
  refine WE.and2 ?_
  refine WE.callB C.isi ?_
  refine WEs.cons (WE.name (by with_reducible repeat first | exact List.mem_cons_self | apply List.mem_cons_of_mem) (WEs.cons (WE.blt C.int (WEs.nil ?_))))
  refine WC.isiInt hf (WTr.bool ?_)
  split
  · rename_i h
    refine WE.not (WE.callB C.isi ?_)
    refine WEs.cons (WE.name (by with_reducible repeat first | exact List.mem_cons_self | apply List.mem_cons_of_mem) (WEs.cons (WE.blt C.bool (WEs.nil ?_))))
    refine WC.isiBool hf (WTr.bool ?_)
    show Q (.d (.bool (!(d.ty == "bool")))) σ
    have e : (!(d.ty == "bool")) = (d.ty == "int") := by cases d <;> simp_all [D.ty]
    rw [e]; exact hq
  · rename_i h
    show Q (.d (.bool _)) σ
    have e : (d.ty == "int" || d.ty == "bool") = (d.ty == "int") := by cases d <;> simp_all [D.ty]
    rw [e]; exact hq

theorem name_of_tree_spec (C : Cx g) {x y : Str} {r : List D} (hz : y.length ≤ 1000) (hl : r.length ≤ 1000) (hq : Q (.d (.str (if x = "name" then y else if x = "item" then y ++ "()" else if x = "fn" then y else ""))) σ) {a : Addr} (hfn : FnAt g (dAt 7) a) : WC g (n + 1) (.ref a) [.d (.tup (.str x :: .str y :: r))] σ Q := by
  refine WC.fnR ["tree"] [("tree", .d (.tup (.str x :: .str y :: r)))] rfl hfn C.lim rfl (by intro pm cd doc vs hv; obtain ⟨_, e⟩ := len1 hv; subst e; exact rfl) (by decide +kernel) fun L cd => ?_
  refine WSs.cons (WS.cond ?_)
  refine WT.compare (WE.sub (WE.name (by with_reducible repeat first | exact List.mem_cons_self | apply List.mem_cons_of_mem) (WE.cInt (W2.itemT (d := .str x) (by exact i1 (Int.le_refl _) rfl) rfl (by exact o1 (oC (oC hl)) rfl) (WE.cStr (W2.eqS (WTr.bool ?_)))))))
  by_cases h1 : x = "name"
  · rw [if_pos (decide_eq_true h1)]
    rw [if_pos h1] at hq
    refine WSs.cons (WS.ret (WE.sub (WE.name (by with_reducible repeat first | exact List.mem_cons_self | apply List.mem_cons_of_mem) (WE.cInt (W2.itemT (d := .str y) (by exact i1 (Int.le_refl _) rfl) rfl (by exact o1 (oC (oC hl)) rfl) ?_)))))
    exact hq
  · rw [if_neg (by simpa using h1)]
    rw [if_neg h1] at hq
    refine WSs.nil ?_
    refine WSs.cons (WS.cond ?_)
    refine WT.compare (WE.sub (WE.name (by with_reducible repeat first | exact List.mem_cons_self | apply List.mem_cons_of_mem) (WE.cInt (W2.itemT (d := .str x) (by exact i1 (Int.le_refl _) rfl) rfl (by exact o1 (oC (oC hl)) rfl) (WE.cStr (W2.eqS (WTr.bool ?_)))))))
    by_cases h2 : x = "item"
    · rw [if_pos (decide_eq_true h2)]
      rw [if_pos h2] at hq
      refine WSs.cons (WS.ret (WE.binop (WE.sub (WE.name (by with_reducible repeat first | exact List.mem_cons_self | apply List.mem_cons_of_mem) (WE.cInt (W2.itemT (d := .str y) (by exact i1 (Int.le_refl _) rfl) rfl (by exact o1 (oC (oC hl)) rfl) (WE.cStr (W2.addS ?_ ?_))))))))
      · have : (("()" : Str)).length = 2 := by decide
        rw [this, sizeLine_eq]; exact o1 (Nat.add_le_add hz (Nat.le_refl _)) rfl
      · exact hq
    · rw [if_neg (by simpa using h2)]
      rw [if_neg h2] at hq
      refine WSs.nil ?_
      refine WSs.cons (WS.ret (WE.ifexp ?_))
      refine WT.compare (WE.sub (WE.name (by with_reducible repeat first | exact List.mem_cons_self | apply List.mem_cons_of_mem) (WE.cInt (W2.itemT (d := .str x) (by exact i1 (Int.le_refl _) rfl) rfl (by exact o1 (oC (oC hl)) rfl) (WE.cStr (W2.eqS (WTr.bool ?_)))))))
      by_cases h3 : x = "fn"
      · rw [if_pos (decide_eq_true h3)]
        rw [if_pos h3] at hq
        refine WE.sub (WE.name (by with_reducible repeat first | exact List.mem_cons_self | apply List.mem_cons_of_mem) (WE.cInt (W2.itemT (d := .str y) (by exact i1 (Int.le_refl _) rfl) rfl (by exact o1 (oC (oC hl)) rfl) ?_)))
        exact hq
      · rw [if_neg (by simpa using h3)]
        rw [if_neg h3] at hq
        exact WE.cStr hq
end
end
set_option tactic.hygienic false
section
section
variable {g : Gm} {n : Nat} {σ : St} {Q : AV → St → Prop} {env : Env} {ρ : Ro}
theorem WE.and_cons {x y : Expr} {ys : List Expr} {pos : Pos} (h : WE g n env ρ σ x fun a σ₁ => WTr g n a σ₁ fun c σ₂ => if c = true then WE g n env ρ σ₂ (.BoolOp .And (y :: ys) pos) Q else Q a σ₂) : WE g n env ρ σ (.BoolOp .And (x :: y :: ys) pos) Q :=
  fun A E P s hA S F => by
    rw [arm_eval_BoolOp]
    show wpAny g.M A (do
      let v ← eval x env
      standAt pos
      let t ← holding [v] (truthy v)
      match BoolOp.And, t with
      | .And, false | .Or, true => pure v
      | _, _ => boolOp pos .And (evalEach (y :: ys) env)) _ _ _
    refine wpAny_bind (h.then hA S F fun a P₁ σ₁ v s₁ h₁ ra S₁ F₁ t₁ => wpAny_bind (wpAny_standAt (wpAny_bind (wpAny_holding (wpAny_mono (h₁ A E P₁ s₁ v hA S₁ ra) (fun c s₂ zr2 => ?_) fun _ _ x => x)))))
    refine zr2.elim fun P₂ σ₂ h₂ S₂ t₂ => ?_
    cases c
    · exact wpAny_pure ⟨a, P₂, σ₂, h₂, ra.mono t₂.le, S₂, t₁.trans0 t₂⟩
    · have := h₂ A E P₂ s₂ hA S₂ (F₁.step t₂)
      rw [arm_eval_BoolOp] at this
      exact wpAny_mono this (fun _ _ x => x.after (t₁.trans0 t₂)) fun _ _ x => x
theorem WE.and_one {x : Expr} {pos : Pos} (h : WE g n env ρ σ x Q) : WE g n env ρ σ (.BoolOp .And [x] pos) Q := fun A E P s hA S F => by
  rw [arm_eval_BoolOp]
  exact h A E P s hA S F
theorem WSs.sub {sts : List Stmt} {ρ' : Ro} {Q : Fl → Ro → St → Prop} (hs : ∀ p ∈ ρ', p ∈ ρ) (h : WSs g n env ρ' σ sts Q) : WSs g n env ρ σ sts Q := fun A E P s hA S F => h A E P s hA S (F.sub hs)
theorem Bound.all {env : Env} {xs : List Str} (h : (xs.all fun x => decide (env.kindOf x = some .local) || (decide (env.kindOf x = some .cell) && env.func.isSome)) = true) : ∀ x ∈ xs, Bound env x := fun x hx => by
  have := List.all_eq_true.mp h x hx
  simp only [Bool.or_eq_true, decide_eq_true_eq, Bool.and_eq_true] at this
  exact this
end
-- the reader's walk over the parts of a statement
noncomputable def isTreeL : List D → Bool
  | .str x :: .str _ :: _ => decide (x = "name") || decide (x = "item") || decide (x = "fn")
  | _ => false
noncomputable def nameL : List D → Str
  | .str x :: .str y :: _ => if x = "name" then y else if x = "item" then y ++ "()" else if x = "fn" then y else ""
  | _ => ""
noncomputable def headOk : List D → Bool
  | [] => true
  | [_] => true
  | .str _ :: _ => true
  | _ => false
mutual
noncomputable def D.fine : D → Bool
  | .none => true
  | .bool _ => true
  | .int _ => true
  | .str x => decide (x.length ≤ 1000)
  | .tup ds => headOk ds && D.fines ds
  | .lst ds => D.fines ds
  | _ => false
noncomputable def D.fines : List D → Bool
  | [] => true
  | d :: ds => D.fine d && D.fines ds
end
mutual
noncomputable def D.wt : D → Nat
  | .tup ds => 1 + D.wts ds
  | .lst ds => 1 + D.wts ds
  | _ => 1
noncomputable def D.wts : List D → Nat
  | [] => 0
  | d :: ds => D.wt d + D.wts ds
end
mutual
noncomputable def readsD : D → List Str
  | .tup ds => if isTreeL ds then nameL ds :: readsK 2 ds else readsK 0 ds
  | .lst ds => readsK 0 ds
  | _ => []
noncomputable def readsK : Nat → List D → List Str
  | _, [] => []
  | 0, d :: ds => readsD d ++ readsK 0 ds
  | k + 1, _ :: ds => readsK k ds
end
theorem readsK_append : ∀ (xs ys : List D), readsK 0 (xs ++ ys) = readsK 0 xs ++ readsK 0 ys
  | [], ys => by simp [readsK]
  | d :: xs, ys => by rw [List.cons_append, readsK, readsK, readsK_append xs ys, List.append_assoc]
theorem wts_append : ∀ (xs ys : List D), D.wts (xs ++ ys) = D.wts xs + D.wts ys
  | [], ys => by simp [D.wts]
  | d :: xs, ys => by rw [List.cons_append, D.wts, D.wts, wts_append xs ys]; omega
theorem wt_pos : ∀ d : D, 1 ≤ d.wt := by intro d; cases d <;> simp [D.wt] <;> omega
theorem wts_len : ∀ ds : List D, ds.length ≤ D.wts ds
  | [] => Nat.le_refl _
  | d :: ds => by have := wts_len ds; have := wt_pos d; rw [D.wts, List.length_cons]; omega
theorem fines_append : ∀ (xs ys : List D), D.fines (xs ++ ys) = (D.fines xs && D.fines ys)
  | [], ys => by simp [D.fines]
  | d :: xs, ys => by rw [List.cons_append, D.fines, D.fines, fines_append xs ys, Bool.and_assoc]
theorem D.fine_flat (d : D) (h : d.fine = true) : d.flat = true :=
  D.rec (motive_1 := fun d => d.fine = true → d.flat = true) (motive_2 := fun ds => D.fines ds = true → D.flats ds = true) (motive_3 := fun _ => True) (motive_4 := fun _ => True) (motive_5 := fun _ => True) (motive_6 := fun _ => True)
    (fun _ => rfl) (fun _ _ => rfl) (fun _ _ => rfl) (fun _ _ => rfl) (fun _ ih h => ih (Bool.and_eq_true_iff.mp h).2) (fun _ ih h => ih h) (fun _ _ h => nomatch (h : false = true)) (fun _ _ h => nomatch (h : false = true)) (fun _ h => nomatch (h : false = true))
    (fun _ => rfl) (fun _ _ a b h => Bool.and_eq_true_iff.mpr ⟨a (Bool.and_eq_true_iff.mp h).1, b (Bool.and_eq_true_iff.mp h).2⟩) trivial (fun _ _ _ _ => trivial) trivial (fun _ _ _ _ => trivial) (fun _ _ _ => trivial) (fun _ _ _ => trivial) d h
section
variable {g : Gm} {n : Nat} {σ : St} {Q : AV → St → Prop} {env : Env} {ρ : Ro}
theorem W2.inTupS {x : Str} {ys : List Str} (hq : Q (.d (.bool (ys.any (· == x)))) σ) : W2 g n (compareOp .In) (.d (.str x)) (.d (.tup (ys.map .str))) σ Q := fun A E P s v u hA S hv hu => by
  cases hv
  obtain ⟨a, us, rfl, hl, r⟩ := Rep.isTup S hu
  exact in_tuple_strs hl (by simpa using r.strs) (PostE.here (tk := s.toks) S hq (.bool _))
noncomputable def treeB : D → Bool
  | .tup ds => isTreeL ds
  | _ => false
theorem tup_cases {ds : List D} (h : (D.tup ds).fine = true) : ds = [] ∨ (∃ d, ds = [d]) ∨ ∃ x d2 r, ds = .str x :: d2 :: r := by
  cases ds with
  | nil => exact .inl rfl
  | cons d1 r => cases r with
    | nil => exact .inr (.inl ⟨d1, rfl⟩)
    | cons d2 r => cases d1 with
      | str x => exact .inr (.inr ⟨x, d2, r, rfl⟩)
      | _ => exact nomatch (h : false = true)
theorem is_tree_spec (C : Cx g) {d : D} (hf : d.fine = true) (hl : ∀ ds, d = .tup ds → ds.length ≤ 1000) (hq : Q (.d (.bool (treeB d))) σ) {a : Addr} (hfn : FnAt g (dAt 8) a) : WC g (n + 1) (.ref a) [.d d] σ Q := by
  refine WC.fnR ["part"] [("part", .d d)] rfl hfn C.lim rfl (by intro pm cd doc vs hv; obtain ⟨_, e⟩ := len1 hv; subst e; exact rfl) (by decide +kernel) fun L cd => ?_
  have hflat := D.fine_flat d hf
  refine WSs.cons (WS.ret (WE.and_cons (WE.callB C.isi (WEs.cons (WE.name (by with_reducible repeat first | exact List.mem_cons_self | apply List.mem_cons_of_mem) (WEs.cons (WE.blt C.tuple (WEs.nil (WC.isiTuple hflat (WTr.bool ?_)))))))))) 
  rcases Classical.em (∃ ds, d = .tup ds) with ht | ht
  rotate_left
  · have e : (d.ty == "tuple") = false := by cases d <;> first | rfl | exact absurd ⟨_, rfl⟩ ht
    rw [e, if_neg (by decide)]
    have e2 : treeB d = false := by cases d <;> first | rfl | exact absurd ⟨_, rfl⟩ ht
    rw [e2] at hq
    exact hq
  obtain ⟨ds, rfl⟩ := ht
  have hlen := hl ds rfl
  rw [show ((D.tup ds).ty == "tuple") = true from rfl, if_pos rfl]
  refine WE.and_cons (WE.compare (WE.callB C.len (WEs.cons (WE.name (by with_reducible repeat first | exact List.mem_cons_self | apply List.mem_cons_of_mem) (WEs.nil (WC.lenT (by exact o1 hlen rfl) (WE.cInt (W2.gtI (WTr.bool ?_)))))))))
  have hq' : Q (.d (.bool (isTreeL ds))) σ := hq
  rcases tup_cases hf with rfl | ⟨d1, rfl⟩ | ⟨x, d2, r, rfl⟩
  · exact hq'
  · cases d1 <;> exact hq'
  rw [if_pos (by simp; omega)]
  refine WE.and_cons ?_
  walk_at "s"
  refine W2.itemT (d := .str x) (by exact i1 (Int.le_refl _) rfl) rfl (by simp at hlen ⊢; exact o1 hlen rfl) ?_
  refine WE.tuple ?_
  walk_at "s"
  refine ⟨(["name", "item", "fn"] : List Str).map .str, rfl, by decide, W2.inTupS (WTr.bool ?_)⟩
  have e : (["name", "item", "fn"] : List Str).any (· == x) = (decide (x = "name") || decide (x = "item") || decide (x = "fn")) := by
    simp only [List.any_cons, List.any_nil, Bool.or_false, str_beq, eq_comm, Bool.or_assoc]
  rw [e]
  by_cases h : (decide (x = "name") || decide (x = "item") || decide (x = "fn")) = true
  · rw [if_pos h]
    have hd2 : d2.flat = true := D.fine_flat d2 (Bool.and_eq_true_iff.mp (Bool.and_eq_true_iff.mp hf).2).1
    refine WE.and_one (WE.callB C.isi ?_)
    walk_at "s"
    refine W2.itemT (d := d2) (by exact i1 (Int.le_refl _) rfl) rfl (by simp at hlen ⊢; exact o1 hlen rfl) ?_
    walk_at "s"
    refine WE.blt C.str ?_
    walk_at "s"
    refine WC.isiStr hd2 ?_
    have e2 : (d2.ty == "str") = isTreeL (.str x :: d2 :: r) := by
      cases d2 <;> first | exact h.symm | rfl
    rw [e2]; exact hq'
  · rw [if_neg h]
    have e2 : isTreeL (.str x :: d2 :: r) = (decide (x = "name") || decide (x = "item") || decide (x = "fn")) := by
      have h' : (decide (x = "name") || decide (x = "item") || decide (x = "fn")) = false := by simpa using h
      cases d2 <;> first | exact h'.symm | rfl
    rw [← e2]; exact hq'
end
end
set_option tactic.hygienic false
section
theorem del_upd {α : Type} {f : Addr → Option α} {a : Addr} {x : α} (h : f a = none) : del (upd f a x) a = f := by
  funext b
  by_cases e : b = a
  · subst e; rw [del_same, h]
  · rw [del_ne e, upd_ne e]
theorem upd_comm {α : Type} {f : Addr → Option α} {a b : Addr} {x y : α} (h : a ≠ b) : upd (upd f a x) b y = upd (upd f b y) a x := by
  funext c
  by_cases e : c = a
  · subst e; rw [upd_ne h, upd_same, upd_same]
  · by_cases e' : c = b
    · subst e'; rw [upd_same, upd_ne e, upd_same]
    · rw [upd_ne e', upd_ne e, upd_ne e, upd_ne e']
theorem upd_none {α : Type} {f : Addr → Option α} {a b : Addr} {x : α} (h : upd f a x b = none) : b ≠ a ∧ f b = none := by
  by_cases e : b = a
  · subst e; rw [upd_same] at h; cases h
  · rw [upd_ne e] at h; exact ⟨e, h⟩
section
variable {g : Gm} {n : Nat} {σ : St} {Q : AV → St → Prop} {env : Env} {ρ : Ro}
theorem WC.reversedLT {d : D} {ds : List D} (hd : d = .lst ds ∨ d = .tup ds) (hl : ds.length ≤ 100000) (hq : ∀ b, σ b = none → Q (.cell b) (upd σ b (.rev ds))) : WC g n (.type "reversed") [.d d] σ Q := by
  rcases hd with rfl | rfl
  · exact WC.reversedL hq
  · exact WC.reversedT hl hq
theorem treeB_shape {d : D} (h : treeB d = true) : ∃ x y r, d = .tup (.str x :: .str y :: r) := by
  cases d with
  | tup ds => cases ds with
    | nil => exact nomatch (h : false = true)
    | cons a ds => cases a with
      | str x => cases ds with
        | nil => exact nomatch (h : false = true)
        | cons b r => cases b with
          | str y => exact ⟨x, y, r, rfl⟩
          | _ => exact nomatch (h : false = true)
      | _ => exact nomatch (h : false = true)
  | _ => exact nomatch (h : false = true)
theorem names_read_spec (C : Cx g) {dd : D} {ds : List D} (hdd : dd = .lst ds ∨ dd = .tup ds) (hf : D.fines ds = true) (hw : D.wts ds ≤ 900) (hq : Q (.d (.lst ((readsK 0 ds).map .str))) σ) {a : Addr} (hfn : FnAt g (dAt 9) a) : WC g (n + 2) (.ref a) [.d dd] σ Q := by
  have hlen := wts_len ds
  refine WN.fz ?_
  refine WC.fnR ["parts"] [("parts", .d dd)] rfl hfn C.lim rfl (by intro pm cd doc vs hv; obtain ⟨_, e⟩ := len1 hv; subst e; exact rfl) (by decide +kernel) fun L cd => ?_
  refine WSs.cons (WS.assignSwap (xs := ["found", "waiting"]) (Bound.all (by rfl)) (by decide) ?_)
  refine WEs.cons (WE.listCell ?_)
  walk_at "s"
  refine ⟨[], rfl, by decide, fun fo hfo => ?_⟩
  walk_at "s"
  refine WE.callT C.list ?_
  walk_at "s"
  refine WE.callT C.reversed ?_
  walk_at "s"
  refine WC.reversedLT hdd (by exact o1 (Nat.le_trans hlen hw) rfl) fun rv hrv => ?_
  walk_at "s"
  refine WC.listRev (ds := ds) (upd_same) (by exact o1 (Nat.le_trans hlen hw) rfl) fun wa hwa => ?_
  walk_at "s"
  refine And.intro rfl (Exists.intro _ (And.intro (Offs.cons (x := "waiting") (a := .cell wa) (xs := ["found"]) (as := [.cell fo]) (by repeat first | exact Off.nil | with_reducible apply Off.skip | (apply Off.keepD; kernel_rfl)) (Offs.cons (by repeat first | exact Off.nil | with_reducible apply Off.skip | (apply Off.keepD; kernel_rfl)) .nil)) ?_))
  obtain ⟨hrf, hrv'⟩ := upd_none hrv
  obtain ⟨hwr, hwa1⟩ := upd_none hwa
  obtain ⟨hwf, hwa'⟩ := upd_none hwa1
  rw [del_upd hrv]
  let st : List Str → List D → St := fun f t => upd (upd σ fo (.lst (f.map .str))) wa (.lst t.reverse)
  show WSs g (n + 1) _ _ (st [] ds) _ _
  generalize hB : ([("found", .cell fo), ("waiting", .cell wa), ("parts", .d dd)] : Ro) = B
  have mF : (Str.ofString "found", AV.cell fo) ∈ B := by rw [← hB]; (with_reducible repeat first | exact List.mem_cons_self | apply List.mem_cons_of_mem)
  have mW : (Str.ofString "waiting", AV.cell wa) ∈ B := by rw [← hB]; (with_reducible repeat first | exact List.mem_cons_self | apply List.mem_cons_of_mem)
  have stF : ∀ f t, st f t fo = some (.lst (f.map .str)) := fun f t => by show upd _ wa _ fo = _; rw [upd_ne (Ne.symm hwf), upd_same]
  have stW : ∀ f t, st f t wa = some (.lst t.reverse) := fun f t => upd_same
  have setF : ∀ f t x, upd (st f t) fo (.lst (f.map .str ++ [.str x])) = st (f ++ [x]) t := fun f t x => by
    show upd (upd (upd σ fo _) wa _) fo _ = _
    rw [upd_comm hwf, upd_upd]
    show upd (upd σ fo _) wa _ = upd (upd σ fo _) wa _
    rw [List.map_append]; rfl
  have setW : ∀ f t (l : List D) (t' : List D), l = t'.reverse → upd (st f t) wa (.lst l) = st f t' := fun f t l t' e => by
    show upd (upd _ wa _) wa _ = _
    rw [upd_upd, e]
  generalize hKd : (fun (fl : Fl) (_ : Ro) (σ' : St) => Fz Q (retOf fl) σ') = K
  obtain ⟨I, hI⟩ : ∃ I : Nat → Ro → St → Prop, I = fun k ρ σ' => ∃ f todo, σ' = st f todo ∧ D.fines todo = true ∧ D.wts todo ≤ k ∧ f.length + D.wts todo ≤ 900 ∧ f ++ readsK 0 todo = readsK 0 ds ∧ ∀ p ∈ B, p ∈ ρ := ⟨_, rfl⟩
  refine WSs.cons (WS.while I ?_ (D.wts ds) (by rw [hI]; exact ⟨[], ds, rfl, hf, Nat.le_refl _, by simpa using hw, by simp, fun p hp => hp⟩))
  intro k ρ σ' hk0
  rw [hI] at hk0
  obtain ⟨f, todo, rfl, hft, hk, hfw, heq, hsub⟩ := hk0
  have htl := wts_len todo
  refine WT.compare (WE.callB C.len (WEs.cons (WE.name (hsub _ mW) (WEs.nil (WC.lenCell (stW f todo) (by exact o1 (oR (Nat.le_trans htl (o10 hfw))) rfl) (WE.cInt (W2.gtI (WTr.bool ?_))))))))
  cases todo with
  | nil =>
    rw [if_neg (by simp)]
    refine WSs.cons (WS.ret (WE.name (hsub _ mF) ?_))
    rw [← hKd]
    refine Fz.lst (c := fo) (ds := (f.map .str)) rfl (stF _ _) (((Sub.refl.upd hfo).upd (by exact hwa')).del hfo) ?_
    have : f = readsK 0 ds := by simpa [readsK] using heq
    rw [this]; exact hq
  | cons d todo =>
    rw [if_pos (by simp)]
    rw [D.fines, Bool.and_eq_true] at hft
    rw [D.wts] at hk hfw
    have hdp := wt_pos d
    have htl' := wts_len todo
    refine WSs.sub hsub ?_
    subst hB
    refine WSs.cons (WS.assign (by repeat first | exact Off.nil | with_reducible apply Off.skip | (apply Off.keepD; kernel_rfl)) (WE.meth0 "list" "list.pop" PySem.F.plainAttrs_list PySem.F.slot_list_pop PySem.F.type_list_pop (WE.name (by with_reducible repeat first | exact List.mem_cons_self | apply List.mem_cons_of_mem) ⟨TyOf.lst (stW _ _), WC.pop (ds := todo.reverse) (x := d) (by rw [stW, List.reverse_cons]) (by exact o1 (oR (Nat.le_trans htl' (o10 (o10 hfw)))) rfl) ?_⟩)))
    rw [setW f _ _ todo rfl]
    obtain ⟨it, hit, hitF⟩ := C.is_tree
    have hdl : ∀ es, d = .tup es → D.wts es < d.wt := fun es e => by subst e; rw [D.wt]; omega
    refine WSs.cons (WS.cond (WT.value (WE.callFn hit hitF ?_)))
    walk_at "s"
    refine is_tree_spec C hft.1 (fun es e => by have := hdl es e; have := wts_len es; omega) (WTr.bool ?_) hitF
    by_cases htr : treeB d = true
    · rw [if_pos htr]
      obtain ⟨x, y, r, rfl⟩ := treeB_shape htr
      have hw2 := hdl _ rfl
      simp only [D.wts, D.wt] at hw2 hk hfw
      have hrl := wts_len r
      have hyl : y.length ≤ 1000 := by
        have := hft.1
        simp only [D.fine, D.fines, headOk, Bool.and_eq_true, decide_eq_true_eq] at this
        exact this.2.2.1
      have hrf : D.fines r = true := by
        have := hft.1
        simp only [D.fine, D.fines, headOk, Bool.and_eq_true] at this
        exact this.2.2.2
      refine WSs.cons (WS.expr (WE.meth "list" "list.append" PySem.F.plainAttrs_list PySem.F.slot_list_append PySem.F.type_list_append (WE.name (by with_reducible repeat first | exact List.mem_cons_self | apply List.mem_cons_of_mem) ⟨TyOf.lst (stF _ _), ?_⟩)))
      walk_at "s"
      obtain ⟨nt, hnt, hntF⟩ := C.name_of_tree
      refine WE.callFn hnt hntF ?_
      walk_at "s"
      refine name_of_tree_spec C hyl (by exact o1 (Nat.le_trans hrl (o10 (o10 (o10 (o6 (o10 hfw)))))) rfl) ?_ hntF
      walk_at "s"
      refine WC.append (stF _ _) (by exact o1 (oM (o6 hfw)) rfl) ⟨rfl, ?_⟩
      rw [setF]
      refine WSs.cons (WS.expr (WE.meth "list" "list.extend" PySem.F.plainAttrs_list PySem.F.slot_list_extend PySem.F.type_list_extend (WE.name (by with_reducible repeat first | exact List.mem_cons_self | apply List.mem_cons_of_mem) ⟨TyOf.lst (stW _ _), ?_⟩)))
      walk_at "s"
      refine WE.callT C.reversed ?_
      walk_at "s"
      refine W3.tupFrom (k := 2) (by exact o1 (Nat.le_refl _) rfl) (by simp) (by exact o1 (oC (oC (Nat.le_trans hrl (o10 (o10 (o10 (o6 (o10 hfw)))))))) rfl) ?_
      walk_at "s"
      refine WC.reversedT (by simp; exact o1 (Nat.le_trans hrl (o10 (o10 (o10 (o6 (o10 hfw)))))) rfl) fun rv2 hrv2 => ?_
      walk_at "s"
      have hne : rv2 ≠ wa := fun e => by subst e; rw [stW] at hrv2; cases hrv2
      refine WC.extendRev (ds := todo.reverse) (es := r) (by rw [upd_ne (Ne.symm hne)]; exact stW _ _) upd_same (by exact o1 (oR (Nat.le_trans htl' (o10 (o10 hfw)))) rfl) (by exact o1 (Nat.le_trans hrl (o10 (o10 (o10 (o6 (o10 hfw)))))) rfl) ⟨rfl, ?_⟩
      rw [del_upd hrv2, setW _ _ _ (r ++ todo) (by simp)]
      refine WSs.nil (WSs.nil ⟨D.wts (r ++ todo), ?_, ?_⟩)
      · show D.wts (r ++ todo) < k
        rw [wts_append]; omega
      rw [hI]
      refine ⟨_, r ++ todo, rfl, ?_, Nat.le_refl _, ?_, ?_, ?_⟩
      · rw [fines_append, hrf, hft.2]; rfl
      · rw [wts_append, List.length_append, List.length_singleton]; omega
      · rw [← heq, readsK_append, List.append_assoc]
        have ht : isTreeL (.str x :: .str y :: r) = true := htr
        simp only [readsK, readsD, ht, if_true, nameL, List.cons_append, List.nil_append]
      · intro p hp
        exact List.mem_cons_of_mem _ hp
    · rw [if_neg htr]
      have hfl := D.fine_flat d hft.1
      refine WSs.cons (WS.cond (WT.value (WE.isiTL C.isi C.tuple C.list ?_)))
      walk_at "s"
      refine ⟨d, rfl, hfl, WTr.bool ?_⟩
      have again : ∀ es : List D, D.fines es = true → readsK 0 es = readsD d → D.wts es < d.wt →
          ∃ m, m < k ∧ I m (("part", .d d) :: [("found", .cell fo), ("waiting", .cell wa), ("parts", .d dd)] : Ro) (st f (es ++ todo)) := fun es h1 h2 h3 =>
        ⟨D.wts (es ++ todo), by rw [wts_append]; omega, by rw [hI]; exact ⟨f, es ++ todo, rfl, by rw [fines_append, h1, hft.2]; rfl, Nat.le_refl _, by rw [wts_append]; omega, by rw [← heq, readsK_append, h2, readsK], fun p hp => List.mem_cons_of_mem _ hp⟩⟩
      cases d with
      | tup es =>
        rw [show ((D.tup es).ty == "tuple" || (D.tup es).ty == "list") = true from rfl, if_pos rfl]
        have hel := wts_len es
        simp only [D.wt] at hk hfw
        refine WSs.cons (WS.expr (WE.meth "list" "list.extend" PySem.F.plainAttrs_list PySem.F.slot_list_extend PySem.F.type_list_extend (WE.name (by with_reducible repeat first | exact List.mem_cons_self | apply List.mem_cons_of_mem) ⟨TyOf.lst (stW _ _), ?_⟩)))
        walk_at "s"
        refine WE.callT C.reversed ?_
        walk_at "s"
        refine WC.reversedT (by exact o1 (Nat.le_trans hel (o10 (o6 (o10 hfw)))) rfl) fun rv2 hrv2 => ?_
        walk_at "s"
        have hne : rv2 ≠ wa := fun e => by subst e; rw [stW] at hrv2; cases hrv2
        refine WC.extendRev (ds := todo.reverse) (es := es) (by rw [upd_ne (Ne.symm hne)]; exact stW _ _) upd_same (by exact o1 (oR (Nat.le_trans htl' (o10 (o10 hfw)))) rfl) (by exact o1 (Nat.le_trans hel (o10 (o6 (o10 hfw)))) rfl) ⟨rfl, ?_⟩
        rw [del_upd hrv2, setW _ _ _ (es ++ todo) (by simp)]
        refine WSs.nil (WSs.nil (WSs.nil (again es ?_ ?_ ?_)))
        · have := hft.1; rw [D.fine, Bool.and_eq_true] at this; exact this.2
        · have : isTreeL es = false := by simpa [treeB] using htr
          rw [readsD, this]; rfl
        · rw [D.wt]; omega
      | lst es =>
        rw [show ((D.lst es).ty == "tuple" || (D.lst es).ty == "list") = true from rfl, if_pos rfl]
        have hel := wts_len es
        simp only [D.wt] at hk hfw
        refine WSs.cons (WS.expr (WE.meth "list" "list.extend" PySem.F.plainAttrs_list PySem.F.slot_list_extend PySem.F.type_list_extend (WE.name (by with_reducible repeat first | exact List.mem_cons_self | apply List.mem_cons_of_mem) ⟨TyOf.lst (stW _ _), ?_⟩)))
        walk_at "s"
        refine WE.callT C.reversed ?_
        walk_at "s"
        refine WC.reversedL fun rv2 hrv2 => ?_
        walk_at "s"
        have hne : rv2 ≠ wa := fun e => by subst e; rw [stW] at hrv2; cases hrv2
        refine WC.extendRev (ds := todo.reverse) (es := es) (by rw [upd_ne (Ne.symm hne)]; exact stW _ _) upd_same (by exact o1 (oR (Nat.le_trans htl' (o10 (o10 hfw)))) rfl) (by exact o1 (Nat.le_trans hel (o10 (o6 (o10 hfw)))) rfl) ⟨rfl, ?_⟩
        rw [del_upd hrv2, setW _ _ _ (es ++ todo) (by simp)]
        refine WSs.nil (WSs.nil (WSs.nil (again es ?_ ?_ ?_)))
        · have := hft.1; rw [D.fine] at this; exact this
        · rw [readsD]
        · rw [D.wt]; omega
      | none => exact WSs.nil (WSs.nil (WSs.nil (again [] rfl rfl (by simp [D.wts, D.wt]))))
      | bool _ => exact WSs.nil (WSs.nil (WSs.nil (again [] rfl rfl (by simp [D.wts, D.wt]))))
      | int _ => exact WSs.nil (WSs.nil (WSs.nil (again [] rfl rfl (by simp [D.wts, D.wt]))))
      | str _ => exact WSs.nil (WSs.nil (WSs.nil (again [] rfl rfl (by simp [D.wts, D.wt]))))
      | dcts _ => exact nomatch (hft.1 : false = true)
      | dcti _ => exact nomatch (hft.1 : false = true)
      | rng _ => exact nomatch (hft.1 : false = true)
end
end
set_option tactic.hygienic false
section
section
variable {g : Gm} {n : Nat} {σ : St} {Q : AV → St → Prop} {env : Env} {ρ : Ro}
theorem WT.mono {e : Expr} {R R' : Bool → St → Prop} (h : WT g n env ρ σ e R) (hq : ∀ a σ', R a σ' → R' a σ') : WT g n env ρ σ e R' :=
  fun A E P s hA S F => wpAny_mono (h A E P s hA S F) (fun _ _ zq0_2 => by obtain ⟨P', σ', h1, h2⟩ := zq0_2; exact ⟨P', σ', hq _ _ h1, h2⟩) fun _ _ x => x
theorem CIf.mono : ∀ {ifs : List Expr} {σ : St} {R R' : Bool → St → Prop}, CIf g n env ρ ifs σ R → (∀ b σ', R b σ' → R' b σ') → CIf g n env ρ ifs σ R'
  | [], σ, R, R', h, hr => hr _ _ h
  | c :: cs, σ, R, R', h, hr => WT.mono h fun b σ₁ h₁ => by
    cases b
    · exact hr _ _ h₁
    · exact CIf.mono h₁ hr
theorem WA.mono {t : Expr} {a : AV} {Q Q' : Ro → Prop} (h : WA g n env t a ρ σ Q) (hq : ∀ r, Q r → Q' r) : WA g n env t a ρ σ Q' :=
  fun A E P s v hA S F hr => wpAny_mono (h A E P s v hA S F hr) (fun _ _ zq1_2 => by obtain ⟨r, h1, h2⟩ := zq1_2; exact ⟨r, hq _ h1, h2⟩) fun _ _ x => x
theorem CLoop.fm {t elt : Expr} {ifs : List Expr} (p : D → Bool) (f : D → D) {R : List D → St → Prop} : ∀ (items : List D) (out : List D),
    (∀ d ∈ items, WA g n env t (.d d) ρ σ fun ρ₁ => (∀ q ∈ ρ, q ∈ ρ₁) ∧ CIf g n env ρ₁ ifs σ fun b σ₁ => σ₁ = σ ∧ b = p d ∧ (b = true → WE g n env ρ₁ σ elt fun a σ₂ => a = .d (f d) ∧ σ₂ = σ)) →
    out.length + items.length ≤ 100000 → R (out ++ (items.filter p).map f) σ → CLoop g n env t ifs (CElt g n env elt) items ρ σ out R := by
  intro items
  induction items with
  | nil => intro out _ _ hR; show R out σ; simpa using hR
  | cons d r ih =>
    intro out h hl hR
    rw [List.length_cons] at hl
    refine WA.mono (h d (.head _)) fun ρ₁ z => ⟨z.1, CIf.mono z.2 fun b σ₁ zr2 => ?_⟩
    obtain ⟨e1, e2, h3⟩ := zr2
    subst e1
    cases b
    · exact ih out (fun d' hd' => h d' (.tail _ hd')) (by omega) (by rw [List.filter_cons, if_neg (by rw [← e2]; decide)] at hR; exact hR)
    · refine (h3 rfl).mono fun a σ₂ zr2 => ?_
      obtain ⟨ea, es⟩ := zr2
      subst ea es
      refine ⟨_, rfl, by exact o1 (o6 hl) rfl, ih _ (fun d' hd' => h d' (.tail _ hd')) (by rw [List.length_append, List.length_singleton]; omega) ?_⟩
      rw [List.filter_cons, if_pos e2.symm] at hR
      simpa using hR
theorem CLoop.map {t elt : Expr} (f : D → D) {R : List D → St → Prop} (items : List D) (out : List D)
    (h : ∀ d ∈ items, WA g n env t (.d d) ρ σ fun ρ₁ => (∀ q ∈ ρ, q ∈ ρ₁) ∧ WE g n env ρ₁ σ elt fun a σ₂ => a = .d (f d) ∧ σ₂ = σ)
    (hl : out.length + items.length ≤ 100000) (hR : R (out ++ items.map f) σ) : CLoop g n env t [] (CElt g n env elt) items ρ σ out R :=
  CLoop.fm (fun _ => true) f items out (fun d hd => WA.mono (h d hd) fun ρ₁ zq5_1 => by obtain ⟨h1, h2⟩ := zq5_1; exact ⟨h1, rfl, rfl, fun _ => h2⟩) hl (by rw [List.filter_eq_self.mpr fun _ _ => rfl]; exact hR)

noncomputable def placesAt (k : Str) : List Nat := if k = "LET" then [1] else if k = "MIDSET" then [1] else if k = "SWAP" then [1, 2] else []
noncomputable def listAt (k : Str) : Option Nat := if k = "READ" then some 1 else if k = "INPUT" then some 4 else if k = "LINE" then some 4 else none
noncomputable def treesOf (k : Str) (ds : List D) : List D := (placesAt k).map (fun i => ds.getD i D.none) ++ match listAt k with
  | some p => (match ds.getD p D.none with | .lst es => es | _ => [])
  | none => []
theorem trees_get (k : Str) : (match KTD.datumAt k tTrees with | some d => KTDg d = true ∧ dOf d = .tup ((placesAt k).map fun i => .int (Int.ofNat i)) | none => (placesAt k) = []) := by
  unfold tTrees placesAt
  simp only [KTD.datumAt, decide_eq_true_eq]
  by_cases h1 : k = "LET"
  · rw [if_pos h1, if_pos h1]; exact ⟨rfl, rfl⟩
  rw [if_neg h1, if_neg h1]
  by_cases h2 : k = "MIDSET"
  · rw [if_pos h2, if_pos h2]; exact ⟨rfl, rfl⟩
  rw [if_neg h2, if_neg h2]
  by_cases h3 : k = "SWAP"
  · rw [if_pos h3, if_pos h3]; exact ⟨rfl, rfl⟩
  rw [if_neg h3, if_neg h3]
theorem lists_get (k : Str) : KTD.inKeys k tLists = (listAt k).isSome ∧ ∀ p, listAt k = some p → ∃ d, KTD.datumAt k tLists = some d ∧ KTDg d = true ∧ dOf d = .int (Int.ofNat p) := by
  rw [← KTD.isSome_datumAt]
  unfold tLists listAt
  simp only [KTD.datumAt, decide_eq_true_eq]
  by_cases h1 : k = "READ"
  · rw [if_pos h1, if_pos h1]; exact ⟨rfl, fun p hp => by cases hp; exact ⟨_, rfl, rfl, rfl⟩⟩
  rw [if_neg h1, if_neg h1]
  by_cases h2 : k = "INPUT"
  · rw [if_pos h2, if_pos h2]; exact ⟨rfl, fun p hp => by cases hp; exact ⟨_, rfl, rfl, rfl⟩⟩
  rw [if_neg h2, if_neg h2]
  by_cases h3 : k = "LINE"
  · rw [if_pos h3, if_pos h3]; exact ⟨rfl, fun p hp => by cases hp; exact ⟨_, rfl, rfl, rfl⟩⟩
  rw [if_neg h3, if_neg h3]
  exact ⟨rfl, fun p hp => by cases hp⟩
theorem set_trees_spec (C : Cx g) {k : Str} {r : List D} (hl : r.length ≤ 900) (hp : ∀ i ∈ placesAt k, i ≤ r.length) (hls : ∀ p, listAt k = some p → ∃ es, (D.str k :: r)[p]? = some (.lst es) ∧ es.length ≤ 900)
    (hq : Q (.d (.lst (treesOf k (.str k :: r)))) σ) {a : Addr} (hfn : FnAt g (dAt 10) a) : WC g (n + 1) (.ref a) [.d (.tup (.str k :: r))] σ Q := by
  refine WC.fnR ["statement"] [("statement", .d (.tup (.str k :: r)))] rfl hfn C.lim rfl (by intro pm cd doc vs hv; obtain ⟨_, e⟩ := len1 hv; subst e; exact rfl) (by decide +kernel) fun L cd => ?_
  refine WSs.cons (WS.assign (by repeat first | exact Off.nil | with_reducible apply Off.skip | (apply Off.keepD; kernel_rfl)) ?_)
  walk_at "s"
  refine W2.itemT (d := .str k) (by exact i1 (Int.le_refl _) rfl) rfl (by exact o1 (oC hl) rfl) ?_
  obtain ⟨ta, hta, tT⟩ := C.trees
  obtain ⟨la, hla, lT⟩ := C.lists
  refine WSs.cons (WS.assignComp1 [("statement", .d (.tup (.str k :: r)))] (by repeat first | exact Off.nil | with_reducible apply Off.skip | (apply Off.keepD; kernel_rfl)) (by rfl) (fun p hp => ?_) ?_)
  · rw [List.mem_singleton.mp hp]
    exact ⟨by (with_reducible repeat first | exact List.mem_cons_self | apply List.mem_cons_of_mem), rfl⟩
  refine WE.meth "dict" "dict.get" PySem.F.plainAttrs_dict PySem.F.slot_dict_get PySem.F.type_dict_get (WE.glob hta ⟨TyOf.tab tT, ?_⟩)
  walk_at "s"
  refine WE.tuple (WEs.nil ⟨[], rfl, by decide, ?_⟩)
  walk_at "s"
  have hpl : (placesAt k).length ≤ 2 := by unfold placesAt; split; simp; split; simp; split <;> simp
  let f : D → D := fun d => match d with | .int i => (D.str k :: r).getD i.toNat D.none | _ => D.none
  have hmap : ((placesAt k).map fun i => D.int (Int.ofNat i)).map f = (placesAt k).map fun i => (D.str k :: r).getD i D.none := by rw [List.map_map]; rfl
  refine WC.getTab tT ?_
  have tg := trees_get k
  obtain ⟨x, hx⟩ : ∃ x : D, x = .tup ((placesAt k).map fun i => .int (Int.ofNat i)) := ⟨_, rfl⟩
  cases hd : KTD.datumAt k tTrees
  all_goals
    rw [hd] at tg
    first
    | (have e : (D.tup [] : D) = x := by rw [hx, tg]; rfl
       show ∃ items, IterV g n _ (.d (.tup [])) items σ ∧ _
       rw [e])
    | (refine ⟨tg.1, ?_⟩
       rw [tg.2, ← hx])
    subst hx
    refine ⟨_, IterV.tup, fun Cc => CLoop.map f _ [] (fun d hdm => ?_) (by exact o1 (Nat.add_le_add oN (oM hpl)) rfl) ?_⟩
    · obtain ⟨i, hi, rfl⟩ := List.mem_map.mp hdm
      refine WA.name (by repeat first | exact Off.nil | with_reducible apply Off.skip | (apply Off.keepD; kernel_rfl)) ⟨fun q hq => List.mem_cons_of_mem _ hq, ?_⟩
      walk_at "s"
      refine W2.itemT (d := (D.str k :: r).getD i D.none) (by simp) ?_ (by exact o1 (oC hl) rfl) ⟨rfl, rfl⟩
      have hir := hp i hi
      show (D.str k :: r)[i]? = _
      rw [List.getElem?_eq_getElem (by simp; omega)]
      rw [getD_of (List.getElem?_eq_getElem (by simp; omega))]
    · rw [hmap]
      refine WSs.cons (WS.cond (WT.compare (WE.name (by with_reducible repeat first | exact List.mem_cons_self | apply List.mem_cons_of_mem) (WE.glob hla (W2.inTab lT (WTr.bool ?_))))))
      rw [(lists_get k).1]
      cases hls' : listAt k with
      | none =>
        rw [if_neg (by simp)]
        refine WSs.nil (WSs.cons (WS.ret (WE.name (by with_reducible repeat first | exact List.mem_cons_self | apply List.mem_cons_of_mem) ?_)))
        have : treesOf k (.str k :: r) = (placesAt k).map fun i => (D.str k :: r).getD i D.none := by unfold treesOf; rw [hls']; simp
        rw [this] at hq
        exact hq
      | some p =>
        rw [if_pos (by simp)]
        obtain ⟨dd, h1, h2, h3⟩ := (lists_get k).2 p hls'
        obtain ⟨es, hes, hesl⟩ := hls p hls'
        refine WSs.cons (WS.assign (by repeat first | exact Off.nil | with_reducible apply Off.skip | (apply Off.keepD; kernel_rfl)) (WE.binop (WE.name (by with_reducible repeat first | exact List.mem_cons_self | apply List.mem_cons_of_mem) (WE.callT C.list ?_))))
        walk_at "s"
        refine WE.glob hla ?_
        walk_at "s"
        refine W2.itemTab lT h1 h2 ?_
        rw [h3]
        refine W2.itemT (d := .lst es) (by simp) (by simpa using hes) (by exact o1 (oC hl) rfl) ?_
        walk_at "s"
        refine WC.listL (by exact o1 hesl rfl) ?_
        refine W2.addL (by exact o1 (Nat.add_le_add (oP oN (oM hpl)) hesl) rfl) ?_
        refine WSs.nil (WSs.cons (WS.ret (WE.name (by with_reducible repeat first | exact List.mem_cons_self | apply List.mem_cons_of_mem) ?_)))
        have : treesOf k (.str k :: r) = ((placesAt k).map fun i => (D.str k :: r).getD i D.none) ++ es := by
          unfold treesOf; rw [hls']; dsimp only; rw [getD_of hes]
        rw [this] at hq
        exact hq
end
end
set_option tactic.hygienic false
section
section
variable {g : Gm} {n : Nat} {σ : St} {Q : AV → St → Prop} {env : Env} {ρ : Ro}
noncomputable def restIdx (k : Str) (m : Nat) : List Nat := (List.range m).filter fun i => decide (0 < i) && !(placesAt k).contains i
noncomputable def partsOf (k : Str) (ds : List D) : List D := if k = "IF" then [ds.getD 1 D.none] else match listAt k with
  | some p => (ds.drop 1).take (p - 1) ++ ds.drop (p + 1)
  | none => (restIdx k ds.length).map fun i => ds.getD i D.none
theorem ints_ok (i : Nat) : (D.int (Int.ofNat i)).ok = true := by
  simp [D.ok, D.flat, D.py, SeqAt.shaped, PyData.canLay0, PyData.depth]
theorem places_flats (l : List Nat) : D.flats (l.map fun i => D.int (Int.ofNat i)) = true ∧ PyData.canLayAll0 (D.pys (l.map fun i => D.int (Int.ofNat i))) = true := by
  induction l with
  | nil => exact ⟨rfl, rfl⟩
  | cons a l ih => exact ⟨by rw [List.map_cons, D.flats, ih.1]; rfl, by rw [List.map_cons, D.pys, PyData.canLayAll0, ih.2]; rfl⟩
theorem any_places (l : List Nat) (i : Nat) : ((l.map fun i => D.int (Int.ofNat i)).any fun d => PyData.eqv d.py (D.int (Int.ofNat i)).py) = l.contains i := by
  induction l with
  | nil => rfl
  | cons a l ih =>
    rw [List.map_cons, List.any_cons, ih, List.contains_cons]
    congr 1
    show ((Int.ofNat a) == (Int.ofNat i)) = (i == a)
    rw [Bool.eq_iff_iff, beq_iff_eq, beq_iff_eq]
    constructor
    · intro h; exact (Int.ofNat.inj h).symm
    · intro h; rw [h]
noncomputable def pickP (k : Str) : D → Bool
  | .tup [.int i, _] => decide (0 < i.toNat) && !(placesAt k).contains i.toNat
  | _ => false
noncomputable def pickF : D → D
  | .tup [_, x] => x
  | _ => D.none
theorem read_parts_spec (C : Cx g) {k : Str} {r : List D} (hk : k ≠ "FIELD") (h1 : k = "IF" → 1 ≤ r.length) (hl : r.length ≤ 900) (hls : ∀ p, listAt k = some p → 1 ≤ p ∧ p ≤ r.length)
    (hq : Q (.d (.lst (partsOf k (.str k :: r)))) σ) {a : Addr} (hfn : FnAt g (dAt 13) a) : WC g (n + 1) (.ref a) [.d (.tup (.str k :: r))] σ Q := by
  refine WC.fnR ["statement"] [("statement", .d (.tup (.str k :: r)))] rfl hfn C.lim rfl (by intro pm cd doc vs hv; obtain ⟨_, e⟩ := len1 hv; subst e; exact rfl) (by decide +kernel) fun L cd => ?_
  refine WSs.cons (WS.assign (by repeat first | exact Off.nil | with_reducible apply Off.skip | (apply Off.keepD; kernel_rfl)) ?_)
  walk_at "s"
  refine W2.itemT (d := .str k) (by exact i1 (Int.le_refl _) rfl) rfl (by exact o1 (oC hl) rfl) ?_
  obtain ⟨ta, hta, tT⟩ := C.trees
  obtain ⟨la, hla, lT⟩ := C.lists
  refine WSs.cons (WS.cond ?_)
  walk_at "s"
  refine W2.eqS (WTr.bool ?_)
  by_cases hif : k = "IF"
  · rw [if_pos (decide_eq_true hif)]
    refine WSs.cons (WS.ret (WE.list ?_))
    walk_at "s"
    have hr := h1 hif
    refine W2.itemT (d := (D.str k :: r).getD 1 D.none) (by exact i1 (Int.le_refl _) rfl) ?_ (by exact o1 (oC hl) rfl) ?_
    · show (D.str k :: r)[1]? = _
      rw [List.getElem?_eq_getElem (by simp; omega), getD_of (List.getElem?_eq_getElem (by simp; omega))]
    walk_at "s"
    refine ⟨[(D.str k :: r).getD 1 D.none], rfl, by simp, ?_⟩
    unfold partsOf at hq
    rw [if_pos hif] at hq
    exact hq
  rw [if_neg (by simpa using hif)]
  unfold partsOf at hq
  rw [if_neg hif] at hq
  refine WSs.nil ?_
  refine WSs.cons (WS.cond (WT.compare (WE.name (by with_reducible repeat first | exact List.mem_cons_self | apply List.mem_cons_of_mem) (WE.glob hla (W2.inTab lT (WTr.bool ?_))))))
  rw [(lists_get k).1]
  cases hls' : listAt k with
  | some p =>
    rw [hls'] at hq
    dsimp only at hq
    rw [if_pos (by simp)]
    obtain ⟨dd, e1, e2, e3⟩ := (lists_get k).2 p hls'
    obtain ⟨hp1, hp2⟩ := hls p hls'
    refine WSs.cons (WS.assign (by repeat first | exact Off.nil | with_reducible apply Off.skip | (apply Off.keepD; kernel_rfl)) ?_)
    refine WE.sub (WE.glob hla ?_)
    walk_at "s"
    refine W2.itemTab lT e1 e2 ?_
    rw [e3]
    refine WSs.cons (WS.ret (WE.binop (WE.callT C.list ?_)))
    walk_at "s"
    refine W3.tupRun (a := 1) (b := p) (by exact o1 (Nat.le_refl _) rfl) hp1 (by simp; omega) (by exact o1 (oC hl) rfl) ?_
    walk_at "s"
    refine WC.listT (by simp; exact o1 (Nat.le_trans (Nat.min_le_right _ _) hl) rfl) ?_
    refine WE.callT C.list ?_
    walk_at "s"
    refine W2.addI ?_
    walk_at "s"
    rw [show (Int.ofNat p + 1) = ((p + 1 : Nat) : Int) from rfl]
    refine W3.tupFrom (k := p + 1) (by omega) (by simp; omega) (by exact o1 (oC hl) rfl) ?_
    walk_at "s"
    refine WC.listT (by simp; omega) (W2.addL (by simp; exact o1 (Nat.add_le_add (Nat.le_trans (Nat.min_le_right _ _) hl) (Nat.le_trans (Nat.sub_le _ _) hl)) rfl) ?_)
    exact hq
  | none =>
    rw [hls'] at hq
    dsimp only at hq
    rw [if_neg (by simp)]
    refine WSs.nil (WSs.cons (WS.cond ?_))
    walk_at "s"
    refine W2.eqS (WTr.bool ?_)
    rw [if_neg (by simpa using hk)]
    refine WSs.nil (WSs.cons (WS.assign (by repeat first | exact Off.nil | with_reducible apply Off.skip | (apply Off.keepD; kernel_rfl)) ?_))
    refine WE.meth "dict" "dict.get" PySem.F.plainAttrs_dict PySem.F.slot_dict_get PySem.F.type_dict_get (WE.glob hta ⟨TyOf.tab tT, ?_⟩)
    walk_at "s"
    refine WE.tuple (WEs.nil ⟨[], rfl, by decide, ?_⟩)
    walk_at "s"
    refine WC.getTab tT ?_
    have tg := trees_get k
    obtain ⟨x, hx⟩ : ∃ x : D, x = .tup ((placesAt k).map fun i => .int (Int.ofNat i)) := ⟨_, rfl⟩
    cases hd : KTD.datumAt k tTrees
    all_goals
      rw [hd] at tg
      first
      | (have e : (D.tup [] : D) = x := by rw [hx, tg]; rfl
         dsimp only
         rw [e])
      | (refine ⟨tg.1, ?_⟩
         rw [tg.2, ← hx])
      subst hx
      refine WSs.cons (WS.ret (WE.comp1E [("places", .d (.tup ((placesAt k).map fun i => .int (Int.ofNat i))))] C.enum (by rfl) (fun p hp => ?_) ?_))
      · rw [List.mem_singleton.mp hp]; exact ⟨by (with_reducible repeat first | exact List.mem_cons_self | apply List.mem_cons_of_mem), rfl⟩
      walk_at "s"
      refine ⟨_, rfl, fun Cc => CLoop.fm (pickP k) pickF _ [] (fun d hdm => ?_) (by rw [enumD_length]; exact o1 (Nat.add_le_add oN (oC hl)) rfl) ?_⟩
      · obtain ⟨i, hi⟩ := List.mem_iff_getElem?.mp hdm
        obtain ⟨hi1, rfl⟩ := enumD_at hi
        refine WA.tuple (xs := ["at", "part"]) (ps := [_, _]) rfl rfl rfl (Bound.all (by rfl)) (Offs.cons (by repeat first | exact Off.nil | with_reducible apply Off.skip | (apply Off.keepD; kernel_rfl)) (Offs.cons (by repeat first | exact Off.nil | with_reducible apply Off.skip | (apply Off.keepD; kernel_rfl)) .nil)) ⟨fun q hq => List.mem_cons_of_mem _ (List.mem_cons_of_mem _ hq), ?_⟩
        show WT g n _ _ σ _ _
        refine WT.and2 ?_
        walk_at "s"
        refine W2.gtI (WTr.bool ?_)
        have hpk : pickP k (.tup [.int (Int.ofNat i), (D.str k :: r).getD i D.none]) = (decide (0 < i) && !(placesAt k).contains i) := rfl
        have hgt : decide ((0 : Int) < Int.ofNat i) = decide (0 < i) := by
          show decide ((0 : Int) < (i : Int)) = decide (0 < i)
          by_cases h : 0 < i
          · rw [decide_eq_true h, decide_eq_true (by omega)]
          · rw [decide_eq_false h, decide_eq_false (by omega)]
        rw [hgt]
        by_cases h0 : 0 < i
        · rw [if_pos (decide_eq_true h0)]
          walk_at "s"
          refine W2.notInT (ints_ok i) (by rw [D.flat]; exact (places_flats _).1) (places_flats _).2 (WTr.bool ?_)
          rw [any_places]
          by_cases hc : (placesAt k).contains i = true
          · rw [hc]
            exact ⟨rfl, by rw [hpk, hc, Bool.not_true, Bool.and_false], fun e => by cases e⟩
          · have hc' : (placesAt k).contains i = false := by simpa using hc
            rw [hc', Bool.not_false, if_pos rfl]
            exact ⟨rfl, by rw [hpk, hc', decide_eq_true h0]; rfl, fun e => by
              refine WE.name (by with_reducible repeat first | exact List.mem_cons_self | apply List.mem_cons_of_mem) ?_
              exact ⟨rfl, rfl⟩⟩
        · rw [if_neg (by simpa using h0)]
          exact ⟨rfl, by rw [hpk, decide_eq_false h0, Bool.false_and], fun e => by cases e⟩
      · have e : ((enumD (.str k :: r)).filter (pickP k)).map pickF = (restIdx k (D.str k :: r).length).map fun i => (D.str k :: r).getD i D.none := by
          unfold enumD restIdx
          rw [List.filter_map, List.map_map]
          rfl
        rw [List.nil_append, e]
        exact hq
end
end
set_option tactic.hygienic false
section
section
variable {g : Gm} {n : Nat} {σ : St} {Q : AV → St → Prop} {env : Env} {ρ : Ro}
noncomputable def isGoalK (k : Str) : Bool := decide (k = "GOTO") || decide (k = "GOSUB") || decide (k = "RETURN") || decide (k = "RESTORE") || decide (k = "RESUME") || decide (k = "ONERR")
theorem goals_get (k : Str) : (match KTD.datumAt k tGoals with | some d => isGoalK k = true ∧ KTDg d = true ∧ dOf d = .int 1 | none => isGoalK k = false) := by
  unfold tGoals isGoalK
  simp only [KTD.datumAt, decide_eq_true_eq]
  by_cases h1 : k = "GOTO"
  · rw [if_pos h1]; exact ⟨by simp [h1], rfl, rfl⟩
  rw [if_neg h1]
  by_cases h2 : k = "GOSUB"
  · rw [if_pos h2]; exact ⟨by simp [h2], rfl, rfl⟩
  rw [if_neg h2]
  by_cases h3 : k = "RETURN"
  · rw [if_pos h3]; exact ⟨by simp [h3], rfl, rfl⟩
  rw [if_neg h3]
  by_cases h4 : k = "RESTORE"
  · rw [if_pos h4]; exact ⟨by simp [h4], rfl, rfl⟩
  rw [if_neg h4]
  by_cases h5 : k = "RESUME"
  · rw [if_pos h5]; exact ⟨by simp [h5], rfl, rfl⟩
  rw [if_neg h5]
  by_cases h6 : k = "ONERR"
  · rw [if_pos h6]; exact ⟨by simp [h6], rfl, rfl⟩
  rw [if_neg h6]
  simp [h1, h2, h3, h4, h5, h6]
noncomputable def goalsD (k : Str) (ds : List D) : List D :=
  if k = "ONGO" then (match ds.getD 3 D.none with | .lst es => es | _ => [])
  else if isGoalK k then (match ds.getD 1 D.none with | .int i => if k = "ONERR" ∧ i = 0 then [] else [.int i] | _ => [])
  else []
theorem goals_of_spec (C : Cx g) {k : Str} {r : List D} (hl : r.length ≤ 900) (ho : k = "ONGO" → ∃ es, (D.str k :: r)[3]? = some (.lst es) ∧ es.length ≤ 900) (hg : isGoalK k = true → ∃ d, (D.str k :: r)[1]? = some d ∧ d.flat = true)
    (hq : Q (.d (.lst (goalsD k (.str k :: r)))) σ) {a : Addr} (hfn : FnAt g (dAt 14) a) : WC g (n + 2) (.ref a) [.d (.tup (.str k :: r))] σ Q := by
  refine WC.fnR ["statement"] [("statement", .d (.tup (.str k :: r)))] rfl hfn C.lim rfl (by intro pm cd doc vs hv; obtain ⟨_, e⟩ := len1 hv; subst e; exact rfl) (by decide +kernel) fun L cd => ?_
  refine WSs.cons (WS.assign (by repeat first | exact Off.nil | with_reducible apply Off.skip | (apply Off.keepD; kernel_rfl)) ?_)
  walk_at "s"
  refine W2.itemT (d := .str k) (by exact i1 (Int.le_refl _) rfl) rfl (by exact o1 (oC hl) rfl) ?_
  refine WSs.cons (WS.cond ?_)
  walk_at "s"
  refine W2.eqS (WTr.bool ?_)
  unfold goalsD at hq
  by_cases h1 : k = "ONGO"
  · rw [if_pos (decide_eq_true h1)]
    rw [if_pos h1] at hq
    obtain ⟨es, h3, h4⟩ := ho h1
    rw [getD_of h3] at hq
    refine WSs.cons (WS.ret (WE.callT C.list ?_))
    walk_at "s"
    refine W2.itemT (d := .lst es) (by exact i1 (Int.le_refl _) rfl) h3 (by exact o1 (oC hl) rfl) ?_
    walk_at "s"
    refine WC.listL (by exact o1 h4 rfl) ?_
    exact hq
  rw [if_neg (by simpa using h1)]
  rw [if_neg h1] at hq
  obtain ⟨ta, hta, tT⟩ := C.goals
  refine WSs.nil (WSs.cons (WS.assign (by repeat first | exact Off.nil | with_reducible apply Off.skip | (apply Off.keepD; kernel_rfl)) ?_))
  refine WE.meth "dict" "dict.get" PySem.F.plainAttrs_dict PySem.F.slot_dict_get PySem.F.type_dict_get (WE.glob hta ⟨TyOf.tab tT, ?_⟩)
  walk_at "s"
  refine WC.getTab tT ?_
  have tg := goals_get k
  cases hd : KTD.datumAt k tGoals with
  | none =>
    rw [hd] at tg
    dsimp only at tg ⊢
    rw [tg, if_neg (by decide)] at hq
    refine WSs.cons (WS.cond (WT.or_cons ?_))
    walk_at "s"
    refine W2.eqI (WTr.bool ?_)
    rw [if_pos (by decide)]
    rw [if_pos rfl]
    refine WSs.cons (WS.ret (WE.list (WEs.nil ⟨[], rfl, by decide, ?_⟩)))
    exact hq
  | some dat =>
    rw [hd] at tg
    obtain ⟨t1, t2, t3⟩ := tg
    rw [t1, if_pos rfl] at hq
    obtain ⟨d, e1, e2⟩ := hg t1
    rw [getD_of e1] at hq
    refine ⟨t2, ?_⟩
    rw [t3]
    refine WSs.cons (WS.cond (WT.or_cons ?_))
    walk_at "s"
    refine W2.eqI (WTr.bool ?_)
    rw [if_neg (by decide)]
    obtain ⟨iw, hiw, iwF⟩ := C.is_whole
    refine WT.or_cons (WT.not (WT.value (WE.callFn hiw iwF ?_)))
    walk_at "s"
    refine W2.itemT (d := d) (by exact i1 (Int.le_refl _) rfl) e1 (by exact o1 (oC hl) rfl) ?_
    walk_at "s"
    refine is_whole_spec C e2 (WTr.bool ?_) iwF
    have retE : ∀ {ρ' : Ro}, (hq' : Q (.d (.lst [])) σ) → True := fun _ => trivial
    rcases Classical.em (∃ i, d = .int i) with ⟨i, rfl⟩ | hni
    rotate_left
    · have hty : (d.ty == "int") = false := by cases d <;> first | rfl | exact absurd ⟨_, rfl⟩ hni
      have hq' : Q (.d (.lst [])) σ := by cases d <;> first | exact hq | exact absurd ⟨_, rfl⟩ hni
      rw [hty, Bool.not_false, if_pos rfl, if_pos rfl]
      refine WSs.cons (WS.ret (WE.list (WEs.nil ⟨[], rfl, by decide, ?_⟩)))
      exact hq'
    rw [show ((D.int i).ty == "int") = true from rfl, Bool.not_true, if_neg (by decide)]
    refine WT.or_cons (WT.and2 ?_)
    walk_at "s"
    refine W2.eqS (WTr.bool ?_)
    by_cases h2 : k = "ONERR"
    · rw [if_pos (decide_eq_true h2)]
      walk_at "s"
      refine W2.itemT (d := .int i) (by exact i1 (Int.le_refl _) rfl) e1 (by exact o1 (oC hl) rfl) ?_
      walk_at "s"
      refine W2.eqI (WTr.bool ?_)
      by_cases h3 : i = 0
      · rw [if_pos (decide_eq_true h3), if_pos rfl]
        dsimp only at hq
        rw [if_pos ⟨h2, h3⟩] at hq
        refine WSs.cons (WS.ret (WE.list (WEs.nil ⟨[], rfl, by decide, ?_⟩)))
        exact hq
      · rw [if_neg (by simpa using h3)]
        dsimp only at hq
        rw [if_neg (fun h => h3 h.2)] at hq
        refine WT.or_nil ?_
        rw [if_neg (by decide)]
        refine WSs.nil (WSs.cons (WS.ret (WE.list ?_)))
        walk_at "s"
        refine W2.itemT (d := .int i) (by exact i1 (Int.le_refl _) rfl) e1 (by exact o1 (oC hl) rfl) ?_
        walk_at "s"
        exact ⟨[.int i], rfl, by simp, hq⟩
    · rw [if_neg (by simpa using h2)]
      rw [if_neg (by decide)]
      dsimp only at hq
      rw [if_neg (fun h => h2 h.1)] at hq
      refine WT.or_nil ?_
      rw [if_neg (by decide)]
      refine WSs.nil (WSs.cons (WS.ret (WE.list ?_)))
      walk_at "s"
      refine W2.itemT (d := .int i) (by exact i1 (Int.le_refl _) rfl) e1 (by exact o1 (oC hl) rfl) ?_
      walk_at "s"
      exact ⟨[.int i], rfl, by simp, hq⟩
end
end
set_option tactic.hygienic false
section
section
variable {g : Gm} {n : Nat} {σ : St} {Q : AV → St → Prop} {env : Env} {ρ : Ro}
theorem WA.sub {t : Expr} {a : AV} {ρ' : Ro} {Q : Ro → Prop} (hs : ∀ p ∈ ρ', p ∈ ρ) (h : WA g n env t a ρ' σ Q) : WA g n env t a ρ σ Q := fun A E P s v hA S F hr => h A E P s v hA S (F.sub hs) hr
noncomputable abbrev pr (p : Str × Str) : D := .tup [.str p.1, .str p.2]
noncomputable def rd (x : Str) : Str × Str := (x, "read")
noncomputable def sd (x : Str) : Str × Str := (x, "set")
mutual
theorem readsD_len : ∀ d : D, (readsD d).length ≤ d.wt
  | .tup ds => by
    rw [readsD, D.wt]
    split
    · rw [List.length_cons]; have := readsK_len 2 ds; omega
    · have := readsK_len 0 ds; omega
  | .lst ds => by rw [readsD, D.wt]; have := readsK_len 0 ds; omega
  | .none => by simp [readsD]
  | .bool _ => by simp [readsD]
  | .int _ => by simp [readsD]
  | .str _ => by simp [readsD]
  | .dcts _ => by simp [readsD]
  | .dcti _ => by simp [readsD]
  | .rng _ => by simp [readsD]
theorem readsK_len : ∀ (k : Nat) (ds : List D), (readsK k ds).length ≤ D.wts ds
  | _, [] => by simp [readsK]
  | 0, d :: ds => by rw [readsK, List.length_append, D.wts]; have := readsD_len d; have := readsK_len 0 ds; omega
  | k + 1, d :: ds => by rw [readsK, D.wts]; have := readsK_len k ds; omega
end
noncomputable def treeUses : D → List (Str × Str)
  | .tup (.str x :: .str y :: r) => sd (nameL (.str x :: .str y :: r)) :: (readsK 0 r).map rd
  | _ => []
noncomputable def isWord (k : Str) : Bool := decide (k = "FOR") || decide (k = "LSET") || decide (k = "RSET")
noncomputable def isUsed (k : Str) : Bool := decide (k = "NEXT") || decide (k = "ERASE") || decide (k = "COMMON")
noncomputable def strD : D → Str
  | .str x => x
  | _ => ""
noncomputable def lstD : D → List D
  | .lst es => es
  | _ => []
noncomputable def dimU : D → Str × Str
  | .tup (.str w :: _) => sd (w ++ "()")
  | _ => sd ""
noncomputable def usesOf (k : Str) (ds : List D) (mu : List (Str × Str)) : List (Str × Str) :=
  ((treesOf k ds).flatMap treeUses) ++ (if isWord k then [sd (strD (ds.getD 1 D.none))] else [])
  ++ (if isUsed k then ((lstD (ds.getD 1 D.none)).map fun e => rd (strD e)) else [])
  ++ (if k = "DEF" ∨ k = "DEFLINES" then [sd (strD (ds.getD 1 D.none))] else [])
  ++ (if k = "DIM" then ((lstD (ds.getD 1 D.none)).map dimU) else [])
  ++ (if k = "MAT" then mu else [])
  ++ (readsK 0 (partsOf k ds)).map rd
theorem W2.addCL {a : Addr} {xs ys : List D} (hc : σ a = some (.lst xs)) (hz : xs.length + ys.length ≤ 100000) (hq : Q (.d (.lst (xs ++ ys))) σ) : W2 g n (binaryOp .Add) (.cell a) (.d (.lst ys)) σ Q := fun A E P s v u hA S hv hu => by
  have hv' := hv; cases hv'
  obtain ⟨vs, k, ho, r1, hvl⟩ := cell_at S hc
  obtain ⟨b, ws, rfl, hb, r2⟩ := Rep.isList S hu
  have hwl := r2.length
  obtain ⟨⟨cls2, dd2, data2, sl2⟩, ho2, hc2, m2, hd2⟩ := hb
  simp only at hc2 hd2
  subst hc2 hd2
  have e : vs.toArray ++ ws.toArray = (vs ++ ws).toArray := by simp
  refine concat_meets ⟨_, ho, rfl⟩ ⟨_, ho2, rfl⟩ noFill_list_add seq_list_add PySem.F.slot_list_add PySem.F.entry_list_add (PySem.F.args_list_add_2 _ _) (list_addW a b vs.toArray ws.toArray k m2 none dd2 #[] sl2 (by rw [List.size_toArray, List.size_toArray, sizeLine_eq]; exact o1 (Nat.add_le_add (o3 hvl (o6 hz)) (o3 hwl (o10 hz))) rfl)) ⟨ho, ho2, ?_⟩
  rw [e]
  obtain ⟨k1, k2, k3⟩ := push_new (h := s.heap) (o := seqObj "list" (vs ++ ws).toArray 0)
  exact PostE.newData (tk := s.toks) S hq k1 k2 k3 fun hle hbq => .lst hbq .of ((r1.append r2).mono (prog := g.prog) (w := g.w) hle)
theorem words_get (k : Str) : KTD.inKeys k tWords = isWord k ∧ (isWord k = true → ∃ d, KTD.datumAt k tWords = some d ∧ KTDg d = true ∧ dOf d = .int 1) := by
  rw [← KTD.isSome_datumAt]
  unfold tWords isWord
  simp only [KTD.datumAt, decide_eq_true_eq]
  by_cases h1 : k = "FOR"
  · rw [if_pos h1]; exact ⟨by simp [h1], fun _ => ⟨_, rfl, rfl, rfl⟩⟩
  rw [if_neg h1]
  by_cases h2 : k = "LSET"
  · rw [if_pos h2]; exact ⟨by simp [h2], fun _ => ⟨_, rfl, rfl, rfl⟩⟩
  rw [if_neg h2]
  by_cases h3 : k = "RSET"
  · rw [if_pos h3]; exact ⟨by simp [h3], fun _ => ⟨_, rfl, rfl, rfl⟩⟩
  rw [if_neg h3]
  simp [h1, h2, h3]
theorem used_get (k : Str) : KTD.inKeys k tUsed = isUsed k ∧ (isUsed k = true → ∃ d, KTD.datumAt k tUsed = some d ∧ KTDg d = true ∧ dOf d = .int 1) := by
  rw [← KTD.isSome_datumAt]
  unfold tUsed isUsed
  simp only [KTD.datumAt, decide_eq_true_eq]
  by_cases h1 : k = "NEXT"
  · rw [if_pos h1]; exact ⟨by simp [h1], fun _ => ⟨_, rfl, rfl, rfl⟩⟩
  rw [if_neg h1]
  by_cases h2 : k = "ERASE"
  · rw [if_pos h2]; exact ⟨by simp [h2], fun _ => ⟨_, rfl, rfl, rfl⟩⟩
  rw [if_neg h2]
  by_cases h3 : k = "COMMON"
  · rw [if_pos h3]; exact ⟨by simp [h3], fun _ => ⟨_, rfl, rfl, rfl⟩⟩
  rw [if_neg h3]
  simp [h1, h2, h3]
noncomputable def treeOk (d : D) : Prop := ∃ x y r, d = .tup (.str x :: .str y :: r) ∧ y.length ≤ 1000 ∧ D.fines r = true ∧ D.wts r ≤ 800
noncomputable def tgtOf : Option Stmt → Expr
  | some (.For t _ _ _ _) => t
  | _ => .Constant .none 0 ⟨0, 0, 0, 0⟩
noncomputable def bodyOf : Option Stmt → List Stmt
  | some (.For _ _ b _ _) => b
  | _ => []
noncomputable def dimF : D → D
  | .tup (.str w :: _) => D.tup [.str (w ++ "()"), .str "set"]
  | _ => D.none
noncomputable abbrev ouB (fo : Addr) (k : Str) (r : List D) : Ro := [("found", .cell fo), ("kind", .d (.str k)), ("statement", .d (.tup (.str k :: r)))]
theorem own_uses_spec (C : Cx g) {k : Str} {r : List D} {mu : List (Str × Str)} (hl : r.length ≤ 900) (hp : ∀ i ∈ placesAt k, i ≤ r.length) (hls : ∀ p, listAt k = some p → (∃ es, (D.str k :: r)[p]? = some (.lst es) ∧ es.length ≤ 900) ∧ 1 ≤ p ∧ p ≤ r.length)
    (ht : ∀ d ∈ treesOf k (.str k :: r), treeOk d) (htl : (treesOf k (.str k :: r)).length ≤ 10) (hkf : k ≠ "FIELD") (hif : k = "IF" → 1 ≤ r.length)
    (hw : isWord k = true → ∃ x, (D.str k :: r)[1]? = some (.str x)) (hu : isUsed k = true → ∃ es : List Str, (D.str k :: r)[1]? = some (.lst (es.map .str)) ∧ es.length ≤ 900)
    (hdef : k = "DEF" ∨ k = "DEFLINES" → ∃ x, (D.str k :: r)[1]? = some (.str x))
    (hdim : k = "DIM" → ∃ ws : List (Str × D), (D.str k :: r)[1]? = some (.lst (ws.map fun w => .tup [.str w.1, w.2])) ∧ ws.length ≤ 900 ∧ ∀ w ∈ ws, w.1.length ≤ 1000)
    (hmu : mu.length ≤ 900) (hmat : k = "MAT" → ∀ (σ : St) (Q : AV → St → Prop) (a : Addr), FnAt g (dAt 11) a → Q (.d (.lst (mu.map pr))) σ → WC g (n + 3) (.ref a) [.d (.tup (.str k :: r))] σ Q)
    (hpf : D.fines (partsOf k (.str k :: r)) = true) (hpw : D.wts (partsOf k (.str k :: r)) ≤ 900)
    {a : Addr} (hfn : FnAt g (dAt 12) a) (hq : Q (.d (.lst ((usesOf k (.str k :: r) mu).map pr))) σ) : WC g (n + 4) (.ref a) [.d (.tup (.str k :: r))] σ Q := by
  refine WN.fz ?_
  refine WC.fnR ["statement"] [("statement", .d (.tup (.str k :: r)))] rfl hfn C.lim rfl (by intro pm cd doc vs hv; obtain ⟨_, e⟩ := len1 hv; subst e; exact rfl) (by decide +kernel) fun L cd => ?_
  refine WSs.cons (WS.assignSwap (xs := ["kind", "found"]) (Bound.all (by rfl)) (by decide) ?_)
  walk_at "s"
  refine W2.itemT (d := .str k) (by exact i1 (Int.le_refl _) rfl) rfl (by exact o1 (oC hl) rfl) ?_
  refine WEs.cons (WE.listCell ?_)
  walk_at "s"
  refine ⟨[], rfl, by decide, fun fo hfo => ?_⟩
  walk_at "s"
  refine And.intro rfl (Exists.intro _ (And.intro (Offs.cons (x := "found") (a := .cell fo) (xs := ["kind"]) (as := [.d (.str k)]) (by repeat first | exact Off.nil | with_reducible apply Off.skip | (apply Off.keepD; kernel_rfl)) (Offs.cons (by repeat first | exact Off.nil | with_reducible apply Off.skip | (apply Off.keepD; kernel_rfl)) .nil)) ?_))
  let st : List (Str × Str) → St := fun f => upd σ fo (.lst (f.map pr))
  have stF : ∀ f, st f fo = some (.lst (f.map pr)) := fun f => upd_same
  have setF : ∀ f l h, l = f.map pr ++ h.map pr → upd (st f) fo (.lst l) = st (f ++ h) := fun f l h e => by
    show upd (upd σ fo _) fo _ = upd σ fo _
    rw [upd_upd, e, List.map_append]
  show WSs g (n + 3) _ _ (st []) _ _
  obtain ⟨s1, hs1, s1F⟩ := C.set_trees
  refine WSs.cons (WS.for (WE.callFn hs1 s1F ?_))
  walk_at "s"
  refine set_trees_spec C hl hp (fun p h => (hls p h).1) ?_ s1F
  refine ⟨_, IterV.lst, ?_⟩
  have loop : ∀ (ts : List D) (ρ : Ro) (f : List (Str × Str)) (K : Fl → Ro → St → Prop), (∀ p ∈ ouB fo k r, p ∈ ρ) → (∀ d ∈ ts, treeOk d) → f.length + 900 * ts.length ≤ 20000 →
      (∀ ρ', (∀ p ∈ ouB fo k r, p ∈ ρ') → K .next ρ' (st (f ++ ts.flatMap treeUses))) → FL g (n + 3) (envOfC (dAt 12).name (dAt 12).scope L a cd) (tgtOf ((dAt 12).body[1]?)) (bodyOf ((dAt 12).body[1]?)) K ts ρ (st f) := by
    intro ts
    induction ts with
    | nil => intro ρ f K hsub _ _ hK; show K .next ρ (st f); simpa using hK ρ hsub
    | cons d ts ih =>
      intro ρ f K hsub hok hlen hK
      obtain ⟨x, y, rr, rfl, hy, hrf, hrw⟩ := hok _ (.head _)
      rw [List.length_cons] at hlen
      have hrl := wts_len rr
      have hre := readsK_len 0 rr
      refine WA.sub hsub (WA.name (by repeat first | exact Off.nil | with_reducible apply Off.skip | (apply Off.keepD; kernel_rfl)) ?_)
      refine WSs.cons (WS.expr (WE.meth "list" "list.append" PySem.F.plainAttrs_list PySem.F.slot_list_append PySem.F.type_list_append (WE.name (by with_reducible repeat first | exact List.mem_cons_self | apply List.mem_cons_of_mem) ⟨TyOf.lst (stF _), ?_⟩)))
      refine WEs.cons (WE.tuple ?_)
      obtain ⟨nt, hnt, ntF⟩ := C.name_of_tree
      refine WEs.cons (WE.callFn hnt ntF ?_)
      walk_at "s"
      refine name_of_tree_spec C hy (by exact o1 (Nat.le_trans hrl hrw) rfl) ?_ ntF
      walk_at "s"
      refine ⟨[.str (nameL (.str x :: .str y :: rr)), .str "set"], rfl, by simp, ?_⟩
      walk_at "s"
      refine WC.append (stF _) (by exact o1 (oM (o6 hlen)) rfl) ⟨rfl, ?_⟩
      rw [show upd (st f) fo (.lst (f.map pr ++ [.tup [.str (nameL (.str x :: .str y :: rr)), .str "set"]])) = st (f ++ [sd (nameL (.str x :: .str y :: rr))]) from setF f _ [sd _] rfl]
      refine WSs.cons (WS.expr (WE.meth "list" "list.extend" PySem.F.plainAttrs_list PySem.F.slot_list_extend PySem.F.type_list_extend (WE.name (by with_reducible repeat first | exact List.mem_cons_self | apply List.mem_cons_of_mem) ⟨TyOf.lst (stF _), ?_⟩)))
      refine WEs.cons (WE.comp1 [] (by rfl) (fun p hp => by cases hp) ?_)
      obtain ⟨nr, hnr, nrF⟩ := C.names_read
      refine WE.callFn hnr nrF ?_
      walk_at "s"
      refine W3.tupFrom (k := 2) (by exact o1 (Nat.le_refl _) rfl) (by simp) (by exact o1 (oC (oC (Nat.le_trans hrl hrw))) rfl) ?_
      walk_at "s"
      refine names_read_spec C (.inr rfl) (by simpa using hrf) (by simpa using (by exact o1 hrw rfl : D.wts rr ≤ 900)) ?_ nrF
      refine ⟨_, IterV.lst, fun Cc => CLoop.map (fun d => .tup [d, .str "read"]) _ [] (fun d hd => ?_) (by simp; exact o1 (Nat.le_trans hre hrw) rfl) ?_⟩
      · obtain ⟨z, hz, rfl⟩ := List.mem_map.mp hd
        refine WA.name (by repeat first | exact Off.nil | with_reducible apply Off.skip | (apply Off.keepD; kernel_rfl)) ⟨fun q hq => (by cases hq), ?_⟩
        refine WE.tuple ?_
        walk_at "s"
        exact ⟨[.str z, .str "read"], rfl, by simp, rfl, rfl⟩
      walk_at "s"
      refine WC.extendL (stF _) (by exact o1 (oM (oP (o6 hlen) (oC oN))) rfl) (by simp; exact o1 (Nat.le_trans hre hrw) rfl) ⟨rfl, ?_⟩
      rw [setF _ _ ((readsK 0 rr).map rd) (by rw [List.nil_append, List.map_map, List.map_map]; rfl)]
      refine WSs.nil (ih _ _ K (fun p hp => List.mem_cons_of_mem _ hp) (fun d hd => hok d (.tail _ hd)) (by simp; omega) fun ρ' hs' => ?_)
      have := hK ρ' hs'
      rw [List.flatMap_cons, treeUses] at this
      simpa using this
  obtain ⟨K, hKd⟩ : ∃ K : Fl → Ro → St → Prop, K = fun fl _ σ' => Fz Q (retOf fl) σ' := ⟨_, rfl⟩
  have t8 : ∀ f : List (Str × Str), f.length ≤ 40000 → Q (.d (.lst ((f ++ (readsK 0 (partsOf k (.str k :: r))).map rd).map pr))) σ → WSs g (n + 3) (envOfC (dAt 12).name (dAt 12).scope L a cd) (ouB fo k r) (st f) ((dAt 12).body.drop 8) K := by
    intro f hfl hq'
    rw [hKd]
    have hre := readsK_len 0 (partsOf k (.str k :: r))
    refine WSs.cons (WS.ret (WE.binop (WE.name (by with_reducible repeat first | exact List.mem_cons_self | apply List.mem_cons_of_mem) ?_)))
    refine WE.comp1 [] (by rfl) (fun p hp => by cases hp) ?_
    obtain ⟨nr, hnr, nrF⟩ := C.names_read
    obtain ⟨rp, hrp, rpF⟩ := C.read_parts
    refine WE.callFn hnr nrF ?_
    refine WEs.cons (WE.callFn hrp rpF ?_)
    walk_at "s"
    refine read_parts_spec C hkf hif hl (fun p h => (hls p h).2) ?_ rpF
    walk_at "s"
    refine names_read_spec C (.inl rfl) hpf hpw ?_ nrF
    refine ⟨_, IterV.lst, fun Cc => CLoop.map (fun d => .tup [d, .str "read"]) _ [] (fun d hd => ?_) (by exact o1 (Nat.add_le_add oN (oM (Nat.le_trans hre hpw))) rfl) ?_⟩
    · obtain ⟨z, hz, rfl⟩ := List.mem_map.mp hd
      refine WA.name (by repeat first | exact Off.nil | with_reducible apply Off.skip | (apply Off.keepD; kernel_rfl)) ⟨fun q hq => (by cases hq), ?_⟩
      refine WE.tuple ?_
      walk_at "s"
      exact ⟨[.str z, .str "read"], rfl, by simp, rfl, rfl⟩
    refine W2.addCL (stF f) (by exact o1 (Nat.add_le_add (oM hfl) (oP oN (oM (oM (Nat.le_trans hre hpw))))) rfl) ?_
    have e : f.map pr ++ ([] ++ (((readsK 0 (partsOf k (.str k :: r))).map D.str).map fun d => D.tup [d, .str "read"])) = (f ++ (readsK 0 (partsOf k (.str k :: r))).map rd).map pr := by
      rw [List.nil_append, List.map_append, List.map_map, List.map_map]; rfl
    rw [e]
    exact Fz.drop ((Sub.refl (σ := σ)).upd hfo) hq'
  have ext : ∀ (f h : List (Str × Str)) (R : AV → St → Prop), f.length + h.length ≤ 60000 → R (.d .none) (st (f ++ h)) → WC g (n + 3) (.builtin "list.extend") [.cell fo, .d (.lst (h.map pr))] (st f) R := fun f h R hl hR => WC.extendL (stF f) (by exact o1 (oM (o6 hl)) rfl) (by exact o1 (oM (o10 hl)) rfl) (by rw [setF f _ h rfl]; exact hR)
  have app : ∀ (f : List (Str × Str)) (x : Str × Str) (R : AV → St → Prop), f.length ≤ 60000 → R (.d .none) (st (f ++ [x])) → WC g (n + 3) (.builtin "list.append") [.cell fo, .d (pr x)] (st f) R := fun f x R hl hR => WC.append (stF f) (by exact o1 (oM hl) rfl) (by rw [show upd (st f) fo (.lst (f.map pr ++ [pr x])) = st (f ++ [x]) from setF f _ [x] rfl]; exact hR)
  have t7 : ∀ f : List (Str × Str), f.length ≤ 38000 → Q (.d (.lst ((f ++ ((if k = "MAT" then mu else []) ++ (readsK 0 (partsOf k (.str k :: r))).map rd)).map pr))) σ → WSs g (n + 3) (envOfC (dAt 12).name (dAt 12).scope L a cd) (ouB fo k r) (st f) ((dAt 12).body.drop 7) K := by
    intro f hfl hq'
    refine WSs.cons (WS.cond (WT.compare (WE.name (by with_reducible repeat first | exact List.mem_cons_self | apply List.mem_cons_of_mem) (WE.cStr (W2.eqS (WTr.bool ?_))))))
    by_cases h : k = "MAT"
    · rw [if_pos (decide_eq_true h)]
      rw [if_pos h] at hq'
      refine WSs.cons (WS.expr (WE.meth "list" "list.extend" PySem.F.plainAttrs_list PySem.F.slot_list_extend PySem.F.type_list_extend (WE.name (by with_reducible repeat first | exact List.mem_cons_self | apply List.mem_cons_of_mem) ⟨TyOf.lst (stF _), ?_⟩)))
      obtain ⟨nr, hnr, nrF⟩ := C.mat_uses
      refine WEs.cons (WE.callFn hnr nrF ?_)
      walk_at "s"
      refine hmat h _ _ _ nrF ?_
      walk_at "s"
      refine ext f mu _ (by exact o1 (Nat.add_le_add hfl hmu) rfl) ⟨rfl, ?_⟩
      exact WSs.nil (t8 _ (by exact o1 (oP hfl hmu) rfl) (by rw [List.append_assoc]; exact hq'))
    · rw [if_neg (by simpa using h)]
      rw [if_neg h, List.nil_append] at hq'
      exact WSs.nil (t8 _ (by exact o1 hfl rfl) hq')
  have t6 : ∀ f : List (Str × Str), f.length ≤ 38000 → Q (.d (.lst ((f ++ ((if k = "MAT" then mu else []) ++ (readsK 0 (partsOf k (.str k :: r))).map rd)).map pr))) σ → WSs g (n + 3) (envOfC (dAt 12).name (dAt 12).scope L a cd) (ouB fo k r) (st f) ((dAt 12).body.drop 6) K := by
    intro f hfl hq'
    refine WSs.cons (WS.cond (WT.compare (WE.name (by with_reducible repeat first | exact List.mem_cons_self | apply List.mem_cons_of_mem) (WE.cStr (W2.eqS (WTr.bool ?_))))))
    rw [if_neg (by simpa using hkf)]
    exact WSs.nil (t7 _ hfl hq')
  have t5 : ∀ f : List (Str × Str), f.length ≤ 36000 → Q (.d (.lst ((f ++ ((if k = "DIM" then ((lstD ((D.str k :: r).getD 1 D.none)).map dimU) else []) ++ ((if k = "MAT" then mu else []) ++ (readsK 0 (partsOf k (.str k :: r))).map rd))).map pr))) σ → WSs g (n + 3) (envOfC (dAt 12).name (dAt 12).scope L a cd) (ouB fo k r) (st f) ((dAt 12).body.drop 5) K := by
    intro f hfl hq'
    refine WSs.cons (WS.cond (WT.compare (WE.name (by with_reducible repeat first | exact List.mem_cons_self | apply List.mem_cons_of_mem) (WE.cStr (W2.eqS (WTr.bool ?_))))))
    by_cases h : k = "DIM"
    · rw [if_pos (decide_eq_true h)]
      obtain ⟨ws, h1, h2, h3⟩ := hdim h
      rw [if_pos h, getD_of h1] at hq'
      refine WSs.cons (WS.expr (WE.meth "list" "list.extend" PySem.F.plainAttrs_list PySem.F.slot_list_extend PySem.F.type_list_extend (WE.name (by with_reducible repeat first | exact List.mem_cons_self | apply List.mem_cons_of_mem) ⟨TyOf.lst (stF _), ?_⟩)))
      refine WEs.cons (WE.comp1 [] (by rfl) (fun p hp => by cases hp) ?_)
      walk_at "s"
      refine W2.itemT (d := .lst (ws.map fun w : Str × D => D.tup [D.str w.1, w.2])) (by exact i1 (Int.le_refl _) rfl) h1 (by exact o1 (oC hl) rfl) ?_
      refine ⟨_, IterV.lst, fun Cc => CLoop.map dimF _ [] (fun d hd => ?_) (by exact o1 (Nat.add_le_add oN (oM h2)) rfl) ?_⟩
      · obtain ⟨w, hwm, rfl⟩ := List.mem_map.mp hd
        refine WA.tuple (xs := ["word", "bounds"]) (ps := [_, _]) rfl rfl rfl (Bound.all (by rfl)) (Offs.cons (by repeat first | exact Off.nil | with_reducible apply Off.skip | (apply Off.keepD; kernel_rfl)) (Offs.cons (by repeat first | exact Off.nil | with_reducible apply Off.skip | (apply Off.keepD; kernel_rfl)) .nil)) ⟨fun q hq => (by cases hq), ?_⟩
        refine WE.tuple ?_
        walk_at "s"
        refine W2.addS ?_ ?_
        · have h4 := h3 w hwm
          have : (("()" : Str)).length = 2 := by decide
          rw [this, sizeLine_eq]; exact o1 (Nat.add_le_add h4 (Nat.le_refl _)) rfl
        walk_at "s"
        exact ⟨[.str (w.1 ++ "()"), .str "set"], rfl, by simp, rfl, rfl⟩
      walk_at "s"
      have e : ([] ++ ((ws.map fun w => D.tup [.str w.1, w.2]).map dimF)) = (ws.map fun w => sd (w.1 ++ "()")).map pr := by
        rw [List.nil_append, List.map_map, List.map_map]; rfl
      rw [e]
      refine ext f _ _ (by exact o1 (Nat.add_le_add hfl (oM h2)) rfl) ⟨rfl, ?_⟩
      refine WSs.nil (t6 _ (by exact o1 (oP hfl (oM h2)) rfl) ?_)
      have e2 : (lstD (.lst (ws.map fun w : Str × D => D.tup [D.str w.1, w.2]))).map dimU = ws.map fun w => sd (w.1 ++ "()") := by show (ws.map _).map dimU = _; rw [List.map_map]; rfl
      rw [e2] at hq'
      rw [List.append_assoc]; exact hq'
    · rw [if_neg (by simpa using h)]
      rw [if_neg h, List.nil_append] at hq'
      exact WSs.nil (t6 _ (by exact o1 hfl rfl) hq')
  generalize hR5 : ((if k = "DIM" then ((lstD ((D.str k :: r).getD 1 D.none)).map dimU) else []) ++ ((if k = "MAT" then mu else []) ++ (readsK 0 (partsOf k (.str k :: r))).map rd)) = R5 at t5
  have t4 : ∀ f : List (Str × Str), f.length ≤ 34000 → Q (.d (.lst ((f ++ ((if k = "DEF" ∨ k = "DEFLINES" then [sd (strD ((D.str k :: r).getD 1 D.none))] else []) ++ R5)).map pr))) σ → WSs g (n + 3) (envOfC (dAt 12).name (dAt 12).scope L a cd) (ouB fo k r) (st f) ((dAt 12).body.drop 4) K := by
    intro f hfl hq'
    refine WSs.cons (WS.cond (WT.compare (WE.name (by with_reducible repeat first | exact List.mem_cons_self | apply List.mem_cons_of_mem) (WE.tuple ?_))))
    walk_at "s"
    refine ⟨(["DEF", "DEFLINES"] : List Str).map .str, rfl, by decide, W2.inTupS (WTr.bool ?_)⟩
    have e : (["DEF", "DEFLINES"] : List Str).any (· == k) = decide (k = "DEF" ∨ k = "DEFLINES") := by
      simp only [List.any_cons, List.any_nil, Bool.or_false, str_beq, eq_comm, Bool.decide_or]
    rw [e]
    by_cases h : k = "DEF" ∨ k = "DEFLINES"
    · rw [if_pos (decide_eq_true h)]
      obtain ⟨x, h1⟩ := hdef h
      rw [if_pos h, getD_of h1] at hq'
      refine WSs.cons (WS.expr (WE.meth "list" "list.append" PySem.F.plainAttrs_list PySem.F.slot_list_append PySem.F.type_list_append (WE.name (by with_reducible repeat first | exact List.mem_cons_self | apply List.mem_cons_of_mem) ⟨TyOf.lst (stF _), ?_⟩)))
      refine WEs.cons (WE.tuple ?_)
      walk_at "s"
      refine W2.itemT (d := .str x) (by exact i1 (Int.le_refl _) rfl) h1 (by exact o1 (oC hl) rfl) ?_
      walk_at "s"
      refine ⟨[.str x, .str "set"], rfl, by simp, ?_⟩
      walk_at "s"
      refine app f (sd x) _ (by exact o1 hfl rfl) ⟨rfl, ?_⟩
      exact WSs.nil (t5 _ (by exact o1 (oP hfl (oC oN)) rfl) (by rw [List.append_assoc]; exact hq'))
    · rw [if_neg (by simpa using h)]
      rw [if_neg h, List.nil_append] at hq'
      exact WSs.nil (t5 _ (by exact o1 hfl rfl) hq')
  generalize hR4 : ((if k = "DEF" ∨ k = "DEFLINES" then [sd (strD ((D.str k :: r).getD 1 D.none))] else []) ++ R5) = R4 at t4
  have t3 : ∀ f : List (Str × Str), f.length ≤ 32000 → Q (.d (.lst ((f ++ ((if isUsed k then ((lstD ((D.str k :: r).getD 1 D.none)).map fun e => rd (strD e)) else []) ++ R4)).map pr))) σ → WSs g (n + 3) (envOfC (dAt 12).name (dAt 12).scope L a cd) (ouB fo k r) (st f) ((dAt 12).body.drop 3) K := by
    intro f hfl hq'
    obtain ⟨ua, hua, uT⟩ := C.used
    refine WSs.cons (WS.cond (WT.compare (WE.name (by with_reducible repeat first | exact List.mem_cons_self | apply List.mem_cons_of_mem) (WE.glob hua (W2.inTab uT (WTr.bool ?_))))))
    rw [(used_get k).1]
    by_cases h : isUsed k = true
    · rw [if_pos h]
      obtain ⟨es, h1, h2⟩ := hu h
      obtain ⟨dd, e1, e2, e3⟩ := (used_get k).2 h
      rw [if_pos h, getD_of h1] at hq'
      refine WSs.cons (WS.expr (WE.meth "list" "list.extend" PySem.F.plainAttrs_list PySem.F.slot_list_extend PySem.F.type_list_extend (WE.name (by with_reducible repeat first | exact List.mem_cons_self | apply List.mem_cons_of_mem) ⟨TyOf.lst (stF _), ?_⟩)))
      refine WEs.cons (WE.comp1 [] (by rfl) (fun p hp => by cases hp) ?_)
      walk_at "s"
      refine WE.glob hua ?_
      walk_at "s"
      refine W2.itemTab uT e1 e2 ?_
      rw [e3]
      refine W2.itemT (d := .lst (es.map .str)) (by exact i1 (Int.le_refl _) rfl) h1 (by exact o1 (oC hl) rfl) ?_
      refine ⟨_, IterV.lst, fun Cc => CLoop.map (fun d => .tup [d, .str "read"]) _ [] (fun d hd => ?_) (by exact o1 (Nat.add_le_add oN (oM h2)) rfl) ?_⟩
      · obtain ⟨z, hz, rfl⟩ := List.mem_map.mp hd
        refine WA.name (by repeat first | exact Off.nil | with_reducible apply Off.skip | (apply Off.keepD; kernel_rfl)) ⟨fun q hq => (by cases hq), ?_⟩
        refine WE.tuple ?_
        walk_at "s"
        exact ⟨[.str z, .str "read"], rfl, by simp, rfl, rfl⟩
      walk_at "s"
      have e : ([] ++ ((es.map D.str).map fun d => D.tup [d, .str "read"])) = (es.map rd).map pr := by
        rw [List.nil_append, List.map_map, List.map_map]; rfl
      rw [e]
      refine ext f _ _ (by exact o1 (Nat.add_le_add hfl (oM h2)) rfl) ⟨rfl, ?_⟩
      refine WSs.nil (t4 _ (by exact o1 (oP hfl (oM h2)) rfl) ?_)
      have e2 : ((lstD (.lst (es.map D.str))).map fun e => rd (strD e)) = es.map rd := by show (es.map D.str).map _ = _; rw [List.map_map]; rfl
      rw [e2] at hq'
      rw [List.append_assoc]; exact hq'
    · rw [if_neg h]
      rw [if_neg h, List.nil_append] at hq'
      exact WSs.nil (t4 _ (by exact o1 hfl rfl) hq')
  generalize hR3 : ((if isUsed k then ((lstD ((D.str k :: r).getD 1 D.none)).map fun e => rd (strD e)) else []) ++ R4) = R3 at t3
  have t2 : ∀ f : List (Str × Str), f.length ≤ 30000 → Q (.d (.lst ((f ++ ((if isWord k then [sd (strD ((D.str k :: r).getD 1 D.none))] else []) ++ R3)).map pr))) σ → WSs g (n + 3) (envOfC (dAt 12).name (dAt 12).scope L a cd) (ouB fo k r) (st f) ((dAt 12).body.drop 2) K := by
    intro f hfl hq'
    obtain ⟨ua, hua, uT⟩ := C.words
    refine WSs.cons (WS.cond (WT.compare (WE.name (by with_reducible repeat first | exact List.mem_cons_self | apply List.mem_cons_of_mem) (WE.glob hua (W2.inTab uT (WTr.bool ?_))))))
    rw [(words_get k).1]
    by_cases h : isWord k = true
    · rw [if_pos h]
      obtain ⟨x, h1⟩ := hw h
      obtain ⟨dd, e1, e2, e3⟩ := (words_get k).2 h
      rw [if_pos h, getD_of h1] at hq'
      refine WSs.cons (WS.expr (WE.meth "list" "list.append" PySem.F.plainAttrs_list PySem.F.slot_list_append PySem.F.type_list_append (WE.name (by with_reducible repeat first | exact List.mem_cons_self | apply List.mem_cons_of_mem) ⟨TyOf.lst (stF _), ?_⟩)))
      refine WEs.cons (WE.tuple ?_)
      walk_at "s"
      refine WE.glob hua ?_
      walk_at "s"
      refine W2.itemTab uT e1 e2 ?_
      rw [e3]
      refine W2.itemT (d := .str x) (by exact i1 (Int.le_refl _) rfl) h1 (by exact o1 (oC hl) rfl) ?_
      walk_at "s"
      refine ⟨[.str x, .str "set"], rfl, by simp, ?_⟩
      walk_at "s"
      refine app f (sd x) _ (by exact o1 hfl rfl) ⟨rfl, ?_⟩
      exact WSs.nil (t3 _ (by exact o1 (oP hfl (oC oN)) rfl) (by rw [List.append_assoc]; exact hq'))
    · rw [if_neg h]
      rw [if_neg h, List.nil_append] at hq'
      exact WSs.nil (t3 _ (by exact o1 hfl rfl) hq')
  refine loop _ _ [] _ (fun p hp => ?_) ht (by exact o1 (Nat.add_le_add oN (Nat.mul_le_mul (Nat.le_refl _) htl)) rfl) fun ρ' hs' => ?_
  · simp only [List.mem_cons, List.not_mem_nil, or_false] at hp
    rcases hp with rfl | rfl | rfl <;> (with_reducible repeat first | exact List.mem_cons_self | apply List.mem_cons_of_mem)
  have hfl : ((treesOf k (.str k :: r)).flatMap treeUses).length ≤ 30000 := by
    have : ∀ l : List D, (∀ d ∈ l, treeOk d) → (l.flatMap treeUses).length ≤ 900 * l.length := by
      intro l
      induction l with
      | nil => intro _; simp
      | cons d l ih =>
        intro hok
        obtain ⟨x, y, rr, rfl, _, _, hrw⟩ := hok _ (.head _)
        have h1 := ih fun d hd => hok d (.tail _ hd)
        have h2 := readsK_len 0 rr
        rw [List.flatMap_cons, List.length_append, List.length_cons, treeUses, List.length_cons, List.length_map]
        omega
    have := this _ ht
    exact o1 (Nat.le_trans this (Nat.mul_le_mul (Nat.le_refl _) htl)) rfl
  rw [hKd] at t2
  rw [List.nil_append]
  refine WSs.sub hs' (t2 _ hfl ?_)
  subst hR3 hR4 hR5
  unfold usesOf at hq
  simp only [List.append_assoc] at hq ⊢
  exact hq
end
end
set_option tactic.hygienic false
section
section
variable {g : Gm} {n : Nat} {σ : St} {Q : AV → St → Prop} {env : Env} {ρ : Ro}
noncomputable def subsD : D → List D
  | .tup [.str k, _, .lst fs, .lst os] => if k = "IF" then fs ++ os else []
  | _ => []
noncomputable def exD (d : D) : List D := d :: subsD d
noncomputable def simpleS (d : D) : Prop := ∃ k r, d = .tup (.str k :: r) ∧ r.length ≤ 900 ∧ k ≠ "IF"
noncomputable def stmtOk (d : D) : Prop := simpleS d ∨ ∃ t fs os, d = .tup [.str "IF", t, .lst fs, .lst os] ∧ (fs ++ os).length ≤ 10 ∧ ∀ x ∈ fs ++ os, simpleS x
theorem simple_subs {d : D} (h : simpleS d) : subsD d = [] := by
  obtain ⟨k, r, rfl, _, hk⟩ := h
  cases r with
  | nil => rfl
  | cons t r => cases r with
    | nil => rfl
    | cons f r => cases f with
      | lst fs => cases r with
        | nil => rfl
        | cons o r => cases o with
          | lst os => cases r with
            | nil => exact if_neg hk
            | cons _ _ => rfl
          | _ => rfl
      | _ => rfl
theorem subs_ex {l : List D} (h : ∀ x ∈ l, simpleS x) : l.flatMap exD = l := by
  induction l with
  | nil => rfl
  | cons d l ih =>
    rw [List.flatMap_cons, ih fun x hx => h x (.tail _ hx)]
    unfold exD
    rw [simple_subs (h _ (.head _))]; rfl
theorem ex_len (l : List D) : l.length ≤ (l.flatMap exD).length := by
  induction l with
  | nil => simp
  | cons d l ih => rw [List.flatMap_cons, List.length_append, List.length_cons]; unfold exD; rw [List.length_cons]; unfold exD at ih; omega
theorem all_statements_spec (C : Cx g) {ds : List D} (hok : ∀ d ∈ ds, stmtOk d) (hw : (ds.flatMap exD).length ≤ 900) (hq : Q (.d (.lst (ds.flatMap exD))) σ) {a : Addr} (hfn : FnAt g (dAt 15) a) : WC g (n + 2) (.ref a) [.d (.lst ds)] σ Q := by
  have hlen := ex_len ds
  refine WN.fz ?_
  refine WC.fnR ["statements"] [("statements", .d (.lst ds))] rfl hfn C.lim rfl (by intro pm cd doc vs hv; obtain ⟨_, e⟩ := len1 hv; subst e; exact rfl) (by decide +kernel) fun L cd => ?_
  refine WSs.cons (WS.assignSwap (xs := ["found", "waiting"]) (Bound.all (by rfl)) (by decide) ?_)
  refine WEs.cons (WE.listCell ?_)
  walk_at "s"
  refine ⟨[], rfl, by decide, fun fo hfo => ?_⟩
  walk_at "s"
  refine WE.callT C.list ?_
  walk_at "s"
  refine WE.callT C.reversed ?_
  walk_at "s"
  refine WC.reversedL fun rv hrv => ?_
  walk_at "s"
  refine WC.listRev (ds := ds) (upd_same) (by exact o1 (Nat.le_trans hlen hw) rfl) fun wa hwa => ?_
  walk_at "s"
  refine And.intro rfl (Exists.intro _ (And.intro (Offs.cons (x := "waiting") (a := .cell wa) (xs := ["found"]) (as := [.cell fo]) (by repeat first | exact Off.nil | with_reducible apply Off.skip | (apply Off.keepD; kernel_rfl)) (Offs.cons (by repeat first | exact Off.nil | with_reducible apply Off.skip | (apply Off.keepD; kernel_rfl)) .nil)) ?_))
  obtain ⟨hrf, hrv'⟩ := upd_none hrv
  obtain ⟨hwr, hwa1⟩ := upd_none hwa
  obtain ⟨hwf, hwa'⟩ := upd_none hwa1
  rw [del_upd hrv]
  let st : List D → List D → St := fun f t => upd (upd σ fo (.lst f)) wa (.lst t.reverse)
  show WSs g (n + 1) _ _ (st [] ds) _ _
  generalize hB : ([("found", .cell fo), ("waiting", .cell wa), ("statements", .d (.lst ds))] : Ro) = B
  have mF : (Str.ofString "found", AV.cell fo) ∈ B := by rw [← hB]; (with_reducible repeat first | exact List.mem_cons_self | apply List.mem_cons_of_mem)
  have mW : (Str.ofString "waiting", AV.cell wa) ∈ B := by rw [← hB]; (with_reducible repeat first | exact List.mem_cons_self | apply List.mem_cons_of_mem)
  have stF : ∀ f t, st f t fo = some (.lst f) := fun f t => by show upd _ wa _ fo = _; rw [upd_ne (Ne.symm hwf), upd_same]
  have stW : ∀ f t, st f t wa = some (.lst t.reverse) := fun f t => upd_same
  have setF : ∀ f t x, upd (st f t) fo (.lst (f ++ [x])) = st (f ++ [x]) t := fun f t x => by
    show upd (upd (upd σ fo _) wa _) fo _ = _
    rw [upd_comm hwf, upd_upd]
  have setW : ∀ f t (l : List D) (t' : List D), l = t'.reverse → upd (st f t) wa (.lst l) = st f t' := fun f t l t' e => by
    show upd (upd _ wa _) wa _ = _
    rw [upd_upd, e]
  generalize hKd : (fun (fl : Fl) (_ : Ro) (σ' : St) => Fz Q (retOf fl) σ') = K
  obtain ⟨I, hI⟩ : ∃ I : Nat → Ro → St → Prop, I = fun k ρ σ' => ∃ f todo, σ' = st f todo ∧ (∀ d ∈ todo, stmtOk d) ∧ (todo.flatMap exD).length ≤ k ∧ f ++ todo.flatMap exD = ds.flatMap exD ∧ ∀ p ∈ B, p ∈ ρ := ⟨_, rfl⟩
  refine WSs.cons (WS.while I ?_ (ds.flatMap exD).length (by rw [hI]; exact ⟨[], ds, rfl, hok, Nat.le_refl _, rfl, fun p hp => hp⟩))
  intro k ρ σ' hk0
  rw [hI] at hk0
  obtain ⟨f, todo, rfl, hft, hk, heq, hsub⟩ := hk0
  have htl := ex_len todo
  have hfl : f.length + (todo.flatMap exD).length ≤ 900 := by
    have := congrArg List.length heq
    rw [List.length_append] at this
    exact o1 (o3 this hw) rfl
  refine WT.compare (WE.callB C.len (WEs.cons (WE.name (hsub _ mW) (WEs.nil (WC.lenCell (stW f todo) (by exact o1 (oR (Nat.le_trans htl (o10 hfl))) rfl) (WE.cInt (W2.gtI (WTr.bool ?_))))))))
  cases todo with
  | nil =>
    rw [if_neg (by simp)]
    refine WSs.cons (WS.ret (WE.name (hsub _ mF) ?_))
    rw [← hKd]
    refine Fz.lst (c := fo) (ds := f) rfl (stF _ _) (((Sub.refl.upd hfo).upd (by exact hwa')).del hfo) ?_
    have : f = ds.flatMap exD := by simpa using heq
    rw [this]; exact hq
  | cons d todo =>
    rw [if_pos (by simp)]
    have hd := hft _ (.head _)
    have hrest : ∀ x ∈ todo, stmtOk x := fun x hx => hft x (.tail _ hx)
    rw [List.flatMap_cons, List.length_append] at hk hfl
    rw [List.flatMap_cons] at heq
    have hexl : (exD d).length = 1 + (subsD d).length := by unfold exD; rw [List.length_cons]; omega
    have htl' := ex_len todo
    refine WSs.sub hsub ?_
    subst hB
    refine WSs.cons (WS.assign (by repeat first | exact Off.nil | with_reducible apply Off.skip | (apply Off.keepD; kernel_rfl)) (WE.meth0 "list" "list.pop" PySem.F.plainAttrs_list PySem.F.slot_list_pop PySem.F.type_list_pop (WE.name (by with_reducible repeat first | exact List.mem_cons_self | apply List.mem_cons_of_mem) ⟨TyOf.lst (stW _ _), WC.pop (ds := todo.reverse) (x := d) (by rw [stW, List.reverse_cons]) (by exact o1 (oR (Nat.le_trans htl' (o10 (o10 hfl)))) rfl) ?_⟩)))
    rw [setW f _ _ todo rfl]
    refine WSs.cons (WS.expr (WE.meth "list" "list.append" PySem.F.plainAttrs_list PySem.F.slot_list_append PySem.F.type_list_append (WE.name (by with_reducible repeat first | exact List.mem_cons_self | apply List.mem_cons_of_mem) ⟨TyOf.lst (stF _ _), ?_⟩)))
    walk_at "s"
    refine WC.append (stF _ _) (by exact o1 (o6 hfl) rfl) ⟨rfl, ?_⟩
    rw [setF]
    rcases hd with hd | ⟨t, fs, os, rfl, hfo10, hsim⟩
    · have hsubs := simple_subs hd
      obtain ⟨kk, r, rfl, hrl, hkk⟩ := hd
      refine WSs.cons (WS.cond ?_)
      walk_at "s"
      refine W2.itemT (d := .str kk) (by exact i1 (Int.le_refl _) rfl) rfl (by exact o1 (oC hrl) rfl) ?_
      walk_at "s"
      refine W2.eqS (WTr.bool ?_)
      rw [if_neg (by simpa using hkk)]
      refine WSs.nil (WSs.nil ⟨(todo.flatMap exD).length, by omega, ?_⟩)
      rw [hI]
      refine ⟨_, todo, rfl, hrest, Nat.le_refl _, ?_, fun p hp => List.mem_cons_of_mem _ hp⟩
      rw [← heq, List.append_assoc]
      show f ++ ([D.tup (.str kk :: r)] ++ _) = f ++ ((D.tup (.str kk :: r) :: subsD _) ++ _)
      rw [hsubs]
    · have hsubs : subsD (.tup [.str "IF", t, .lst fs, .lst os]) = fs ++ os := by show (if ("IF" : Str) = "IF" then fs ++ os else []) = _; rw [if_pos rfl]
      rw [List.length_append] at hfo10
      refine WSs.cons (WS.cond ?_)
      walk_at "s"
      refine W2.itemT (d := .str "IF") (by exact i1 (Int.le_refl _) rfl) rfl (by simp) ?_
      walk_at "s"
      refine W2.eqS (WTr.bool ?_)
      rw [if_pos (decide_eq_true rfl)]
      refine WSs.cons (WS.expr (WE.meth "list" "list.extend" PySem.F.plainAttrs_list PySem.F.slot_list_extend PySem.F.type_list_extend (WE.name (by with_reducible repeat first | exact List.mem_cons_self | apply List.mem_cons_of_mem) ⟨TyOf.lst (stW _ _), ?_⟩)))
      refine WEs.cons (WE.callT C.reversed ?_)
      refine WEs.cons (WE.binop (WE.callT C.list ?_))
      walk_at "s"
      refine W2.itemT (d := .lst fs) (by exact i1 (Int.le_refl _) rfl) rfl (by simp) ?_
      walk_at "s"
      refine WC.listL (by exact o1 (o6 hfo10) rfl) ?_
      refine WE.callT C.list ?_
      walk_at "s"
      refine W2.itemT (d := .lst os) (by exact i1 (Int.le_refl _) rfl) rfl (by simp) ?_
      walk_at "s"
      refine WC.listL (by exact o1 (o10 hfo10) rfl) (W2.addL (by exact o1 hfo10 rfl) ?_)
      walk_at "s"
      refine WC.reversedL fun rv2 hrv2 => ?_
      walk_at "s"
      have hne : rv2 ≠ wa := fun e => by subst e; rw [stW] at hrv2; cases hrv2
      refine WC.extendRev (ds := todo.reverse) (es := fs ++ os) (by rw [upd_ne (Ne.symm hne)]; exact stW _ _) upd_same (by rw [List.length_reverse]; exact o1 (Nat.le_trans htl' (o10 (o10 hfl))) rfl) (by rw [List.length_append]; exact o1 hfo10 rfl) ⟨rfl, ?_⟩
      rw [del_upd hrv2, setW _ _ _ ((fs ++ os) ++ todo) (by simp)]
      refine WSs.nil (WSs.nil ⟨(((fs ++ os) ++ todo).flatMap exD).length, ?_, ?_⟩)
      · rw [List.flatMap_append, subs_ex hsim, List.length_append]
        rw [hsubs] at hexl
        omega
      rw [hI]
      refine ⟨_, (fs ++ os) ++ todo, rfl, ?_, Nat.le_refl _, ?_, fun p hp => List.mem_cons_of_mem _ hp⟩
      · intro x hx
        rcases List.mem_append.mp hx with hx | hx
        · exact .inl (hsim x hx)
        · exact hrest x hx
      · rw [← heq, List.flatMap_append, subs_ex hsim]
        rw [List.append_assoc]
        show f ++ ([D.tup [.str "IF", t, .lst fs, .lst os]] ++ _) = f ++ ((D.tup [.str "IF", t, .lst fs, .lst os] :: subsD _) ++ _)
        rw [hsubs]; simp
end
end
set_option tactic.hygienic false
section

structure BookS (σ : St) (b : Addr) (L : List (Str × Addr × List D)) : Prop where
  at_ : σ b = some (.dcts (L.map fun p => (p.1, AV.cell p.2.1)))
  nd : (L.map (·.2.1)).Nodup
  ls : ∀ p ∈ L, σ p.2.1 = some (.lst p.2.2)
  keys : (L.map (·.1)).Nodup

noncomputable def noteD {K : Type} [DecidableEq K] (same : D → D → Bool) (L : List (K × List D)) (k : K) (m : D) : List (K × List D) :=
  match look L k with
  | some ms => if ms.any (fun d => same d m) then L else L.map fun p => if p.1 = k then (p.1, p.2 ++ [m]) else p
  | none => L ++ [(k, [m])]
noncomputable abbrev outOf {K : Type} (L : List (K × Addr × List D)) : List (K × List D) := L.map fun p => (p.1, p.2.2)
theorem look_map {K α β : Type} [DecidableEq K] (f : K × α → β) (L : List (K × α)) (k : K) : look (L.map fun p => (p.1, f p)) k = (L.find? fun p => p.1 = k).map f := by
  induction L with
  | nil => rfl
  | cons p L ih =>
    unfold look at *
    rw [List.map_cons, List.find?_cons, List.find?_cons]
    by_cases h : p.1 = k
    · simp [h]
    · simp only [h, decide_false]; exact ih
section
variable {g : Gm} {n : Nat} {σ : St} {Q : AV → St → Prop} {env : Env} {ρ : Ro}
theorem BookS.ne {b : Addr} {L : List (Str × Addr × List D)} (B : BookS σ b L) : ∀ p ∈ L, p.2.1 ≠ b := fun p hp e => by
  have := B.ls p hp
  rw [e, B.at_] at this; cases this
theorem BookS.look {b : Addr} {L : List (Str × Addr × List D)} (B : BookS σ b L) {k : Str} {p : Str × Addr × List D} (hp : L.find? (fun p => p.1 = k) = some p) : Mine.look (L.map fun p => (p.1, AV.cell p.2.1)) k = some (.cell p.2.1) := by
  have := look_map (fun q : Str × Addr × List D => AV.cell q.2.1) L k
  rw [hp] at this
  exact this
theorem BookS.mark {b : Addr} {L : List (Str × Addr × List D)} (B : BookS σ b L) {p : Str × Addr × List D} (hp : p ∈ L) (ms : List D) : BookS (upd σ p.2.1 (.lst ms)) b (L.map fun q => if q.2.1 = p.2.1 then (q.1, q.2.1, ms) else q) := by
  have hne := B.ne p hp
  have e1 : ∀ q : Str × Addr × List D, (if q.2.1 = p.2.1 then (q.1, q.2.1, ms) else q).1 = q.1 := fun q => by split <;> rfl
  have e2 : ∀ q : Str × Addr × List D, (if q.2.1 = p.2.1 then (q.1, q.2.1, ms) else q).2.1 = q.2.1 := fun q => by split <;> rfl
  refine ⟨?_, ?_, fun q hq => ?_, ?_⟩
  · rw [upd_ne (Ne.symm hne), B.at_, List.map_map]
    congr 2
    refine List.map_congr_left fun q _ => ?_
    show (q.1, AV.cell q.2.1) = ((if q.2.1 = p.2.1 then (q.1, q.2.1, ms) else q).1, AV.cell (if q.2.1 = p.2.1 then (q.1, q.2.1, ms) else q).2.1)
    rw [e1, e2]
  · have e : (L.map fun q => if q.2.1 = p.2.1 then (q.1, q.2.1, ms) else q).map (·.2.1) = L.map (·.2.1) := by
      rw [List.map_map]; exact List.map_congr_left fun q _ => e2 q
    rw [e]; exact B.nd
  · obtain ⟨q', hq', rfl⟩ := List.mem_map.mp hq
    by_cases h : q'.2.1 = p.2.1
    · rw [if_pos h, h]; exact upd_same
    · rw [if_neg h, upd_ne h]; exact B.ls q' hq'
  · have e : (L.map fun q => if q.2.1 = p.2.1 then (q.1, q.2.1, ms) else q).map (·.1) = L.map (·.1) := by
      rw [List.map_map]; exact List.map_congr_left fun q _ => e1 q
    rw [e]; exact B.keys
theorem BookS.fresh {b c : Addr} {L : List (Str × Addr × List D)} (B : BookS σ b L) {k : Str} (hk : k ∉ L.map (·.1)) (hc : σ c = none) : BookS (upd (upd σ c (.lst [])) b (.dcts ((L ++ [(k, c, ([] : List D))]).map fun p : Str × Addr × List D => (p.1, AV.cell p.2.1)))) b (L ++ [(k, c, [])]) := by
  have hcb : c ≠ b := fun e => by rw [e, B.at_] at hc; cases hc
  have hcL : c ∉ L.map (·.2.1) := fun h => by obtain ⟨q, hq, e⟩ := List.mem_map.mp h; have := B.ls q hq; rw [e, hc] at this; cases this
  refine ⟨upd_same, ?_, fun q hq => ?_, ?_⟩
  · rw [List.map_append, List.nodup_append]
    exact ⟨B.nd, by simp, fun x hx y hy e => by simp at hy; subst hy; subst e; exact hcL hx⟩
  · rcases List.mem_append.mp hq with hq | hq
    · rw [upd_ne (B.ne q hq), upd_ne (fun e => hcL (List.mem_map.mpr ⟨q, hq, e⟩))]; exact B.ls q hq
    · rw [List.mem_singleton.mp hq]
      show upd _ b _ c = _
      rw [upd_ne hcb, upd_same]
  · rw [List.map_append, List.nodup_append]
    exact ⟨B.keys, by simp, fun x hx y hy e => by simp at hy; subst hy; subst e; exact hk hx⟩
end
end
set_option tactic.hygienic false
section
section
variable {g : Gm} {n : Nat} {σ : St} {Q : AV → St → Prop} {env : Env} {ρ : Ro}
noncomputable def hasM (ms : List D) (m : D) : Bool := ms.any fun d => PyData.eqv d.py m.py
theorem find_none_keys {L : List (Str × Addr × List D)} {k : Str} (h : L.find? (fun p => p.1 = k) = none) : k ∉ L.map (·.1) := fun hm => by
  obtain ⟨q, hq, e⟩ := List.mem_map.mp hm
  have := List.find?_eq_none.mp h q hq
  simp [e] at this
theorem noted_tail (C : Cx g) {b : Addr} {k : Str} {m : D} {L : List (Str × Addr × List D)} {p : Str × Addr × List D} (B : BookS σ b L) (hp : L.find? (fun p => p.1 = k) = some p) (hm : m.ok = true) (hms : p.2.2.length ≤ 900 ∧ D.flats p.2.2 = true ∧ PyData.canLayAll0 (D.pys p.2.2) = true)
    {a : Addr} {L' : Addr} {cd : Value} {K : Fl → Ro → St → Prop} (hK : K .next [("book", .cell b), ("key", .d (.str k)), ("mark", .d m)] (if hasM p.2.2 m then σ else upd σ p.2.1 (.lst (p.2.2 ++ [m])))) :
    WSs g n (envOfC (dAt 16).name (dAt 16).scope L' a cd) [("book", .cell b), ("key", .d (.str k)), ("mark", .d m)] σ ((dAt 16).body.drop 1) K := by
  have hpm := List.mem_of_find?_eq_some hp
  refine WSs.cons (WS.cond ?_)
  walk_at "s"
  refine W2.itemDict (DictV.cellS B.at_) KeyV.str (B.look hp) ?_ (fun P v hr o => by cases hr; rfl)
  refine W2.notInCell (B.ls p hpm) hm hms.2.1 hms.2.2 (WTr.bool ?_)
  show if (!hasM p.2.2 m) = true then _ else _
  cases hh : hasM p.2.2 m
  · rw [hh] at hK
    rw [if_pos (by decide)]
    refine WSs.cons (WS.expr (WE.meth "list" "list.append" PySem.F.plainAttrs_list PySem.F.slot_list_append PySem.F.type_list_append ?_))
    walk_at "s"
    refine W2.itemDict (DictV.cellS B.at_) KeyV.str (B.look hp) ?_ (fun P v hr o => by cases hr; rfl)
    refine ⟨TyOf.lst (B.ls p hpm), ?_⟩
    walk_at "s"
    refine WC.append (B.ls p hpm) (by exact o1 hms.1 rfl) ⟨rfl, ?_⟩
    exact WSs.nil (WSs.nil hK)
  · rw [hh] at hK
    rw [if_neg (by decide)]
    exact WSs.nil (WSs.nil hK)
theorem noted_old (C : Cx g) {b : Addr} {k : Str} {m : D} {L : List (Str × Addr × List D)} {p : Str × Addr × List D} (B : BookS σ b L) (hp : L.find? (fun p => p.1 = k) = some p) (hm : m.ok = true) (hms : p.2.2.length ≤ 900 ∧ D.flats p.2.2 = true ∧ PyData.canLayAll0 (D.pys p.2.2) = true)
    (hq : Q (.d .none) (if hasM p.2.2 m then σ else upd σ p.2.1 (.lst (p.2.2 ++ [m])))) {a : Addr} (hfn : FnAt g (dAt 16) a) : WC g (n + 1) (.ref a) [.cell b, .d (.str k), .d m] σ Q := by
  refine WC.fnR ["book", "key", "mark"] [("book", .cell b), ("key", .d (.str k)), ("mark", .d m)] rfl hfn C.lim rfl (by intro pm cd doc vs hv; obtain ⟨_, _, _, e⟩ := len3 hv; subst e; exact rfl) (by decide +kernel) fun L' cd => ?_
  refine WSs.cons (WS.cond ?_)
  walk_at "s"
  refine W2.notInDict (DictV.cellS B.at_) KeyV.str (WTr.bool ?_)
  rw [B.look hp, if_neg (by simp)]
  exact WSs.nil (noted_tail C B hp hm hms hq)
theorem noted_new (C : Cx g) {b : Addr} {k : Str} {m : D} {L : List (Str × Addr × List D)} (B : BookS σ b L) (hp : L.find? (fun p => p.1 = k) = none) (hl : L.length ≤ 900) (hm : m.ok = true)
    (hq : ∀ c, σ c = none → BookS (upd (upd σ c (.lst [])) b (.dcts ((L ++ [(k, c, ([] : List D))]).map fun p : Str × Addr × List D => (p.1, AV.cell p.2.1)))) b (L ++ [(k, c, [])]) → Q (.d .none) (upd (upd (upd σ c (.lst [])) b (.dcts ((L ++ [(k, c, ([] : List D))]).map fun p : Str × Addr × List D => (p.1, AV.cell p.2.1)))) c (.lst [m]))) {a : Addr} (hfn : FnAt g (dAt 16) a) : WC g (n + 1) (.ref a) [.cell b, .d (.str k), .d m] σ Q := by
  refine WC.fnR ["book", "key", "mark"] [("book", .cell b), ("key", .d (.str k)), ("mark", .d m)] rfl hfn C.lim rfl (by intro pm cd doc vs hv; obtain ⟨_, _, _, e⟩ := len3 hv; subst e; exact rfl) (by decide +kernel) fun L' cd => ?_
  have hlook : Mine.look (L.map fun p => (p.1, AV.cell p.2.1)) k = none := by
    have := look_map (fun q : Str × Addr × List D => AV.cell q.2.1) L k
    rw [hp] at this; exact this
  refine WSs.cons (WS.cond ?_)
  walk_at "s"
  refine W2.notInDict (DictV.cellS B.at_) KeyV.str (WTr.bool ?_)
  rw [hlook, if_pos (by decide)]
  refine WSs.cons (WS.setItem (WE.listCell (WEs.nil ⟨[], rfl, by decide, fun c hc => ?_⟩)))
  have hcb : c ≠ b := fun e => by rw [e, B.at_] at hc; cases hc
  walk_at "s"
  refine WSet.dctS (by rw [upd_ne (Ne.symm hcb)]; exact B.at_) (by exact o1 (oM hl) rfl) ?_
  have hst : store (L.map fun p => (p.1, AV.cell p.2.1)) k (.cell c) = (L ++ [(k, c, ([] : List D))]).map fun p : Str × Addr × List D => (p.1, AV.cell p.2.1) := by
    unfold store
    rw [if_neg, List.map_append]
    · rfl
    · simp only [List.any_map, List.any_eq_true, not_exists, not_and]
      intro q hq e
      exact find_none_keys hp (List.mem_map.mpr ⟨q, hq, by simpa using e⟩)
  rw [hst]
  have B2 := B.fresh (k := k) (find_none_keys hp) hc
  have hfind : (L ++ [(k, c, ([] : List D))]).find? (fun p => p.1 = k) = some (k, c, []) := by
    rw [List.find?_append, hp]; simp
  refine WSs.nil (noted_tail C B2 hfind hm ⟨by simp, rfl, rfl⟩ ?_)
  exact hq c hc B2
end
end
set_option tactic.hygienic false
section
structure BookI (σ : St) (b : Addr) (L : List (Int × Addr × List D)) : Prop where
  at_ : σ b = some (.dcti (L.map fun p => (p.1, AV.cell p.2.1)))
  nd : (L.map (·.2.1)).Nodup
  ls : ∀ p ∈ L, σ p.2.1 = some (.lst p.2.2)
  keys : (L.map (·.1)).Nodup

section
variable {g : Gm} {n : Nat} {σ : St} {Q : AV → St → Prop} {env : Env} {ρ : Ro}
theorem BookI.ne {b : Addr} {L : List (Int × Addr × List D)} (B : BookI σ b L) : ∀ p ∈ L, p.2.1 ≠ b := fun p hp e => by
  have := B.ls p hp
  rw [e, B.at_] at this; cases this
theorem BookI.look {b : Addr} {L : List (Int × Addr × List D)} (B : BookI σ b L) {k : Int} {p : Int × Addr × List D} (hp : L.find? (fun p => p.1 = k) = some p) : Mine.look (L.map fun p => (p.1, AV.cell p.2.1)) k = some (.cell p.2.1) := by
  have := look_map (fun q : Int × Addr × List D => AV.cell q.2.1) L k
  rw [hp] at this
  exact this
theorem BookI.mark {b : Addr} {L : List (Int × Addr × List D)} (B : BookI σ b L) {p : Int × Addr × List D} (hp : p ∈ L) (ms : List D) : BookI (upd σ p.2.1 (.lst ms)) b (L.map fun q => if q.2.1 = p.2.1 then (q.1, q.2.1, ms) else q) := by
  have hne := B.ne p hp
  have e1 : ∀ q : Int × Addr × List D, (if q.2.1 = p.2.1 then (q.1, q.2.1, ms) else q).1 = q.1 := fun q => by split <;> rfl
  have e2 : ∀ q : Int × Addr × List D, (if q.2.1 = p.2.1 then (q.1, q.2.1, ms) else q).2.1 = q.2.1 := fun q => by split <;> rfl
  refine ⟨?_, ?_, fun q hq => ?_, ?_⟩
  · rw [upd_ne (Ne.symm hne), B.at_, List.map_map]
    congr 2
    refine List.map_congr_left fun q _ => ?_
    show (q.1, AV.cell q.2.1) = ((if q.2.1 = p.2.1 then (q.1, q.2.1, ms) else q).1, AV.cell (if q.2.1 = p.2.1 then (q.1, q.2.1, ms) else q).2.1)
    rw [e1, e2]
  · have e : (L.map fun q => if q.2.1 = p.2.1 then (q.1, q.2.1, ms) else q).map (·.2.1) = L.map (·.2.1) := by
      rw [List.map_map]; exact List.map_congr_left fun q _ => e2 q
    rw [e]; exact B.nd
  · obtain ⟨q', hq', rfl⟩ := List.mem_map.mp hq
    by_cases h : q'.2.1 = p.2.1
    · rw [if_pos h, h]; exact upd_same
    · rw [if_neg h, upd_ne h]; exact B.ls q' hq'
  · have e : (L.map fun q => if q.2.1 = p.2.1 then (q.1, q.2.1, ms) else q).map (·.1) = L.map (·.1) := by
      rw [List.map_map]; exact List.map_congr_left fun q _ => e1 q
    rw [e]; exact B.keys
theorem BookI.fresh {b c : Addr} {L : List (Int × Addr × List D)} (B : BookI σ b L) {k : Int} (hk : k ∉ L.map (·.1)) (hc : σ c = none) : BookI (upd (upd σ c (.lst [])) b (.dcti ((L ++ [(k, c, ([] : List D))]).map fun p : Int × Addr × List D => (p.1, AV.cell p.2.1)))) b (L ++ [(k, c, [])]) := by
  have hcb : c ≠ b := fun e => by rw [e, B.at_] at hc; cases hc
  have hcL : c ∉ L.map (·.2.1) := fun h => by obtain ⟨q, hq, e⟩ := List.mem_map.mp h; have := B.ls q hq; rw [e, hc] at this; cases this
  refine ⟨upd_same, ?_, fun q hq => ?_, ?_⟩
  · rw [List.map_append, List.nodup_append]
    exact ⟨B.nd, by simp, fun x hx y hy e => by simp at hy; subst hy; subst e; exact hcL hx⟩
  · rcases List.mem_append.mp hq with hq | hq
    · rw [upd_ne (B.ne q hq), upd_ne (fun e => hcL (List.mem_map.mpr ⟨q, hq, e⟩))]; exact B.ls q hq
    · rw [List.mem_singleton.mp hq]
      show upd _ b _ c = _
      rw [upd_ne hcb, upd_same]
  · rw [List.map_append, List.nodup_append]
    exact ⟨B.keys, by simp, fun x hx y hy e => by simp at hy; subst hy; subst e; exact hk hx⟩
theorem find_none_keysI {L : List (Int × Addr × List D)} {k : Int} (h : L.find? (fun p => p.1 = k) = none) : k ∉ L.map (·.1) := fun hm => by
  obtain ⟨q, hq, e⟩ := List.mem_map.mp hm
  have := List.find?_eq_none.mp h q hq
  simp [e] at this
theorem noted_tailI (C : Cx g) {b : Addr} {k : Int} {m : D} {L : List (Int × Addr × List D)} {p : Int × Addr × List D} (B : BookI σ b L) (hp : L.find? (fun p => p.1 = k) = some p) (hm : m.ok = true) (hms : p.2.2.length ≤ 900 ∧ D.flats p.2.2 = true ∧ PyData.canLayAll0 (D.pys p.2.2) = true)
    {a : Addr} {L' : Addr} {cd : Value} {K : Fl → Ro → St → Prop} (hK : K .next [("book", .cell b), ("key", .d (.int k)), ("mark", .d m)] (if hasM p.2.2 m then σ else upd σ p.2.1 (.lst (p.2.2 ++ [m])))) :
    WSs g n (envOfC (dAt 16).name (dAt 16).scope L' a cd) [("book", .cell b), ("key", .d (.int k)), ("mark", .d m)] σ ((dAt 16).body.drop 1) K := by
  have hpm := List.mem_of_find?_eq_some hp
  refine WSs.cons (WS.cond ?_)
  walk_at "s"
  refine W2.itemDict (DictV.cellI B.at_) KeyV.int (B.look hp) ?_ (fun P v hr o => by cases hr; rfl)
  refine W2.notInCell (B.ls p hpm) hm hms.2.1 hms.2.2 (WTr.bool ?_)
  show if (!hasM p.2.2 m) = true then _ else _
  cases hh : hasM p.2.2 m
  · rw [hh] at hK
    rw [if_pos (by decide)]
    refine WSs.cons (WS.expr (WE.meth "list" "list.append" PySem.F.plainAttrs_list PySem.F.slot_list_append PySem.F.type_list_append ?_))
    walk_at "s"
    refine W2.itemDict (DictV.cellI B.at_) KeyV.int (B.look hp) ?_ (fun P v hr o => by cases hr; rfl)
    refine ⟨TyOf.lst (B.ls p hpm), ?_⟩
    walk_at "s"
    refine WC.append (B.ls p hpm) (by exact o1 hms.1 rfl) ⟨rfl, ?_⟩
    exact WSs.nil (WSs.nil hK)
  · rw [hh] at hK
    rw [if_neg (by decide)]
    exact WSs.nil (WSs.nil hK)
theorem noted_oldI (C : Cx g) {b : Addr} {k : Int} {m : D} {L : List (Int × Addr × List D)} {p : Int × Addr × List D} (B : BookI σ b L) (hp : L.find? (fun p => p.1 = k) = some p) (hm : m.ok = true) (hms : p.2.2.length ≤ 900 ∧ D.flats p.2.2 = true ∧ PyData.canLayAll0 (D.pys p.2.2) = true)
    (hq : Q (.d .none) (if hasM p.2.2 m then σ else upd σ p.2.1 (.lst (p.2.2 ++ [m])))) {a : Addr} (hfn : FnAt g (dAt 16) a) : WC g (n + 1) (.ref a) [.cell b, .d (.int k), .d m] σ Q := by
  refine WC.fnR ["book", "key", "mark"] [("book", .cell b), ("key", .d (.int k)), ("mark", .d m)] rfl hfn C.lim rfl (by intro pm cd doc vs hv; obtain ⟨_, _, _, e⟩ := len3 hv; subst e; exact rfl) (by decide +kernel) fun L' cd => ?_
  refine WSs.cons (WS.cond ?_)
  walk_at "s"
  refine W2.notInDict (DictV.cellI B.at_) KeyV.int (WTr.bool ?_)
  rw [B.look hp, if_neg (by simp)]
  exact WSs.nil (noted_tailI C B hp hm hms hq)
theorem noted_newI (C : Cx g) {b : Addr} {k : Int} {m : D} {L : List (Int × Addr × List D)} (B : BookI σ b L) (hp : L.find? (fun p => p.1 = k) = none) (hl : L.length ≤ 900) (hm : m.ok = true)
    (hq : ∀ c, σ c = none → BookI (upd (upd σ c (.lst [])) b (.dcti ((L ++ [(k, c, ([] : List D))]).map fun p : Int × Addr × List D => (p.1, AV.cell p.2.1)))) b (L ++ [(k, c, [])]) → Q (.d .none) (upd (upd (upd σ c (.lst [])) b (.dcti ((L ++ [(k, c, ([] : List D))]).map fun p : Int × Addr × List D => (p.1, AV.cell p.2.1)))) c (.lst [m]))) {a : Addr} (hfn : FnAt g (dAt 16) a) : WC g (n + 1) (.ref a) [.cell b, .d (.int k), .d m] σ Q := by
  refine WC.fnR ["book", "key", "mark"] [("book", .cell b), ("key", .d (.int k)), ("mark", .d m)] rfl hfn C.lim rfl (by intro pm cd doc vs hv; obtain ⟨_, _, _, e⟩ := len3 hv; subst e; exact rfl) (by decide +kernel) fun L' cd => ?_
  have hlook : Mine.look (L.map fun p => (p.1, AV.cell p.2.1)) k = none := by
    have := look_map (fun q : Int × Addr × List D => AV.cell q.2.1) L k
    rw [hp] at this; exact this
  refine WSs.cons (WS.cond ?_)
  walk_at "s"
  refine W2.notInDict (DictV.cellI B.at_) KeyV.int (WTr.bool ?_)
  rw [hlook, if_pos (by decide)]
  refine WSs.cons (WS.setItem (WE.listCell (WEs.nil ⟨[], rfl, by decide, fun c hc => ?_⟩)))
  have hcb : c ≠ b := fun e => by rw [e, B.at_] at hc; cases hc
  walk_at "s"
  refine WSet.dctI (by rw [upd_ne (Ne.symm hcb)]; exact B.at_) (by exact o1 (oM hl) rfl) ?_
  have hst : store (L.map fun p => (p.1, AV.cell p.2.1)) k (.cell c) = (L ++ [(k, c, ([] : List D))]).map fun p : Int × Addr × List D => (p.1, AV.cell p.2.1) := by
    unfold store
    rw [if_neg, List.map_append]
    · rfl
    · simp only [List.any_map, List.any_eq_true, not_exists, not_and]
      intro q hq e
      exact find_none_keysI hp (List.mem_map.mpr ⟨q, hq, by simpa using e⟩)
  rw [hst]
  have B2 := B.fresh (k := k) (find_none_keysI hp) hc
  have hfind : (L ++ [(k, c, ([] : List D))]).find? (fun p => p.1 = k) = some (k, c, []) := by
    rw [List.find?_append, hp]; simp
  refine WSs.nil (noted_tailI C B2 hfind hm ⟨by simp, rfl, rfl⟩ ?_)
  exact hq c hc B2
end
end
set_option tactic.hygienic false
section
section
variable {g : Gm} {n : Nat} {σ : St} {Q : AV → St → Prop} {env : Env} {ρ : Ro}
noncomputable def boxC (cells : List Int) (i : Int) (s : Int) : Cell := .box [.d (.lst (cells.map .int)), .d (.int i), .d (.int s)]
noncomputable def drawV (cells : List Int) (i s many : Int) : Int := if i < cells.length then (cells.getD i.toNat 0).fmod many else (5 * i + i.fdiv 4 + s).fmod many
theorem draw_spec (C : Cx g) {b : Addr} {cells : List Int} {i s many : Int} (hb : σ b = some (boxC cells i s)) (hi : 0 ≤ i + 1) (hi2 : i ≤ 100000) (hl : cells.length ≤ 1000) (hm : many ≠ 0)
    (hq : Q (.d (.int (drawV cells (i + 1) s many))) (upd σ b (boxC cells (i + 1) s))) {a : Addr} (hfn : FnAt g (dAt 23) a) : WC g (n + 1) (.ref a) [.cell b, .d (.int many)] σ Q := by
  refine WC.fnR ["box", "many"] [("box", .cell b), ("many", .d (.int many))] rfl hfn C.lim rfl (by intro pm cd doc vs hv; obtain ⟨_, _, e⟩ := len2 hv; subst e; exact rfl) (by decide +kernel) fun L cd => ?_
  refine WSs.cons (WS.setItem ?_)
  walk_at "s"
  refine W2.itemBox (d := .d (.int i)) hb (by exact i1 (Int.le_refl _) rfl) rfl (by simp) ?_
  walk_at "s"
  refine W2.addI ?_
  walk_at "s"
  refine WSet.box hb (by exact i1 (Int.le_refl _) rfl) (by simp) (by simp) ?_
  show WSs g n _ _ (upd σ b (boxC cells (i + 1) s)) _ _
  have hb2 : upd σ b (boxC cells (i + 1) s) b = some (.box [.d (.lst (cells.map .int)), .d (.int (i + 1)), .d (.int s)]) := upd_same
  refine WSs.cons (WS.cond ?_)
  walk_at "s"
  refine W2.itemBox (d := .d (.int (i + 1))) hb2 (by exact i1 (Int.le_refl _) rfl) rfl (by simp) ?_
  refine WE.callB C.len ?_
  walk_at "s"
  refine W2.itemBox (d := .d (.lst (cells.map .int))) hb2 (by exact i1 (Int.le_refl _) rfl) rfl (by simp) ?_
  walk_at "s"
  refine WC.lenL (by exact o1 (oM hl) rfl) (W2.ltI (WTr.bool ?_))
  rw [List.length_map]
  unfold drawV at hq
  by_cases h : i + 1 < (cells.length : Int)
  · rw [if_pos (decide_eq_true h)]
    rw [if_pos h] at hq
    refine WSs.cons (WS.ret ?_)
    walk_at "s"
    refine W2.itemBox (d := .d (.lst (cells.map .int))) hb2 (by exact i1 (Int.le_refl _) rfl) rfl (by simp) ?_
    walk_at "s"
    refine W2.itemBox (d := .d (.int (i + 1))) hb2 (by exact i1 (Int.le_refl _) rfl) rfl (by simp) ?_
    refine W2.itemL (d := .int (cells.getD (i + 1).toNat 0)) hi ?_ (by exact o1 (oM hl) rfl) ?_
    · have hlt : (i + 1).toNat < cells.length := by omega
      rw [List.getElem?_map, List.getElem?_eq_getElem hlt, getD_of (List.getElem?_eq_getElem hlt)]; rfl
    walk_at "s"
    refine W2.modI hm ?_
    exact hq
  · rw [if_neg (by simpa using h)]
    rw [if_neg h] at hq
    refine WSs.nil (WSs.cons (WS.ret ?_))
    walk_at "s"
    refine W2.itemBox (d := .d (.int (i + 1))) hb2 (by exact i1 (Int.le_refl _) rfl) rfl (by simp) ?_
    refine W2.mulI (IntMulOk.of_left (by decide)) ?_
    walk_at "s"
    refine W2.itemBox (d := .d (.int (i + 1))) hb2 (by exact i1 (Int.le_refl _) rfl) rfl (by simp) ?_
    walk_at "s"
    refine W2.divI (by omega) (PyProof.noPylong_small (by decide)) (W2.addI ?_)
    walk_at "s"
    refine W2.itemBox (d := .d (.int s)) hb2 (by exact i1 (Int.le_refl _) rfl) rfl (by simp) (W2.addI ?_)
    walk_at "s"
    refine W2.modI hm ?_
    exact hq
end
end
set_option tactic.hygienic false
section
theorem drawV_bd (cells : List Int) (i s many : Int) (hm : 0 < many) : 0 ≤ drawV cells i s many ∧ drawV cells i s many < many := by
  unfold drawV
  split
  · exact ⟨Int.fmod_nonneg_of_pos _ hm, Int.fmod_lt_of_pos _ hm⟩
  · exact ⟨Int.fmod_nonneg_of_pos _ hm, Int.fmod_lt_of_pos _ hm⟩
end
set_option tactic.hygienic false
section
section
variable {g : Gm} {n : Nat} {σ : St} {Q : AV → St → Prop} {env : Env} {ρ : Ro}
noncomputable def goalAt (v : Int) : Int := if v = 0 then 10 else if v = 1 then 20 else if v = 2 then 40 else 99
theorem goal_spec (C : Cx g) {b gc : Addr} {cells : List Int} {i s : Int} {gs : List Int} (hb : σ b = some (boxC cells i s)) (hg : σ gc = some (.lst (gs.map .int))) (hi : 0 ≤ i + 1) (hi2 : i ≤ 100000) (hl : cells.length ≤ 1000) (hgl : gs.length ≤ 1000)
    (hq : Q (.d (.int (goalAt (drawV cells (i + 1) s 4)))) (upd (upd σ b (boxC cells (i + 1) s)) gc (.lst ((gs ++ [goalAt (drawV cells (i + 1) s 4)]).map .int)))) {a : Addr} (hfn : FnAt g (dAt 26) a) : WC g (n + 2) (.ref a) [.cell b, .cell gc] σ Q := by
  refine WC.fnR ["box", "goals"] [("box", .cell b), ("goals", .cell gc)] rfl hfn C.lim rfl (by intro pm cd doc vs hv; obtain ⟨_, _, e⟩ := len2 hv; subst e; exact rfl) (by decide +kernel) fun L cd => ?_
  have hne : gc ≠ b := fun e => by rw [e, hb] at hg; cases hg
  obtain ⟨hv1, hv2⟩ := drawV_bd cells (i + 1) s 4 (by decide)
  refine WSs.cons (WS.expr (WE.meth "list" "list.append" PySem.F.plainAttrs_list PySem.F.slot_list_append PySem.F.type_list_append (WE.name (by with_reducible repeat first | exact List.mem_cons_self | apply List.mem_cons_of_mem) ⟨TyOf.lst hg, ?_⟩)))
  refine WEs.cons (WE.sub (WE.list ?_))
  walk_at "s"
  refine ⟨[.int 10, .int 20, .int 40, .int 99], rfl, by decide, ?_⟩
  obtain ⟨da, hda, dF⟩ := C.draw
  refine WE.callFn hda dF ?_
  walk_at "s"
  refine draw_spec C hb hi hi2 hl (by decide) ?_ dF
  generalize hv : drawV cells (i + 1) s 4 = v at *
  have hg2 : upd σ b (boxC cells (i + 1) s) gc = some (.lst (gs.map .int)) := by rw [upd_ne hne]; exact hg
  refine W2.itemL (d := .int (goalAt v)) hv1 ?_ (by decide) ?_
  · have : v = 0 ∨ v = 1 ∨ v = 2 ∨ v = 3 := e4 (by assumption) (by assumption)
    rcases this with rfl | rfl | rfl | rfl <;> rfl
  walk_at "s"
  refine WC.append hg2 (by exact o1 (oM hgl) rfl) ⟨rfl, ?_⟩
  rw [show gs.map D.int ++ [.int (goalAt v)] = (gs ++ [goalAt v]).map D.int by simp]
  have hg3 : upd (upd σ b (boxC cells (i + 1) s)) gc (.lst ((gs ++ [goalAt v]).map .int)) gc = some (.lst ((gs ++ [goalAt v]).map .int)) := upd_same
  refine WSs.cons (WS.ret (WE.sub (WE.name (by with_reducible repeat first | exact List.mem_cons_self | apply List.mem_cons_of_mem) (WE.binop (WE.callB C.len ?_)))))
  walk_at "s"
  refine WC.lenCell hg3 (by exact o1 (oM (oP hgl (oC oN))) rfl) ?_
  walk_at "s"
  refine W2.subI ?_
  refine W2.itemCell (d := .int (goalAt v)) hg3 (by simp) ?_ (by exact o1 (oM (oP hgl (oC oN))) rfl) ?_
  · simp
  exact hq
end
end
set_option tactic.hygienic false
section
inductive Ex where
  | whole
  | name (w : Str)
  | item (w : Str) (e : Ex)
  | fn (e : Ex)
  | two (a b : Ex)
noncomputable def Ex.d : Ex → D
  | .whole => .tup [.str "whole", .int 7]
  | .name w => .tup [.str "name", .str w]
  | .item w e => .tup [.str "item", .str w, .lst [e.d]]
  | .fn e => .tup [.str "fn", .str "FNX", .lst [e.d]]
  | .two a b => .tup [.str "two", .str "+", a.d, .tup [.str "neg", b.d]]
noncomputable def Ex.notes : Ex → List Str
  | .whole => []
  | .name w => [w]
  | .item w e => (w ++ "()") :: e.notes
  | .fn e => "FNX" :: e.notes
  | .two a b => a.notes ++ b.notes
theorem ne1 : ("item" : Str) ≠ "name" := by decide +kernel
theorem ne2 : ("fn" : Str) ≠ "name" := by decide +kernel
theorem ne3 : ("fn" : Str) ≠ "item" := by decide +kernel
theorem ne4 : ("two" : Str) ≠ "name" := by decide +kernel
theorem ne5 : ("two" : Str) ≠ "item" := by decide +kernel
theorem ne6 : ("two" : Str) ≠ "fn" := by decide +kernel
theorem Ex.reads : ∀ e : Ex, readsD e.d = e.notes
  | .whole => by
    have h : isTreeL [.str "whole", .int 7] = false := rfl
    simp [Ex.d, Ex.notes, readsD, readsK, h]
  | .name w => by simp [Ex.d, Ex.notes, readsD, readsK, isTreeL, nameL]
  | .item w e => by simp [Ex.d, Ex.notes, readsD, readsK, isTreeL, nameL, ne1, Ex.reads e]
  | .fn e => by simp [Ex.d, Ex.notes, readsD, readsK, isTreeL, nameL, ne2, ne3, Ex.reads e]
  | .two a b => by
    have h : isTreeL [.str "two", .str "+", a.d, .tup [.str "neg", b.d]] = false := by simp [isTreeL, ne4, ne5, ne6]
    have h2 : isTreeL [.str "neg", b.d] = false := by cases b <;> rfl
    simp [Ex.d, Ex.notes, readsD, readsK, h, h2, Ex.reads a, Ex.reads b]
end
set_option tactic.hygienic false
section
noncomputable def noteT {K M : Type} [DecidableEq K] [DecidableEq M] (L : List (K × List M)) (k : K) (m : M) : List (K × List M) :=
  match L.find? (fun p => p.1 = k) with
  | some p => if m ∈ p.2 then L else L.map fun q => if q.1 = k then (q.1, q.2 ++ [m]) else q
  | none => L ++ [(k, [m])]
noncomputable def bookOf {K M : Type} [DecidableEq K] [DecidableEq M] (es : List (K × M)) : List (K × List M) := es.foldl (fun L e => noteT L e.1 e.2) []
theorem bookOf_snoc {K M : Type} [DecidableEq K] [DecidableEq M] (es : List (K × M)) (k : K) (m : M) : bookOf (es ++ [(k, m)]) = noteT (bookOf es) k m := by
  unfold bookOf; rw [List.foldl_append]; rfl
theorem noteT_len {K M : Type} [DecidableEq K] [DecidableEq M] {L : List (K × List M)} {k : K} {m : M} {n : Nat} (h1 : L.length ≤ n) (h2 : ∀ p ∈ L, p.2.length ≤ n) : (noteT L k m).length ≤ n + 1 ∧ ∀ p ∈ noteT L k m, p.2.length ≤ n + 1 := by
  unfold noteT
  split
  · split
    · exact ⟨by exact Nat.le_succ_of_le ‹_›, fun p hp => by have := h2 p hp; exact Nat.le_succ_of_le this⟩
    · refine ⟨by rw [List.length_map]; exact Nat.le_succ_of_le ‹_›, fun p hp => ?_⟩
      obtain ⟨q, hq, rfl⟩ := List.mem_map.mp hp
      have := h2 q hq
      split
      · simp; exact this
      · exact Nat.le_succ_of_le this
  · refine ⟨by simp; exact h1, fun p hp => ?_⟩
    rcases List.mem_append.mp hp with hp | hp
    · have := h2 p hp; exact Nat.le_succ_of_le this
    · rw [List.mem_singleton.mp hp]; simp
theorem bookOf_len {K M : Type} [DecidableEq K] [DecidableEq M] (es : List (K × M)) : (bookOf es).length ≤ es.length ∧ ∀ p ∈ bookOf es, p.2.length ≤ es.length := by
  have : ∀ (es : List (K × M)) (L : List (K × List M)) (n : Nat), L.length ≤ n → (∀ p ∈ L, p.2.length ≤ n) → (es.foldl (fun L e => noteT L e.1 e.2) L).length ≤ n + es.length ∧ ∀ p ∈ es.foldl (fun L e => noteT L e.1 e.2) L, p.2.length ≤ n + es.length := by
    intro es
    induction es with
    | nil => intro L n h1 h2; exact ⟨h1, h2⟩
    | cons e es ih =>
      intro L n h1 h2
      obtain ⟨h3, h4⟩ := noteT_len (k := e.1) (m := e.2) h1 h2
      have := ih _ _ h3 h4
      rw [List.foldl_cons, List.length_cons]
      exact ⟨by omega, fun p hp => by have := this.2 p hp; omega⟩
  have := this es [] 0 (by simp) (by simp)
  unfold bookOf
  exact ⟨by omega, fun p hp => by have := this.2 p hp; omega⟩
noncomputable def hw (b : Bool) : Str := if b then "set" else "read"
theorem hw_inj {a b : Bool} : hw a = hw b ↔ a = b := by revert a b; decide +kernel
theorem hw_ok (b : Bool) : PyData.strOk (hw b) = true := by revert b; decide +kernel
noncomputable abbrev eMark (m : Int × Bool) : D := .tup [.int m.1, .str (hw m.2)]
structure EncOk {M : Type} (enc : M → D) : Prop where
  ok : ∀ m, (enc m).ok = true
  flats : ∀ ms : List M, D.flats (ms.map enc) = true
  lay : ∀ ms : List M, PyData.canLayAll0 (D.pys (ms.map enc)) = true
  has : ∀ (ms : List M) (m : M), hasM (ms.map enc) (enc m) = true ↔ m ∈ ms
theorem any_dec {M : Type} (enc : M → D) (h : ∀ a b, PyData.eqv (enc a).py (enc b).py = true ↔ a = b) (ms : List M) (m : M) : hasM (ms.map enc) (enc m) = true ↔ m ∈ ms := by
  unfold hasM
  rw [List.any_map, List.any_eq_true]
  constructor
  · rintro ⟨a, ha, e⟩
    rw [← (h a m).mp e]; exact ha
  · intro hm
    exact ⟨m, hm, (h m m).mpr rfl⟩
theorem enc_mark : EncOk eMark where
  ok := fun m => by simp [D.ok, D.flat, D.flats, D.py, D.pys, SeqAt.shaped, PyData.canLay0, PyData.canLayAll0, PyData.depth, PyData.depthAll, hw_ok]
  flats := fun ms => by induction ms with
    | nil => rfl
    | cons a ms ih => rw [List.map_cons, D.flats, ih]; rfl
  lay := fun ms => by induction ms with
    | nil => rfl
    | cons a ms ih => rw [List.map_cons, D.pys, PyData.canLayAll0, ih]; simp [D.py, D.pys, PyData.canLay0, PyData.canLayAll0, hw_ok]
  has := any_dec eMark fun a b => by
    obtain ⟨i, x⟩ := a
    obtain ⟨j, y⟩ := b
    simp [D.py, D.pys, PyData.eqv, PyData.eqvAll, hw_inj]
theorem enc_int : EncOk D.int where
  ok := fun m => by simp [D.ok, D.flat, D.py, SeqAt.shaped, PyData.canLay0, PyData.depth]
  flats := fun ms => by induction ms with
    | nil => rfl
    | cons a ms ih => rw [List.map_cons, D.flats, ih]; rfl
  lay := fun ms => by induction ms with
    | nil => rfl
    | cons a ms ih => rw [List.map_cons, D.pys, PyData.canLayAll0, ih]; rfl
  has := any_dec D.int fun a b => by simp [D.py, PyData.eqv]
noncomputable abbrev encB {K M : Type} (enc : M → D) (T : List (K × List M)) : List (K × List D) := T.map fun p => (p.1, p.2.map enc)
theorem find_enc {K M : Type} [DecidableEq K] {enc : M → D} : ∀ {L : List (K × Addr × List D)} {T : List (K × List M)} {k : K}, outOf L = encB enc T →
    (L.find? (fun p => p.1 = k) = none ∧ T.find? (fun p => p.1 = k) = none) ∨ ∃ p q, L.find? (fun p => p.1 = k) = some p ∧ T.find? (fun p => p.1 = k) = some q ∧ p.2.2 = q.2.map enc
  | [], [], k, _ => .inl ⟨rfl, rfl⟩
  | [], q :: T, k, h => by simp [outOf, encB] at h
  | p :: L, [], k, h => by simp [outOf, encB] at h
  | p :: L, q :: T, k, h => by
    simp only [outOf, encB, List.map_cons, List.cons.injEq, Prod.mk.injEq] at h
    obtain ⟨⟨h1, h2⟩, h3⟩ := h
    rw [List.find?_cons, List.find?_cons, ← h1]
    by_cases e : p.1 = k
    · simp only [e, decide_true]; exact .inr ⟨p, q, rfl, rfl, h2⟩
    · simp only [e, decide_false]; exact find_enc h3

theorem BookS.mapKey {σ : St} {b : Addr} {L : List (Str × Addr × List D)} (B : BookS σ b L) {p : Str × Addr × List D} (hp : p ∈ L) : ∀ q ∈ L, (q.2.1 = p.2.1 ↔ q.1 = p.1) := fun q hq => by
  have inj : ∀ (f : Str × Addr × List D → Addr) (L : List (Str × Addr × List D)), (L.map f).Nodup → ∀ p ∈ L, ∀ q ∈ L, f q = f p → q = p := by
    intro f L
    induction L with
    | nil => intro _ p hp; cases hp
    | cons a L ih =>
      intro hn p hp q hq e
      rw [List.map_cons, List.nodup_cons] at hn
      rcases List.mem_cons.mp hp with h1 | h1 <;> rcases List.mem_cons.mp hq with h2 | h2
      · rw [h1, h2]
      · exact absurd (List.mem_map.mpr ⟨q, h2, by rw [← h1]; exact e⟩) hn.1
      · exact absurd (List.mem_map.mpr ⟨p, h1, by rw [← h2]; exact e.symm⟩) hn.1
      · exact ih hn.2 p h1 q h2 e
  have injK : ∀ (L : List (Str × Addr × List D)), (L.map (·.1)).Nodup → ∀ p ∈ L, ∀ q ∈ L, q.1 = p.1 → q = p := by
    intro L
    induction L with
    | nil => intro _ p hp; cases hp
    | cons a L ih =>
      intro hn p hp q hq e
      rw [List.map_cons, List.nodup_cons] at hn
      rcases List.mem_cons.mp hp with h1 | h1 <;> rcases List.mem_cons.mp hq with h2 | h2
      · rw [h1, h2]
      · exact absurd (List.mem_map.mpr ⟨q, h2, by rw [← h1]; exact e⟩) hn.1
      · exact absurd (List.mem_map.mpr ⟨p, h1, by rw [← h2]; exact e.symm⟩) hn.1
      · exact ih hn.2 p h1 q h2 e
  exact ⟨fun e => by rw [inj (fun p => p.2.1) L B.nd p hp q hq e], fun e => by rw [injK L B.keys p hp q hq e]⟩
theorem BookS.outMark {σ : St} {b : Addr} {L : List (Str × Addr × List D)} {M : Type} [DecidableEq M] {enc : M → D} (E : EncOk enc) {T : List (Str × List M)} (B : BookS σ b L) (hT : outOf L = encB enc T) {k : Str} {p : Str × Addr × List D} {q : Str × List M} (hp : L.find? (fun p => p.1 = k) = some p) (hq : T.find? (fun p => p.1 = k) = some q) (e : p.2.2 = q.2.map enc) {m : M} (hm : m ∉ q.2) :
    outOf (L.map fun r => if r.2.1 = p.2.1 then (r.1, r.2.1, p.2.2 ++ [enc m]) else r) = encB enc (noteT T k m) := by
  have hpm := List.mem_of_find?_eq_some hp
  have hpk : p.1 = k := by have := List.find?_some hp; simpa using this
  unfold noteT
  rw [hq]
  simp only [if_neg hm]
  have e1 : outOf (L.map fun r => if r.2.1 = p.2.1 then (r.1, r.2.1, p.2.2 ++ [enc m]) else r) = (outOf L).map fun r => if r.1 = k then (r.1, p.2.2 ++ [enc m]) else r := by
    unfold outOf
    rw [List.map_map, List.map_map]
    refine List.map_congr_left fun r hr => ?_
    have := B.mapKey hpm r hr
    rw [hpk] at this
    by_cases h : r.1 = k
    · simp [h, this.mpr h]
    · have h' : ¬ r.2.1 = p.2.1 := fun x => h (this.mp x)
      simp [h, h']
  rw [e1, hT]
  have keysT : (T.map (·.1)).Nodup := by
    have : T.map (·.1) = L.map (·.1) := by
      have := congrArg (fun l => l.map (·.1)) hT
      simp only [outOf, encB, List.map_map] at this
      exact this.symm
    rw [this]; exact B.keys
  have hqm := List.mem_of_find?_eq_some hq
  have hqk : q.1 = k := by have := List.find?_some hq; simpa using this
  have same : ∀ r ∈ T, r.1 = k → r.2 = q.2 := by
    have injK : ∀ (L : List (Str × List M)), (L.map (·.1)).Nodup → ∀ p ∈ L, ∀ q ∈ L, q.1 = p.1 → q = p := by
      intro L
      induction L with
      | nil => intro _ p hp; cases hp
      | cons a L ih =>
        intro hn p hp q hq e
        rw [List.map_cons, List.nodup_cons] at hn
        rcases List.mem_cons.mp hp with h1 | h1 <;> rcases List.mem_cons.mp hq with h2 | h2
        · rw [h1, h2]
        · exact absurd (List.mem_map.mpr ⟨q, h2, by rw [← h1]; exact e⟩) hn.1
        · exact absurd (List.mem_map.mpr ⟨p, h1, by rw [← h2]; exact e.symm⟩) hn.1
        · exact ih hn.2 p h1 q h2 e
    intro r hr hrk
    rw [injK T keysT q hqm r hr (by rw [hrk, hqk])]
  unfold encB
  rw [List.map_map, List.map_map]
  refine List.map_congr_left fun r hr => ?_
  by_cases h : r.1 = k
  · have hs := same r hr h
    simp [h, e, hs]
  · simp [h]
theorem BookS.outNew {c : Addr} {L : List (Str × Addr × List D)} {M : Type} [DecidableEq M] {enc : M → D} {T : List (Str × List M)} (hcL : c ∉ L.map (·.2.1)) (hT : outOf L = encB enc T) {k : Str} (hq : T.find? (fun p => p.1 = k) = none) {m : M} :
    outOf ((L ++ [(k, c, ([] : List D))]).map fun r => if r.2.1 = c then (r.1, r.2.1, [enc m]) else r) = encB enc (noteT T k m) := by
  unfold noteT
  rw [hq]
  simp only [List.map_append, List.map_cons, List.map_nil, if_true]
  have e1 : (L.map fun r => if r.2.1 = c then (r.1, r.2.1, [enc m]) else r) = L := by
    have : ∀ r ∈ L, (if r.2.1 = c then (r.1, r.2.1, [enc m]) else r) = r := fun r hr => if_neg fun e => hcL (List.mem_map.mpr ⟨r, hr, e⟩)
    calc _ = L.map id := List.map_congr_left this
      _ = L := List.map_id L
  rw [e1]
  show outOf L ++ [(k, [enc m])] = encB enc T ++ [(k, [enc m])]
  rw [hT]

theorem BookI.mapKey {σ : St} {b : Addr} {L : List (Int × Addr × List D)} (B : BookI σ b L) {p : Int × Addr × List D} (hp : p ∈ L) : ∀ q ∈ L, (q.2.1 = p.2.1 ↔ q.1 = p.1) := fun q hq => by
  have inj : ∀ (f : Int × Addr × List D → Addr) (L : List (Int × Addr × List D)), (L.map f).Nodup → ∀ p ∈ L, ∀ q ∈ L, f q = f p → q = p := by
    intro f L
    induction L with
    | nil => intro _ p hp; cases hp
    | cons a L ih =>
      intro hn p hp q hq e
      rw [List.map_cons, List.nodup_cons] at hn
      rcases List.mem_cons.mp hp with h1 | h1 <;> rcases List.mem_cons.mp hq with h2 | h2
      · rw [h1, h2]
      · exact absurd (List.mem_map.mpr ⟨q, h2, by rw [← h1]; exact e⟩) hn.1
      · exact absurd (List.mem_map.mpr ⟨p, h1, by rw [← h2]; exact e.symm⟩) hn.1
      · exact ih hn.2 p h1 q h2 e
  have injK : ∀ (L : List (Int × Addr × List D)), (L.map (·.1)).Nodup → ∀ p ∈ L, ∀ q ∈ L, q.1 = p.1 → q = p := by
    intro L
    induction L with
    | nil => intro _ p hp; cases hp
    | cons a L ih =>
      intro hn p hp q hq e
      rw [List.map_cons, List.nodup_cons] at hn
      rcases List.mem_cons.mp hp with h1 | h1 <;> rcases List.mem_cons.mp hq with h2 | h2
      · rw [h1, h2]
      · exact absurd (List.mem_map.mpr ⟨q, h2, by rw [← h1]; exact e⟩) hn.1
      · exact absurd (List.mem_map.mpr ⟨p, h1, by rw [← h2]; exact e.symm⟩) hn.1
      · exact ih hn.2 p h1 q h2 e
  exact ⟨fun e => by rw [inj (fun p => p.2.1) L B.nd p hp q hq e], fun e => by rw [injK L B.keys p hp q hq e]⟩
theorem BookI.outMark {σ : St} {b : Addr} {L : List (Int × Addr × List D)} {M : Type} [DecidableEq M] {enc : M → D} (E : EncOk enc) {T : List (Int × List M)} (B : BookI σ b L) (hT : outOf L = encB enc T) {k : Int} {p : Int × Addr × List D} {q : Int × List M} (hp : L.find? (fun p => p.1 = k) = some p) (hq : T.find? (fun p => p.1 = k) = some q) (e : p.2.2 = q.2.map enc) {m : M} (hm : m ∉ q.2) :
    outOf (L.map fun r => if r.2.1 = p.2.1 then (r.1, r.2.1, p.2.2 ++ [enc m]) else r) = encB enc (noteT T k m) := by
  have hpm := List.mem_of_find?_eq_some hp
  have hpk : p.1 = k := by have := List.find?_some hp; simpa using this
  unfold noteT
  rw [hq]
  simp only [if_neg hm]
  have e1 : outOf (L.map fun r => if r.2.1 = p.2.1 then (r.1, r.2.1, p.2.2 ++ [enc m]) else r) = (outOf L).map fun r => if r.1 = k then (r.1, p.2.2 ++ [enc m]) else r := by
    unfold outOf
    rw [List.map_map, List.map_map]
    refine List.map_congr_left fun r hr => ?_
    have := B.mapKey hpm r hr
    rw [hpk] at this
    by_cases h : r.1 = k
    · simp [h, this.mpr h]
    · have h' : ¬ r.2.1 = p.2.1 := fun x => h (this.mp x)
      simp [h, h']
  rw [e1, hT]
  have keysT : (T.map (·.1)).Nodup := by
    have : T.map (·.1) = L.map (·.1) := by
      have := congrArg (fun l => l.map (·.1)) hT
      simp only [outOf, encB, List.map_map] at this
      exact this.symm
    rw [this]; exact B.keys
  have hqm := List.mem_of_find?_eq_some hq
  have hqk : q.1 = k := by have := List.find?_some hq; simpa using this
  have same : ∀ r ∈ T, r.1 = k → r.2 = q.2 := by
    have injK : ∀ (L : List (Int × List M)), (L.map (·.1)).Nodup → ∀ p ∈ L, ∀ q ∈ L, q.1 = p.1 → q = p := by
      intro L
      induction L with
      | nil => intro _ p hp; cases hp
      | cons a L ih =>
        intro hn p hp q hq e
        rw [List.map_cons, List.nodup_cons] at hn
        rcases List.mem_cons.mp hp with h1 | h1 <;> rcases List.mem_cons.mp hq with h2 | h2
        · rw [h1, h2]
        · exact absurd (List.mem_map.mpr ⟨q, h2, by rw [← h1]; exact e⟩) hn.1
        · exact absurd (List.mem_map.mpr ⟨p, h1, by rw [← h2]; exact e.symm⟩) hn.1
        · exact ih hn.2 p h1 q h2 e
    intro r hr hrk
    rw [injK T keysT q hqm r hr (by rw [hrk, hqk])]
  unfold encB
  rw [List.map_map, List.map_map]
  refine List.map_congr_left fun r hr => ?_
  by_cases h : r.1 = k
  · have hs := same r hr h
    simp [h, e, hs]
  · simp [h]
theorem BookI.outNew {c : Addr} {L : List (Int × Addr × List D)} {M : Type} [DecidableEq M] {enc : M → D} {T : List (Int × List M)} (hcL : c ∉ L.map (·.2.1)) (hT : outOf L = encB enc T) {k : Int} (hq : T.find? (fun p => p.1 = k) = none) {m : M} :
    outOf ((L ++ [(k, c, ([] : List D))]).map fun r => if r.2.1 = c then (r.1, r.2.1, [enc m]) else r) = encB enc (noteT T k m) := by
  unfold noteT
  rw [hq]
  simp only [List.map_append, List.map_cons, List.map_nil, if_true]
  have e1 : (L.map fun r => if r.2.1 = c then (r.1, r.2.1, [enc m]) else r) = L := by
    have : ∀ r ∈ L, (if r.2.1 = c then (r.1, r.2.1, [enc m]) else r) = r := fun r hr => if_neg fun e => hcL (List.mem_map.mpr ⟨r, hr, e⟩)
    calc _ = L.map id := List.map_congr_left this
      _ = L := List.map_id L
  rw [e1]
  show outOf L ++ [(k, [enc m])] = encB enc T ++ [(k, [enc m])]
  rw [hT]

structure Inv (σ₀ σ : St) (nb gb : Addr) (LN : List (Str × Addr × List D)) (LG : List (Int × Addr × List D)) : Prop where
  n : BookS σ nb LN
  g : BookI σ gb LG
  dj : ∀ p ∈ LN, ∀ q ∈ LG, p.2.1 ≠ q.2.1
  sub : Sub σ₀ σ
  fn : σ₀ nb = none
  fg : σ₀ gb = none
  fln : ∀ p ∈ LN, σ₀ p.2.1 = none
  flg : ∀ p ∈ LG, σ₀ p.2.1 = none
theorem Sub.none {σ₀ σ : St} (h : Sub σ₀ σ) {c : Addr} (hc : σ c = none) : σ₀ c = none := by
  cases e : σ₀ c with
  | none => rfl
  | some x => rw [h c x e] at hc; cases hc
section
variable {σ σ₀ : St} {nb gb : Addr} {LN : List (Str × Addr × List D)} {LG : List (Int × Addr × List D)}
theorem Inv.nb_gb (I : Inv σ₀ σ nb gb LN LG) : nb ≠ gb := fun e => by have h1 := I.n.at_; have h2 := I.g.at_; rw [e, h2] at h1; cases h1
theorem Inv.gb_ln (I : Inv σ₀ σ nb gb LN LG) : ∀ p ∈ LN, p.2.1 ≠ gb := fun p hp e => by have := I.n.ls p hp; rw [e, I.g.at_] at this; cases this
theorem Inv.nb_lg (I : Inv σ₀ σ nb gb LN LG) : ∀ p ∈ LG, p.2.1 ≠ nb := fun p hp e => by have := I.g.ls p hp; rw [e, I.n.at_] at this; cases this
theorem BookS.off {b a : Addr} {x : Cell} (B : BookS σ b LN) (h1 : b ≠ a) (h2 : ∀ p ∈ LN, p.2.1 ≠ a) : BookS (upd σ a x) b LN :=
  ⟨by rw [upd_ne h1]; exact B.at_, B.nd, fun p hp => by rw [upd_ne (h2 p hp)]; exact B.ls p hp, B.keys⟩
theorem BookI.off {b a : Addr} {x : Cell} (B : BookI σ b LG) (h1 : b ≠ a) (h2 : ∀ p ∈ LG, p.2.1 ≠ a) : BookI (upd σ a x) b LG :=
  ⟨by rw [upd_ne h1]; exact B.at_, B.nd, fun p hp => by rw [upd_ne (h2 p hp)]; exact B.ls p hp, B.keys⟩
end
section
variable {g : Gm} {n : Nat} {σ : St} {Q : AV → St → Prop} {env : Env} {ρ : Ro}
theorem notedN (C : Cx g) {σ₀ : St} {nb gb : Addr} {LN : List (Str × Addr × List D)} {LG : List (Int × Addr × List D)} (I : Inv σ₀ σ nb gb LN LG) {es : List (Str × (Int × Bool))} (hT : outOf LN = encB eMark (bookOf es)) (hl : es.length ≤ 900) {k : Str} {m : Int × Bool}
    (hq : ∀ σ' LN', Inv σ₀ σ' nb gb LN' LG → outOf LN' = encB eMark (bookOf (es ++ [(k, m)])) → Q (.d .none) σ') {a : Addr} (hfn : FnAt g (dAt 16) a) : WC g (n + 1) (.ref a) [.cell nb, .d (.str k), .d (eMark m)] σ Q := by
  obtain ⟨hb1, hb2⟩ := bookOf_len es
  have hLl : LN.length ≤ 900 := by
    have := congrArg List.length hT
    simp only [List.length_map] at this
    exact o1 (o3 this (Nat.le_trans hb1 hl)) rfl
  rcases find_enc (k := k) hT with ⟨h1, h2⟩ | ⟨p, q, h1, h2, h3⟩
  · refine noted_new C I.n h1 hLl (enc_mark.ok m) (fun c hc B2 => ?_) hfn
    have hcn : c ≠ nb := fun e => by rw [e, I.n.at_] at hc; cases hc
    have hcg : c ≠ gb := fun e => by rw [e, I.g.at_] at hc; cases hc
    have hcL : c ∉ LN.map (·.2.1) := fun h => by obtain ⟨q, hq, e⟩ := List.mem_map.mp h; have := I.n.ls q hq; rw [e, hc] at this; cases this
    have hcG : ∀ p ∈ LG, p.2.1 ≠ c := fun p hp e => by have := I.g.ls p hp; rw [e, hc] at this; cases this
    have B3 := B2.mark (p := (k, c, [])) (List.mem_append_right _ (List.mem_singleton.mpr rfl)) [eMark m]
    refine hq _ _ ⟨B3, ?_, ?_, ?_, I.fn, I.fg, ?_, I.flg⟩ (by rw [bookOf_snoc]; exact BookS.outNew hcL hT h2)
    · exact ((I.g.off hcg.symm hcG).off I.nb_gb.symm I.nb_lg).off hcg.symm hcG
    · intro r hr s hs
      obtain ⟨r', hr', rfl⟩ := List.mem_map.mp hr
      have e2 : (if r'.2.1 = c then (r'.1, r'.2.1, [eMark m]) else r').2.1 = r'.2.1 := by split <;> rfl
      rw [e2]
      rcases List.mem_append.mp hr' with h | h
      · exact I.dj _ h s hs
      · rw [List.mem_singleton.mp h]; exact (hcG s hs).symm
    · exact ((I.sub.upd (I.sub.none hc)).upd I.fn).upd (I.sub.none hc)
    · intro r hr
      obtain ⟨r', hr', rfl⟩ := List.mem_map.mp hr
      have e2 : (if r'.2.1 = c then (r'.1, r'.2.1, [eMark m]) else r').2.1 = r'.2.1 := by split <;> rfl
      rw [e2]
      rcases List.mem_append.mp hr' with h | h
      · exact I.fln _ h
      · rw [List.mem_singleton.mp h]; exact I.sub.none hc
  · have hqm := List.mem_of_find?_eq_some h2
    have hpm := List.mem_of_find?_eq_some h1
    have hb3 := hb2 q hqm
    refine noted_old C I.n h1 (enc_mark.ok m) ⟨by rw [h3, List.length_map]; exact o1 (Nat.le_trans hb3 hl) rfl, by rw [h3]; exact enc_mark.flats _, by rw [h3]; exact enc_mark.lay _⟩ ?_ hfn
    have hh : hasM p.2.2 (eMark m) = true ↔ m ∈ q.2 := by rw [h3]; exact enc_mark.has _ _
    by_cases hm : m ∈ q.2
    · rw [if_pos (hh.mpr hm)]
      refine hq _ _ I ?_
      rw [bookOf_snoc, hT]
      unfold noteT
      rw [h2]
      simp only [if_pos hm]
    · rw [if_neg fun x => hm (hh.mp x)]
      have B3 := I.n.mark hpm (p.2.2 ++ [eMark m])
      refine hq _ _ ⟨B3, ?_, ?_, ?_, I.fn, I.fg, ?_, I.flg⟩ (by rw [bookOf_snoc]; exact I.n.outMark enc_mark hT h1 h2 h3 hm)
      · exact I.g.off (I.gb_ln p hpm).symm fun r hr => (I.dj p hpm r hr).symm
      · intro r hr s hs
        obtain ⟨r', hr', rfl⟩ := List.mem_map.mp hr
        have e2 : (if r'.2.1 = p.2.1 then (r'.1, r'.2.1, p.2.2 ++ [eMark m]) else r').2.1 = r'.2.1 := by split <;> rfl
        rw [e2]
        exact I.dj _ hr' s hs
      · exact I.sub.upd (I.fln p hpm)
      · intro r hr
        obtain ⟨r', hr', rfl⟩ := List.mem_map.mp hr
        have e2 : (if r'.2.1 = p.2.1 then (r'.1, r'.2.1, p.2.2 ++ [eMark m]) else r').2.1 = r'.2.1 := by split <;> rfl
        rw [e2]
        exact I.fln _ hr'
theorem notedG (C : Cx g) {σ₀ : St} {nb gb : Addr} {LN : List (Str × Addr × List D)} {LG : List (Int × Addr × List D)} (I : Inv σ₀ σ nb gb LN LG) {es : List (Int × Int)} (hT : outOf LG = encB D.int (bookOf es)) (hl : es.length ≤ 900) {k : Int} {m : Int}
    (hq : ∀ σ' LG', Inv σ₀ σ' nb gb LN LG' → outOf LG' = encB D.int (bookOf (es ++ [(k, m)])) → Q (.d .none) σ') {a : Addr} (hfn : FnAt g (dAt 16) a) : WC g (n + 1) (.ref a) [.cell gb, .d (.int k), .d (.int m)] σ Q := by
  obtain ⟨hb1, hb2⟩ := bookOf_len es
  have hLl : LG.length ≤ 900 := by
    have := congrArg List.length hT
    simp only [List.length_map] at this
    exact o1 (o3 this (Nat.le_trans hb1 hl)) rfl
  rcases find_enc (k := k) hT with ⟨h1, h2⟩ | ⟨p, q, h1, h2, h3⟩
  · refine noted_newI C I.g h1 hLl (enc_int.ok m) (fun c hc B2 => ?_) hfn
    have hcn : c ≠ nb := fun e => by rw [e, I.n.at_] at hc; cases hc
    have hcg : c ≠ gb := fun e => by rw [e, I.g.at_] at hc; cases hc
    have hcL : c ∉ LG.map (·.2.1) := fun h => by obtain ⟨q, hq, e⟩ := List.mem_map.mp h; have := I.g.ls q hq; rw [e, hc] at this; cases this
    have hcG : ∀ p ∈ LN, p.2.1 ≠ c := fun p hp e => by have := I.n.ls p hp; rw [e, hc] at this; cases this
    have B3 := B2.mark (p := (k, c, [])) (List.mem_append_right _ (List.mem_singleton.mpr rfl)) [D.int m]
    refine hq _ _ ⟨?_, B3, ?_, ?_, I.fn, I.fg, I.fln, ?_⟩ (by rw [bookOf_snoc]; exact BookI.outNew hcL hT h2)
    · exact ((I.n.off hcn.symm hcG).off I.nb_gb I.gb_ln).off hcn.symm hcG
    · intro s hs r hr
      obtain ⟨r', hr', rfl⟩ := List.mem_map.mp hr
      have e2 : (if r'.2.1 = c then (r'.1, r'.2.1, [D.int m]) else r').2.1 = r'.2.1 := by split <;> rfl
      rw [e2]
      rcases List.mem_append.mp hr' with h | h
      · exact I.dj s hs _ h
      · rw [List.mem_singleton.mp h]; exact hcG s hs
    · exact ((I.sub.upd (I.sub.none hc)).upd I.fg).upd (I.sub.none hc)
    · intro r hr
      obtain ⟨r', hr', rfl⟩ := List.mem_map.mp hr
      have e2 : (if r'.2.1 = c then (r'.1, r'.2.1, [D.int m]) else r').2.1 = r'.2.1 := by split <;> rfl
      rw [e2]
      rcases List.mem_append.mp hr' with h | h
      · exact I.flg _ h
      · rw [List.mem_singleton.mp h]; exact I.sub.none hc
  · have hqm := List.mem_of_find?_eq_some h2
    have hpm := List.mem_of_find?_eq_some h1
    have hb3 := hb2 q hqm
    refine noted_oldI C I.g h1 (enc_int.ok m) ⟨by rw [h3, List.length_map]; exact o1 (Nat.le_trans hb3 hl) rfl, by rw [h3]; exact enc_int.flats _, by rw [h3]; exact enc_int.lay _⟩ ?_ hfn
    have hh : hasM p.2.2 (D.int m) = true ↔ m ∈ q.2 := by rw [h3]; exact enc_int.has _ _
    by_cases hm : m ∈ q.2
    · rw [if_pos (hh.mpr hm)]
      refine hq _ _ I ?_
      rw [bookOf_snoc, hT]
      unfold noteT
      rw [h2]
      simp only [if_pos hm]
    · rw [if_neg fun x => hm (hh.mp x)]
      have B3 := I.g.mark hpm (p.2.2 ++ [D.int m])
      refine hq _ _ ⟨?_, B3, ?_, ?_, I.fn, I.fg, I.fln, ?_⟩ (by rw [bookOf_snoc]; exact I.g.outMark enc_int hT h1 h2 h3 hm)
      · exact I.n.off (I.nb_lg p hpm).symm fun r hr => I.dj r hr p hpm
      · intro s hs r hr
        obtain ⟨r', hr', rfl⟩ := List.mem_map.mp hr
        have e2 : (if r'.2.1 = p.2.1 then (r'.1, r'.2.1, p.2.2 ++ [D.int m]) else r').2.1 = r'.2.1 := by split <;> rfl
        rw [e2]
        exact I.dj s hs _ hr'
      · exact I.sub.upd (I.flg p hpm)
      · intro r hr
        obtain ⟨r', hr', rfl⟩ := List.mem_map.mp hr
        have e2 : (if r'.2.1 = p.2.1 then (r'.1, r'.2.1, p.2.2 ++ [D.int m]) else r').2.1 = r'.2.1 := by split <;> rfl
        rw [e2]
        exact I.flg _ hr'
end
end
set_option tactic.hygienic false
section

noncomputable abbrev eUse (u : Str × Bool) : D := .tup [.str u.1, .str (hw u.2)]
noncomputable abbrev dN (T : List (Str × List (Int × Bool))) : List (Str × D) := T.map fun p => (p.1, .lst (p.2.map eMark))
noncomputable abbrev dG (T : List (Int × List Int)) : List (Int × D) := T.map fun p => (p.1, .lst (p.2.map .int))
noncomputable def namesE (su : D → List (Str × Bool)) (lines : List (Int × List D)) : List (Str × (Int × Bool)) := lines.flatMap fun l => (l.2.flatMap exD).flatMap fun d => (su d).map fun u => (u.1, (l.1, u.2))
noncomputable def goalsE (sg : D → List Int) (lines : List (Int × List D)) : List (Int × Int) := lines.flatMap fun l => (l.2.flatMap exD).flatMap fun d => (sg d).map fun x => (x, l.1)
theorem sub_delL {σ₀ : St} : ∀ {as : List Addr} {σ : St}, Sub σ₀ σ → (∀ a ∈ as, σ₀ a = none) → Sub σ₀ (delL σ as)
  | [], σ, h, _ => h
  | a :: as, σ, h, hn => sub_delL (as := as) (σ := del σ a) (h.del (hn a (.head _))) fun x hx => hn x (.tail _ hx)
section
variable {g : Gm} {n : Nat} {σ : St} {Q : AV → St → Prop} {env : Env} {ρ : Ro}
structure RdOk (g : Gm) (d : D) (us : List (Str × Bool)) (gs : List Int) : Prop where
  uses : ∀ (n : Nat) (σ : St) (Q : AV → St → Prop) (a : Addr), FnAt g (dAt 12) a → Q (.d (.lst (us.map eUse))) σ → WC g (n + 4) (.ref a) [.d d] σ Q
  goals : ∀ (n : Nat) (σ : St) (Q : AV → St → Prop) (a : Addr), FnAt g (dAt 14) a → Q (.d (.lst (gs.map .int))) σ → WC g (n + 2) (.ref a) [.d d] σ Q
noncomputable abbrev crS1 : Option Stmt := (dAt 17).body[1]?
noncomputable abbrev crS2 : Option Stmt := (bodyOf crS1)[0]?
noncomputable abbrev crS3 : Option Stmt := (bodyOf crS2)[0]?
noncomputable abbrev crS4 : Option Stmt := (bodyOf crS2)[1]?
noncomputable abbrev crB (nb gb : Addr) (pg : D) : Ro := [("names", .cell nb), ("goals", .cell gb), ("program", .d pg)]
noncomputable abbrev crB2 (nb gb : Addr) (pg : D) (l : Int) (sts : D) : Ro := [("line", .d (.int l)), ("statements", .d sts), ("names", .cell nb), ("goals", .cell gb), ("program", .d pg)]
noncomputable abbrev crB3 (nb gb : Addr) (pg : D) (l : Int) (sts : D) (d : D) : Ro := [("statement", .d d), ("line", .d (.int l)), ("statements", .d sts), ("names", .cell nb), ("goals", .cell gb), ("program", .d pg)]
theorem cr_uses (C : Cx g) {σ₀ : St} {nb gb : Addr} {LG : List (Int × Addr × List D)} {l : Int} {sts : D} {d : D} {pg : D} {K : Fl → Ro → St → Prop} {B : Ro} (hB : B = crB3 nb gb pg l sts d) {L : Addr} {a : Addr} {cd : Value} : ∀ (us : List (Str × Bool)) (ρ : Ro) (σ : St) (LN : List (Str × Addr × List D)) (es : List (Str × (Int × Bool))),
    (∀ p ∈ B, p ∈ ρ) → Inv σ₀ σ nb gb LN LG → outOf LN = encB eMark (bookOf es) → es.length + us.length ≤ 900 →
    (∀ ρ' σ' LN', (∀ p ∈ B, p ∈ ρ') → Inv σ₀ σ' nb gb LN' LG → outOf LN' = encB eMark (bookOf (es ++ us.map fun u => (u.1, (l, u.2)))) → K .next ρ' σ') →
    FL g (n + 4) (envOfC (dAt 17).name (dAt 17).scope L a cd) (tgtOf crS3) (bodyOf crS3) K (us.map eUse) ρ σ := by
  intro us
  induction us with
  | nil => intro ρ σ LN es hsub I hT _ hK; exact hK ρ σ LN hsub I (by simpa using hT)
  | cons u us ih =>
    intro ρ σ LN es hsub I hT hl hK
    rw [List.length_cons] at hl
    refine WA.sub hsub ?_
    subst hB
    refine WA.tuple (xs := ["name", "how"]) (ps := [_, _]) rfl rfl rfl (Bound.all (by rfl)) (Offs.cons (by repeat first | exact Off.nil | with_reducible apply Off.skip | (apply Off.keepD; kernel_rfl)) (Offs.cons (by repeat first | exact Off.nil | with_reducible apply Off.skip | (apply Off.keepD; kernel_rfl)) .nil)) ?_
    obtain ⟨nt, hnt, ntF⟩ := C.noted
    refine WSs.cons (WS.expr (WE.callFn hnt ntF ?_))
    walk_at "s"
    refine WE.tuple ?_
    walk_at "s"
    refine ⟨[.int l, .str (hw u.2)], rfl, by simp, ?_⟩
    walk_at "s"
    refine notedN C (m := (l, u.2)) I hT (by exact o1 (o6 hl) rfl) (fun σ' LN' I' hT' => ?_) ntF
    refine ⟨rfl, WSs.nil (ih _ σ' LN' _ (fun p hp => List.mem_cons_of_mem _ (List.mem_cons_of_mem _ hp)) I' hT' (by simp; omega) fun ρ' σ'' LN'' h1 h2 h3 => hK ρ' σ'' LN'' h1 h2 ?_)⟩
    rw [h3, List.map_cons]; simp
theorem cr_goals (C : Cx g) {σ₀ : St} {nb gb : Addr} {LN : List (Str × Addr × List D)} {l : Int} {sts : D} {d : D} {pg : D} {K : Fl → Ro → St → Prop} {B : Ro} (hB : B = crB3 nb gb pg l sts d) {L : Addr} {a : Addr} {cd : Value} : ∀ (us : List Int) (ρ : Ro) (σ : St) (LG : List (Int × Addr × List D)) (es : List (Int × Int)),
    (∀ p ∈ B, p ∈ ρ) → Inv σ₀ σ nb gb LN LG → outOf LG = encB D.int (bookOf es) → es.length + us.length ≤ 900 →
    (∀ ρ' σ' LG', (∀ p ∈ B, p ∈ ρ') → Inv σ₀ σ' nb gb LN LG' → outOf LG' = encB D.int (bookOf (es ++ us.map fun u => (u, l))) → K .next ρ' σ') →
    FL g (n + 4) (envOfC (dAt 17).name (dAt 17).scope L a cd) (tgtOf crS4) (bodyOf crS4) K (us.map .int) ρ σ := by
  intro us
  induction us with
  | nil => intro ρ σ LG es hsub I hT _ hK; exact hK ρ σ LG hsub I (by simpa using hT)
  | cons u us ih =>
    intro ρ σ LG es hsub I hT hl hK
    rw [List.length_cons] at hl
    refine WA.sub hsub ?_
    subst hB
    refine WA.name (by repeat first | exact Off.nil | with_reducible apply Off.skip | (apply Off.keepD; kernel_rfl)) ?_
    obtain ⟨nt, hnt, ntF⟩ := C.noted
    refine WSs.cons (WS.expr (WE.callFn hnt ntF ?_))
    walk_at "s"
    refine notedG C (m := l) I hT (by exact o1 (o6 hl) rfl) (fun σ' LG' I' hT' => ?_) ntF
    refine ⟨rfl, WSs.nil (ih _ σ' LG' _ (fun p hp => List.mem_cons_of_mem _ hp) I' hT' (by simp; omega) fun ρ' σ'' LG'' h1 h2 h3 => hK ρ' σ'' LG'' h1 h2 ?_)⟩
    rw [h3, List.map_cons]; simp
theorem cr_line (C : Cx g) {su : D → List (Str × Bool)} {sg : D → List Int} {σ₀ : St} {nb gb : Addr} {l : Int} {sts : D} {pg : D} {K : Fl → Ro → St → Prop} {B : Ro} (hB : B = crB2 nb gb pg l sts) {L : Addr} {a : Addr} {cd : Value} : ∀ (ds : List D) (ρ : Ro) (σ : St) (LN : List (Str × Addr × List D)) (LG : List (Int × Addr × List D)) (es : List (Str × (Int × Bool))) (fs : List (Int × Int)),
    (∀ p ∈ B, p ∈ ρ) → (∀ d ∈ ds, RdOk g d (su d) (sg d)) → Inv σ₀ σ nb gb LN LG → outOf LN = encB eMark (bookOf es) → outOf LG = encB D.int (bookOf fs) → es.length + (ds.flatMap su).length ≤ 900 → fs.length + (ds.flatMap sg).length ≤ 900 →
    (∀ ρ' σ' LN' LG', (∀ p ∈ B, p ∈ ρ') → Inv σ₀ σ' nb gb LN' LG' → outOf LN' = encB eMark (bookOf (es ++ ds.flatMap fun d => (su d).map fun u => (u.1, (l, u.2)))) → outOf LG' = encB D.int (bookOf (fs ++ ds.flatMap fun d => (sg d).map fun u => (u, l))) → K .next ρ' σ') →
    FL g (n + 4) (envOfC (dAt 17).name (dAt 17).scope L a cd) (tgtOf crS2) (bodyOf crS2) K ds ρ σ := by
  intro ds
  induction ds with
  | nil => intro ρ σ LN LG es fs hsub _ I hT hG _ _ hK; exact hK ρ σ LN LG hsub I (by simpa using hT) (by simpa using hG)
  | cons d ds ih =>
    intro ρ σ LN LG es fs hsub hok I hT hG hl hl2 hK
    rw [List.flatMap_cons, List.length_append] at hl hl2
    refine WA.sub hsub ?_
    have hB' := hB
    subst hB
    refine WA.name (by repeat first | exact Off.nil | with_reducible apply Off.skip | (apply Off.keepD; kernel_rfl)) ?_
    obtain ⟨ua, hua, uF⟩ := C.own_uses
    refine WSs.cons (WS.for (WE.callFn hua uF ?_))
    walk_at "s"
    refine (hok d (.head _)).uses n σ _ ua uF ?_
    refine ⟨_, IterV.lst, ?_⟩
    refine cr_uses C (d := d) (l := l) (sts := sts) rfl (su d) _ σ LN es (fun p hp => hp) I hT (by omega) fun ρ₁ σ₁ LN₁ hs₁ I₁ hT₁ => ?_
    refine WSs.sub hs₁ ?_
    obtain ⟨ga, hga, gF⟩ := C.goals_of
    refine WSs.cons (WS.for (WE.callFn hga gF ?_))
    walk_at "s"
    refine (hok d (.head _)).goals (n + 2) σ₁ _ ga gF ?_
    refine ⟨_, IterV.lst, ?_⟩
    refine cr_goals C (d := d) (l := l) (sts := sts) rfl (sg d) _ σ₁ LG fs (fun p hp => hp) I₁ hG (by omega) fun ρ₂ σ₂ LG₂ hs₂ I₂ hG₂ => ?_
    refine WSs.nil (ih ρ₂ σ₂ LN₁ LG₂ _ _ (fun p hp => hs₂ p (List.mem_cons_of_mem _ hp)) (fun x hx => hok x (.tail _ hx)) I₂ hT₁ hG₂ (by simp at *; omega) (by simp at *; omega) fun ρ₃ σ₃ LN₃ LG₃ h1 h2 h3 h4 => hK ρ₃ σ₃ LN₃ LG₃ h1 h2 ?_ ?_)
    · rw [h3, List.flatMap_cons]; simp
    · rw [h4, List.flatMap_cons]; simp
structure LineOk (g : Gm) (su : D → List (Str × Bool)) (sg : D → List Int) (l : Int × List D) : Prop where
  st : ∀ d ∈ l.2, stmtOk d
  len : (l.2.flatMap exD).length ≤ 900
  rd : ∀ d ∈ l.2.flatMap exD, RdOk g d (su d) (sg d)
noncomputable abbrev eLine (l : Int × List D) : D := .tup [.int l.1, .lst l.2]
theorem cr_lines (C : Cx g) {su : D → List (Str × Bool)} {sg : D → List Int} {σ₀ : St} {nb gb : Addr} {pg : D} {K : Fl → Ro → St → Prop} {L : Addr} {a : Addr} {cd : Value} : ∀ (ls : List (Int × List D)) (ρ : Ro) (σ : St) (LN : List (Str × Addr × List D)) (LG : List (Int × Addr × List D)) (es : List (Str × (Int × Bool))) (fs : List (Int × Int)),
    (∀ p ∈ crB nb gb pg, p ∈ ρ) → (∀ l ∈ ls, LineOk g su sg l) → Inv σ₀ σ nb gb LN LG → outOf LN = encB eMark (bookOf es) → outOf LG = encB D.int (bookOf fs) → es.length + (namesE su ls).length ≤ 900 → fs.length + (goalsE sg ls).length ≤ 900 →
    (∀ ρ' σ' LN' LG', (∀ p ∈ crB nb gb pg, p ∈ ρ') → Inv σ₀ σ' nb gb LN' LG' → outOf LN' = encB eMark (bookOf (es ++ namesE su ls)) → outOf LG' = encB D.int (bookOf (fs ++ goalsE sg ls)) → K .next ρ' σ') →
    FL g (n + 4) (envOfC (dAt 17).name (dAt 17).scope L a cd) (tgtOf crS1) (bodyOf crS1) K (ls.map eLine) ρ σ := by
  intro ls
  induction ls with
  | nil => intro ρ σ LN LG es fs hsub _ I hT hG _ _ hK; exact hK ρ σ LN LG hsub I (by simpa [namesE] using hT) (by simpa [goalsE] using hG)
  | cons l ls ih =>
    intro ρ σ LN LG es fs hsub hok I hT hG hl hl2 hK
    have e1 : namesE su (l :: ls) = ((l.2.flatMap exD).flatMap fun d => (su d).map fun u => (u.1, (l.1, u.2))) ++ namesE su ls := by unfold namesE; rw [List.flatMap_cons]
    have e2 : goalsE sg (l :: ls) = ((l.2.flatMap exD).flatMap fun d => (sg d).map fun u => (u, l.1)) ++ goalsE sg ls := by unfold goalsE; rw [List.flatMap_cons]
    have e3 : ∀ ds : List D, (ds.flatMap fun d => (su d).map fun u => (u.1, (l.1, u.2))).length = (ds.flatMap su).length := fun ds => by
      induction ds with
      | nil => rfl
      | cons d ds ih => rw [List.flatMap_cons, List.flatMap_cons, List.length_append, List.length_append, ih, List.length_map]
    have e4 : ∀ ds : List D, (ds.flatMap fun d => (sg d).map fun u => (u, l.1)).length = (ds.flatMap sg).length := fun ds => by
      induction ds with
      | nil => rfl
      | cons d ds ih => rw [List.flatMap_cons, List.flatMap_cons, List.length_append, List.length_append, ih, List.length_map]
    have hl' := hl
    have hl2' := hl2
    rw [e1, List.length_append, e3] at hl
    rw [e2, List.length_append, e4] at hl2
    have ho := hok l (.head _)
    refine WA.sub hsub ?_
    refine WA.tuple (xs := ["line", "statements"]) (ps := [_, _]) rfl rfl rfl (Bound.all (by rfl)) (Offs.cons (by repeat first | exact Off.nil | with_reducible apply Off.skip | (apply Off.keepD; kernel_rfl)) (Offs.cons (by repeat first | exact Off.nil | with_reducible apply Off.skip | (apply Off.keepD; kernel_rfl)) .nil)) ?_
    obtain ⟨ua, hua, uF⟩ := C.all_statements
    refine WSs.cons (WS.for (WE.callFn hua uF ?_))
    walk_at "s"
    refine all_statements_spec (n := n + 2) C ho.st ho.len ?_ uF
    refine ⟨_, IterV.lst, ?_⟩
    refine cr_line C (su := su) (sg := sg) (l := l.1) (sts := .lst l.2) (pg := pg) rfl _ _ σ LN LG es fs (fun p hp => ?_) ho.rd I hT hG (by omega) (by omega) fun ρ₁ σ₁ LN₁ LG₁ hs₁ I₁ hT₁ hG₁ => ?_
    · rcases List.mem_cons.mp hp with rfl | hp
      · (with_reducible repeat first | exact List.mem_cons_self | apply List.mem_cons_of_mem)
      rcases List.mem_cons.mp hp with rfl | hp
      · (with_reducible repeat first | exact List.mem_cons_self | apply List.mem_cons_of_mem)
      exact List.mem_cons_of_mem _ (List.mem_cons_of_mem _ hp)
    refine WSs.nil (ih ρ₁ σ₁ LN₁ LG₁ _ _ (fun p hp => hs₁ p (List.mem_cons_of_mem _ (List.mem_cons_of_mem _ hp))) (fun x hx => hok x (.tail _ hx)) I₁ hT₁ hG₁ (by rw [List.length_append, e3]; omega) (by rw [List.length_append, e4]; omega) fun ρ₃ σ₃ LN₃ LG₃ h1 h2 h3 h4 => hK ρ₃ σ₃ LN₃ LG₃ h1 h2 ?_ ?_)
    · rw [h3, e1, List.append_assoc]
    · rw [h4, e2, List.append_assoc]
theorem cross_reference_spec (C : Cx g) {su : D → List (Str × Bool)} {sg : D → List Int} {ls : List (Int × List D)} (hok : ∀ l ∈ ls, LineOk g su sg l) (hn : (namesE su ls).length ≤ 900) (hg : (goalsE sg ls).length ≤ 900)
    (hq : Q (.d (.tup [.dcts (dN (bookOf (namesE su ls))), .dcti (dG (bookOf (goalsE sg ls)))])) σ) {a : Addr} (hfn : FnAt g (dAt 17) a) : WC g (n + 5) (.ref a) [.d (.lst (ls.map eLine))] σ Q := by
  refine WN.fz ?_
  refine WC.fnR ["program"] [("program", .d (.lst (ls.map eLine)))] rfl hfn C.lim rfl (by intro pm cd doc vs hv; obtain ⟨_, e⟩ := len1 hv; subst e; exact rfl) (by decide +kernel) fun L cd => ?_
  refine WSs.cons (WS.assignSwap (xs := ["names", "goals"]) (Bound.all (by rfl)) (by decide) ?_)
  refine WEs.cons (WE.dictS C.lim fun nb hnb => WEs.cons (WE.dictI C.lim fun gb hgb => WEs.nil ?_))
  refine And.intro rfl (Exists.intro _ (And.intro (Offs.cons (x := "goals") (a := .cell gb) (xs := ["names"]) (as := [.cell nb]) (by repeat first | exact Off.nil | with_reducible apply Off.skip | (apply Off.keepD; kernel_rfl)) (Offs.cons (by repeat first | exact Off.nil | with_reducible apply Off.skip | (apply Off.keepD; kernel_rfl)) .nil)) ?_))
  obtain ⟨hne, hgb'⟩ := upd_none hgb
  have I0 : Inv σ (upd (upd σ nb (.dcts [])) gb (.dcti [])) nb gb [] [] :=
    ⟨⟨by rw [upd_ne hne.symm, upd_same]; rfl, List.nodup_nil, fun p hp => (by cases hp), List.nodup_nil⟩, ⟨upd_same, List.nodup_nil, fun p hp => (by cases hp), List.nodup_nil⟩, fun p hp => (by cases hp), (Sub.refl.upd hnb).upd hgb', hnb, hgb', fun p hp => (by cases hp), fun p hp => (by cases hp)⟩
  refine WSs.cons (WS.for ?_)
  walk_at "s"
  refine ⟨_, IterV.lst, ?_⟩
  refine cr_lines C (su := su) (sg := sg) (σ₀ := σ) (nb := nb) (gb := gb) (pg := .lst (ls.map eLine)) ls _ _ [] [] [] [] (fun p hp => hp) hok I0 rfl rfl (by simpa using hn) (by simpa using hg) fun ρ₁ σ₁ LN LG hs₁ I hT hG => ?_
  rw [List.nil_append] at hT hG
  have eN : (LN.map fun p => (p.1, D.lst p.2.2)) = dN (bookOf (namesE su ls)) := by
    have := congrArg (List.map fun p : Str × List D => (p.1, D.lst p.2)) hT
    simp only [outOf, encB, List.map_map] at this
    exact this
  have eG : (LG.map fun p => (p.1, D.lst p.2.2)) = dG (bookOf (goalsE sg ls)) := by
    have := congrArg (List.map fun p : Int × List D => (p.1, D.lst p.2)) hG
    simp only [outOf, encB, List.map_map] at this
    exact this
  refine WSs.freezeDSL (ρ' := [("names", .d (.dcts (LN.map fun p => (p.1, D.lst p.2.2)))), ("goals", .cell gb)]) I.n.at_ I.n.nd I.n.ls (fun p hp => ?_) ?_
  · simp only [List.mem_cons, List.not_mem_nil, or_false] at hp
    rcases hp with rfl | rfl
    · exact .inr ⟨rfl, hs₁ _ (by with_reducible repeat first | exact List.mem_cons_self | apply List.mem_cons_of_mem)⟩
    · exact .inl (hs₁ _ (by with_reducible repeat first | exact List.mem_cons_self | apply List.mem_cons_of_mem))
  have offN : ∀ x, x ≠ nb → (∀ p ∈ LN, p.2.1 ≠ x) → del (delL σ₁ (LN.map (·.2.1))) nb x = σ₁ x := fun x h1 h2 => by
    rw [del_ne h1, delL_ne fun hm => by obtain ⟨p, hp, e⟩ := List.mem_map.mp hm; exact h2 p hp e]
  refine WSs.freezeDIL (c := gb) (L := LG) (ρ' := [("names", .d (.dcts (LN.map fun p => (p.1, D.lst p.2.2)))), ("goals", .d (.dcti (LG.map fun p => (p.1, D.lst p.2.2))))]) (by rw [offN _ I.nb_gb.symm I.gb_ln]; exact I.g.at_) I.g.nd (fun p hp => by rw [offN _ (I.nb_lg p hp) fun q hq => I.dj q hq p hp]; exact I.g.ls p hp) (fun p hp => ?_) ?_
  · simp only [List.mem_cons, List.not_mem_nil, or_false] at hp
    rcases hp with rfl | rfl
    · exact .inl (by with_reducible repeat first | exact List.mem_cons_self | apply List.mem_cons_of_mem)
    · exact .inr ⟨rfl, by (with_reducible repeat first | exact List.mem_cons_self | apply List.mem_cons_of_mem)⟩
  refine WSs.cons (WS.ret (WE.tuple ?_))
  walk_at "s"
  refine ⟨[.dcts (LN.map fun p => (p.1, D.lst p.2.2)), .dcti (LG.map fun p => (p.1, D.lst p.2.2))], rfl, by simp, ?_⟩
  rw [eN, eG]
  refine Fz.drop ((sub_delL ((sub_delL I.sub fun x hx => ?_).del I.fn) fun x hx => ?_).del I.fg) hq
  · obtain ⟨p, hp, rfl⟩ := List.mem_map.mp hx; exact I.fln p hp
  · obtain ⟨p, hp, rfl⟩ := List.mem_map.mp hx; exact I.flg p hp
end
end
set_option tactic.hygienic false
section

structure D.nice (k : Nat) (d : D) : Prop where
  flat : d.flat = true
  lay : d.py.canLay0 = true
  dep : d.py.depth ≤ k
theorem nices {k : Nat} : ∀ {ds : List D}, (∀ d ∈ ds, D.nice k d) → D.flats ds = true ∧ PyData.canLayAll0 (D.pys ds) = true ∧ PyData.depthAll (D.pys ds) ≤ k
  | [], _ => ⟨rfl, rfl, Nat.zero_le _⟩
  | d :: ds, h => by
    obtain ⟨h1, h2, h3⟩ := nices fun x hx => h x (.tail _ hx)
    have h4 := h d (.head _)
    refine ⟨by rw [D.flats, h1, h4.flat]; rfl, by rw [D.pys, PyData.canLayAll0, h2, h4.lay]; rfl, ?_⟩
    rw [D.pys, PyData.depthAll]
    exact Nat.max_le.mpr ⟨h4.dep, h3⟩
theorem D.nice.lst {k : Nat} {ds : List D} (h : ∀ d ∈ ds, D.nice k d) : D.nice (k + 1) (.lst ds) := by
  obtain ⟨h1, h2, h3⟩ := nices h
  exact ⟨by rw [D.flat]; exact h1, by rw [D.py, PyData.canLay0]; exact h2, by rw [D.py, PyData.depth]; omega⟩
theorem D.nice.tup {k : Nat} {ds : List D} (h : ∀ d ∈ ds, D.nice k d) : D.nice (k + 1) (.tup ds) := by
  obtain ⟨h1, h2, h3⟩ := nices h
  exact ⟨by rw [D.flat]; exact h1, by rw [D.py, PyData.canLay0]; exact h2, by rw [D.py, PyData.depth]; omega⟩
theorem D.nice.int (i : Int) : D.nice 0 (.int i) := ⟨rfl, by rw [D.py, PyData.canLay0], by rw [D.py, PyData.depth]; exact Nat.le_refl _⟩
theorem D.nice.none : D.nice 0 .none := ⟨rfl, by rw [D.py, PyData.canLay0], by rw [D.py, PyData.depth]; exact Nat.le_refl _⟩
theorem D.nice.bool (b : Bool) : D.nice 0 (.bool b) := ⟨rfl, by rw [D.py, PyData.canLay0], by rw [D.py, PyData.depth]; exact Nat.le_refl _⟩
theorem D.nice.str {x : Str} (h : PyData.strOk x = true) : D.nice 0 (.str x) := ⟨rfl, by rw [D.py, PyData.canLay0]; exact h, by rw [D.py, PyData.depth]; exact Nat.le_refl _⟩
theorem D.nice.mono {j k : Nat} {d : D} (h : D.nice j d) (hk : j ≤ k) : D.nice k d := ⟨h.flat, h.lay, Nat.le_trans h.dep hk⟩
theorem D.nice.ok {k : Nat} {d : D} (h : D.nice k d) (hk : k ≤ 64) : d.ok = true := by
  have := h.dep
  unfold D.ok SeqAt.shaped
  rw [h.flat, h.lay, decide_eq_true (by exact o1 (Nat.le_trans this hk) rfl)]; rfl
theorem D.nice.same {k : Nat} {d : D} (h : D.nice k d) : PyData.eqv d.py d.py = true := SeqAt.eqv_refl _ h.lay
theorem nice_mark (m : Int × Bool) : D.nice 1 (eMark m) := .tup fun d hd => by
  simp only [List.mem_cons, List.not_mem_nil, or_false] at hd
  rcases hd with rfl | rfl
  · exact .int _
  · exact .str (hw_ok _)
-- sorting
theorem detSort_mem (lt : D → D → Bool) (l : List D) : ∀ x ∈ detSort lt l, x ∈ l := fun x hx => by
  unfold detSort at hx
  obtain ⟨i, hi, rfl⟩ := List.mem_map.mp hx
  have := detIdx_bd _ _ i hi
  rw [getD_of (List.getElem?_eq_getElem this)]
  exact List.getElem_mem this
theorem map_section {α β : Type} (f : α → β) (u : β → α) : ∀ {l : List β}, (∀ x ∈ l, ∃ y, x = f y ∧ u (f y) = y) → (l.map u).map f = l
  | [], _ => rfl
  | x :: l, h => by
    obtain ⟨y, rfl, e⟩ := h _ (.head _)
    rw [List.map_cons, List.map_cons, e, map_section f u fun z hz => h z (.tail _ hz)]
noncomputable def unI : D → Int
  | .int i => i
  | _ => 0
noncomputable def sortI (ns : List Int) : List Int := (detSort ltD (ns.map .int)).map unI
theorem sortI_eq (ns : List Int) : detSort ltD (ns.map D.int) = (sortI ns).map .int := by
  refine (map_section D.int unI fun x hx => ?_).symm
  obtain ⟨i, _, rfl⟩ := List.mem_map.mp (detSort_mem _ _ x hx)
  exact ⟨i, rfl, rfl⟩
theorem sortI_mem (ns : List Int) : ∀ i ∈ sortI ns, i ∈ ns := fun i hi => by
  have : D.int i ∈ detSort ltD (ns.map D.int) := by rw [sortI_eq]; exact List.mem_map.mpr ⟨i, hi, rfl⟩
  obtain ⟨j, hj, e⟩ := List.mem_map.mp (detSort_mem _ _ _ this)
  cases e; exact hj
-- books
section
variable {K M : Type} [DecidableEq K] [DecidableEq M]
theorem bookOf_inv (es : List (K × M)) (P : List (K × List M) → Prop) (h0 : P []) (hs : ∀ L e, e ∈ es → P L → P (noteT L e.1 e.2)) : P (bookOf es) := by
  have : ∀ (xs : List (K × M)) (L : List (K × List M)), (∀ e ∈ xs, e ∈ es) → P L → P (xs.foldl (fun L e => noteT L e.1 e.2) L) := by
    intro xs
    induction xs with
    | nil => intro L _ h; exact h
    | cons e xs ih => intro L hx h; exact ih _ (fun x hm => hx x (.tail _ hm)) (hs L e (hx e (.head _)) h)
  exact this es [] (fun e h => h) h0
theorem noteT_nodup {L : List (K × List M)} {k : K} {m : M} (h : (L.map (·.1)).Nodup) : ((noteT L k m).map (·.1)).Nodup := by
  unfold noteT
  split
  · split
    · exact h
    · have e : (L.map fun q => if q.1 = k then (q.1, q.2 ++ [m]) else q).map (·.1) = L.map (·.1) := by
        rw [List.map_map]; exact List.map_congr_left fun q _ => by show (if q.1 = k then (q.1, q.2 ++ [m]) else q).1 = q.1; split <;> rfl
      rw [e]; exact h
  · rename_i hn
    rw [List.map_append, List.nodup_append]
    refine ⟨h, by simp, fun x hx y hy e => ?_⟩
    obtain ⟨q, hq, rfl⟩ := List.mem_map.mp hx
    have := List.find?_eq_none.mp hn q hq
    simp at hy
    subst hy
    simp [e] at this
theorem nodup_inj {α β : Type} {f : α → β} : ∀ {L : List α}, (L.map f).Nodup → ∀ p ∈ L, ∀ q ∈ L, f q = f p → q = p
  | [], _, p, hp => by cases hp
  | a :: L, hn, p, hp => fun q hq e => by
    rw [List.map_cons, List.nodup_cons] at hn
    rcases List.mem_cons.mp hp with h1 | h1 <;> rcases List.mem_cons.mp hq with h2 | h2
    · rw [h1, h2]
    · exact absurd (List.mem_map.mpr ⟨q, h2, by rw [← h1]; exact e⟩) hn.1
    · exact absurd (List.mem_map.mpr ⟨p, h1, by rw [← h2]; exact e.symm⟩) hn.1
    · exact nodup_inj hn.2 p h1 q h2 e
theorem bookOf_nodup (es : List (K × M)) : ((bookOf es).map (·.1)).Nodup := bookOf_inv es (fun L => (L.map (·.1)).Nodup) List.nodup_nil fun _ _ _ h => noteT_nodup h
set_option tactic.hygienic true in
theorem bookOf_mem (es : List (K × M)) : ∀ p ∈ bookOf es, p.1 ∈ es.map (·.1) ∧ p.2.Nodup ∧ ∀ m ∈ p.2, (p.1, m) ∈ es := by
  refine (bookOf_inv es (fun L => (L.map (·.1)).Nodup ∧ ∀ p ∈ L, p.1 ∈ es.map (·.1) ∧ p.2.Nodup ∧ ∀ m ∈ p.2, (p.1, m) ∈ es) ⟨List.nodup_nil, fun p hp => (by cases hp)⟩ fun L e he z => ⟨noteT_nodup z.1, ?_⟩).2
  obtain ⟨hn, h⟩ := z
  unfold noteT
  split
  · rename_i p0 hp0
    have hpm := List.mem_of_find?_eq_some hp0
    have hpk : p0.1 = e.1 := by have := List.find?_some hp0; simpa using this
    split
    · exact h
    · rename_i hm
      intro p hp
      obtain ⟨q, hq, rfl⟩ := List.mem_map.mp hp
      obtain ⟨h1, h2, h3⟩ := h q hq
      split
      · rename_i hk
        have hqe : q = p0 := nodup_inj hn p0 hpm q hq (by rw [hk, hpk])
        refine ⟨h1, ?_, fun m hmm => ?_⟩
        · rw [List.nodup_append]
          exact ⟨h2, by simp, fun x hx y hy e' => by simp at hy; subst hy; subst e'; rw [hqe] at hx; exact hm hx⟩
        · rcases List.mem_append.mp hmm with hmm | hmm
          · exact h3 m hmm
          · rw [List.mem_singleton.mp hmm]
            show (q.1, e.2) ∈ es
            rw [hk]; exact he
      · exact ⟨h1, h2, h3⟩
  · intro p hp
    rcases List.mem_append.mp hp with hp | hp
    · exact h p hp
    · rw [List.mem_singleton.mp hp]
      refine ⟨List.mem_map.mpr ⟨e, he, rfl⟩, by simp, fun m hm => ?_⟩
      rw [List.mem_singleton.mp hm]; exact he
theorem look_at {α β : Type} (f : K × α → β) : ∀ {T : List (K × α)}, (T.map (·.1)).Nodup → ∀ p ∈ T, look (T.map fun p => (p.1, f p)) p.1 = some (f p)
  | [], _, p, hp => by cases hp
  | q :: T, hn, p, hp => by
    rw [List.map_cons, List.nodup_cons] at hn
    unfold look
    rw [List.map_cons, List.find?_cons]
    rcases List.mem_cons.mp hp with rfl | hp
    · simp
    · have hne : q.1 ≠ p.1 := fun e => hn.1 (List.mem_map.mpr ⟨p, hp, e.symm⟩)
      simp only [hne, decide_false]
      exact look_at f hn.2 p hp
end
section
variable {g : Gm} {n : Nat} {σ : St} {Q : AV → St → Prop} {env : Env} {ρ : Ro}
theorem CLoop.fm2 {t t' iter' elt : Expr} {ifs : List Expr} (p : D → Bool) (its : D → List D) (f : D → D → D) {R : List D → St → Prop} : ∀ (items : List D) (out : List D),
    (∀ d ∈ items, WA g n env t (.d d) ρ σ fun ρ₁ => (∀ q ∈ ρ, q ∈ ρ₁) ∧ CIf g n env ρ₁ ifs σ fun b σ₁ => σ₁ = σ ∧ b = p d ∧ (b = true → WE g n env ρ₁ σ iter' fun a σ₂ => σ₂ = σ ∧ IterV g n t' a (its d) σ ∧ ∀ e ∈ its d, WA g n env t' (.d e) ρ₁ σ fun ρ₂ => (∀ q ∈ ρ₁, q ∈ ρ₂) ∧ WE g n env ρ₂ σ elt fun a σ₃ => a = .d (f d e) ∧ σ₃ = σ)) →
    out.length + (items.flatMap fun d => if p d = true then its d else []).length ≤ 100000 → R (out ++ items.flatMap fun d => if p d = true then (its d).map (f d) else []) σ → CLoop g n env t ifs (CIn g n env t' iter' [] elt) items ρ σ out R := by
  intro items
  induction items with
  | nil => intro out _ _ hR; show R out σ; simpa using hR
  | cons d r ih =>
    intro out h hl hR
    rw [List.flatMap_cons, List.length_append] at hl
    rw [List.flatMap_cons] at hR
    refine WA.mono (h d (.head _)) fun ρ₁ z => ⟨z.1, CIf.mono z.2 fun b σ₁ zr2 => ?_⟩
    obtain ⟨e1, e2, h3⟩ := zr2
    subst e1
    rw [← e2] at hl hR
    cases b
    · rw [if_neg (by decide)] at hl hR
      exact ih out (fun d' hd' => h d' (.tail _ hd')) (by simp only [List.length_nil, Nat.zero_add] at hl; exact hl) (by simpa using hR)
    · rw [if_pos rfl] at hl hR
      refine (h3 rfl).mono fun a σ₂ zr2 => ?_
      obtain ⟨es, hit, hel⟩ := zr2
      subst es
      refine ⟨its d, hit, CLoop.map (f d) _ _ (fun e he => ?_) (by omega) ?_⟩
      · exact hel e he
      · exact ih _ (fun d' hd' => h d' (.tail _ hd')) (by rw [List.length_append, List.length_map]; omega) (by rw [List.append_assoc]; exact hR)
end
end
set_option tactic.hygienic false
section

noncomputable def lostT (known : List Int) (T : List (Int × List Int)) : List (Int × Int) := T.flatMap fun p => if p.1 ∈ known then [] else p.2.map fun l => (l, p.1)
noncomputable abbrev ePair (p : Int × Int) : D := .tup [.int p.1, .int p.2]
structure PgOk (g : Gm) (su : D → List (Str × Bool)) (sg : D → List Int) (ls : List (Int × List D)) : Prop where
  ok : ∀ l ∈ ls, LineOk g su sg l
  n : (namesE su ls).length ≤ 900
  g : (goalsE sg ls).length ≤ 900
  lb : ∀ l ∈ ls, 0 ≤ l.1 ∧ l.1 ≤ 1000
  gb : ∀ e ∈ goalsE sg ls, 0 ≤ e.1 ∧ e.1 ≤ 1000
  nb : ∀ e ∈ namesE su ls, e.1.length ≤ 100
  kn : (bookOf (namesE su ls)).length < 64
  kg : (bookOf (goalsE sg ls)).length < 64
  kl : (lostT (ls.map (·.1)) (bookOf (goalsE sg ls))).length < 64
theorem look_dN {T : List (Str × List (Int × Bool))} (hn : (T.map (·.1)).Nodup) {r : Str × List (Int × Bool)} (hr : r ∈ T) : look ((dN T).map fun p => (p.1, AV.d p.2)) r.1 = some (.d (.lst (r.2.map eMark))) := by
  rw [List.map_map]
  exact look_at (fun p : Str × List (Int × Bool) => AV.d (.lst (p.2.map eMark))) hn r hr
theorem look_dG {T : List (Int × List Int)} (hn : (T.map (·.1)).Nodup) {r : Int × List Int} (hr : r ∈ T) : look ((dG T).map fun p => (p.1, AV.d p.2)) r.1 = some (.d (.lst (r.2.map .int))) := by
  rw [List.map_map]
  exact look_at (fun p : Int × List Int => AV.d (.lst (p.2.map .int))) hn r hr
theorem fm_congr {α β : Type} {f g : α → List β} : ∀ {l : List α}, (∀ x ∈ l, f x = g x) → l.flatMap f = l.flatMap g
  | [], _ => rfl
  | x :: l, h => by rw [List.flatMap_cons, List.flatMap_cons, h x (.head _), fm_congr fun y hy => h y (.tail _ hy)]
theorem fm_map {α β γ : Type} (h : α → β) (f : β → List γ) : ∀ (l : List α), (l.map h).flatMap f = l.flatMap fun x => f (h x)
  | [] => rfl
  | x :: l => by rw [List.map_cons, List.flatMap_cons, List.flatMap_cons, fm_map h f l]
theorem map_fm {α β γ : Type} (h : β → γ) (f : α → List β) : ∀ (l : List α), (l.flatMap f).map h = l.flatMap fun x => (f x).map h
  | [] => rfl
  | x :: l => by rw [List.flatMap_cons, List.flatMap_cons, List.map_append, map_fm h f l]
noncomputable def atI (T : List (Int × List Int)) (d : D) : List Int := match T.find? (fun p => p.1 = unI d) with
  | some p => p.2
  | none => []
theorem find_at {K α : Type} [DecidableEq K] {T : List (K × α)} (hn : (T.map (·.1)).Nodup) {r : K × α} (hr : r ∈ T) : T.find? (fun p => p.1 = r.1) = some r := by
  cases h : T.find? (fun p => p.1 = r.1) with
  | none => have := List.find?_eq_none.mp h r hr; simp at this
  | some p =>
    have h1 := List.mem_of_find?_eq_some h
    have h2 : p.1 = r.1 := by have := List.find?_some h; simpa using this
    rw [nodup_inj hn r hr p h1 h2]
theorem atI_at {T : List (Int × List Int)} (hn : (T.map (·.1)).Nodup) {r : Int × List Int} (hr : r ∈ T) : atI T (.int r.1) = r.2 := by
  unfold atI
  rw [show unI (.int r.1) = r.1 from rfl, find_at hn hr]
theorem lost_out {known : List Int} {T : List (Int × List Int)} (hn : (T.map (·.1)).Nodup) :
    (((dG T).map fun p => D.int p.1).flatMap fun d => if (!hasM (known.map .int) d) = true then ((atI T d).map D.int).map (fun e => D.tup [e, d]) else []) = (lostT known T).map ePair := by
  unfold lostT
  rw [map_fm, fm_map, fm_map]
  refine fm_congr fun r hr => ?_
  show (if (!hasM (known.map .int) (.int r.1)) = true then ((atI T (.int r.1)).map D.int).map (fun e => D.tup [e, .int r.1]) else []) = _
  rw [atI_at hn hr]
  have hh : hasM (known.map D.int) (.int r.1) = true ↔ r.1 ∈ known := enc_int.has known r.1
  by_cases h : r.1 ∈ known
  · rw [if_pos h, hh.mpr h]; rfl
  · have : hasM (known.map D.int) (.int r.1) = false := by
      cases e : hasM (known.map D.int) (.int r.1)
      · rfl
      · exact absurd (hh.mp e) h
    rw [if_neg h, this, List.map_map]
    simp
theorem fm_len {α β γ : Type} (p : α → Bool) (its : α → List β) (f : α → β → γ) : ∀ l : List α, (l.flatMap fun d => if p d = true then its d else []).length = (l.flatMap fun d => if p d = true then (its d).map (f d) else []).length
  | [] => rfl
  | x :: l => by
    rw [List.flatMap_cons, List.flatMap_cons, List.length_append, List.length_append, fm_len p its f l]
    split
    · rw [List.length_map]
    · rfl
noncomputable def unS : D → Str
  | .str x => x
  | _ => ""
noncomputable def atN (T : List (Str × List (Int × Bool))) (k : Str) : List (Int × Bool) := match T.find? (fun p => p.1 = k) with
  | some p => p.2
  | none => []
theorem atN_at {T : List (Str × List (Int × Bool))} (hn : (T.map (·.1)).Nodup) {r : Str × List (Int × Bool)} (hr : r ∈ T) : atN T r.1 = r.2 := by
  unfold atN
  rw [find_at hn hr]
noncomputable def unset (T : List (Str × List (Int × Bool))) (k : Str) : Bool := !((atN T k).any fun m => m.2)
theorem has_set (ms : List (Int × Bool)) : hasM (ms.map fun m => D.str (hw m.2)) (.str "set") = ms.any fun m => m.2 := by
  unfold hasM
  rw [List.any_map]
  refine congrArg (fun f => ms.any f) (funext fun m => ?_)
  show PyData.eqv (D.str (hw m.2)).py (D.str "set").py = m.2
  have : ∀ b : Bool, PyData.eqv (D.str (hw b)).py (D.str "set").py = b := by decide +kernel
  exact this m.2
theorem fine_hows (ms : List (Int × Bool)) : D.flats (ms.map fun m => D.str (hw m.2)) = true ∧ PyData.canLayAll0 (D.pys (ms.map fun m => D.str (hw m.2))) = true := by
  obtain ⟨h1, h2, _⟩ := nices (k := 0) (ds := ms.map fun m => D.str (hw m.2)) fun d hd => by obtain ⟨m, _, rfl⟩ := List.mem_map.mp hd; exact .str (hw_ok _)
  exact ⟨h1, h2⟩
noncomputable abbrev sI (i : Int) : Str := toString i
noncomputable def rowG (T : List (Int × List Int)) (k : Int) : Str := sI k ++ ": " ++ Txt.join " " ((atI T (.int k)).map sI)
noncomputable def markS (m : Int × Bool) : Str := sI m.1 ++ (if m.2 = true then "=" else "")
noncomputable def rowN (T : List (Str × List (Int × Bool))) (k : Str) : Str := k ++ ": " ++ Txt.join " " ((atN T k).map markS)
theorem sI_len {i : Int} (h0 : 0 ≤ i) (h1 : i ≤ 1000) : (sI i).length ≤ 10 ∧ i.natAbs.log2 < 1920 := by
  have : ∀ n : Fin 1001, (sI (Int.ofNat n.1)).length ≤ 10 := by decide +kernel
  have h := this ⟨i.toNat, by omega⟩
  have e : Int.ofNat i.toNat = i := by show ((i.toNat : Nat) : Int) = i; omega
  rw [e] at h
  refine ⟨h, ?_⟩
  have : i.natAbs ≤ 1000 := by omega
  exact Nat.lt_of_le_of_lt (Nat.log2_le_self _) (by exact o2 this rfl)
theorem sum_le {α : Type} (f : α → Nat) (c : Nat) : ∀ (l : List α), (∀ x ∈ l, f x ≤ c) → (l.map f).sum ≤ c * l.length
  | [], _ => by simp
  | x :: l, h => by
    have h1 := h x (.head _)
    have h2 := sum_le f c l fun y hy => h y (.tail _ hy)
    rw [List.map_cons, List.sum_cons, List.length_cons, Nat.mul_succ]
    omega
theorem marks_bd {K M : Type} [DecidableEq K] [DecidableEq M] {es : List (K × M)} {R : K → Prop} {S : M → Prop} (hK : ∀ e ∈ es, R e.1) (hM : ∀ e ∈ es, S e.2) : ∀ p ∈ bookOf es, R p.1 ∧ (∀ m ∈ p.2, S m) ∧ p.2.length ≤ es.length := fun p hp => by
  obtain ⟨h1, _, h3⟩ := bookOf_mem es p hp
  obtain ⟨e, he, h4⟩ := List.mem_map.mp h1
  exact ⟨by rw [← h4]; exact hK e he, fun m hm => hM _ (h3 m hm), (bookOf_len es).2 p hp⟩
theorem goalsE_line {sg : D → List Int} {ls : List (Int × List D)} {R : Int → Prop} (h : ∀ l ∈ ls, R l.1) : ∀ e ∈ goalsE sg ls, R e.2 := fun e he => by
  unfold goalsE at he
  obtain ⟨l, hl, h1⟩ := List.mem_flatMap.mp he
  obtain ⟨d, hd, h2⟩ := List.mem_flatMap.mp h1
  obtain ⟨x, hx, rfl⟩ := List.mem_map.mp h2
  exact h l hl
theorem namesE_line {su : D → List (Str × Bool)} {ls : List (Int × List D)} {R : Int → Prop} (h : ∀ l ∈ ls, R l.1) : ∀ e ∈ namesE su ls, R e.2.1 := fun e he => by
  unfold namesE at he
  obtain ⟨l, hl, h1⟩ := List.mem_flatMap.mp he
  obtain ⟨d, hd, h2⟩ := List.mem_flatMap.mp h1
  obtain ⟨x, hx, rfl⟩ := List.mem_map.mp h2
  exact h l hl
section
variable {g : Gm} {n : Nat} {σ : St} {Q : AV → St → Prop} {env : Env} {ρ : Ro} {su : D → List (Str × Bool)} {sg : D → List Int} {ls : List (Int × List D)}
theorem CIf.one {c : Expr} {R : Bool → St → Prop} (h : WT g n env ρ σ c R) : CIf g n env ρ [c] σ R := WT.mono h fun b σ₁ h => by cases b <;> exact h
theorem lost_goals_spec (C : Cx g) (H : PgOk g su sg ls) (hll : ls.length ≤ 900)
    (hq : Q (.d (.lst (detSort ltD ((lostT (ls.map (·.1)) (bookOf (goalsE sg ls))).map ePair)))) σ) {a : Addr} (hfn : FnAt g (dAt 18) a) : WC g (n + 6) (.ref a) [.d (.lst (ls.map eLine))] σ Q := by
  refine WC.fnR ["program"] [("program", .d (.lst (ls.map eLine)))] rfl hfn C.lim rfl (by intro pm cd doc vs hv; obtain ⟨_, e⟩ := len1 hv; subst e; exact rfl) (by decide +kernel) fun L cd => ?_
  refine WSs.cons (WS.assign (by repeat first | exact Off.nil | with_reducible apply Off.skip | (apply Off.keepD; kernel_rfl)) (WE.comp1 [] (by rfl) (fun p hp => by cases hp) ?_))
  walk_at "s"
  refine ⟨_, IterV.lst, fun Cc => CLoop.map (fun d => match d with | .tup [x, _] => x | _ => D.none) _ [] (fun d hd => ?_) (by exact o1 (Nat.add_le_add oN (oM hll)) rfl) ?_⟩
  · obtain ⟨l, hl, rfl⟩ := List.mem_map.mp hd
    refine WA.tuple (xs := ["line", "statements"]) (ps := [_, _]) rfl rfl rfl (Bound.all (by rfl)) (Offs.cons (by repeat first | exact Off.nil | with_reducible apply Off.skip | (apply Off.keepD; kernel_rfl)) (Offs.cons (by repeat first | exact Off.nil | with_reducible apply Off.skip | (apply Off.keepD; kernel_rfl)) .nil)) ⟨fun q hq => (by cases hq), ?_⟩
    walk_at "s"
    exact ⟨rfl, rfl⟩
  rw [List.nil_append, List.map_map]
  have ek : (ls.map ((fun d : D => match d with | .tup [x, _] => x | _ => D.none) ∘ eLine)) = (ls.map (·.1)).map D.int := by rw [List.map_map]; rfl
  rw [ek]
  generalize hkn : ls.map (·.1) = known at hq ⊢
  obtain ⟨ca, hca, cF⟩ := C.cross_reference
  refine WSs.cons (WS.assignTup (WE.callFn hca cF ?_))
  walk_at "s"
  refine cross_reference_spec C H.ok H.n H.g ?_ cF
  refine WA.tuple (xs := ["names", "goals"]) (ps := [_, _]) rfl rfl rfl (Bound.all (by rfl)) (Offs.cons (by repeat first | exact Off.nil | with_reducible apply Off.skip | (apply Off.keepD; kernel_rfl)) (Offs.cons (by repeat first | exact Off.nil | with_reducible apply Off.skip | (apply Off.keepD; kernel_rfl)) .nil)) ?_
  have hnd := bookOf_nodup (goalsE sg ls)
  have hkl := H.kl
  rw [hkn] at hkl
  generalize hT : bookOf (goalsE sg ls) = T at *
  refine WSs.cons (WS.ret (WE.callB C.sorted (WEs.cons (WE.comp2 [("known", .d (.lst (known.map .int))), ("goals", .d (.dcti (dG T)))] (by rfl) (fun p hp => ?_) ?_))))
  · simp only [List.mem_cons, List.not_mem_nil, or_false] at hp
    rcases hp with rfl | rfl <;> exact ⟨by (with_reducible repeat first | exact List.mem_cons_self | apply List.mem_cons_of_mem), rfl⟩
  walk_at "s"
  refine ⟨_, IterV.dcti, fun Cc => CLoop.fm2 (fun d => !hasM (known.map .int) d) (fun d => (atI T d).map .int) (fun d e => .tup [e, d]) _ [] (fun d hd => ?_) ?_ ?_⟩
  · obtain ⟨q, hqm, rfl⟩ := List.mem_map.mp hd
    obtain ⟨r, hr, rfl⟩ := List.mem_map.mp hqm
    dsimp only
    refine WA.name (by repeat first | exact Off.nil | with_reducible apply Off.skip | (apply Off.keepD; kernel_rfl)) ⟨fun q hq => List.mem_cons_of_mem _ hq, ?_⟩
    refine CIf.one ?_
    walk_at "s"
    refine W2.notInL (enc_int.ok r.1) (by rw [D.flat]; exact enc_int.flats known) (enc_int.lay known) (WTr.bool ?_)
    refine ⟨rfl, rfl, fun _ => ?_⟩
    walk_at "s"
    refine W2.itemDict DictV.dcti KeyV.int (look_dG hnd hr) ?_ (fun P v hr o => by cases hr; rfl)
    refine ⟨rfl, ?_⟩
    rw [atI_at hnd hr]
    refine ⟨IterV.lst, fun e he => ?_⟩
    obtain ⟨x, hx, rfl⟩ := List.mem_map.mp he
    refine WA.name (by repeat first | exact Off.nil | with_reducible apply Off.skip | (apply Off.keepD; kernel_rfl)) ⟨fun q hq => List.mem_cons_of_mem _ hq, ?_⟩
    refine WE.tuple ?_
    walk_at "s"
    exact ⟨[.int x, .int r.1], rfl, by simp, rfl, rfl⟩
  · rw [fm_len _ _ (fun d e => D.tup [e, d]), lost_out hnd, List.length_map, List.length_nil]; exact o1 (Nat.add_le_add (Nat.le_refl _) (o5 hkl)) rfl
  · rw [List.nil_append, lost_out hnd]
    refine WEs.nil (WC.sorted (Collects.lst (by exact o1 (oM (o5 hkl)) rfl)) (SortOk.pairs _) (by simpa using hkl) ?_)
    exact hq
theorem never_set_spec (C : Cx g) (H : PgOk g su sg ls)
    (hq : Q (.d (.lst ((sortS (((bookOf (namesE su ls)).map (·.1)).filter (unset (bookOf (namesE su ls))))).map .str))) σ) {a : Addr} (hfn : FnAt g (dAt 19) a) : WC g (n + 6) (.ref a) [.d (.lst (ls.map eLine))] σ Q := by
  refine WC.fnR ["program"] [("program", .d (.lst (ls.map eLine)))] rfl hfn C.lim rfl (by intro pm cd doc vs hv; obtain ⟨_, e⟩ := len1 hv; subst e; exact rfl) (by decide +kernel) fun L cd => ?_
  obtain ⟨ca, hca, cF⟩ := C.cross_reference
  refine WSs.cons (WS.assign (by repeat first | exact Off.nil | with_reducible apply Off.skip | (apply Off.keepD; kernel_rfl)) (WE.sub (WE.callFn hca cF ?_)))
  walk_at "s"
  refine cross_reference_spec C H.ok H.n H.g ?_ cF
  walk_at "s"
  have hnd := bookOf_nodup (namesE su ls)
  have hkn := H.kn
  have hml := fun p hp => (bookOf_len (namesE su ls)).2 p hp
  have hnl := H.n
  generalize hT : bookOf (namesE su ls) = T at *
  refine W2.itemT (d := .dcts (dN T)) (by exact i1 (Int.le_refl _) rfl) rfl (by simp) ?_
  refine WSs.cons (WS.ret (WE.comp1 [("names", .d (.dcts (dN T)))] (by rfl) (fun p hp => ?_) ?_))
  · rw [List.mem_singleton.mp hp]; exact ⟨by (with_reducible repeat first | exact List.mem_cons_self | apply List.mem_cons_of_mem), rfl⟩
  refine WE.callB C.sorted ?_
  walk_at "s"
  have hc : Collects g (n + 5) (.d (.dcts (dN T))) ((T.map (·.1)).map .str) σ := by
    have := Collects.dcts (g := g) (n := n + 5) (σ := σ) (kvs := dN T) (by rw [List.length_map]; exact o1 (o5 hkn) rfl)
    rw [List.map_map] at this
    rw [List.map_map]; exact this
  refine WC.sortedS hc (by rw [List.length_map]; exact hkn) ?_
  refine ⟨_, IterV.lst, fun Cc => CLoop.fm (fun d => unset T (unS d)) id _ [] (fun d hd => ?_) (by
    rw [List.length_map, (sortS_perm _).length_eq, List.length_map, List.length_nil]; exact o1 (Nat.add_le_add (Nat.le_refl _) (o5 hkn)) rfl) ?_⟩
  · obtain ⟨k, hk, rfl⟩ := List.mem_map.mp hd
    obtain ⟨r, hr, rfl⟩ := List.mem_map.mp ((sortS_perm _).mem_iff.mp hk)
    have hrl := hml r hr
    refine WA.name (by repeat first | exact Off.nil | with_reducible apply Off.skip | (apply Off.keepD; kernel_rfl)) ⟨fun q hq => List.mem_cons_of_mem _ hq, ?_⟩
    refine CIf.one (WT.compare (WE.cStr (WE.comp1 [] (by rfl) (fun p hp => by cases hp) ?_)))
    walk_at "s"
    refine W2.itemDict DictV.dcts KeyV.str (look_dN hnd hr) ?_ (fun P v hr o => by cases hr; rfl)
    refine ⟨_, IterV.lst, fun Cd => CLoop.map (fun d => match d with | .tup [_, x] => x | _ => D.none) _ [] (fun d hd => ?_) (by rw [List.length_map, List.length_nil]; exact o1 (Nat.add_le_add (Nat.le_refl _) (Nat.le_trans hrl hnl)) rfl) ?_⟩
    · obtain ⟨m, hm, rfl⟩ := List.mem_map.mp hd
      refine WA.tuple (xs := ["line", "how"]) (ps := [_, _]) rfl rfl rfl (Bound.all (by rfl)) (Offs.cons (by repeat first | exact Off.nil | with_reducible apply Off.skip | (apply Off.keepD; kernel_rfl)) (Offs.cons (by repeat first | exact Off.nil | with_reducible apply Off.skip | (apply Off.keepD; kernel_rfl)) .nil)) ⟨fun q hq => (by cases hq), ?_⟩
      walk_at "s"
      exact ⟨rfl, rfl⟩
    have e : ([] ++ (r.2.map eMark).map fun d : D => match d with | .tup [_, x] => x | _ => D.none) = r.2.map fun m => D.str (hw m.2) := by
      rw [List.nil_append, List.map_map]; rfl
    rw [e]
    refine W2.notInL (by decide +kernel) (by rw [D.flat]; exact (fine_hows r.2).1) (fine_hows r.2).2 (WTr.bool ?_)
    show _ ∧ (!hasM (r.2.map fun m => D.str (hw m.2)) (.str "set")) = unset T r.1 ∧ _
    rw [has_set]
    unfold unset
    rw [atN_at hnd hr]
    refine ⟨rfl, rfl, fun _ => ?_⟩
    walk_at "s"
    exact ⟨rfl, rfl⟩
  · have e : (((sortS (T.map (·.1))).map D.str).filter fun d => unset T (unS d)).map id = (sortS ((T.map (·.1)).filter (unset T))).map .str := by
      rw [List.map_id, List.filter_map, ← sortS_filter]; rfl
    rw [List.nil_append, e]
    exact hq
end
end
set_option tactic.hygienic false
section
section
variable {g : Gm} {n : Nat} {σ : St} {Q : AV → St → Prop} {env : Env} {ρ : Ro} {su : D → List (Str × Bool)} {sg : D → List Int} {ls : List (Int × List D)}
theorem join_le {ys : List Str} {c : Nat} (h : ∀ y ∈ ys, y.length ≤ c) (hl : ys.length ≤ 900) (hc : c ≤ 1000) : (ys.map (·.length)).sum + ys.length * (" " : Str).length ≤ 16777216 ∧ (Txt.join " " ys).length ≤ 1000000 := by
  have h1 := sum_le (fun y : Str => y.length) c ys h
  have h2 : (" " : Str).length = 1 := by decide +kernel
  have h3 : c * ys.length ≤ 1000 * 900 := Nat.mul_le_mul hc hl
  have h4 := StrLaws.join_length_le (" " : Str) ys
  refine ⟨by rw [h2]; exact o1 (Nat.add_le_add (Nat.le_trans h1 (Nat.mul_le_mul hc hl)) (Nat.mul_le_mul hl (Nat.le_refl _))) rfl, ?_⟩
  have h5 : (Str.join " " ys).length ≤ 1000000 := by rw [h2] at h4; exact o1 (Nat.le_trans h4 (Nat.add_le_add (Nat.le_trans h1 (Nat.mul_le_mul hc hl)) (Nat.mul_le_mul hl (Nat.le_refl _)))) rfl
  show (Builtin.Str.glued " " ys).length ≤ 1000000
  rw [StrLaws.glued_eq_join]; exact h5
theorem shown_goals_spec (C : Cx g) (H : PgOk g su sg ls)
    (hq : Q (.d (.lst ((sortI ((bookOf (goalsE sg ls)).map (·.1))).map fun k => D.str (rowG (bookOf (goalsE sg ls)) k)))) σ) {a : Addr} (hfn : FnAt g (dAt 21) a) : WC g (n + 6) (.ref a) [.d (.lst (ls.map eLine))] σ Q := by
  refine WC.fnR ["program"] [("program", .d (.lst (ls.map eLine)))] rfl hfn C.lim rfl (by intro pm cd doc vs hv; obtain ⟨_, e⟩ := len1 hv; subst e; exact rfl) (by decide +kernel) fun L cd => ?_
  obtain ⟨ca, hca, cF⟩ := C.cross_reference
  refine WSs.cons (WS.assign (by repeat first | exact Off.nil | with_reducible apply Off.skip | (apply Off.keepD; kernel_rfl)) (WE.sub (WE.callFn hca cF ?_)))
  walk_at "s"
  refine cross_reference_spec C H.ok H.n H.g ?_ cF
  walk_at "s"
  have hnd := bookOf_nodup (goalsE sg ls)
  have hkn := H.kg
  have hnl := H.g
  have hbd := marks_bd (R := fun i => 0 ≤ i ∧ i ≤ 1000) (S := fun i => 0 ≤ i ∧ i ≤ 1000) H.gb (goalsE_line (R := fun i => 0 ≤ i ∧ i ≤ 1000) H.lb)
  generalize hT : bookOf (goalsE sg ls) = T at *
  refine W2.itemT (d := .dcti (dG T)) (by exact i1 (Int.le_refl _) rfl) rfl (by simp) ?_
  refine WSs.cons (WS.ret (WE.comp1 [("goals", .d (.dcti (dG T)))] (by rfl) (fun p hp => ?_) ?_))
  · rw [List.mem_singleton.mp hp]; exact ⟨by (with_reducible repeat first | exact List.mem_cons_self | apply List.mem_cons_of_mem), rfl⟩
  refine WE.callB C.sorted ?_
  walk_at "s"
  have hc : Collects g (n + 5) (.d (.dcti (dG T))) ((T.map (·.1)).map .int) σ := by
    have := Collects.dcti (g := g) (n := n + 5) (σ := σ) (kvs := dG T) (by rw [List.length_map]; exact o1 (o5 hkn) rfl)
    rw [List.map_map] at this
    rw [List.map_map]; exact this
  refine WC.sorted hc (SortOk.ints _) (by rw [List.length_map, List.length_map]; exact hkn) ?_
  rw [sortI_eq]
  have hsl : (sortI (T.map (·.1))).length ≤ 100000 := by
    have : (detSort ltD ((T.map (·.1)).map D.int)).length ≤ 100000 := by
      unfold detSort
      rw [List.length_map]
      rw [detIdx_len, List.length_map, List.length_map]; exact o1 (o5 hkn) rfl
    rw [sortI_eq, List.length_map] at this
    exact this
  refine ⟨_, IterV.lst, fun Cc => CLoop.map (fun d => .str (rowG T (unI d))) _ [] (fun d hd => ?_) (by rw [List.length_map, List.length_nil]; exact o1 (Nat.add_le_add (Nat.le_refl _) hsl) rfl) ?_⟩
  · obtain ⟨k, hk, rfl⟩ := List.mem_map.mp hd
    obtain ⟨r, hr, rfl⟩ := List.mem_map.mp (sortI_mem _ k hk)
    obtain ⟨⟨b1, b2⟩, b3, b4⟩ := hbd r hr
    obtain ⟨sl1, sl2⟩ := sI_len b1 b2
    have sl1 : (Str.ofString (toString r.1)).length ≤ 10 := sl1
    have hjoin := join_le (ys := r.2.map sI) (c := 10) (fun y hy => by obtain ⟨i, hi, rfl⟩ := List.mem_map.mp hy; exact (sI_len (b3 i hi).1 (b3 i hi).2).1) (by rw [List.length_map]; exact o1 (Nat.le_trans b4 hnl) rfl) (by exact o1 (Nat.le_refl _) rfl)
    have h2 : (": " : Str).length = 2 := by decide +kernel
    refine WA.name (by repeat first | exact Off.nil | with_reducible apply Off.skip | (apply Off.keepD; kernel_rfl)) ⟨fun q hq => List.mem_cons_of_mem _ hq, ?_⟩
    refine WE.binop (WE.binop (WE.callT C.str ?_))
    walk_at "s"
    refine WC.str sl2 ?_
    walk_at "s"
    refine W2.addS (by rw [h2, sizeLine_eq]; exact o1 (Nat.add_le_add sl1 (Nat.le_refl _)) rfl) ?_
    refine WE.meth "str" "str.join" PySem.F.plainAttrs_str PySem.F.slot_str_join PySem.F.type_str_join ?_
    walk_at "s"
    refine ⟨TyOf.str, ?_⟩
    refine WEs.cons (WE.comp1 [] (by rfl) (fun p hp => by cases hp) ?_)
    walk_at "s"
    refine W2.itemDict DictV.dcti KeyV.int (look_dG hnd hr) ?_ (fun P v hr o => by cases hr; rfl)
    refine ⟨_, IterV.lst, fun Cd => CLoop.map (fun d => .str (sI (unI d))) _ [] (fun d hd => ?_) (by rw [List.length_map, List.length_nil]; exact o1 (Nat.add_le_add (Nat.le_refl _) (Nat.le_trans b4 hnl)) rfl) ?_⟩
    · obtain ⟨m, hm, rfl⟩ := List.mem_map.mp hd
      obtain ⟨m1, m2⟩ := sI_len (b3 m hm).1 (b3 m hm).2
      refine WA.name (by repeat first | exact Off.nil | with_reducible apply Off.skip | (apply Off.keepD; kernel_rfl)) ⟨fun q hq => (by cases hq), ?_⟩
      refine WE.callT C.str ?_
      walk_at "s"
      exact WC.str m2 ⟨rfl, rfl⟩
    have e : ([] ++ (r.2.map D.int).map fun d : D => D.str (sI (unI d))) = (r.2.map sI).map .str := by
      rw [List.nil_append, List.map_map, List.map_map]; rfl
    rw [e]
    walk_at "s"
    refine WC.join hjoin.1 (W2.addS ?_ ?_)
    · rw [PySem.Str.length_append, h2, sizeLine_eq]; exact o1 (Nat.add_le_add (Nat.add_le_add sl1 (Nat.le_refl _)) hjoin.2) rfl
    have e2 : rowG T r.1 = toString r.1 ++ ": " ++ Txt.join " " (r.2.map sI) := by
      unfold rowG; rw [atI_at hnd hr]
    exact ⟨by rw [show unI (.int r.1) = r.1 from rfl, e2], rfl⟩
  · have e : ([] ++ ((sortI (T.map (·.1))).map D.int).map fun d => D.str (rowG T (unI d))) = (sortI (T.map (·.1))).map fun k => D.str (rowG T k) := by
      rw [List.nil_append, List.map_map]; rfl
    rw [e]
    exact hq
theorem shown_names_spec (C : Cx g) (H : PgOk g su sg ls)
    (hq : Q (.d (.lst ((sortS ((bookOf (namesE su ls)).map (·.1))).map fun k => D.str (rowN (bookOf (namesE su ls)) k)))) σ) {a : Addr} (hfn : FnAt g (dAt 20) a) : WC g (n + 6) (.ref a) [.d (.lst (ls.map eLine))] σ Q := by
  refine WN.fz ?_
  refine WC.fnR ["program"] [("program", .d (.lst (ls.map eLine)))] rfl hfn C.lim rfl (by intro pm cd doc vs hv; obtain ⟨_, e⟩ := len1 hv; subst e; exact rfl) (by decide +kernel) fun L cd => ?_
  obtain ⟨ca, hca, cF⟩ := C.cross_reference
  refine WSs.cons (WS.assignSwap (xs := ["names", "found"]) (Bound.all (by rfl)) (by decide) ?_)
  refine WEs.cons (WE.sub (WE.callFn hca cF ?_))
  walk_at "s"
  refine cross_reference_spec C H.ok H.n H.g ?_ cF
  walk_at "s"
  have hnd := bookOf_nodup (namesE su ls)
  have hkn := H.kn
  have hnl := H.n
  have hbd := marks_bd (R := fun k : Str => k.length ≤ 100) (S := fun m : Int × Bool => 0 ≤ m.1 ∧ m.1 ≤ 1000) H.nb (namesE_line (R := fun i => 0 ≤ i ∧ i ≤ 1000) H.lb)
  generalize hT : bookOf (namesE su ls) = T at *
  refine W2.itemT (d := .dcts (dN T)) (by exact i1 (Int.le_refl _) rfl) rfl (by simp) ?_
  refine WEs.cons (WE.listCell ?_)
  walk_at "s"
  refine ⟨[], rfl, by decide, fun fo hfo => ?_⟩
  walk_at "s"
  refine And.intro rfl (Exists.intro _ (And.intro (Offs.cons (x := "found") (a := .cell fo) (xs := ["names"]) (as := [.d (.dcts (dN T))]) (by repeat first | exact Off.nil | with_reducible apply Off.skip | (apply Off.keepD; kernel_rfl)) (Offs.cons (by repeat first | exact Off.nil | with_reducible apply Off.skip | (apply Off.keepD; kernel_rfl)) .nil)) ?_))
  let st : List Str → St := fun f => upd σ fo (.lst (f.map .str))
  have stF : ∀ f, st f fo = some (.lst (f.map .str)) := fun f => upd_same
  have setF : ∀ f x, upd (st f) fo (.lst (f.map .str ++ [.str x])) = st (f ++ [x]) := fun f x => by
    show upd (upd σ fo _) fo _ = upd σ fo _
    rw [upd_upd, List.map_append]; rfl
  show WSs g (n + 5) _ _ (st []) _ _
  have hc : Collects g (n + 5) (.d (.dcts (dN T))) ((T.map (·.1)).map .str) (st []) := by
    have := Collects.dcts (g := g) (n := n + 5) (σ := st []) (kvs := dN T) (by rw [List.length_map]; exact o1 (o5 hkn) rfl)
    rw [List.map_map] at this
    rw [List.map_map]; exact this
  refine WSs.cons (WS.for (WE.callB C.sorted ?_))
  walk_at "s"
  refine WC.sortedS hc (by rw [List.length_map]; exact hkn) ?_
  refine ⟨_, IterV.lst, ?_⟩
  have hsl : (sortS (T.map (·.1))).length ≤ 900 := by rw [(sortS_perm _).length_eq, List.length_map]; exact o1 (o5 hkn) rfl
  obtain ⟨B, hB⟩ : ∃ B : Ro, B = ([("names", .d (.dcts (dN T))), ("found", .cell fo)] : Ro) := ⟨_, rfl⟩
  have loop : ∀ (ks : List Str) (ρ : Ro) (f : List Str) (K : Fl → Ro → St → Prop), (∀ k ∈ ks, k ∈ T.map (·.1)) → f.length + ks.length ≤ 900 → (∀ p ∈ B, p ∈ ρ) →
      (∀ ρ', (∀ p ∈ B, p ∈ ρ') → K .next ρ' (st (f ++ ks.map (rowN T)))) → FL g (n + 5) (envOfC (dAt 20).name (dAt 20).scope L a cd) (tgtOf ((dAt 20).body[1]?)) (bodyOf ((dAt 20).body[1]?)) K (ks.map .str) ρ (st f) := by
    intro ks
    induction ks with
    | nil => intro ρ f K _ _ hsub hK; show K .next ρ (st f); simpa using hK ρ hsub
    | cons k ks ih =>
      intro ρ f K hks hl hsub hK
      rw [List.length_cons] at hl
      obtain ⟨r, hr, rfl⟩ := List.mem_map.mp (hks k (.head _))
      obtain ⟨b1, b3, b4⟩ := hbd r hr
      have hml : ∀ m ∈ r.2, (markS m).length ≤ 11 := fun m hm => by
        unfold markS
        have := (sI_len (b3 m hm).1 (b3 m hm).2).1
        rw [PySem.Str.length_append]
        have h1 : ("=" : Str).length = 1 := by decide +kernel
        have h0 : ("" : Str).length = 0 := by decide +kernel
        split <;> omega
      have hjoin := join_le (ys := r.2.map markS) (c := 11) (fun y hy => by obtain ⟨i, hi, rfl⟩ := List.mem_map.mp hy; exact hml i hi) (by rw [List.length_map]; exact o1 (Nat.le_trans b4 hnl) rfl) (by exact o1 (Nat.le_refl _) rfl)
      have h2 : (": " : Str).length = 2 := by decide +kernel
      refine WA.sub hsub ?_
      have hB' := hB
      subst hB
      refine WA.name (by repeat first | exact Off.nil | with_reducible apply Off.skip | (apply Off.keepD; kernel_rfl)) ?_
      refine WSs.cons (WS.assignComp1 [] (by repeat first | exact Off.nil | with_reducible apply Off.skip | (apply Off.keepD; kernel_rfl)) (by rfl) (fun p hp => by cases hp) ?_)
      walk_at "s"
      refine W2.itemDict DictV.dcts KeyV.str (look_dN hnd hr) ?_ (fun P v hr o => by cases hr; rfl)
      refine ⟨_, IterV.lst, fun Cd => CLoop.map (fun d => match d with | .tup [.int i, .str h] => .str (sI i ++ (if h = "set" then "=" else "")) | _ => D.none) _ [] (fun d hd => ?_) (by rw [List.length_map, List.length_nil]; exact o1 (Nat.add_le_add (Nat.le_refl _) (Nat.le_trans b4 hnl)) rfl) ?_⟩
      · obtain ⟨m, hm, rfl⟩ := List.mem_map.mp hd
        obtain ⟨m1, m2⟩ := sI_len (b3 m hm).1 (b3 m hm).2
        have m1 : (Str.ofString (toString m.1)).length ≤ 10 := m1
        refine WA.tuple (xs := ["line", "how"]) (ps := [_, _]) rfl rfl rfl (Bound.all (by rfl)) (Offs.cons (by repeat first | exact Off.nil | with_reducible apply Off.skip | (apply Off.keepD; kernel_rfl)) (Offs.cons (by repeat first | exact Off.nil | with_reducible apply Off.skip | (apply Off.keepD; kernel_rfl)) .nil)) ⟨fun q hq => (by cases hq), ?_⟩
        refine WE.binop (WE.callT C.str ?_)
        walk_at "s"
        refine WC.str m2 ?_
        refine WE.ifexp ?_
        walk_at "s"
        refine W2.eqS (WTr.bool ?_)
        have h1 : ("=" : Str).length = 1 := by decide +kernel
        have h0 : ("" : Str).length = 0 := by decide +kernel
        by_cases hb : hw m.2 = "set"
        · rw [if_pos (decide_eq_true hb)]
          refine WE.cStr (W2.addS (by rw [h1, sizeLine_eq]; exact o1 (Nat.add_le_add m1 (Nat.le_refl _)) rfl) ⟨?_, rfl⟩)
          show _ = AV.d (D.str (sI m.1 ++ (if hw m.2 = "set" then "=" else "")))
          rw [if_pos hb]
        · rw [if_neg (by simpa using hb)]
          refine WE.cStr (W2.addS (by rw [h0, sizeLine_eq]; exact o1 (Nat.add_le_add m1 (Nat.le_refl _)) rfl) ⟨?_, rfl⟩)
          show _ = AV.d (D.str (sI m.1 ++ (if hw m.2 = "set" then "=" else "")))
          rw [if_neg hb]
      have e : ([] ++ (r.2.map eMark).map fun d : D => match d with | .tup [.int i, .str h] => D.str (sI i ++ (if h = "set" then "=" else "")) | _ => D.none) = (r.2.map markS).map .str := by
        rw [List.nil_append, List.map_map, List.map_map]
        refine List.map_congr_left fun m _ => ?_
        show D.str (sI m.1 ++ (if hw m.2 = "set" then "=" else "")) = D.str (markS m)
        have : ∀ b : Bool, (hw b = "set") ↔ b = true := by decide +kernel
        unfold markS
        simp only [this]
      rw [e]
      refine WSs.cons (WS.expr (WE.meth "list" "list.append" PySem.F.plainAttrs_list PySem.F.slot_list_append PySem.F.type_list_append (WE.name (by with_reducible repeat first | exact List.mem_cons_self | apply List.mem_cons_of_mem) ⟨TyOf.lst (stF _), ?_⟩)))
      walk_at "s"
      refine W2.addS (by rw [h2, sizeLine_eq]; exact o1 (Nat.add_le_add b1 (Nat.le_refl _)) rfl) ?_
      refine WE.meth "str" "str.join" PySem.F.plainAttrs_str PySem.F.slot_str_join PySem.F.type_str_join ?_
      walk_at "s"
      refine ⟨TyOf.str, ?_⟩
      walk_at "s"
      refine WC.join hjoin.1 (W2.addS ?_ ?_)
      · rw [PySem.Str.length_append, h2, sizeLine_eq]; exact o1 (Nat.add_le_add (Nat.add_le_add b1 (Nat.le_refl _)) hjoin.2) rfl
      walk_at "s"
      refine WC.append (stF _) (by rw [List.length_map]; exact o1 (o6 hl) rfl) ⟨rfl, ?_⟩
      rw [setF]
      have e2 : r.1 ++ (": " : Str) ++ Txt.join " " (r.2.map markS) = rowN T r.1 := by
        unfold rowN; rw [atN_at hnd hr]
      rw [e2]
      refine WSs.nil (ih _ _ K (fun k hk => hks k (.tail _ hk)) (by rw [List.length_append, List.length_singleton]; omega) (fun p hp => List.mem_cons_of_mem _ (List.mem_cons_of_mem _ hp)) fun ρ' hs' => ?_)
      have := hK ρ' hs'
      rw [List.map_cons] at this
      rw [List.append_assoc]; exact this
  refine loop _ _ [] _ (fun k hk => (sortS_perm _).mem_iff.mp hk) (by simpa using hsl) (fun p hp => ?_) fun ρ' hs' => ?_
  · rw [hB] at hp
    simp only [List.mem_cons, List.not_mem_nil, or_false] at hp
    rcases hp with rfl | rfl <;> (with_reducible repeat first | exact List.mem_cons_self | apply List.mem_cons_of_mem)
  subst hB
  refine WSs.cons (WS.ret (WE.name (hs' _ (by with_reducible repeat first | exact List.mem_cons_self | apply List.mem_cons_of_mem)) ?_))
  rw [List.nil_append]
  refine Fz.lst (c := fo) (ds := ((sortS (T.map (·.1))).map (rowN T)).map .str) rfl (stF _) ((Sub.refl.upd hfo).del hfo) ?_
  rw [List.map_map]
  exact hq
end
end
set_option tactic.hygienic false
section

noncomputable def lw : List Str := ["A", "B%", "C$"]
noncomputable def wordAt (v : Int) : Str := if v = 0 then "A" else if v = 1 then "B%" else "C$"
theorem wordAt_mem (v : Int) : wordAt v ∈ lw := by
  unfold wordAt lw
  split
  · simp
  · split <;> simp
theorem lw_len : ∀ w ∈ lw, w.length ≤ 10 := by decide +kernel
noncomputable def Ex.wf : Nat → Ex → Prop
  | _, .whole => True
  | _, .name w => w ∈ lw
  | d + 1, .item w e => w ∈ lw ∧ Ex.wf d e
  | d + 1, .fn e => Ex.wf d e
  | d + 1, .two a b => Ex.wf d a ∧ Ex.wf d b
  | 0, _ => False
noncomputable def rdU (w : Str) : Str × Bool := (w, false)
noncomputable def dr : Nat → Int
  | 0 => 2
  | d + 1 => 2 * dr d + 2
theorem dr_pos : ∀ d, 2 ≤ dr d
  | 0 => by simp [dr]
  | d + 1 => by have := dr_pos d; simp only [dr]; omega
structure Mv (cells : List Int) (s : Int) (b nc gc : Addr) (σ₀ σ : St) (i : Int) (ns : List (Str × Bool)) (gs : List Int) : Prop where
  box : σ b = some (boxC cells i s)
  nts : σ nc = some (.lst (ns.map eUse))
  gls : σ gc = some (.lst (gs.map .int))
  ne : nc ≠ gc
  off : ∀ a, a ≠ b → a ≠ nc → a ≠ gc → σ a = σ₀ a
  cl : cells.length ≤ 1000
  lo : 0 ≤ i + 1
  nl : (ns.length : Int) ≤ i + 1
  gl : (gs.length : Int) ≤ i + 1
section
variable {g : Gm} {n : Nat} {σ : St} {Q : AV → St → Prop} {env : Env} {ρ : Ro} {cells : List Int} {s : Int} {b nc gc : Addr} {σ₀ : St} {i : Int} {ns : List (Str × Bool)} {gs : List Int}
theorem Mv.cast (M : Mv cells s b nc gc σ₀ σ i ns gs) {ns' : List (Str × Bool)} {gs' : List Int} (h1 : ns = ns') (h2 : gs = gs') : Mv cells s b nc gc σ₀ σ i ns' gs' := by subst h1 h2; exact M
theorem Mv.bn (M : Mv cells s b nc gc σ₀ σ i ns gs) : nc ≠ b := fun e => by have := M.nts; rw [e, M.box] at this; cases this
theorem Mv.bg (M : Mv cells s b nc gc σ₀ σ i ns gs) : gc ≠ b := fun e => by have := M.gls; rw [e, M.box] at this; cases this
theorem Mv.draw (C : Cx g) (M : Mv cells s b nc gc σ₀ σ i ns gs) (hi : i ≤ 90000) {many : Int} (hm : 0 < many) (hq : ∀ v σ', 0 ≤ v → v < many → Mv cells s b nc gc σ₀ σ' (i + 1) ns gs → Q (.d (.int v)) σ') {a : Addr} (hfn : FnAt g (dAt 23) a) : WC g (n + 1) (.ref a) [.cell b, .d (.int many)] σ Q := by
  refine draw_spec C M.box M.lo (by exact i1 hi rfl) M.cl (by omega) ?_ hfn
  obtain ⟨h1, h2⟩ := drawV_bd cells (i + 1) s many hm
  have hlo := M.lo
  have hnl := M.nl
  have hgl := M.gl
  exact hq _ _ h1 h2 ⟨upd_same, by rw [upd_ne M.bn]; exact M.nts, by rw [upd_ne M.bg]; exact M.gls, M.ne, fun a h1 h2 h3 => by rw [upd_ne h1]; exact M.off a h1 h2 h3, M.cl, by exact i2 (Int.add_le_add hlo (Int.le_refl _)) rfl, by exact Int.le_add_one hnl, by exact Int.le_add_one hgl⟩
theorem Mv.ty (M : Mv cells s b nc gc σ₀ σ i ns gs) : TyOf g (.cell nc) σ "list" := TyOf.lst M.nts
theorem Mv.note (M : Mv cells s b nc gc σ₀ σ i ns gs) (u : Str × Bool) (hi : i ≤ 90000) (hl : (ns.length : Int) ≤ i) (hq : ∀ σ', Mv cells s b nc gc σ₀ σ' i (ns ++ [u]) gs → Q (.d .none) σ') : WC g n (.builtin "list.append") [.cell nc, .d (eUse u)] σ Q := by
  refine WC.append M.nts (by rw [List.length_map]; omega) ?_
  refine hq _ ⟨by rw [upd_ne M.bn.symm]; exact M.box, by rw [upd_same, List.map_append]; rfl, by rw [upd_ne M.ne.symm]; exact M.gls, M.ne, fun a h1 h2 h3 => by rw [upd_ne h2]; exact M.off a h1 h2 h3, M.cl, M.lo, ?_, M.gl⟩
  rw [List.length_append, List.length_singleton]; omega
theorem goalAt_mem (v : Int) : goalAt v ∈ ([10, 20, 40, 99] : List Int) := by
  unfold goalAt
  split
  · simp
  · split
    · simp
    · split <;> simp
theorem Mv.goal (C : Cx g) (M : Mv cells s b nc gc σ₀ σ i ns gs) (hi : i ≤ 90000) (hgl : gs.length ≤ 1000) (hq : ∀ v σ', v ∈ ([10, 20, 40, 99] : List Int) → Mv cells s b nc gc σ₀ σ' (i + 1) ns (gs ++ [v]) → Q (.d (.int v)) σ') {a : Addr} (hfn : FnAt g (dAt 26) a) : WC g (n + 2) (.ref a) [.cell b, .cell gc] σ Q := by
  refine goal_spec C M.box M.gls M.lo (by exact i1 hi rfl) M.cl hgl ?_ hfn
  have hlo := M.lo
  have hnl := M.nl
  have hgl := M.gl
  refine hq _ _ (goalAt_mem _) ⟨by rw [upd_ne M.bg.symm, upd_same], by rw [upd_ne M.ne, upd_ne M.bn]; exact M.nts, upd_same, M.ne, fun a h1 h2 h3 => by rw [upd_ne h3, upd_ne h1]; exact M.off a h1 h2 h3, M.cl, by exact i2 (Int.add_le_add hlo (Int.le_refl _)) rfl, by exact Int.le_add_one hnl, ?_⟩
  rw [List.length_append, List.length_singleton]; omega
noncomputable def ExpSpec (g : Gm) (cells : List Int) (s : Int) (b nc gc : Addr) (σ₀ : St) (deep : Nat) : Prop :=
  ∀ (n : Nat) (σ : St) (i : Int) (ns : List (Str × Bool)) (gs : List Int) (Q : AV → St → Prop) (a : Addr), Mv cells s b nc gc σ₀ σ i ns gs → i + dr deep ≤ 60000 →
    (∀ e i' σ', Ex.wf deep e → i < i' → i' ≤ i + dr deep → Mv cells s b nc gc σ₀ σ' i' (ns ++ e.notes.map rdU) gs → Q (.d e.d) σ') → FnAt g (dAt 24) a →
    WC g (n + deep + 2) (.ref a) [.cell b, .cell nc, .d (.int deep)] σ Q
theorem exp_step (C : Cx g) (deep : Nat) (ih : ∀ d, deep = d + 1 → ExpSpec g cells s b nc gc σ₀ d) : ExpSpec g cells s b nc gc σ₀ deep := by
  intro n σ i ns gs Q a M hi hq hfn
  have hlo := M.lo
  have hnl := M.nl
  have hdp := dr_pos deep
  refine WC.fnR ["box", "notes", "deep"] [("box", .cell b), ("notes", .cell nc), ("deep", .d (.int deep))] rfl hfn C.lim rfl (by intro pm cd doc vs hv; obtain ⟨_, _, _, e⟩ := len3 hv; subst e; exact rfl) (by decide +kernel) fun L cd => ?_
  obtain ⟨B, hB⟩ : ∃ B : Ro, B = ([("box", .cell b), ("notes", .cell nc), ("deep", .d (.int deep))] : Ro) := ⟨_, rfl⟩
  obtain ⟨K, hKd⟩ : ∃ K : Fl → Ro → St → Prop, K = fun fl _ σ' => Q (retOf fl) σ' := ⟨_, rfl⟩
  obtain ⟨da, hda, dF⟩ := C.draw
  obtain ⟨ea, hea, eF⟩ := C.exp
  have main : ∀ v σ₁, 0 ≤ v → v < 5 → (deep = 0 → v < 2) → Mv cells s b nc gc σ₀ σ₁ (i + 1) ns gs → WSs g (n + deep + 1) (envOfC (dAt 24).name (dAt 24).scope L a cd) [("form", .d (.int v)), ("box", .cell b), ("notes", .cell nc), ("deep", .d (.int deep))] σ₁ ((dAt 24).body.drop 1) K := by
    intro v σ₁ h0 h5 h2 M₁
    subst hKd
    refine WSs.cons (WS.cond ?_)
    walk_at "s"
    refine W2.eqI (WTr.bool ?_)
    by_cases e0 : v = 0
    · rw [if_pos (decide_eq_true e0)]
      refine WSs.cons (WS.ret (WE.tuple ?_))
      walk_at "s"
      refine ⟨[.str "whole", .int 7], rfl, by simp, ?_⟩
      refine hq .whole (i + 1) σ₁ ?_ (by exact i9) (by omega) (M₁.cast (by simp [Ex.notes]) rfl)
      unfold Ex.wf; trivial
    rw [if_neg (by simpa using e0)]
    refine WSs.nil (WSs.cons (WS.cond ?_))
    walk_at "s"
    refine W2.eqI (WTr.bool ?_)
    by_cases e4 : v = 4
    · rw [if_pos (decide_eq_true e4)]
      cases deep with
      | zero => have := h2 rfl; omega
      | succ d =>
        have hdd := dr_pos d
        simp only [dr] at hi hq
        refine WSs.cons (WS.assign (by repeat first | exact Off.nil | with_reducible apply Off.skip | (apply Off.keepD; kernel_rfl)) (WE.callFn hea eF ?_))
        walk_at "s"
        refine W2.subI ?_
        walk_at "s"
        rw [show (((d + 1 : Nat) : Int) - 1) = ((d : Nat) : Int) by omega]
        refine ih d rfl n σ₁ (i + 1) ns gs _ ea M₁ (by omega) (fun e₁ i₁ σ₂ w₁ hl₁ hu₁ M₂ => ?_) eF
        refine WSs.cons (WS.ret (WE.tuple ?_))
        walk_at "s"
        refine WE.tuple ?_
        walk_at "s"
        refine WE.callFn hea eF ?_
        walk_at "s"
        refine W2.subI ?_
        walk_at "s"
        rw [show (((d + 1 : Nat) : Int) - 1) = ((d : Nat) : Int) by omega]
        refine ih d rfl n σ₂ i₁ _ gs _ ea M₂ (by omega) (fun e₂ i₂ σ₃ w₂ hl₂ hu₂ M₃ => ?_) eF
        walk_at "s"
        refine ⟨[.str "neg", e₂.d], rfl, by simp, ?_⟩
        walk_at "s"
        refine ⟨[.str "two", .str "+", e₁.d, .tup [.str "neg", e₂.d]], rfl, by simp, ?_⟩
        refine hq (.two e₁ e₂) i₂ σ₃ ?_ (by exact s2 hl₂ (s2 hl₁ i9)) (by omega) (M₃.cast (by simp [Ex.notes]) rfl)
        exact ⟨w₁, w₂⟩
    rw [if_neg (by simpa using e4)]
    refine WSs.nil (WSs.cons (WS.assign (by repeat first | exact Off.nil | with_reducible apply Off.skip | (apply Off.keepD; kernel_rfl)) (WE.sub (WE.list ?_))))
    walk_at "s"
    refine ⟨[.str "A", .str "B%", .str "C$"], rfl, by simp, ?_⟩
    refine WE.callFn hda dF ?_
    walk_at "s"
    refine M₁.draw C (by exact i1 (Int.add_le_add (iB hdp hi) (Int.le_refl _)) rfl) (by decide) (fun u σ₂ u0 u3 M₂ => ?_) dF
    refine W2.itemL (d := .str (wordAt u)) u0 ?_ (by simp) ?_
    · have : u = 0 ∨ u = 1 ∨ u = 2 := e3 (by assumption) (by assumption)
      rcases this with rfl | rfl | rfl <;> rfl
    have hw := wordAt_mem u
    generalize wordAt u = w at hw
    have hwl := lw_len w hw
    refine WSs.cons (WS.cond ?_)
    walk_at "s"
    refine W2.eqI (WTr.bool ?_)
    by_cases e1 : v = 1
    · rw [if_pos (decide_eq_true e1)]
      refine WSs.cons (WS.expr (WE.meth "list" "list.append" PySem.F.plainAttrs_list PySem.F.slot_list_append PySem.F.type_list_append (WE.name (by with_reducible repeat first | exact List.mem_cons_self | apply List.mem_cons_of_mem) ⟨M₂.ty, ?_⟩)))
      refine WEs.cons (WE.tuple ?_)
      walk_at "s"
      refine ⟨[.str w, .str "read"], rfl, by simp, ?_⟩
      walk_at "s"
      refine M₂.note (w, false) (by exact i1 (Int.add_le_add (Int.add_le_add (iB hdp hi) (Int.le_refl _)) (Int.le_refl _)) rfl) (by omega) fun σ₃ M₃ => ⟨rfl, ?_⟩
      refine WSs.cons (WS.ret (WE.tuple ?_))
      walk_at "s"
      refine ⟨[.str "name", .str w], rfl, by simp, ?_⟩
      refine hq (.name w) (i + 1 + 1) σ₃ ?_ (by exact s3 i9) (by omega) (M₃.cast (by simp [Ex.notes, rdU]) rfl)
      unfold Ex.wf; exact hw
    rw [if_neg (by simpa using e1)]
    cases deep with
    | zero => have := h2 rfl; omega
    | succ d =>
    have hdd := dr_pos d
    simp only [dr] at hi hq
    refine WSs.nil (WSs.cons (WS.cond ?_))
    walk_at "s"
    refine W2.eqI (WTr.bool ?_)
    by_cases e2 : v = 2
    · rw [if_pos (decide_eq_true e2)]
      refine WSs.cons (WS.expr (WE.meth "list" "list.append" PySem.F.plainAttrs_list PySem.F.slot_list_append PySem.F.type_list_append (WE.name (by with_reducible repeat first | exact List.mem_cons_self | apply List.mem_cons_of_mem) ⟨M₂.ty, ?_⟩)))
      refine WEs.cons (WE.tuple ?_)
      walk_at "s"
      refine W2.addS ?_ ?_
      · have : (("()" : Str)).length = 2 := by decide
        rw [this, sizeLine_eq]; exact o1 (Nat.add_le_add hwl (Nat.le_refl _)) rfl
      walk_at "s"
      refine ⟨[.str (w ++ "()"), .str "read"], rfl, by simp, ?_⟩
      walk_at "s"
      refine M₂.note (w ++ "()", false) (by omega) (by omega) fun σ₃ M₃ => ⟨rfl, ?_⟩
      refine WSs.cons (WS.ret (WE.tuple ?_))
      walk_at "s"
      refine WE.list ?_
      refine WEs.cons (WE.callFn hea eF ?_)
      walk_at "s"
      refine W2.subI ?_
      walk_at "s"
      rw [show (((d + 1 : Nat) : Int) - 1) = ((d : Nat) : Int) by omega]
      refine ih d rfl n σ₃ (i + 1 + 1) _ gs _ ea M₃ (by omega) (fun e₁ i₁ σ₄ w₁ hl₁ hu₁ M₄ => ?_) eF
      walk_at "s"
      refine ⟨[e₁.d], rfl, by simp, ?_⟩
      walk_at "s"
      refine ⟨[.str "item", .str w, .lst [e₁.d]], rfl, by simp, ?_⟩
      refine hq (.item w e₁) i₁ σ₄ ?_ (by exact s2 hl₁ (s3 i9)) (by omega) (M₄.cast (by simp [Ex.notes, rdU]) rfl)
      exact ⟨hw, w₁⟩
    rw [if_neg (by simpa using e2)]
    refine WSs.nil (WSs.cons (WS.expr (WE.meth "list" "list.append" PySem.F.plainAttrs_list PySem.F.slot_list_append PySem.F.type_list_append (WE.name (by with_reducible repeat first | exact List.mem_cons_self | apply List.mem_cons_of_mem) ⟨M₂.ty, ?_⟩))))
    refine WEs.cons (WE.tuple ?_)
    walk_at "s"
    refine ⟨[.str "FNX", .str "read"], rfl, by simp, ?_⟩
    walk_at "s"
    refine M₂.note ("FNX", false) (by omega) (by omega) fun σ₃ M₃ => ⟨rfl, ?_⟩
    refine WSs.cons (WS.ret (WE.tuple ?_))
    walk_at "s"
    refine WE.list ?_
    refine WEs.cons (WE.callFn hea eF ?_)
    walk_at "s"
    refine W2.subI ?_
    walk_at "s"
    rw [show (((d + 1 : Nat) : Int) - 1) = ((d : Nat) : Int) by omega]
    refine ih d rfl n σ₃ (i + 1 + 1) _ gs _ ea M₃ (by omega) (fun e₁ i₁ σ₄ w₁ hl₁ hu₁ M₄ => ?_) eF
    walk_at "s"
    refine ⟨[e₁.d], rfl, by simp, ?_⟩
    walk_at "s"
    refine ⟨[.str "fn", .str "FNX", .lst [e₁.d]], rfl, by simp, ?_⟩
    refine hq (.fn e₁) i₁ σ₄ ?_ (by exact s2 hl₁ (s3 i9)) (by omega) (M₄.cast (by simp [Ex.notes, rdU]) rfl)
    exact w₁
  refine WSs.cons (WS.assign (by repeat first | exact Off.nil | with_reducible apply Off.skip | (apply Off.keepD; kernel_rfl)) (WE.ifexp ?_))
  walk_at "s"
  refine W2.gtI (WTr.bool ?_)
  subst hKd
  by_cases hd : deep = 0
  · rw [if_neg (by simp; omega)]
    refine WE.callFn hda dF ?_
    walk_at "s"
    exact M.draw C (by exact i1 (iB hdp hi) rfl) (by decide) (fun v σ₁ v0 v2 M₁ => main v σ₁ v0 (by exact i3 (Int.le_trans (Int.le_of_lt v2) (Int.le_refl _)) rfl) (fun _ => v2) M₁) dF
  · rw [if_pos (by simp; omega)]
    refine WE.callFn hda dF ?_
    walk_at "s"
    exact M.draw C (by exact i1 (iB hdp hi) rfl) (by decide) (fun v σ₁ v0 v5 M₁ => main v σ₁ v0 v5 (fun h => absurd h hd) M₁) dF
theorem exp_spec (C : Cx g) : ∀ deep, ExpSpec g cells s b nc gc σ₀ deep
  | 0 => exp_step C 0 fun d h => by cases h
  | d + 1 => exp_step C (d + 1) fun d' h => by cases h; exact exp_spec C d
end
end
set_option tactic.hygienic false
section

inductive Pl where
  | name (w : Str)
  | item (w : Str) (e : Ex)
noncomputable def Pl.d : Pl → D
  | .name w => .tup [.str "name", .str w]
  | .item w e => .tup [.str "item", .str w, .lst [e.d]]
noncomputable def Pl.notes : Pl → List (Str × Bool)
  | .name w => [(w, true)]
  | .item w e => (w ++ "()", true) :: e.notes.map rdU
noncomputable def Pl.wf : Pl → Prop
  | .name w => w ∈ lw
  | .item w e => w ∈ lw ∧ Ex.wf 2 e
inductive Si where
  | let_ (p : Pl) (e : Ex)
  | print (e f : Ex)
  | go (k : Int) (t : Int)
  | for_ (e f : Ex)
  | next
  | read (p q : Pl)
  | input (p : Pl)
  | ongo (e : Ex) (t u : Int)
  | dim (e : Ex)
  | def_ (e : Ex)
  | swap (p q : Pl)
  | fix (k : Int)
  | res (k : Int) (t : Int)
noncomputable def goK (k : Int) : Str := if k = 0 then "GOTO" else "GOSUB"
noncomputable def resK (k : Int) : Str := if k = 0 then "RESTORE" else if k = 1 then "ONERR" else "RESUME"
noncomputable def fixD (k : Int) : D := if k = 0 then .tup [.str "RESTORE", .none] else if k = 1 then .tup [.str "ONERR", .int 0] else if k = 2 then .tup [.str "ERASE", .lst []] else .tup [.str "RETURN", .none]
noncomputable def Si.d : Si → D
  | .let_ p e => .tup [.str "LET", p.d, e.d]
  | .print e f => .tup [.str "PRINT", .none, .lst [.tup [.str "value", e.d], .tup [.str "zone"], .tup [.str "tab", f.d]]]
  | .go k t => .tup [.str (goK k), .int t]
  | .for_ e f => .tup [.str "FOR", .str "A", e.d, f.d, .none]
  | .next => .tup [.str "NEXT", .lst [.str "A"]]
  | .read p q => .tup [.str "READ", .lst [p.d, q.d]]
  | .input p => .tup [.str "INPUT", .none, .str "how", .bool true, .lst [p.d]]
  | .ongo e t u => .tup [.str "ONGO", .str "GOTO", e.d, .lst [.int t, .int u]]
  | .dim e => .tup [.str "DIM", .lst [.tup [.str "B%", .lst [e.d]]]]
  | .def_ e => .tup [.str "DEF", .str "FNX", .lst [.str "C$"], e.d]
  | .swap p q => .tup [.str "SWAP", p.d, q.d]
  | .fix k => fixD k
  | .res k t => .tup [.str (resK k), .int t]
noncomputable def Si.notes : Si → List (Str × Bool)
  | .let_ p e => p.notes ++ e.notes.map rdU
  | .print e f => e.notes.map rdU ++ f.notes.map rdU
  | .go _ _ => []
  | .for_ e f => ("A", true) :: (e.notes.map rdU ++ f.notes.map rdU)
  | .next => [("A", false)]
  | .read p q => p.notes ++ q.notes
  | .input p => p.notes
  | .ongo e _ _ => e.notes.map rdU
  | .dim e => ("B%()", true) :: e.notes.map rdU
  | .def_ e => ("FNX", true) :: e.notes.map rdU
  | .swap p q => p.notes ++ q.notes
  | .fix _ => []
  | .res _ _ => []
noncomputable def Si.goals : Si → List Int
  | .go _ t => [t]
  | .ongo _ t u => [t, u]
  | .res _ t => [t]
  | _ => []
noncomputable abbrev lg : List Int := [10, 20, 40, 99]
noncomputable def Si.wf : Si → Prop
  | .let_ p e => p.wf ∧ Ex.wf 2 e
  | .print e f => Ex.wf 2 e ∧ Ex.wf 2 f
  | .go _ t => t ∈ lg
  | .for_ e f => Ex.wf 2 e ∧ Ex.wf 2 f
  | .next => True
  | .read p q => p.wf ∧ q.wf
  | .input p => p.wf
  | .ongo e t u => Ex.wf 2 e ∧ t ∈ lg ∧ u ∈ lg
  | .dim e => Ex.wf 2 e
  | .def_ e => Ex.wf 2 e
  | .swap p q => p.wf ∧ q.wf
  | .fix _ => True
  | .res _ t => t ∈ lg
theorem Si.goals_len (s : Si) : s.goals.length ≤ 2 := by cases s <;> simp [Si.goals]
inductive Sm where
  | one (s : Si)
  | iff (e : Ex) (f : Si) (o : Option Si)
noncomputable def Sm.d : Sm → D
  | .one s => s.d
  | .iff e f o => .tup [.str "IF", e.d, .lst [f.d], .lst (o.toList.map Si.d)]
noncomputable def Sm.notes : Sm → List (Str × Bool)
  | .one s => s.notes
  | .iff e f o => e.notes.map rdU ++ (f.notes ++ o.toList.flatMap Si.notes)
noncomputable def Sm.goals : Sm → List Int
  | .one s => s.goals
  | .iff e f o => f.goals ++ o.toList.flatMap Si.goals
noncomputable def Sm.wf : Sm → Prop
  | .one s => s.wf
  | .iff e f o => Ex.wf 2 e ∧ f.wf ∧ ∀ x ∈ o.toList, Si.wf x
theorem Sm.goals_len (s : Sm) : s.goals.length ≤ 4 := by
  cases s with
  | one s => have := s.goals_len; show s.goals.length ≤ 4; exact o1 this rfl
  | iff e f o =>
    have := f.goals_len
    cases o with
    | none => show (f.goals ++ []).length ≤ 4; exact o1 (oP this oN) rfl
    | some x => have h := x.goals_len; simp [Sm.goals]; exact o1 (Nat.add_le_add this h) rfl
section
variable {g : Gm} {n : Nat} {σ : St} {Q : AV → St → Prop} {env : Env} {ρ : Ro} {cells : List Int} {s : Int} {b nc gc : Addr} {σ₀ : St} {i : Int} {ns : List (Str × Bool)} {gs : List Int}
theorem Mv.exp (C : Cx g) (M : Mv cells s b nc gc σ₀ σ i ns gs) (hi : i ≤ 50000) (hq : ∀ e i' σ', Ex.wf 2 e → i < i' → i' ≤ i + 14 → Mv cells s b nc gc σ₀ σ' i' (ns ++ e.notes.map rdU) gs → Q (.d e.d) σ') {a : Addr} (hfn : FnAt g (dAt 24) a) : WC g (n + 4) (.ref a) [.cell b, .cell nc, .d (.int 2)] σ Q := by
  have h : dr 2 = 14 := rfl
  exact exp_spec C 2 n σ i ns gs Q a M (by rw [h]; exact i1 (Int.add_le_add hi (Int.le_refl _)) rfl) (fun e i' σ' h1 h2 h3 h4 => hq e i' σ' h1 h2 (by rw [h] at h3; exact h3) h4) hfn
theorem Mv.place (C : Cx g) (M : Mv cells s b nc gc σ₀ σ i ns gs) (hi : i ≤ 40000) (hq : ∀ p i' σ', Pl.wf p → i < i' → i' ≤ i + 16 → Mv cells s b nc gc σ₀ σ' i' (ns ++ p.notes) gs → Q (.d p.d) σ') {a : Addr} (hfn : FnAt g (dAt 25) a) : WC g (n + 5) (.ref a) [.cell b, .cell nc] σ Q := by
  have hlo := M.lo
  have hnl := M.nl
  refine WC.fnR ["box", "notes"] [("box", .cell b), ("notes", .cell nc)] rfl hfn C.lim rfl (by intro pm cd doc vs hv; obtain ⟨_, _, e⟩ := len2 hv; subst e; exact rfl) (by decide +kernel) fun L cd => ?_
  obtain ⟨da, hda, dF⟩ := C.draw
  obtain ⟨ea, hea, eF⟩ := C.exp
  refine WSs.cons ?_
  refine WS.assign (by repeat first | exact Off.nil | with_reducible apply Off.skip | (apply Off.keepD; kernel_rfl)) ?_
  refine WE.sub ?_
  refine WE.list ?_
  walk_at "s"
  refine ⟨[.str "A", .str "B%", .str "C$"], rfl, by simp, ?_⟩
  refine WE.callFn hda dF ?_
  walk_at "s"
  refine M.draw C (by exact i1 hi rfl) (by decide) (fun u σ₂ u0 u3 M₂ => ?_) dF
  refine W2.itemL (d := .str (wordAt u)) u0 ?_ (by simp) ?_
  · have : u = 0 ∨ u = 1 ∨ u = 2 := e3 (by assumption) (by assumption)
    rcases this with rfl | rfl | rfl <;> rfl
  have hw := wordAt_mem u
  generalize wordAt u = w at hw
  have hwl := lw_len w hw
  refine WSs.cons ?_
  refine WS.cond ?_
  refine WT.compare ?_
  refine WE.callFn hda dF ?_
  walk_at "s"
  refine M₂.draw C (by exact i1 (Int.add_le_add hi (Int.le_refl _)) rfl) (by decide) (fun v σ₃ v0 v2 M₃ => ?_) dF
  walk_at "s"
  refine W2.eqI (WTr.bool ?_)
  by_cases e0 : v = 0
  · rw [if_pos (decide_eq_true e0)]
    refine WSs.cons ?_
    refine WS.expr ?_
    refine WE.meth "list" "list.append" PySem.F.plainAttrs_list PySem.F.slot_list_append PySem.F.type_list_append ?_
    refine WE.name (by with_reducible repeat first | exact List.mem_cons_self | apply List.mem_cons_of_mem) ⟨M₃.ty, ?_⟩
    refine WEs.cons ?_
    refine WE.tuple ?_
    walk_at "s"
    refine ⟨[.str w, .str "set"], rfl, by simp, ?_⟩
    walk_at "s"
    refine M₃.note (w, true) (by exact i1 (Int.add_le_add (Int.add_le_add hi (Int.le_refl _)) (Int.le_refl _)) rfl) (by omega) fun σ₄ M₄ => ⟨rfl, ?_⟩
    refine WSs.cons ?_
    refine WS.ret ?_
    refine WE.tuple ?_
    walk_at "s"
    refine ⟨[.str "name", .str w], rfl, by simp, ?_⟩
    exact hq (.name w) (i + 1 + 1) σ₄ hw (by exact s3 i9) (by omega) M₄
  rw [if_neg (by simpa using e0)]
  refine WSs.nil ?_
  refine WSs.cons ?_
  refine WS.expr ?_
  refine WE.meth "list" "list.append" PySem.F.plainAttrs_list PySem.F.slot_list_append PySem.F.type_list_append ?_
  refine WE.name (by with_reducible repeat first | exact List.mem_cons_self | apply List.mem_cons_of_mem) ⟨M₃.ty, ?_⟩
  refine WEs.cons ?_
  refine WE.tuple ?_
  walk_at "s"
  refine W2.addS ?_ ?_
  · have : (("()" : Str)).length = 2 := by decide
    rw [this, sizeLine_eq]; exact o1 (Nat.add_le_add hwl (Nat.le_refl _)) rfl
  walk_at "s"
  refine ⟨[.str (w ++ "()"), .str "set"], rfl, by simp, ?_⟩
  walk_at "s"
  refine M₃.note (w ++ "()", true) (by exact i1 (Int.add_le_add (Int.add_le_add hi (Int.le_refl _)) (Int.le_refl _)) rfl) (by omega) fun σ₄ M₄ => ⟨rfl, ?_⟩
  refine WSs.cons ?_
  refine WS.ret ?_
  refine WE.tuple ?_
  walk_at "s"
  refine WE.list ?_
  refine WEs.cons ?_
  refine WE.callFn hea eF ?_
  walk_at "s"
  refine M₄.exp C (by exact i1 (Int.add_le_add (Int.add_le_add hi (Int.le_refl _)) (Int.le_refl _)) rfl) (fun e i₅ σ₅ w₅ hl₅ hu₅ M₅ => ?_) eF
  walk_at "s"
  refine ⟨[e.d], rfl, by simp, ?_⟩
  walk_at "s"
  refine ⟨[.str "item", .str w, .lst [e.d]], rfl, by simp, ?_⟩
  exact hq (.item w e) i₅ σ₅ ⟨hw, w₅⟩ (by exact s2 hl₅ (s3 i9)) (by omega) (M₅.cast (by simp [Pl.notes]) rfl)
theorem WSs.at {body : List Stmt} (k : Nat) {st : Stmt} {K : Fl → Ro → St → Prop} (hst : body[k]? = some st) (h : WS g n env ρ σ st (Then g n env (body.drop (k + 1)) K)) : WSs g n env ρ σ (body.drop k) K := by
  have hk : k < body.length := by
    rcases Nat.lt_or_ge k body.length with h1 | h1
    · exact h1
    · rw [List.getElem?_eq_none h1] at hst; cases hst
  have e : body.drop k = st :: body.drop (k + 1) := by
    rw [List.drop_eq_getElem_cons hk]
    rw [List.getElem?_eq_getElem hk] at hst
    cases hst; rfl
  rw [e]
  exact WSs.cons h
noncomputable def thenOf : Option Stmt → List Stmt
  | some (.If _ b _ _) => b
  | _ => []
theorem WSs.atIf {body : List Stmt} (k : Nat) {t : Expr} {b : List Stmt} {p : Pos} {K : Fl → Ro → St → Prop} (hst : body[k]? = some (.If t b [] p)) (h : WT g n env ρ σ t fun c σ₁ => if c = true then WSs g n env ρ σ₁ (thenOf (body[k]?)) (Then g n env (body.drop (k + 1)) K) else WSs g n env ρ σ₁ (body.drop (k + 1)) K) : WSs g n env ρ σ (body.drop k) K := by
  have e : thenOf (body[k]?) = b := by rw [hst]; rfl
  rw [e] at h
  exact WSs.at k hst (WS.cond (WT.mono h fun c σ₁ h₁ => by
    cases c
    · exact WSs.nil h₁
    · exact h₁))
noncomputable abbrev siB (b nc gc : Addr) : Ro := [("box", .cell b), ("notes", .cell nc), ("goals", .cell gc)]
noncomputable abbrev siR (v : Int) (b nc gc : Addr) : Ro := [("form", .d (.int v)), ("box", .cell b), ("notes", .cell nc), ("goals", .cell gc)]
theorem simple_b0 (C : Cx g) {v : Int} {σ₁ : St} {K : Fl → Ro → St → Prop} {L a : Addr} {cd : Value} (M₁ : Mv cells s b nc gc σ₀ σ₁ (i + 1) ns gs) (hlo : 0 ≤ i + 1) (hnl : (ns.length : Int) ≤ i + 1) (hi : i ≤ 30000) (hgl : gs.length ≤ 900) (hq : ∀ p i' σ' ρ', Si.wf p → i < i' → i' ≤ i + 33 → Mv cells s b nc gc σ₀ σ' i' (ns ++ p.notes) (gs ++ p.goals) → K (.ret (.d p.d)) ρ' σ') : WSs g (n + 5) (envOfC (dAt 27).name (dAt 27).scope L a cd) (siR v b nc gc) σ₁ (thenOf ((dAt 27).body[1]?)) K := by
  obtain ⟨da, hda, dF⟩ := C.draw
  obtain ⟨ea, hea, eF⟩ := C.exp
  obtain ⟨pa, hpa, pF⟩ := C.place
  obtain ⟨ga, hga, gF⟩ := C.goal
  refine WSs.cons ?_
  refine WS.assign (by repeat first | exact Off.nil | with_reducible apply Off.skip | (apply Off.keepD; kernel_rfl)) ?_
  refine WE.callFn hpa pF ?_
  walk_at "s"
  refine M₁.place C (by exact i1 (Int.add_le_add hi (Int.le_refl _)) rfl) (fun p i₂ σ₂ w₂ hlw₂ huw₂ M₂ => ?_) pF
  walk_at "s"
  refine WSs.cons ?_
  refine WS.ret ?_
  refine WE.tuple ?_
  walk_at "s"
  refine WE.callFn hea eF ?_
  walk_at "s"
  refine M₂.exp C (by exact i1 (Int.le_trans huw₂ (Int.add_le_add (Int.add_le_add hi (Int.le_refl _)) (Int.le_refl _))) rfl) (fun e i₃ σ₃ w₃ hlw₃ huw₃ M₃ => ?_) eF
  walk_at "s"
  refine ⟨[.str "LET", p.d, e.d], rfl, by simp, ?_⟩
  exact hq (.let_ p e) i₃ σ₃ _ ⟨w₂, w₃⟩ (by exact s2 hlw₃ (s2 hlw₂ i9)) (by exact q0 (q1 huw₃ (q2 huw₂)) rfl) (M₃.cast (by simp [Si.notes]) (by simp [Si.goals]))
theorem simple_b1 (C : Cx g) {v : Int} {σ₁ : St} {K : Fl → Ro → St → Prop} {L a : Addr} {cd : Value} (M₁ : Mv cells s b nc gc σ₀ σ₁ (i + 1) ns gs) (hlo : 0 ≤ i + 1) (hnl : (ns.length : Int) ≤ i + 1) (hi : i ≤ 30000) (hgl : gs.length ≤ 900) (hq : ∀ p i' σ' ρ', Si.wf p → i < i' → i' ≤ i + 33 → Mv cells s b nc gc σ₀ σ' i' (ns ++ p.notes) (gs ++ p.goals) → K (.ret (.d p.d)) ρ' σ') : WSs g (n + 5) (envOfC (dAt 27).name (dAt 27).scope L a cd) (siR v b nc gc) σ₁ (thenOf ((dAt 27).body[2]?)) K := by
  obtain ⟨da, hda, dF⟩ := C.draw
  obtain ⟨ea, hea, eF⟩ := C.exp
  obtain ⟨pa, hpa, pF⟩ := C.place
  obtain ⟨ga, hga, gF⟩ := C.goal
  refine WSs.cons ?_
  refine WS.ret ?_
  refine WE.tuple ?_
  walk_at "s"
  refine WE.list ?_
  refine WEs.cons ?_
  refine WE.tuple ?_
  walk_at "s"
  refine WE.callFn hea eF ?_
  walk_at "s"
  refine M₁.exp C (by exact i1 (Int.add_le_add hi (Int.le_refl _)) rfl) (fun e i₂ σ₂ w₂ hlw₂ huw₂ M₂ => ?_) eF
  walk_at "s"
  refine ⟨[.str "value", e.d], rfl, by simp, ?_⟩
  refine WEs.cons ?_
  refine WE.tuple ?_
  walk_at "s"
  refine ⟨[.str "zone"], rfl, by simp, ?_⟩
  refine WEs.cons ?_
  refine WE.tuple ?_
  walk_at "s"
  refine WE.callFn hea eF ?_
  walk_at "s"
  refine M₂.exp C (by exact i1 (Int.le_trans huw₂ (Int.add_le_add (Int.add_le_add hi (Int.le_refl _)) (Int.le_refl _))) rfl) (fun f i₃ σ₃ w₃ hlw₃ huw₃ M₃ => ?_) eF
  walk_at "s"
  refine ⟨[.str "tab", f.d], rfl, by simp, ?_⟩
  walk_at "s"
  refine ⟨[.tup [.str "value", e.d], .tup [.str "zone"], .tup [.str "tab", f.d]], rfl, by simp, ?_⟩
  walk_at "s"
  refine ⟨[.str "PRINT", .none, .lst [.tup [.str "value", e.d], .tup [.str "zone"], .tup [.str "tab", f.d]]], rfl, by simp, ?_⟩
  exact hq (.print e f) i₃ σ₃ _ ⟨w₂, w₃⟩ (by exact s2 hlw₃ (s2 hlw₂ i9)) (by exact q0 (q1 huw₃ (q2 huw₂)) rfl) (M₃.cast (by simp [Si.notes]) (by simp [Si.goals]))
theorem simple_b2 (C : Cx g) {v : Int} {σ₁ : St} {K : Fl → Ro → St → Prop} {L a : Addr} {cd : Value} (M₁ : Mv cells s b nc gc σ₀ σ₁ (i + 1) ns gs) (hlo : 0 ≤ i + 1) (hnl : (ns.length : Int) ≤ i + 1) (hi : i ≤ 30000) (hgl : gs.length ≤ 900) (hq : ∀ p i' σ' ρ', Si.wf p → i < i' → i' ≤ i + 33 → Mv cells s b nc gc σ₀ σ' i' (ns ++ p.notes) (gs ++ p.goals) → K (.ret (.d p.d)) ρ' σ') : WSs g (n + 5) (envOfC (dAt 27).name (dAt 27).scope L a cd) (siR v b nc gc) σ₁ (thenOf ((dAt 27).body[3]?)) K := by
  obtain ⟨da, hda, dF⟩ := C.draw
  obtain ⟨ea, hea, eF⟩ := C.exp
  obtain ⟨pa, hpa, pF⟩ := C.place
  obtain ⟨ga, hga, gF⟩ := C.goal
  refine WSs.cons ?_
  refine WS.ret ?_
  refine WE.tuple ?_
  refine WEs.cons ?_
  refine WE.sub ?_
  refine WE.list ?_
  walk_at "s"
  refine ⟨[.str "GOTO", .str "GOSUB"], rfl, by simp, ?_⟩
  refine WE.callFn hda dF ?_
  walk_at "s"
  refine M₁.draw C (by exact i1 (Int.add_le_add hi (Int.le_refl _)) rfl) (by decide) (fun u σ₂ u0 u3 M₂ => ?_) dF
  refine W2.itemL (d := .str (goK u)) u0 ?_ (by simp) ?_
  · have : u = 0 ∨ u = 1 := e2 (by assumption) (by assumption)
    rcases this with rfl | rfl <;> rfl
  walk_at "s"
  refine WE.callFn hga gF ?_
  walk_at "s"
  refine M₂.goal C (by exact i1 (Int.add_le_add (Int.add_le_add hi (Int.le_refl _)) (Int.le_refl _)) rfl) (by exact o1 hgl rfl) (fun t σ₃ ht M₃ => ?_) gF
  walk_at "s"
  refine ⟨[.str (goK u), .int t], rfl, by simp, ?_⟩
  exact hq (.go u t) (i + 1 + 1 + 1) σ₃ _ ht (by exact s3 (s3 i9)) (by omega) (M₃.cast (by simp [Si.notes]) (by simp [Si.goals]))
theorem simple_b3 (C : Cx g) {v : Int} {σ₁ : St} {K : Fl → Ro → St → Prop} {L a : Addr} {cd : Value} (M₁ : Mv cells s b nc gc σ₀ σ₁ (i + 1) ns gs) (hlo : 0 ≤ i + 1) (hnl : (ns.length : Int) ≤ i + 1) (hi : i ≤ 30000) (hgl : gs.length ≤ 900) (hq : ∀ p i' σ' ρ', Si.wf p → i < i' → i' ≤ i + 33 → Mv cells s b nc gc σ₀ σ' i' (ns ++ p.notes) (gs ++ p.goals) → K (.ret (.d p.d)) ρ' σ') : WSs g (n + 5) (envOfC (dAt 27).name (dAt 27).scope L a cd) (siR v b nc gc) σ₁ (thenOf ((dAt 27).body[4]?)) K := by
  obtain ⟨da, hda, dF⟩ := C.draw
  obtain ⟨ea, hea, eF⟩ := C.exp
  obtain ⟨pa, hpa, pF⟩ := C.place
  obtain ⟨ga, hga, gF⟩ := C.goal
  refine WSs.cons ?_
  refine WS.expr ?_
  refine WE.meth "list" "list.append" PySem.F.plainAttrs_list PySem.F.slot_list_append PySem.F.type_list_append ?_
  refine WE.name (by with_reducible repeat first | exact List.mem_cons_self | apply List.mem_cons_of_mem) ⟨M₁.ty, ?_⟩
  refine WEs.cons ?_
  refine WE.tuple ?_
  walk_at "s"
  refine ⟨[.str "A", .str "set"], rfl, by simp, ?_⟩
  walk_at "s"
  refine M₁.note ("A", true) (by exact i1 (Int.add_le_add hi (Int.le_refl _)) rfl) (by exact hnl) fun σ₂ M₂ => ⟨rfl, ?_⟩
  refine WSs.cons ?_
  refine WS.ret ?_
  refine WE.tuple ?_
  walk_at "s"
  refine WE.callFn hea eF ?_
  walk_at "s"
  refine M₂.exp C (by exact i1 (Int.add_le_add hi (Int.le_refl _)) rfl) (fun e i₃ σ₃ w₃ hlw₃ huw₃ M₃ => ?_) eF
  walk_at "s"
  refine WE.callFn hea eF ?_
  walk_at "s"
  refine M₃.exp C (by exact i1 (Int.le_trans huw₃ (Int.add_le_add (Int.add_le_add hi (Int.le_refl _)) (Int.le_refl _))) rfl) (fun f i₄ σ₄ w₄ hlw₄ huw₄ M₄ => ?_) eF
  walk_at "s"
  refine ⟨[.str "FOR", .str "A", e.d, f.d, .none], rfl, by simp, ?_⟩
  exact hq (.for_ e f) i₄ σ₄ _ ⟨w₃, w₄⟩ (by exact s2 hlw₄ (s2 hlw₃ i9)) (by exact q0 (q1 huw₄ (q2 huw₃)) rfl) (M₄.cast (by simp [Si.notes]) (by simp [Si.goals]))
theorem simple_b4 (C : Cx g) {v : Int} {σ₁ : St} {K : Fl → Ro → St → Prop} {L a : Addr} {cd : Value} (M₁ : Mv cells s b nc gc σ₀ σ₁ (i + 1) ns gs) (hlo : 0 ≤ i + 1) (hnl : (ns.length : Int) ≤ i + 1) (hi : i ≤ 30000) (hgl : gs.length ≤ 900) (hq : ∀ p i' σ' ρ', Si.wf p → i < i' → i' ≤ i + 33 → Mv cells s b nc gc σ₀ σ' i' (ns ++ p.notes) (gs ++ p.goals) → K (.ret (.d p.d)) ρ' σ') : WSs g (n + 5) (envOfC (dAt 27).name (dAt 27).scope L a cd) (siR v b nc gc) σ₁ (thenOf ((dAt 27).body[5]?)) K := by
  obtain ⟨da, hda, dF⟩ := C.draw
  obtain ⟨ea, hea, eF⟩ := C.exp
  obtain ⟨pa, hpa, pF⟩ := C.place
  obtain ⟨ga, hga, gF⟩ := C.goal
  refine WSs.cons ?_
  refine WS.expr ?_
  refine WE.meth "list" "list.append" PySem.F.plainAttrs_list PySem.F.slot_list_append PySem.F.type_list_append ?_
  refine WE.name (by with_reducible repeat first | exact List.mem_cons_self | apply List.mem_cons_of_mem) ⟨M₁.ty, ?_⟩
  refine WEs.cons ?_
  refine WE.tuple ?_
  walk_at "s"
  refine ⟨[.str "A", .str "read"], rfl, by simp, ?_⟩
  walk_at "s"
  refine M₁.note ("A", false) (by exact i1 (Int.add_le_add hi (Int.le_refl _)) rfl) (by exact hnl) fun σ₂ M₂ => ⟨rfl, ?_⟩
  refine WSs.cons ?_
  refine WS.ret ?_
  refine WE.tuple ?_
  walk_at "s"
  refine WE.list ?_
  walk_at "s"
  refine ⟨[.str "A"], rfl, by simp, ?_⟩
  walk_at "s"
  refine ⟨[.str "NEXT", .lst [.str "A"]], rfl, by simp, ?_⟩
  exact hq .next (i + 1) σ₂ _ trivial (by exact i9) (by omega) (M₂.cast (by simp [Si.notes]) (by simp [Si.goals]))
theorem simple_b5 (C : Cx g) {v : Int} {σ₁ : St} {K : Fl → Ro → St → Prop} {L a : Addr} {cd : Value} (M₁ : Mv cells s b nc gc σ₀ σ₁ (i + 1) ns gs) (hlo : 0 ≤ i + 1) (hnl : (ns.length : Int) ≤ i + 1) (hi : i ≤ 30000) (hgl : gs.length ≤ 900) (hq : ∀ p i' σ' ρ', Si.wf p → i < i' → i' ≤ i + 33 → Mv cells s b nc gc σ₀ σ' i' (ns ++ p.notes) (gs ++ p.goals) → K (.ret (.d p.d)) ρ' σ') : WSs g (n + 5) (envOfC (dAt 27).name (dAt 27).scope L a cd) (siR v b nc gc) σ₁ (thenOf ((dAt 27).body[6]?)) K := by
  obtain ⟨da, hda, dF⟩ := C.draw
  obtain ⟨ea, hea, eF⟩ := C.exp
  obtain ⟨pa, hpa, pF⟩ := C.place
  obtain ⟨ga, hga, gF⟩ := C.goal
  refine WSs.cons ?_
  refine WS.ret ?_
  refine WE.tuple ?_
  walk_at "s"
  refine WE.list ?_
  refine WEs.cons ?_
  refine WE.callFn hpa pF ?_
  walk_at "s"
  refine M₁.place C (by exact i1 (Int.add_le_add hi (Int.le_refl _)) rfl) (fun p i₂ σ₂ w₂ hlw₂ huw₂ M₂ => ?_) pF
  walk_at "s"
  refine WE.callFn hpa pF ?_
  walk_at "s"
  refine M₂.place C (by exact i1 (Int.le_trans huw₂ (Int.add_le_add (Int.add_le_add hi (Int.le_refl _)) (Int.le_refl _))) rfl) (fun q i₃ σ₃ w₃ hlw₃ huw₃ M₃ => ?_) pF
  walk_at "s"
  refine ⟨[p.d, q.d], rfl, by simp, ?_⟩
  walk_at "s"
  refine ⟨[.str "READ", .lst [p.d, q.d]], rfl, by simp, ?_⟩
  exact hq (.read p q) i₃ σ₃ _ ⟨w₂, w₃⟩ (by exact s2 hlw₃ (s2 hlw₂ i9)) (by exact q0 (q1 huw₃ (q2 huw₂)) rfl) (M₃.cast (by simp [Si.notes]) (by simp [Si.goals]))
theorem simple_b6 (C : Cx g) {v : Int} {σ₁ : St} {K : Fl → Ro → St → Prop} {L a : Addr} {cd : Value} (M₁ : Mv cells s b nc gc σ₀ σ₁ (i + 1) ns gs) (hlo : 0 ≤ i + 1) (hnl : (ns.length : Int) ≤ i + 1) (hi : i ≤ 30000) (hgl : gs.length ≤ 900) (hq : ∀ p i' σ' ρ', Si.wf p → i < i' → i' ≤ i + 33 → Mv cells s b nc gc σ₀ σ' i' (ns ++ p.notes) (gs ++ p.goals) → K (.ret (.d p.d)) ρ' σ') : WSs g (n + 5) (envOfC (dAt 27).name (dAt 27).scope L a cd) (siR v b nc gc) σ₁ (thenOf ((dAt 27).body[7]?)) K := by
  obtain ⟨da, hda, dF⟩ := C.draw
  obtain ⟨ea, hea, eF⟩ := C.exp
  obtain ⟨pa, hpa, pF⟩ := C.place
  obtain ⟨ga, hga, gF⟩ := C.goal
  refine WSs.cons ?_
  refine WS.ret ?_
  refine WE.tuple ?_
  walk_at "s"
  refine WE.list ?_
  refine WEs.cons ?_
  refine WE.callFn hpa pF ?_
  walk_at "s"
  refine M₁.place C (by exact i1 (Int.add_le_add hi (Int.le_refl _)) rfl) (fun p i₂ σ₂ w₂ hlw₂ huw₂ M₂ => ?_) pF
  walk_at "s"
  refine ⟨[p.d], rfl, by simp, ?_⟩
  walk_at "s"
  refine ⟨[.str "INPUT", .none, .str "how", .bool true, .lst [p.d]], rfl, by simp, ?_⟩
  exact hq (.input p) i₂ σ₂ _ w₂ (by exact s2 hlw₂ i9) (by exact q0 (q2 huw₂) rfl) (M₂.cast (by simp [Si.notes]) (by simp [Si.goals]))
theorem simple_b7 (C : Cx g) {v : Int} {σ₁ : St} {K : Fl → Ro → St → Prop} {L a : Addr} {cd : Value} (M₁ : Mv cells s b nc gc σ₀ σ₁ (i + 1) ns gs) (hlo : 0 ≤ i + 1) (hnl : (ns.length : Int) ≤ i + 1) (hi : i ≤ 30000) (hgl : gs.length ≤ 900) (hq : ∀ p i' σ' ρ', Si.wf p → i < i' → i' ≤ i + 33 → Mv cells s b nc gc σ₀ σ' i' (ns ++ p.notes) (gs ++ p.goals) → K (.ret (.d p.d)) ρ' σ') : WSs g (n + 5) (envOfC (dAt 27).name (dAt 27).scope L a cd) (siR v b nc gc) σ₁ (thenOf ((dAt 27).body[8]?)) K := by
  obtain ⟨da, hda, dF⟩ := C.draw
  obtain ⟨ea, hea, eF⟩ := C.exp
  obtain ⟨pa, hpa, pF⟩ := C.place
  obtain ⟨ga, hga, gF⟩ := C.goal
  refine WSs.cons ?_
  refine WS.assign (by repeat first | exact Off.nil | with_reducible apply Off.skip | (apply Off.keepD; kernel_rfl)) ?_
  refine WE.callFn hea eF ?_
  walk_at "s"
  refine M₁.exp C (by exact i1 (Int.add_le_add hi (Int.le_refl _)) rfl) (fun e i₂ σ₂ w₂ hlw₂ huw₂ M₂ => ?_) eF
  walk_at "s"
  refine WSs.cons ?_
  refine WS.ret ?_
  refine WE.tuple ?_
  walk_at "s"
  refine WE.list ?_
  refine WEs.cons ?_
  refine WE.callFn hga gF ?_
  walk_at "s"
  refine M₂.goal C (by exact i1 (Int.le_trans huw₂ (Int.add_le_add (Int.add_le_add hi (Int.le_refl _)) (Int.le_refl _))) rfl) (by exact o1 hgl rfl) (fun t σ₃ ht M₃ => ?_) gF
  walk_at "s"
  refine WE.callFn hga gF ?_
  walk_at "s"
  refine M₃.goal C (by exact i1 (Int.add_le_add (Int.le_trans huw₂ (Int.add_le_add (Int.add_le_add hi (Int.le_refl _)) (Int.le_refl _))) (Int.le_refl _)) rfl) (by exact o1 (oP hgl (oC oN)) rfl) (fun u σ₄ hu M₄ => ?_) gF
  walk_at "s"
  refine ⟨[.int t, .int u], rfl, by simp, ?_⟩
  walk_at "s"
  refine ⟨[.str "ONGO", .str "GOTO", e.d, .lst [.int t, .int u]], rfl, by simp, ?_⟩
  exact hq (.ongo e t u) (i₂ + 1 + 1) σ₄ _ ⟨w₂, ht, hu⟩ (by exact s3 (s3 (s2 hlw₂ i9))) (by exact q0 (q3 (q3 (q2 huw₂))) rfl) (M₄.cast (by simp [Si.notes]) (by simp [Si.goals]))
theorem simple_b8 (C : Cx g) {v : Int} {σ₁ : St} {K : Fl → Ro → St → Prop} {L a : Addr} {cd : Value} (M₁ : Mv cells s b nc gc σ₀ σ₁ (i + 1) ns gs) (hlo : 0 ≤ i + 1) (hnl : (ns.length : Int) ≤ i + 1) (hi : i ≤ 30000) (hgl : gs.length ≤ 900) (hq : ∀ p i' σ' ρ', Si.wf p → i < i' → i' ≤ i + 33 → Mv cells s b nc gc σ₀ σ' i' (ns ++ p.notes) (gs ++ p.goals) → K (.ret (.d p.d)) ρ' σ') : WSs g (n + 5) (envOfC (dAt 27).name (dAt 27).scope L a cd) (siR v b nc gc) σ₁ (thenOf ((dAt 27).body[9]?)) K := by
  obtain ⟨da, hda, dF⟩ := C.draw
  obtain ⟨ea, hea, eF⟩ := C.exp
  obtain ⟨pa, hpa, pF⟩ := C.place
  obtain ⟨ga, hga, gF⟩ := C.goal
  refine WSs.cons ?_
  refine WS.expr ?_
  refine WE.meth "list" "list.append" PySem.F.plainAttrs_list PySem.F.slot_list_append PySem.F.type_list_append ?_
  refine WE.name (by with_reducible repeat first | exact List.mem_cons_self | apply List.mem_cons_of_mem) ⟨M₁.ty, ?_⟩
  refine WEs.cons ?_
  refine WE.tuple ?_
  walk_at "s"
  refine ⟨[.str "B%()", .str "set"], rfl, by simp, ?_⟩
  walk_at "s"
  refine M₁.note ("B%()", true) (by exact i1 (Int.add_le_add hi (Int.le_refl _)) rfl) (by exact hnl) fun σ₂ M₂ => ⟨rfl, ?_⟩
  refine WSs.cons ?_
  refine WS.ret ?_
  refine WE.tuple ?_
  walk_at "s"
  refine WE.list ?_
  refine WEs.cons ?_
  refine WE.tuple ?_
  walk_at "s"
  refine WE.list ?_
  refine WEs.cons ?_
  refine WE.callFn hea eF ?_
  walk_at "s"
  refine M₂.exp C (by exact i1 (Int.add_le_add hi (Int.le_refl _)) rfl) (fun e i₃ σ₃ w₃ hlw₃ huw₃ M₃ => ?_) eF
  walk_at "s"
  refine ⟨[e.d], rfl, by simp, ?_⟩
  walk_at "s"
  refine ⟨[.str "B%", .lst [e.d]], rfl, by simp, ?_⟩
  walk_at "s"
  refine ⟨[.tup [.str "B%", .lst [e.d]]], rfl, by simp, ?_⟩
  walk_at "s"
  refine ⟨[.str "DIM", .lst [.tup [.str "B%", .lst [e.d]]]], rfl, by simp, ?_⟩
  exact hq (.dim e) i₃ σ₃ _ w₃ (by exact s2 hlw₃ i9) (by exact q0 (q2 huw₃) rfl) (M₃.cast (by simp [Si.notes]) (by simp [Si.goals]))
theorem simple_b9 (C : Cx g) {v : Int} {σ₁ : St} {K : Fl → Ro → St → Prop} {L a : Addr} {cd : Value} (M₁ : Mv cells s b nc gc σ₀ σ₁ (i + 1) ns gs) (hlo : 0 ≤ i + 1) (hnl : (ns.length : Int) ≤ i + 1) (hi : i ≤ 30000) (hgl : gs.length ≤ 900) (hq : ∀ p i' σ' ρ', Si.wf p → i < i' → i' ≤ i + 33 → Mv cells s b nc gc σ₀ σ' i' (ns ++ p.notes) (gs ++ p.goals) → K (.ret (.d p.d)) ρ' σ') : WSs g (n + 5) (envOfC (dAt 27).name (dAt 27).scope L a cd) (siR v b nc gc) σ₁ (thenOf ((dAt 27).body[10]?)) K := by
  obtain ⟨da, hda, dF⟩ := C.draw
  obtain ⟨ea, hea, eF⟩ := C.exp
  obtain ⟨pa, hpa, pF⟩ := C.place
  obtain ⟨ga, hga, gF⟩ := C.goal
  refine WSs.cons ?_
  refine WS.expr ?_
  refine WE.meth "list" "list.append" PySem.F.plainAttrs_list PySem.F.slot_list_append PySem.F.type_list_append ?_
  refine WE.name (by with_reducible repeat first | exact List.mem_cons_self | apply List.mem_cons_of_mem) ⟨M₁.ty, ?_⟩
  refine WEs.cons ?_
  refine WE.tuple ?_
  walk_at "s"
  refine ⟨[.str "FNX", .str "set"], rfl, by simp, ?_⟩
  walk_at "s"
  refine M₁.note ("FNX", true) (by exact i1 (Int.add_le_add hi (Int.le_refl _)) rfl) (by exact hnl) fun σ₂ M₂ => ⟨rfl, ?_⟩
  refine WSs.cons ?_
  refine WS.ret ?_
  refine WE.tuple ?_
  walk_at "s"
  refine WE.list ?_
  walk_at "s"
  refine ⟨[.str "C$"], rfl, by simp, ?_⟩
  refine WEs.cons ?_
  refine WE.callFn hea eF ?_
  walk_at "s"
  refine M₂.exp C (by exact i1 (Int.add_le_add hi (Int.le_refl _)) rfl) (fun e i₃ σ₃ w₃ hlw₃ huw₃ M₃ => ?_) eF
  walk_at "s"
  refine ⟨[.str "DEF", .str "FNX", .lst [.str "C$"], e.d], rfl, by simp, ?_⟩
  exact hq (.def_ e) i₃ σ₃ _ w₃ (by exact s2 hlw₃ i9) (by exact q0 (q2 huw₃) rfl) (M₃.cast (by simp [Si.notes]) (by simp [Si.goals]))
theorem simple_b10 (C : Cx g) {v : Int} {σ₁ : St} {K : Fl → Ro → St → Prop} {L a : Addr} {cd : Value} (M₁ : Mv cells s b nc gc σ₀ σ₁ (i + 1) ns gs) (hlo : 0 ≤ i + 1) (hnl : (ns.length : Int) ≤ i + 1) (hi : i ≤ 30000) (hgl : gs.length ≤ 900) (hq : ∀ p i' σ' ρ', Si.wf p → i < i' → i' ≤ i + 33 → Mv cells s b nc gc σ₀ σ' i' (ns ++ p.notes) (gs ++ p.goals) → K (.ret (.d p.d)) ρ' σ') : WSs g (n + 5) (envOfC (dAt 27).name (dAt 27).scope L a cd) (siR v b nc gc) σ₁ (thenOf ((dAt 27).body[11]?)) K := by
  obtain ⟨da, hda, dF⟩ := C.draw
  obtain ⟨ea, hea, eF⟩ := C.exp
  obtain ⟨pa, hpa, pF⟩ := C.place
  obtain ⟨ga, hga, gF⟩ := C.goal
  refine WSs.cons ?_
  refine WS.ret ?_
  refine WE.tuple ?_
  walk_at "s"
  refine WE.callFn hpa pF ?_
  walk_at "s"
  refine M₁.place C (by exact i1 (Int.add_le_add hi (Int.le_refl _)) rfl) (fun p i₂ σ₂ w₂ hlw₂ huw₂ M₂ => ?_) pF
  walk_at "s"
  refine WE.callFn hpa pF ?_
  walk_at "s"
  refine M₂.place C (by exact i1 (Int.le_trans huw₂ (Int.add_le_add (Int.add_le_add hi (Int.le_refl _)) (Int.le_refl _))) rfl) (fun q i₃ σ₃ w₃ hlw₃ huw₃ M₃ => ?_) pF
  walk_at "s"
  refine ⟨[.str "SWAP", p.d, q.d], rfl, by simp, ?_⟩
  exact hq (.swap p q) i₃ σ₃ _ ⟨w₂, w₃⟩ (by exact s2 hlw₃ (s2 hlw₂ i9)) (by exact q0 (q1 huw₃ (q2 huw₂)) rfl) (M₃.cast (by simp [Si.notes]) (by simp [Si.goals]))
theorem simple_b11 (C : Cx g) {v : Int} {σ₁ : St} {K : Fl → Ro → St → Prop} {L a : Addr} {cd : Value} (M₁ : Mv cells s b nc gc σ₀ σ₁ (i + 1) ns gs) (hlo : 0 ≤ i + 1) (hnl : (ns.length : Int) ≤ i + 1) (hi : i ≤ 30000) (hgl : gs.length ≤ 900) (hq : ∀ p i' σ' ρ', Si.wf p → i < i' → i' ≤ i + 33 → Mv cells s b nc gc σ₀ σ' i' (ns ++ p.notes) (gs ++ p.goals) → K (.ret (.d p.d)) ρ' σ') : WSs g (n + 5) (envOfC (dAt 27).name (dAt 27).scope L a cd) (siR v b nc gc) σ₁ (thenOf ((dAt 27).body[12]?)) K := by
  obtain ⟨da, hda, dF⟩ := C.draw
  obtain ⟨ea, hea, eF⟩ := C.exp
  obtain ⟨pa, hpa, pF⟩ := C.place
  obtain ⟨ga, hga, gF⟩ := C.goal
  refine WSs.cons ?_
  refine WS.ret ?_
  refine WE.sub ?_
  refine WE.list ?_
  refine WEs.cons ?_
  refine WE.tuple ?_
  walk_at "s"
  refine ⟨[.str "RESTORE", .none], rfl, by simp, ?_⟩
  refine WEs.cons ?_
  refine WE.tuple ?_
  walk_at "s"
  refine ⟨[.str "ONERR", .int 0], rfl, by simp, ?_⟩
  refine WEs.cons ?_
  refine WE.tuple ?_
  walk_at "s"
  refine WE.list ?_
  walk_at "s"
  refine ⟨[], rfl, by simp, ?_⟩
  walk_at "s"
  refine ⟨[.str "ERASE", .lst []], rfl, by simp, ?_⟩
  refine WEs.cons ?_
  refine WE.tuple ?_
  walk_at "s"
  refine ⟨[.str "RETURN", .none], rfl, by simp, ?_⟩
  walk_at "s"
  refine ⟨[.tup [.str "RESTORE", .none], .tup [.str "ONERR", .int 0], .tup [.str "ERASE", .lst []], .tup [.str "RETURN", .none]], rfl, by simp, ?_⟩
  refine WE.callFn hda dF ?_
  walk_at "s"
  refine M₁.draw C (by exact i1 (Int.add_le_add hi (Int.le_refl _)) rfl) (by decide) (fun u σ₂ u0 u3 M₂ => ?_) dF
  refine W2.itemL (d := fixD u) u0 ?_ (by simp) ?_
  · have : u = 0 ∨ u = 1 ∨ u = 2 ∨ u = 3 := e4 (by assumption) (by assumption)
    rcases this with rfl | rfl | rfl | rfl <;> rfl
  exact hq (.fix u) (i + 1 + 1) σ₂ _ trivial (by exact s3 i9) (by omega) (M₂.cast (by simp [Si.notes]) (by simp [Si.goals]))
theorem simple_b12 (C : Cx g) {v : Int} {σ₁ : St} {K : Fl → Ro → St → Prop} {L a : Addr} {cd : Value} (M₁ : Mv cells s b nc gc σ₀ σ₁ (i + 1) ns gs) (hlo : 0 ≤ i + 1) (hnl : (ns.length : Int) ≤ i + 1) (hi : i ≤ 30000) (hgl : gs.length ≤ 900) (hq : ∀ p i' σ' ρ', Si.wf p → i < i' → i' ≤ i + 33 → Mv cells s b nc gc σ₀ σ' i' (ns ++ p.notes) (gs ++ p.goals) → K (.ret (.d p.d)) ρ' σ') : WSs g (n + 5) (envOfC (dAt 27).name (dAt 27).scope L a cd) (siR v b nc gc) σ₁ ((dAt 27).body.drop 13) K := by
  obtain ⟨da, hda, dF⟩ := C.draw
  obtain ⟨ea, hea, eF⟩ := C.exp
  obtain ⟨pa, hpa, pF⟩ := C.place
  obtain ⟨ga, hga, gF⟩ := C.goal
  refine WSs.cons ?_
  refine WS.ret ?_
  refine WE.tuple ?_
  refine WEs.cons ?_
  refine WE.sub ?_
  refine WE.list ?_
  walk_at "s"
  refine ⟨[.str "RESTORE", .str "ONERR", .str "RESUME"], rfl, by simp, ?_⟩
  refine WE.callFn hda dF ?_
  walk_at "s"
  refine M₁.draw C (by exact i1 (Int.add_le_add hi (Int.le_refl _)) rfl) (by decide) (fun u σ₂ u0 u3 M₂ => ?_) dF
  refine W2.itemL (d := .str (resK u)) u0 ?_ (by simp) ?_
  · have : u = 0 ∨ u = 1 ∨ u = 2 := e3 (by assumption) (by assumption)
    rcases this with rfl | rfl | rfl <;> rfl
  walk_at "s"
  refine WE.callFn hga gF ?_
  walk_at "s"
  refine M₂.goal C (by exact i1 (Int.add_le_add (Int.add_le_add hi (Int.le_refl _)) (Int.le_refl _)) rfl) (by exact o1 hgl rfl) (fun t σ₃ ht M₃ => ?_) gF
  walk_at "s"
  refine ⟨[.str (resK u), .int t], rfl, by simp, ?_⟩
  exact hq (.res u t) (i + 1 + 1 + 1) σ₃ _ ht (by exact s3 (s3 i9)) (by omega) (M₃.cast (by simp [Si.notes]) (by simp [Si.goals]))
theorem Mv.simple (C : Cx g) (M : Mv cells s b nc gc σ₀ σ i ns gs) (hi : i ≤ 30000) (hgl : gs.length ≤ 900) (hq : ∀ p i' σ', Si.wf p → i < i' → i' ≤ i + 33 → Mv cells s b nc gc σ₀ σ' i' (ns ++ p.notes) (gs ++ p.goals) → Q (.d p.d) σ') {a : Addr} (hfn : FnAt g (dAt 27) a) : WC g (n + 6) (.ref a) [.cell b, .cell nc, .cell gc] σ Q := by
  have hlo := M.lo
  have hnl := M.nl
  refine WC.fnR ["box", "notes", "goals"] [("box", .cell b), ("notes", .cell nc), ("goals", .cell gc)] rfl hfn C.lim rfl (by intro pm cd doc vs hv; obtain ⟨_, _, _, e⟩ := len3 hv; subst e; exact rfl) (by decide +kernel) fun L cd => ?_
  obtain ⟨da, hda, dF⟩ := C.draw
  obtain ⟨K, hKd⟩ : ∃ K : Fl → Ro → St → Prop, K = fun fl _ σ' => Q (retOf fl) σ' := ⟨_, rfl⟩
  rw [← hKd]
  have hq' : ∀ p i' σ' ρ', Si.wf p → i < i' → i' ≤ i + 33 → Mv cells s b nc gc σ₀ σ' i' (ns ++ p.notes) (gs ++ p.goals) → K (.ret (.d p.d)) ρ' σ' := fun p i' σ' ρ' h1 h2 h3 h4 => by rw [hKd]; exact hq p i' σ' h1 h2 h3 h4
  clear hKd hq
  have hq2 : ∀ rest p i' σ' ρ', Si.wf p → i < i' → i' ≤ i + 33 → Mv cells s b nc gc σ₀ σ' i' (ns ++ p.notes) (gs ++ p.goals) → (Then g (n + 5) (envOfC (dAt 27).name (dAt 27).scope L a cd) rest K) (.ret (.d p.d)) ρ' σ' := fun _ => hq'
  show WSs g (n + 5) _ _ σ ((dAt 27).body.drop 0) K
  refine WSs.at 0 (by rfl) ?_
  refine WS.assign (by repeat first | exact Off.nil | with_reducible apply Off.skip | (apply Off.keepD; kernel_rfl)) ?_
  refine WE.callFn hda dF ?_
  walk_at "s"
  refine M.draw C (by exact i1 hi rfl) (by decide) (fun v σ₁ v0 v13 M₁ => ?_) dF
  refine WSs.atIf 1 (by rfl) ?_
  walk_at "s"
  refine W2.eqI (WTr.bool ?_)
  by_cases e0 : v = 0
  · rw [if_pos (decide_eq_true e0)]
    with_reducible exact simple_b0 C M₁ hlo hnl hi hgl (hq2 _)
  rw [if_neg (by simpa using e0)]
  refine WSs.atIf 2 (by rfl) ?_
  walk_at "s"
  refine W2.eqI (WTr.bool ?_)
  by_cases e1 : v = 1
  · rw [if_pos (decide_eq_true e1)]
    with_reducible exact simple_b1 C M₁ hlo hnl hi hgl (hq2 _)
  rw [if_neg (by simpa using e1)]
  refine WSs.atIf 3 (by rfl) ?_
  walk_at "s"
  refine W2.eqI (WTr.bool ?_)
  by_cases e2 : v = 2
  · rw [if_pos (decide_eq_true e2)]
    with_reducible exact simple_b2 C M₁ hlo hnl hi hgl (hq2 _)
  rw [if_neg (by simpa using e2)]
  refine WSs.atIf 4 (by rfl) ?_
  walk_at "s"
  refine W2.eqI (WTr.bool ?_)
  by_cases e3 : v = 3
  · rw [if_pos (decide_eq_true e3)]
    with_reducible exact simple_b3 C M₁ hlo hnl hi hgl (hq2 _)
  rw [if_neg (by simpa using e3)]
  refine WSs.atIf 5 (by rfl) ?_
  walk_at "s"
  refine W2.eqI (WTr.bool ?_)
  by_cases e4 : v = 4
  · rw [if_pos (decide_eq_true e4)]
    with_reducible exact simple_b4 C M₁ hlo hnl hi hgl (hq2 _)
  rw [if_neg (by simpa using e4)]
  refine WSs.atIf 6 (by rfl) ?_
  walk_at "s"
  refine W2.eqI (WTr.bool ?_)
  by_cases e5 : v = 5
  · rw [if_pos (decide_eq_true e5)]
    with_reducible exact simple_b5 C M₁ hlo hnl hi hgl (hq2 _)
  rw [if_neg (by simpa using e5)]
  refine WSs.atIf 7 (by rfl) ?_
  walk_at "s"
  refine W2.eqI (WTr.bool ?_)
  by_cases e6 : v = 6
  · rw [if_pos (decide_eq_true e6)]
    with_reducible exact simple_b6 C M₁ hlo hnl hi hgl (hq2 _)
  rw [if_neg (by simpa using e6)]
  refine WSs.atIf 8 (by rfl) ?_
  walk_at "s"
  refine W2.eqI (WTr.bool ?_)
  by_cases e7 : v = 7
  · rw [if_pos (decide_eq_true e7)]
    with_reducible exact simple_b7 C M₁ hlo hnl hi hgl (hq2 _)
  rw [if_neg (by simpa using e7)]
  refine WSs.atIf 9 (by rfl) ?_
  walk_at "s"
  refine W2.eqI (WTr.bool ?_)
  by_cases e8 : v = 8
  · rw [if_pos (decide_eq_true e8)]
    with_reducible exact simple_b8 C M₁ hlo hnl hi hgl (hq2 _)
  rw [if_neg (by simpa using e8)]
  refine WSs.atIf 10 (by rfl) ?_
  walk_at "s"
  refine W2.eqI (WTr.bool ?_)
  by_cases e9 : v = 9
  · rw [if_pos (decide_eq_true e9)]
    with_reducible exact simple_b9 C M₁ hlo hnl hi hgl (hq2 _)
  rw [if_neg (by simpa using e9)]
  refine WSs.atIf 11 (by rfl) ?_
  walk_at "s"
  refine W2.eqI (WTr.bool ?_)
  by_cases e10 : v = 10
  · rw [if_pos (decide_eq_true e10)]
    with_reducible exact simple_b10 C M₁ hlo hnl hi hgl (hq2 _)
  rw [if_neg (by simpa using e10)]
  refine WSs.atIf 12 (by rfl) ?_
  walk_at "s"
  refine W2.eqI (WTr.bool ?_)
  by_cases e11 : v = 11
  · rw [if_pos (decide_eq_true e11)]
    with_reducible exact simple_b11 C M₁ hlo hnl hi hgl (hq2 _)
  rw [if_neg (by simpa using e11)]
  with_reducible exact simple_b12 C M₁ hlo hnl hi hgl hq'
theorem Mv.statement (C : Cx g) (M : Mv cells s b nc gc σ₀ σ i ns gs) (hi : i ≤ 20000) (hgl : gs.length ≤ 800) (hq : ∀ p i' σ', Sm.wf p → i < i' → i' ≤ i + 82 → Mv cells s b nc gc σ₀ σ' i' (ns ++ p.notes) (gs ++ p.goals) → Q (.d p.d) σ') {a : Addr} (hfn : FnAt g (dAt 28) a) : WC g (n + 7) (.ref a) [.cell b, .cell nc, .cell gc] σ Q := by
  have hlo := M.lo
  have hnl := M.nl
  refine WC.fnR ["box", "notes", "goals"] [("box", .cell b), ("notes", .cell nc), ("goals", .cell gc)] rfl hfn C.lim rfl (by intro pm cd doc vs hv; obtain ⟨_, _, _, e⟩ := len3 hv; subst e; exact rfl) (by decide +kernel) fun L cd => ?_
  obtain ⟨da, hda, dF⟩ := C.draw
  obtain ⟨ea, hea, eF⟩ := C.exp
  obtain ⟨sa, hsa, sF⟩ := C.simple
  refine WSs.cons ?_
  refine WS.cond ?_
  refine WT.compare ?_
  refine WE.callFn hda dF ?_
  walk_at "s"
  refine M.draw C (by exact i1 hi rfl) (by decide) (fun v σ₁ v0 v3 M₁ => ?_) dF
  walk_at "s"
  refine W2.ltI (WTr.bool ?_)
  by_cases e0 : v < 2
  · rw [if_pos (decide_eq_true e0)]
    refine WSs.cons ?_
    refine WS.ret ?_
    refine WE.callFn hsa sF ?_
    walk_at "s"
    refine M₁.simple C (by exact i1 (Int.add_le_add hi (Int.le_refl _)) rfl) (by exact o1 hgl rfl) (fun p i₂ σ₂ w₂ hl₂ hu₂ M₂ => ?_) sF
    exact hq (.one p) i₂ σ₂ w₂ (by exact s2 hl₂ i9) (by exact q0 (q2 hu₂) rfl) M₂
  rw [if_neg (by simpa using e0)]
  refine WSs.nil ?_
  refine WSs.cons ?_
  refine WS.assign (by repeat first | exact Off.nil | with_reducible apply Off.skip | (apply Off.keepD; kernel_rfl)) ?_
  refine WE.callFn hea eF ?_
  walk_at "s"
  refine M₁.exp C (by exact i1 (Int.add_le_add hi (Int.le_refl _)) rfl) (fun e i₂ σ₂ w₂ hl₂ hu₂ M₂ => ?_) eF
  refine WSs.cons ?_
  refine WS.assign (by repeat first | exact Off.nil | with_reducible apply Off.skip | (apply Off.keepD; kernel_rfl)) ?_
  refine WE.list ?_
  refine WEs.cons ?_
  refine WE.callFn hsa sF ?_
  walk_at "s"
  refine M₂.simple C (by exact i1 (Int.le_trans hu₂ (Int.add_le_add (Int.add_le_add hi (Int.le_refl _)) (Int.le_refl _))) rfl) (by exact o1 hgl rfl) (fun f i₃ σ₃ w₃ hl₃ hu₃ M₃ => ?_) sF
  have hfl := f.goals_len
  walk_at "s"
  refine ⟨[f.d], rfl, by simp, ?_⟩
  refine WSs.cons ?_
  refine WS.ret ?_
  refine WE.tuple ?_
  walk_at "s"
  refine WE.ifexp ?_
  refine WT.compare ?_
  refine WE.callFn hda dF ?_
  walk_at "s"
  refine M₃.draw C (by exact i1 (Int.le_trans hu₃ (Int.add_le_add (Int.le_trans hu₂ (Int.add_le_add (Int.add_le_add hi (Int.le_refl _)) (Int.le_refl _))) (Int.le_refl _))) rfl) (by decide) (fun u σ₄ u0 u2 M₄ => ?_) dF
  walk_at "s"
  refine W2.eqI (WTr.bool ?_)
  by_cases e1 : u = 0
  · rw [if_pos (decide_eq_true e1)]
    refine WE.list ?_
    refine WEs.cons ?_
    refine WE.callFn hsa sF ?_
    walk_at "s"
    refine M₄.simple C (by exact i1 (Int.add_le_add (Int.le_trans hu₃ (Int.add_le_add (Int.le_trans hu₂ (Int.add_le_add (Int.add_le_add hi (Int.le_refl _)) (Int.le_refl _))) (Int.le_refl _))) (Int.le_refl _)) rfl) (by rw [List.length_append]; exact o1 (Nat.add_le_add hgl hfl) rfl) (fun o i₅ σ₅ w₅ hl₅ hu₅ M₅ => ?_) sF
    walk_at "s"
    refine ⟨[o.d], rfl, by simp, ?_⟩
    walk_at "s"
    refine ⟨[.str "IF", e.d, .lst [f.d], .lst [o.d]], rfl, by simp, ?_⟩
    exact hq (.iff e f (some o)) i₅ σ₅ ⟨w₂, w₃, fun x hx => by simp at hx; subst hx; exact w₅⟩ (by exact s2 hl₅ (s3 (s2 hl₃ (s2 hl₂ i9)))) (by omega) (M₅.cast (by simp [Sm.notes]) (by simp [Sm.goals]))
  · rw [if_neg (by simpa using e1)]
    refine WE.list ?_
    refine WEs.nil ⟨[], rfl, by simp, ?_⟩
    walk_at "s"
    refine ⟨[.str "IF", e.d, .lst [f.d], .lst []], rfl, by simp, ?_⟩
    exact hq (.iff e f none) (i₃ + 1) σ₄ ⟨w₂, w₃, fun x hx => by simp at hx⟩ (by exact s3 (s2 hl₃ (s2 hl₂ i9))) (by omega) (M₄.cast (by simp [Sm.notes]) (by simp [Sm.goals]))
end
end
set_option tactic.hygienic false
section

noncomputable def cU (u : Str × Bool) : Str × Str := (u.1, hw u.2)
noncomputable def toB (u : Str × Str) : Str × Bool := (u.1, decide (u.2 = "set"))
theorem toB_cU (us : List (Str × Bool)) : (us.map cU).map toB = us := by
  rw [List.map_map]
  have : ∀ b : Bool, decide (hw b = "set") = b := by decide +kernel
  calc _ = us.map id := List.map_congr_left fun u _ => by
        show (u.1, decide (hw u.2 = "set")) = u
        rw [this]
    _ = us := List.map_id us
noncomputable def su : D → List (Str × Bool)
  | .tup (.str k :: r) => (usesOf k (.str k :: r) []).map toB
  | _ => []
noncomputable def sg : D → List Int
  | .tup (.str k :: r) => (goalsD k (.str k :: r)).map unI
  | _ => []
noncomputable def Rd (g : Gm) (d : D) (us : List (Str × Bool)) (gs : List Int) : Prop := RdOk g d us gs ∧ su d = us ∧ sg d = gs
section
variable {g : Gm}
theorem rd_ok (C : Cx g) {k : Str} {r : List D} {us : List (Str × Bool)} {gs : List Int} {t p : List D} (hT : treesOf k (.str k :: r) = t) (hP : partsOf k (.str k :: r) = p) (m : Nat) (hm : r.length = m) (hp' : ((placesAt k).all (fun i => decide (i ≤ m)) && decide (m ≤ 900)) = true) (hls : ∀ p, listAt k = some p → (∃ es, (D.str k :: r)[p]? = some (.lst es) ∧ es.length ≤ 900) ∧ 1 ≤ p ∧ p ≤ r.length)
    (ht : ∀ d ∈ t, treeOk d) (htl : t.length ≤ 10) (hkf : k ≠ "FIELD") (hkm : k ≠ "MAT") (hif : k = "IF" → 1 ≤ r.length)
    (hw : isWord k = true → ∃ x, (D.str k :: r)[1]? = some (.str x)) (hu : isUsed k = true → ∃ es : List Str, (D.str k :: r)[1]? = some (.lst (es.map .str)) ∧ es.length ≤ 900)
    (hdef : k = "DEF" ∨ k = "DEFLINES" → ∃ x, (D.str k :: r)[1]? = some (.str x))
    (hdim : k = "DIM" → ∃ ws : List (Str × D), (D.str k :: r)[1]? = some (.lst (ws.map fun w => .tup [.str w.1, w.2])) ∧ ws.length ≤ 900 ∧ ∀ w ∈ ws, w.1.length ≤ 1000)
    (hpf : D.fines p = true) (hpw : D.wts p ≤ 900)
    (ho : k = "ONGO" → ∃ es, (D.str k :: r)[3]? = some (.lst es) ∧ es.length ≤ 900) (hg : isGoalK k = true → ∃ d, (D.str k :: r)[1]? = some d ∧ d.flat = true)
    (hU : usesOf k (.str k :: r) [] = us.map cU) (hG : goalsD k (.str k :: r) = gs.map .int) : Rd g (.tup (.str k :: r)) us gs := by
  subst hT hP hm
  rw [Bool.and_eq_true, decide_eq_true_eq, List.all_eq_true] at hp'
  have hl := hp'.2
  have hp : ∀ i ∈ placesAt k, i ≤ r.length := fun i hi => by have := hp'.1 i hi; simpa using this
  refine ⟨⟨fun n σ Q a hfn hq => ?_, fun n σ Q a hfn hq => ?_⟩, ?_, ?_⟩
  · refine own_uses_spec C (mu := []) hl hp hls ht htl hkf hif hw hu hdef hdim (by simp) (fun h => absurd h hkm) hpf hpw hfn ?_
    rw [hU, List.map_map]; exact hq
  · refine goals_of_spec C hl ho hg ?_ hfn
    rw [hG]; exact hq
  · show (usesOf k (.str k :: r) []).map toB = us
    rw [hU, toB_cU]
  · show (goalsD k (.str k :: r)).map unI = gs
    rw [hG, List.map_map]
    exact (List.map_congr_left fun x _ => rfl).trans (List.map_id gs)
theorem uses_eq {k : Str} {ds t p : List D} (hT : treesOf k ds = t) (hP : partsOf k ds = p) (w u df dm : Bool) (h : (decide (isWord k = w) && decide (isUsed k = u) && decide (decide (k = "DEF" ∨ k = "DEFLINES") = df) && decide (decide (k = "DIM") = dm) && decide (k ≠ "MAT")) = true) :
    usesOf k ds [] = t.flatMap treeUses ++ (if w then [sd (strD (ds.getD 1 D.none))] else []) ++ (if u then ((lstD (ds.getD 1 D.none)).map fun e => rd (strD e)) else []) ++ (if df then [sd (strD (ds.getD 1 D.none))] else []) ++ (if dm then ((lstD (ds.getD 1 D.none)).map dimU) else []) ++ (readsK 0 p).map rd := by
  simp only [Bool.and_eq_true, decide_eq_true_eq] at h
  obtain ⟨⟨⟨⟨h1, h2⟩, h3⟩, h4⟩, h5⟩ := h
  subst h1 h2 h3 h4
  unfold usesOf
  rw [hT, hP, if_neg h5]
  simp
theorem parts_rest {k : Str} {ds : List D} {idx : List Nat} (m : Nat) (hm : ds.length = m) (h : (decide (k ≠ "IF") && decide (listAt k = none) && decide (restIdx k m = idx)) = true) : partsOf k ds = idx.map fun i => ds.getD i D.none := by
  subst hm
  simp only [Bool.and_eq_true, decide_eq_true_eq] at h
  obtain ⟨⟨h1, h2⟩, h3⟩ := h
  unfold partsOf
  rw [if_neg h1, h2, h3]
theorem trees_none {k : Str} {ds : List D} {idx : List Nat} (h : (decide (listAt k = none) && decide (placesAt k = idx)) = true) : treesOf k ds = idx.map fun i => ds.getD i D.none := by
  simp only [Bool.and_eq_true, decide_eq_true_eq] at h
  obtain ⟨h1, h2⟩ := h
  unfold treesOf
  rw [h1, h2]; simp
noncomputable def wtb : Nat → Nat
  | 0 => 3
  | d + 1 => 2 * wtb d + 5
theorem wtb_pos : ∀ d, 3 ≤ wtb d
  | 0 => Nat.le_refl _
  | d + 1 => by have := wtb_pos d; simp only [wtb]; omega
theorem lit2 : D.fine (.str "name") = true := by decide +kernel
theorem lit3 : D.fine (.str "item") = true := by decide +kernel
theorem lit4 : D.fine (.str "fn") = true := by decide +kernel
theorem lit5 : D.fine (.str "two") = true := by decide +kernel
theorem lit6 : D.fine (.str "neg") = true := by decide +kernel
theorem lit7 : D.fine (.str "+") = true := by decide +kernel
theorem lit8 : D.fine (.str "FNX") = true := by decide +kernel
theorem lit9 : D.fine (.str "value") = true := by decide +kernel
theorem lit10 : D.fine (.str "zone") = true := by decide +kernel
theorem lit11 : D.fine (.str "tab") = true := by decide +kernel
theorem lit12 : D.fine (.str "A") = true := by decide +kernel
theorem lit13 : D.fine (.str "GOTO") = true := by decide +kernel
theorem lit14 : D.fine (.str "B%") = true := by decide +kernel
theorem lit15 : D.fine (.str "C$") = true := by decide +kernel
theorem fine_tup {x : Str} {ds : List D} (hx : D.fine (.str x) = true) (h : D.fines ds = true) : D.fine (.tup (.str x :: ds)) = true := by
  have e : headOk (.str x :: ds) = true := by cases ds <;> rfl
  rw [D.fine, D.fines, hx, h, e]; rfl
theorem fine_lst {ds : List D} (h : D.fines ds = true) : D.fine (.lst ds) = true := by rw [D.fine]; exact h
theorem fines_cons {d : D} {ds : List D} (h1 : D.fine d = true) (h2 : D.fines ds = true) : D.fines (d :: ds) = true := by rw [D.fines, h1, h2]; rfl
theorem fine_lw {w : Str} (h : w ∈ lw) : D.fine (.str w) = true := by
  have := lw_len w h
  rw [D.fine]; exact decide_eq_true (by exact o1 this rfl)
theorem Ex.fine : ∀ (d : Nat) (e : Ex), e.wf d → D.fine e.d = true ∧ D.wt e.d ≤ wtb d
  | d, .whole, _ => by
    refine ⟨by decide +kernel, ?_⟩
    have := wtb_pos d
    simp [Ex.d, D.wt, D.wts]; exact this
  | d, .name w, h => by
    have hw : w ∈ lw := by unfold Ex.wf at h; exact h
    have := wtb_pos d
    refine ⟨fine_tup lit2 (fines_cons (fine_lw hw) rfl), ?_⟩
    simp [Ex.d, D.wt, D.wts]; exact this
  | d + 1, .item w e, h => by
    obtain ⟨hw, he⟩ : w ∈ lw ∧ e.wf d := h
    obtain ⟨h1, h2⟩ := Ex.fine d e he
    refine ⟨fine_tup lit3 (fines_cons (fine_lw hw) (fines_cons (fine_lst (fines_cons h1 rfl)) rfl)), ?_⟩
    simp only [Ex.d, D.wt, D.wts, wtb]; omega
  | d + 1, .fn e, h => by
    obtain ⟨h1, h2⟩ := Ex.fine d e h
    refine ⟨fine_tup lit4 (fines_cons lit8 (fines_cons (fine_lst (fines_cons h1 rfl)) rfl)), ?_⟩
    simp only [Ex.d, D.wt, D.wts, wtb]; omega
  | d + 1, .two a b, h => by
    obtain ⟨ha, hb⟩ : a.wf d ∧ b.wf d := h
    obtain ⟨h1, h2⟩ := Ex.fine d a ha
    obtain ⟨h3, h4⟩ := Ex.fine d b hb
    refine ⟨fine_tup lit5 (fines_cons lit7 (fines_cons h1 (fines_cons (fine_tup lit6 (fines_cons h3 rfl)) rfl))), ?_⟩
    simp only [Ex.d, D.wt, D.wts, wtb]; omega
  | 0, .item w e, h => h.elim
  | 0, .fn e, h => h.elim
  | 0, .two a b, h => h.elim
theorem Ex.fine2 {e : Ex} (h : e.wf 2) : D.fine e.d = true ∧ D.wt e.d ≤ 27 := Ex.fine 2 e h
theorem isTree_val (x : Str) (e : Ex) : isTreeL [.str x, e.d] = false := by cases e <;> rfl
theorem readsK_one (d : D) : readsK 0 [d] = readsD d := by rw [readsK, readsK, List.append_nil]
theorem rd_map (e : Ex) : e.notes.map rd = (e.notes.map rdU).map cU := by
  rw [List.map_map]
  exact List.map_congr_left fun x _ => by show (x, _) = (x, hw false); rfl
theorem Pl.tree {p : Pl} (h : p.wf) : treeOk p.d ∧ treeUses p.d = p.notes.map cU := by
  cases p with
  | name w =>
    have hw : w ∈ lw := h
    have := lw_len w hw
    refine ⟨⟨"name", w, [], rfl, by exact o1 this rfl, rfl, by decide⟩, ?_⟩
    have e : nameL [D.str "name", .str w] = w := by simp [nameL]
    show sd (nameL [D.str "name", .str w]) :: (readsK 0 []).map rd = [cU (w, true)]
    rw [e, readsK]; rfl
  | item w e =>
    obtain ⟨hw, he⟩ : w ∈ lw ∧ e.wf 2 := h
    have := lw_len w hw
    obtain ⟨h1, h2⟩ := Ex.fine2 he
    refine ⟨⟨"item", w, [.lst [e.d]], rfl, by exact o1 this rfl, fines_cons (fine_lst (fines_cons h1 rfl)) rfl, by simp only [D.wt, D.wts]; exact o1 (Nat.add_le_add (Nat.add_le_add (Nat.le_refl _) (Nat.add_le_add h2 (Nat.le_refl _))) (Nat.le_refl _)) rfl⟩, ?_⟩
    have en : nameL [D.str "item", .str w, .lst [e.d]] = w ++ "()" := by simp [nameL, ne1]
    show sd (nameL [D.str "item", .str w, .lst [e.d]]) :: (readsK 0 [.lst [e.d]]).map rd = cU (w ++ "()", true) :: (e.notes.map rdU).map cU
    rw [en, readsK_one, readsD, readsK_one, Ex.reads, rd_map]; rfl
theorem rd_let (C : Cx g) {p : Pl} {e : Ex} (hp : p.wf) (he : e.wf 2) : Rd g (.tup (.str "LET" :: [p.d, e.d])) (Si.let_ p e).notes (Si.let_ p e).goals := by
  obtain ⟨t1, t2⟩ := Pl.tree hp
  obtain ⟨f1, f2⟩ := Ex.fine2 he
  have hT : treesOf "LET" (D.str "LET" :: [p.d, e.d]) = [p.d] := (trees_none (idx := [1]) (by decide +kernel)).trans rfl
  have hP : partsOf "LET" (D.str "LET" :: [p.d, e.d]) = [e.d] := (parts_rest (idx := [2]) 3 rfl (by decide +kernel)).trans rfl
  refine rd_ok C hT hP 2 rfl (by decide +kernel) (fun p h => by rw [show listAt "LET" = none by decide +kernel] at h; cases h) (fun d hd => by rw [List.mem_singleton.mp hd]; exact t1) (by simp) (by decide +kernel) (by decide +kernel) (fun h => absurd h (by decide +kernel)) (fun h => absurd h (by decide +kernel)) (fun h => absurd h (by decide +kernel)) (fun h => absurd h (by decide +kernel)) (fun h => absurd h (by decide +kernel)) (by simp [D.fines, f1]) (by simp only [D.wts]; exact o1 (Nat.add_le_add f2 (Nat.le_refl _)) rfl) (fun h => absurd h (by decide +kernel)) (fun h => absurd h (by decide +kernel)) ?_ (by unfold goalsD; rw [if_neg (by decide +kernel), if_neg (by decide +kernel)]; rfl)
  rw [uses_eq hT hP false false false false (by decide +kernel)]
  simp [readsK, Ex.reads, rd_map, Si.notes, t2, List.map_append]
theorem rd_print (C : Cx g) {e f : Ex} (he : e.wf 2) (hf : f.wf 2) : Rd g (.tup (.str "PRINT" :: [.none, .lst [.tup [.str "value", e.d], .tup [.str "zone"], .tup [.str "tab", f.d]]])) (Si.print e f).notes (Si.print e f).goals := by
  obtain ⟨f1, f2⟩ := Ex.fine2 he
  obtain ⟨f3, f4⟩ := Ex.fine2 hf
  have hT : treesOf "PRINT" (D.str "PRINT" :: [.none, .lst [.tup [.str "value", e.d], .tup [.str "zone"], .tup [.str "tab", f.d]]]) = [] := (trees_none (idx := []) (by decide +kernel)).trans rfl
  have hP : partsOf "PRINT" (D.str "PRINT" :: [.none, .lst [.tup [.str "value", e.d], .tup [.str "zone"], .tup [.str "tab", f.d]]]) = [.none, .lst [.tup [.str "value", e.d], .tup [.str "zone"], .tup [.str "tab", f.d]]] := (parts_rest (idx := [1, 2]) 3 rfl (by decide +kernel)).trans rfl
  refine rd_ok C hT hP 2 rfl (by decide +kernel) (fun p h => by rw [show listAt "PRINT" = none by decide +kernel] at h; cases h) (fun d hd => by cases hd) (by simp) (by decide +kernel) (by decide +kernel) (fun h => absurd h (by decide +kernel)) (fun h => absurd h (by decide +kernel)) (fun h => absurd h (by decide +kernel)) (fun h => absurd h (by decide +kernel)) (fun h => absurd h (by decide +kernel)) (fines_cons rfl (fines_cons (fine_lst (fines_cons (fine_tup lit9 (fines_cons f1 rfl)) (fines_cons (fine_tup lit10 rfl) (fines_cons (fine_tup lit11 (fines_cons f3 rfl)) rfl)))) rfl)) (by simp only [D.wts, D.wt]; exact o1 (Nat.add_le_add (Nat.le_refl _) (Nat.add_le_add (Nat.add_le_add (Nat.le_refl _) (Nat.add_le_add (Nat.add_le_add (Nat.le_refl _) (Nat.add_le_add (Nat.le_refl _) (Nat.add_le_add f2 (Nat.le_refl _)))) (Nat.add_le_add (Nat.add_le_add (Nat.le_refl _) (Nat.add_le_add (Nat.le_refl _) (Nat.le_refl _))) (Nat.add_le_add (Nat.add_le_add (Nat.le_refl _) (Nat.add_le_add (Nat.le_refl _) (Nat.add_le_add f4 (Nat.le_refl _)))) (Nat.le_refl _))))) (Nat.le_refl _))) rfl) (fun h => absurd h (by decide +kernel)) (fun h => absurd h (by decide +kernel)) ?_ (by unfold goalsD; rw [if_neg (by decide +kernel), if_neg (by decide +kernel)]; rfl)
  rw [uses_eq hT hP false false false false (by decide +kernel)]
  have z : isTreeL [D.str "zone"] = false := rfl
  simp [readsK, readsD, Ex.reads, rd_map, isTree_val, z, Si.notes, List.map_append]
theorem rd_goto (C : Cx g) {t : Int} : Rd g (.tup (.str "GOTO" :: [.int t])) (Si.go 0 t).notes (Si.go 0 t).goals := by
  have hT : treesOf "GOTO" (D.str "GOTO" :: [.int t]) = [] := (trees_none (idx := []) (by decide +kernel)).trans rfl
  have hP : partsOf "GOTO" (D.str "GOTO" :: [.int t]) = [.int t] := (parts_rest (idx := [1]) 2 rfl (by decide +kernel)).trans rfl
  refine rd_ok C hT hP 1 rfl (by decide +kernel) (fun p h => by rw [show listAt "GOTO" = none by decide +kernel] at h; cases h) (fun d hd => by cases hd) (by simp) (by decide +kernel) (by decide +kernel) (fun h => absurd h (by decide +kernel)) (fun h => absurd h (by decide +kernel)) (fun h => absurd h (by decide +kernel)) (fun h => absurd h (by decide +kernel)) (fun h => absurd h (by decide +kernel)) (by simp [D.fines, D.fine]) (by simp [D.wts, D.wt]) (fun h => absurd h (by decide +kernel)) (fun _ => ⟨_, rfl, rfl⟩) ?_ (by unfold goalsD; rw [if_neg (by decide +kernel), if_pos (by decide +kernel)]; show (if _ ∧ _ then _ else _) = _; rw [if_neg (fun h => absurd h.1 (by decide +kernel))]; rfl)
  rw [uses_eq hT hP false false false false (by decide +kernel)]
  simp [readsK, readsD, Si.notes]
theorem rd_gosub (C : Cx g) {t : Int} : Rd g (.tup (.str "GOSUB" :: [.int t])) (Si.go 1 t).notes (Si.go 1 t).goals := by
  have hT : treesOf "GOSUB" (D.str "GOSUB" :: [.int t]) = [] := (trees_none (idx := []) (by decide +kernel)).trans rfl
  have hP : partsOf "GOSUB" (D.str "GOSUB" :: [.int t]) = [.int t] := (parts_rest (idx := [1]) 2 rfl (by decide +kernel)).trans rfl
  refine rd_ok C hT hP 1 rfl (by decide +kernel) (fun p h => by rw [show listAt "GOSUB" = none by decide +kernel] at h; cases h) (fun d hd => by cases hd) (by simp) (by decide +kernel) (by decide +kernel) (fun h => absurd h (by decide +kernel)) (fun h => absurd h (by decide +kernel)) (fun h => absurd h (by decide +kernel)) (fun h => absurd h (by decide +kernel)) (fun h => absurd h (by decide +kernel)) (by simp [D.fines, D.fine]) (by simp [D.wts, D.wt]) (fun h => absurd h (by decide +kernel)) (fun _ => ⟨_, rfl, rfl⟩) ?_ (by unfold goalsD; rw [if_neg (by decide +kernel), if_pos (by decide +kernel)]; show (if _ ∧ _ then _ else _) = _; rw [if_neg (fun h => absurd h.1 (by decide +kernel))]; rfl)
  rw [uses_eq hT hP false false false false (by decide +kernel)]
  simp [readsK, readsD, Si.notes]
theorem rd_for (C : Cx g) {e f : Ex} (he : e.wf 2) (hf : f.wf 2) : Rd g (.tup (.str "FOR" :: [.str "A", e.d, f.d, .none])) (Si.for_ e f).notes (Si.for_ e f).goals := by
  obtain ⟨f1, f2⟩ := Ex.fine2 he
  obtain ⟨f3, f4⟩ := Ex.fine2 hf
  have hT : treesOf "FOR" (D.str "FOR" :: [.str "A", e.d, f.d, .none]) = [] := (trees_none (idx := []) (by decide +kernel)).trans rfl
  have hP : partsOf "FOR" (D.str "FOR" :: [.str "A", e.d, f.d, .none]) = [.str "A", e.d, f.d, .none] := (parts_rest (idx := [1, 2, 3, 4]) 5 rfl (by decide +kernel)).trans rfl
  refine rd_ok C hT hP 4 rfl (by decide +kernel) (fun p h => by rw [show listAt "FOR" = none by decide +kernel] at h; cases h) (fun d hd => by cases hd) (by simp) (by decide +kernel) (by decide +kernel) (fun h => absurd h (by decide +kernel)) (fun _ => ⟨_, rfl⟩) (fun h => absurd h (by decide +kernel)) (fun h => absurd h (by decide +kernel)) (fun h => absurd h (by decide +kernel)) (fines_cons lit12 (fines_cons f1 (fines_cons f3 rfl))) (by simp only [D.wts, D.wt]; exact o1 (Nat.add_le_add (Nat.le_refl _) (Nat.add_le_add f2 (Nat.add_le_add f4 (Nat.add_le_add (Nat.le_refl _) (Nat.le_refl _))))) rfl) (fun h => absurd h (by decide +kernel)) (fun h => absurd h (by decide +kernel)) ?_ (by unfold goalsD; rw [if_neg (by decide +kernel), if_neg (by decide +kernel)]; rfl)
  rw [uses_eq hT hP true false false false (by decide +kernel)]
  have z : strD (([D.str "FOR", .str "A", e.d, f.d, .none] : List D).getD 1 D.none) = "A" := rfl
  simp only [z, if_true, if_false]
  simp [readsK, readsD, Ex.reads, rd_map, Si.notes, List.map_append, sd, cU, hw]
theorem rd_next (C : Cx g)  : Rd g (.tup (.str "NEXT" :: [.lst [.str "A"]])) (Si.next).notes (Si.next).goals := by
  have hT : treesOf "NEXT" (D.str "NEXT" :: [.lst [.str "A"]]) = [] := (trees_none (idx := []) (by decide +kernel)).trans rfl
  have hP : partsOf "NEXT" (D.str "NEXT" :: [.lst [.str "A"]]) = [.lst [.str "A"]] := (parts_rest (idx := [1]) 2 rfl (by decide +kernel)).trans rfl
  refine rd_ok C hT hP 1 rfl (by decide +kernel) (fun p h => by rw [show listAt "NEXT" = none by decide +kernel] at h; cases h) (fun d hd => by cases hd) (by simp) (by decide +kernel) (by decide +kernel) (fun h => absurd h (by decide +kernel)) (fun h => absurd h (by decide +kernel)) (fun _ => ⟨["A"], rfl, by decide⟩) (fun h => absurd h (by decide +kernel)) (fun h => absurd h (by decide +kernel)) (by decide +kernel) (by simp [D.wts, D.wt]) (fun h => absurd h (by decide +kernel)) (fun h => absurd h (by decide +kernel)) ?_ (by unfold goalsD; rw [if_neg (by decide +kernel), if_neg (by decide +kernel)]; rfl)
  rw [uses_eq hT hP false true false false (by decide +kernel)]
  have z : (lstD (([D.str "NEXT", .lst [.str "A"]] : List D).getD 1 D.none)) = [.str "A"] := rfl
  simp only [z, if_true, if_false]
  simp [readsK, readsD, Si.notes, rd, strD, cU, hw]
theorem rd_read (C : Cx g) {p q : Pl} (hp : p.wf) (hq : q.wf) : Rd g (.tup (.str "READ" :: [.lst [p.d, q.d]])) (Si.read p q).notes (Si.read p q).goals := by
  obtain ⟨t1, t2⟩ := Pl.tree hp
  obtain ⟨t3, t4⟩ := Pl.tree hq
  have hT : treesOf "READ" (D.str "READ" :: [.lst [p.d, q.d]]) = [p.d, q.d] := by unfold treesOf; rw [show listAt "READ" = some 1 by decide +kernel, show placesAt "READ" = [] by decide +kernel]; rfl
  have hP : partsOf "READ" (D.str "READ" :: [.lst [p.d, q.d]]) = [] := by unfold partsOf; rw [if_neg (by decide +kernel), show listAt "READ" = some 1 by decide +kernel]; rfl
  refine rd_ok C hT hP 1 rfl (by decide +kernel) (fun p h => by rw [show listAt "READ" = some 1 by decide +kernel] at h; cases h; exact ⟨⟨_, rfl, by simp⟩, by decide, by simp⟩) (fun d hd => by simp only [List.mem_cons, List.not_mem_nil, or_false] at hd; rcases hd with rfl | rfl <;> assumption) (by simp) (by decide +kernel) (by decide +kernel) (fun h => absurd h (by decide +kernel)) (fun h => absurd h (by decide +kernel)) (fun h => absurd h (by decide +kernel)) (fun h => absurd h (by decide +kernel)) (fun h => absurd h (by decide +kernel)) (rfl) (by simp [D.wts]) (fun h => absurd h (by decide +kernel)) (fun h => absurd h (by decide +kernel)) ?_ (by unfold goalsD; rw [if_neg (by decide +kernel), if_neg (by decide +kernel)]; rfl)
  rw [uses_eq hT hP false false false false (by decide +kernel)]
  simp [readsK, Si.notes, t2, t4, List.map_append]
theorem rd_input (C : Cx g) {p : Pl} (hp : p.wf) : Rd g (.tup (.str "INPUT" :: [.none, .str "how", .bool true, .lst [p.d]])) (Si.input p).notes (Si.input p).goals := by
  obtain ⟨t1, t2⟩ := Pl.tree hp
  have hT : treesOf "INPUT" (D.str "INPUT" :: [.none, .str "how", .bool true, .lst [p.d]]) = [p.d] := by unfold treesOf; rw [show listAt "INPUT" = some 4 by decide +kernel, show placesAt "INPUT" = [] by decide +kernel]; rfl
  have hP : partsOf "INPUT" (D.str "INPUT" :: [.none, .str "how", .bool true, .lst [p.d]]) = [.none, .str "how", .bool true] := by unfold partsOf; rw [if_neg (by decide +kernel), show listAt "INPUT" = some 4 by decide +kernel]; rfl
  refine rd_ok C hT hP 4 rfl (by decide +kernel) (fun p h => by rw [show listAt "INPUT" = some 4 by decide +kernel] at h; cases h; exact ⟨⟨_, rfl, by simp⟩, by decide, by simp⟩) (fun d hd => by rw [List.mem_singleton.mp hd]; exact t1) (by simp) (by decide +kernel) (by decide +kernel) (fun h => absurd h (by decide +kernel)) (fun h => absurd h (by decide +kernel)) (fun h => absurd h (by decide +kernel)) (fun h => absurd h (by decide +kernel)) (fun h => absurd h (by decide +kernel)) (by decide +kernel) (by simp [D.wts, D.wt]) (fun h => absurd h (by decide +kernel)) (fun h => absurd h (by decide +kernel)) ?_ (by unfold goalsD; rw [if_neg (by decide +kernel), if_neg (by decide +kernel)]; rfl)
  rw [uses_eq hT hP false false false false (by decide +kernel)]
  simp [readsK, readsD, Si.notes, t2]
theorem rd_ongo (C : Cx g) {e : Ex} {t u : Int} (he : e.wf 2) : Rd g (.tup (.str "ONGO" :: [.str "GOTO", e.d, .lst [.int t, .int u]])) (Si.ongo e t u).notes (Si.ongo e t u).goals := by
  obtain ⟨f1, f2⟩ := Ex.fine2 he
  have hT : treesOf "ONGO" (D.str "ONGO" :: [.str "GOTO", e.d, .lst [.int t, .int u]]) = [] := (trees_none (idx := []) (by decide +kernel)).trans rfl
  have hP : partsOf "ONGO" (D.str "ONGO" :: [.str "GOTO", e.d, .lst [.int t, .int u]]) = [.str "GOTO", e.d, .lst [.int t, .int u]] := (parts_rest (idx := [1, 2, 3]) 4 rfl (by decide +kernel)).trans rfl
  refine rd_ok C hT hP 3 rfl (by decide +kernel) (fun p h => by rw [show listAt "ONGO" = none by decide +kernel] at h; cases h) (fun d hd => by cases hd) (by simp) (by decide +kernel) (by decide +kernel) (fun h => absurd h (by decide +kernel)) (fun h => absurd h (by decide +kernel)) (fun h => absurd h (by decide +kernel)) (fun h => absurd h (by decide +kernel)) (fun h => absurd h (by decide +kernel)) (fines_cons lit13 (fines_cons f1 rfl)) (by simp only [D.wts, D.wt]; exact o1 (Nat.add_le_add (Nat.le_refl _) (Nat.add_le_add f2 (Nat.add_le_add (Nat.add_le_add (Nat.le_refl _) (Nat.add_le_add (Nat.le_refl _) (Nat.add_le_add (Nat.le_refl _) (Nat.le_refl _)))) (Nat.le_refl _)))) rfl) (fun _ => ⟨_, rfl, by simp⟩) (fun h => absurd h (by decide +kernel)) ?_ (by unfold goalsD; rw [if_pos rfl]; rfl)
  rw [uses_eq hT hP false false false false (by decide +kernel)]
  simp [readsK, readsD, Ex.reads, rd_map, Si.notes]
theorem rd_dim (C : Cx g) {e : Ex} (he : e.wf 2) : Rd g (.tup (.str "DIM" :: [.lst [.tup [.str "B%", .lst [e.d]]]])) (Si.dim e).notes (Si.dim e).goals := by
  obtain ⟨f1, f2⟩ := Ex.fine2 he
  have hT : treesOf "DIM" (D.str "DIM" :: [.lst [.tup [.str "B%", .lst [e.d]]]]) = [] := (trees_none (idx := []) (by decide +kernel)).trans rfl
  have hP : partsOf "DIM" (D.str "DIM" :: [.lst [.tup [.str "B%", .lst [e.d]]]]) = [.lst [.tup [.str "B%", .lst [e.d]]]] := (parts_rest (idx := [1]) 2 rfl (by decide +kernel)).trans rfl
  refine rd_ok C hT hP 1 rfl (by decide +kernel) (fun p h => by rw [show listAt "DIM" = none by decide +kernel] at h; cases h) (fun d hd => by cases hd) (by simp) (by decide +kernel) (by decide +kernel) (fun h => absurd h (by decide +kernel)) (fun h => absurd h (by decide +kernel)) (fun h => absurd h (by decide +kernel)) (fun h => absurd h (by decide +kernel)) (fun _ => ⟨[("B%", .lst [e.d])], rfl, by simp, fun w hw => by rw [List.mem_singleton.mp hw]; show ("B%" : Str).length ≤ 1000; decide +kernel⟩) (fines_cons (fine_lst (fines_cons (fine_tup lit14 (fines_cons (fine_lst (fines_cons f1 rfl)) rfl)) rfl)) rfl) (by simp only [D.wts, D.wt]; exact o1 (Nat.add_le_add (Nat.add_le_add (Nat.le_refl _) (Nat.add_le_add (Nat.add_le_add (Nat.le_refl _) (Nat.add_le_add (Nat.le_refl _) (Nat.add_le_add (Nat.add_le_add (Nat.le_refl _) (Nat.add_le_add f2 (Nat.le_refl _))) (Nat.le_refl _)))) (Nat.le_refl _))) (Nat.le_refl _)) rfl) (fun h => absurd h (by decide +kernel)) (fun h => absurd h (by decide +kernel)) ?_ (by unfold goalsD; rw [if_neg (by decide +kernel), if_neg (by decide +kernel)]; rfl)
  rw [uses_eq hT hP false false false true (by decide +kernel)]
  have z : (lstD (([D.str "DIM", .lst [.tup [.str "B%", .lst [e.d]]]] : List D).getD 1 D.none)) = [.tup [.str "B%", .lst [e.d]]] := rfl
  have z2 : isTreeL [D.str "B%", .lst [e.d]] = false := rfl
  have z3 : ("B%" : Str) ++ "()" = "B%()" := by decide +kernel
  simp only [z, if_true, if_false]
  simp [readsK, readsD, Ex.reads, rd_map, Si.notes, z2, dimU, z3, sd, cU, hw]
theorem rd_def (C : Cx g) {e : Ex} (he : e.wf 2) : Rd g (.tup (.str "DEF" :: [.str "FNX", .lst [.str "C$"], e.d])) (Si.def_ e).notes (Si.def_ e).goals := by
  obtain ⟨f1, f2⟩ := Ex.fine2 he
  have hT : treesOf "DEF" (D.str "DEF" :: [.str "FNX", .lst [.str "C$"], e.d]) = [] := (trees_none (idx := []) (by decide +kernel)).trans rfl
  have hP : partsOf "DEF" (D.str "DEF" :: [.str "FNX", .lst [.str "C$"], e.d]) = [.str "FNX", .lst [.str "C$"], e.d] := (parts_rest (idx := [1, 2, 3]) 4 rfl (by decide +kernel)).trans rfl
  refine rd_ok C hT hP 3 rfl (by decide +kernel) (fun p h => by rw [show listAt "DEF" = none by decide +kernel] at h; cases h) (fun d hd => by cases hd) (by simp) (by decide +kernel) (by decide +kernel) (fun h => absurd h (by decide +kernel)) (fun h => absurd h (by decide +kernel)) (fun h => absurd h (by decide +kernel)) (fun _ => ⟨_, rfl⟩) (fun h => absurd h (by decide +kernel)) (fines_cons lit8 (fines_cons (fine_lst (fines_cons lit15 rfl)) (fines_cons f1 rfl))) (by simp only [D.wts, D.wt]; exact o1 (Nat.add_le_add (Nat.le_refl _) (Nat.add_le_add (Nat.add_le_add (Nat.le_refl _) (Nat.add_le_add (Nat.le_refl _) (Nat.le_refl _))) (Nat.add_le_add f2 (Nat.le_refl _)))) rfl) (fun h => absurd h (by decide +kernel)) (fun h => absurd h (by decide +kernel)) ?_ (by unfold goalsD; rw [if_neg (by decide +kernel), if_neg (by decide +kernel)]; rfl)
  rw [uses_eq hT hP false false true false (by decide +kernel)]
  have z : strD (([D.str "DEF", .str "FNX", .lst [.str "C$"], e.d] : List D).getD 1 D.none) = "FNX" := rfl
  simp only [z, if_true, if_false]
  simp [readsK, readsD, Ex.reads, rd_map, Si.notes, sd, cU, hw]
theorem rd_swap (C : Cx g) {p q : Pl} (hp : p.wf) (hq : q.wf) : Rd g (.tup (.str "SWAP" :: [p.d, q.d])) (Si.swap p q).notes (Si.swap p q).goals := by
  obtain ⟨t1, t2⟩ := Pl.tree hp
  obtain ⟨t3, t4⟩ := Pl.tree hq
  have hT : treesOf "SWAP" (D.str "SWAP" :: [p.d, q.d]) = [p.d, q.d] := (trees_none (idx := [1, 2]) (by decide +kernel)).trans rfl
  have hP : partsOf "SWAP" (D.str "SWAP" :: [p.d, q.d]) = [] := (parts_rest (idx := []) 3 rfl (by decide +kernel)).trans rfl
  refine rd_ok C hT hP 2 rfl (by decide +kernel) (fun p h => by rw [show listAt "SWAP" = none by decide +kernel] at h; cases h) (fun d hd => by simp only [List.mem_cons, List.not_mem_nil, or_false] at hd; rcases hd with rfl | rfl <;> assumption) (by simp) (by decide +kernel) (by decide +kernel) (fun h => absurd h (by decide +kernel)) (fun h => absurd h (by decide +kernel)) (fun h => absurd h (by decide +kernel)) (fun h => absurd h (by decide +kernel)) (fun h => absurd h (by decide +kernel)) (rfl) (by simp [D.wts]) (fun h => absurd h (by decide +kernel)) (fun h => absurd h (by decide +kernel)) ?_ (by unfold goalsD; rw [if_neg (by decide +kernel), if_neg (by decide +kernel)]; rfl)
  rw [uses_eq hT hP false false false false (by decide +kernel)]
  simp [readsK, Si.notes, t2, t4, List.map_append]
theorem rd_fix0 (C : Cx g)  : Rd g (.tup (.str "RESTORE" :: [.none])) (Si.fix 0).notes (Si.fix 0).goals := by
  have hT : treesOf "RESTORE" (D.str "RESTORE" :: [.none]) = [] := (trees_none (idx := []) (by decide +kernel)).trans rfl
  have hP : partsOf "RESTORE" (D.str "RESTORE" :: [.none]) = [.none] := (parts_rest (idx := [1]) 2 rfl (by decide +kernel)).trans rfl
  refine rd_ok C hT hP 1 rfl (by decide +kernel) (fun p h => by rw [show listAt "RESTORE" = none by decide +kernel] at h; cases h) (fun d hd => by cases hd) (by simp) (by decide +kernel) (by decide +kernel) (fun h => absurd h (by decide +kernel)) (fun h => absurd h (by decide +kernel)) (fun h => absurd h (by decide +kernel)) (fun h => absurd h (by decide +kernel)) (fun h => absurd h (by decide +kernel)) (by decide +kernel) (by simp [D.wts, D.wt]) (fun h => absurd h (by decide +kernel)) (fun _ => ⟨_, rfl, rfl⟩) ?_ (by unfold goalsD; rw [if_neg (by decide +kernel), if_pos (by decide +kernel)]; rfl)
  rw [uses_eq hT hP false false false false (by decide +kernel)]
  simp [readsK, readsD, Si.notes]
theorem rd_fix3 (C : Cx g)  : Rd g (.tup (.str "RETURN" :: [.none])) (Si.fix 3).notes (Si.fix 3).goals := by
  have hT : treesOf "RETURN" (D.str "RETURN" :: [.none]) = [] := (trees_none (idx := []) (by decide +kernel)).trans rfl
  have hP : partsOf "RETURN" (D.str "RETURN" :: [.none]) = [.none] := (parts_rest (idx := [1]) 2 rfl (by decide +kernel)).trans rfl
  refine rd_ok C hT hP 1 rfl (by decide +kernel) (fun p h => by rw [show listAt "RETURN" = none by decide +kernel] at h; cases h) (fun d hd => by cases hd) (by simp) (by decide +kernel) (by decide +kernel) (fun h => absurd h (by decide +kernel)) (fun h => absurd h (by decide +kernel)) (fun h => absurd h (by decide +kernel)) (fun h => absurd h (by decide +kernel)) (fun h => absurd h (by decide +kernel)) (by decide +kernel) (by simp [D.wts, D.wt]) (fun h => absurd h (by decide +kernel)) (fun _ => ⟨_, rfl, rfl⟩) ?_ (by unfold goalsD; rw [if_neg (by decide +kernel), if_pos (by decide +kernel)]; rfl)
  rw [uses_eq hT hP false false false false (by decide +kernel)]
  simp [readsK, readsD, Si.notes]
theorem rd_fix1 (C : Cx g)  : Rd g (.tup (.str "ONERR" :: [.int 0])) (Si.fix 1).notes (Si.fix 1).goals := by
  have hT : treesOf "ONERR" (D.str "ONERR" :: [.int 0]) = [] := (trees_none (idx := []) (by decide +kernel)).trans rfl
  have hP : partsOf "ONERR" (D.str "ONERR" :: [.int 0]) = [.int 0] := (parts_rest (idx := [1]) 2 rfl (by decide +kernel)).trans rfl
  refine rd_ok C hT hP 1 rfl (by decide +kernel) (fun p h => by rw [show listAt "ONERR" = none by decide +kernel] at h; cases h) (fun d hd => by cases hd) (by simp) (by decide +kernel) (by decide +kernel) (fun h => absurd h (by decide +kernel)) (fun h => absurd h (by decide +kernel)) (fun h => absurd h (by decide +kernel)) (fun h => absurd h (by decide +kernel)) (fun h => absurd h (by decide +kernel)) (by decide +kernel) (by simp [D.wts, D.wt]) (fun h => absurd h (by decide +kernel)) (fun _ => ⟨_, rfl, rfl⟩) ?_ (by unfold goalsD; rw [if_neg (by decide +kernel), if_pos (by decide +kernel)]; show (if _ ∧ _ then _ else _) = _; rw [if_pos ⟨rfl, rfl⟩]; rfl)
  rw [uses_eq hT hP false false false false (by decide +kernel)]
  simp [readsK, readsD, Si.notes]
theorem rd_fix2 (C : Cx g)  : Rd g (.tup (.str "ERASE" :: [.lst []])) (Si.fix 2).notes (Si.fix 2).goals := by
  have hT : treesOf "ERASE" (D.str "ERASE" :: [.lst []]) = [] := (trees_none (idx := []) (by decide +kernel)).trans rfl
  have hP : partsOf "ERASE" (D.str "ERASE" :: [.lst []]) = [.lst []] := (parts_rest (idx := [1]) 2 rfl (by decide +kernel)).trans rfl
  refine rd_ok C hT hP 1 rfl (by decide +kernel) (fun p h => by rw [show listAt "ERASE" = none by decide +kernel] at h; cases h) (fun d hd => by cases hd) (by simp) (by decide +kernel) (by decide +kernel) (fun h => absurd h (by decide +kernel)) (fun h => absurd h (by decide +kernel)) (fun _ => ⟨[], rfl, by decide⟩) (fun h => absurd h (by decide +kernel)) (fun h => absurd h (by decide +kernel)) (by decide +kernel) (by simp [D.wts, D.wt]) (fun h => absurd h (by decide +kernel)) (fun h => absurd h (by decide +kernel)) ?_ (by unfold goalsD; rw [if_neg (by decide +kernel), if_neg (by decide +kernel)]; rfl)
  rw [uses_eq hT hP false true false false (by decide +kernel)]
  have z : (lstD (([D.str "ERASE", .lst []] : List D).getD 1 D.none)) = [] := rfl
  simp only [z, if_true, if_false]
  simp [readsK, readsD, Si.notes]
theorem rd_res0 (C : Cx g) {t : Int} : Rd g (.tup (.str "RESTORE" :: [.int t])) (Si.res 0 t).notes (Si.res 0 t).goals := by
  have hT : treesOf "RESTORE" (D.str "RESTORE" :: [.int t]) = [] := (trees_none (idx := []) (by decide +kernel)).trans rfl
  have hP : partsOf "RESTORE" (D.str "RESTORE" :: [.int t]) = [.int t] := (parts_rest (idx := [1]) 2 rfl (by decide +kernel)).trans rfl
  refine rd_ok C hT hP 1 rfl (by decide +kernel) (fun p h => by rw [show listAt "RESTORE" = none by decide +kernel] at h; cases h) (fun d hd => by cases hd) (by simp) (by decide +kernel) (by decide +kernel) (fun h => absurd h (by decide +kernel)) (fun h => absurd h (by decide +kernel)) (fun h => absurd h (by decide +kernel)) (fun h => absurd h (by decide +kernel)) (fun h => absurd h (by decide +kernel)) (by simp [D.fines, D.fine]) (by simp [D.wts, D.wt]) (fun h => absurd h (by decide +kernel)) (fun _ => ⟨_, rfl, rfl⟩) ?_ (by unfold goalsD; rw [if_neg (by decide +kernel), if_pos (by decide +kernel)]; show (if _ ∧ _ then _ else _) = _; rw [if_neg (fun h => absurd h.1 (by decide +kernel))]; rfl)
  rw [uses_eq hT hP false false false false (by decide +kernel)]
  simp [readsK, readsD, Si.notes]
theorem rd_res2 (C : Cx g) {t : Int} : Rd g (.tup (.str "RESUME" :: [.int t])) (Si.res 2 t).notes (Si.res 2 t).goals := by
  have hT : treesOf "RESUME" (D.str "RESUME" :: [.int t]) = [] := (trees_none (idx := []) (by decide +kernel)).trans rfl
  have hP : partsOf "RESUME" (D.str "RESUME" :: [.int t]) = [.int t] := (parts_rest (idx := [1]) 2 rfl (by decide +kernel)).trans rfl
  refine rd_ok C hT hP 1 rfl (by decide +kernel) (fun p h => by rw [show listAt "RESUME" = none by decide +kernel] at h; cases h) (fun d hd => by cases hd) (by simp) (by decide +kernel) (by decide +kernel) (fun h => absurd h (by decide +kernel)) (fun h => absurd h (by decide +kernel)) (fun h => absurd h (by decide +kernel)) (fun h => absurd h (by decide +kernel)) (fun h => absurd h (by decide +kernel)) (by simp [D.fines, D.fine]) (by simp [D.wts, D.wt]) (fun h => absurd h (by decide +kernel)) (fun _ => ⟨_, rfl, rfl⟩) ?_ (by unfold goalsD; rw [if_neg (by decide +kernel), if_pos (by decide +kernel)]; show (if _ ∧ _ then _ else _) = _; rw [if_neg (fun h => absurd h.1 (by decide +kernel))]; rfl)
  rw [uses_eq hT hP false false false false (by decide +kernel)]
  simp [readsK, readsD, Si.notes]
theorem rd_res1 (C : Cx g) {t : Int} (ht : t ≠ 0) : Rd g (.tup (.str "ONERR" :: [.int t])) (Si.res 1 t).notes (Si.res 1 t).goals := by
  have hT : treesOf "ONERR" (D.str "ONERR" :: [.int t]) = [] := (trees_none (idx := []) (by decide +kernel)).trans rfl
  have hP : partsOf "ONERR" (D.str "ONERR" :: [.int t]) = [.int t] := (parts_rest (idx := [1]) 2 rfl (by decide +kernel)).trans rfl
  refine rd_ok C hT hP 1 rfl (by decide +kernel) (fun p h => by rw [show listAt "ONERR" = none by decide +kernel] at h; cases h) (fun d hd => by cases hd) (by simp) (by decide +kernel) (by decide +kernel) (fun h => absurd h (by decide +kernel)) (fun h => absurd h (by decide +kernel)) (fun h => absurd h (by decide +kernel)) (fun h => absurd h (by decide +kernel)) (fun h => absurd h (by decide +kernel)) (by simp [D.fines, D.fine]) (by simp [D.wts, D.wt]) (fun h => absurd h (by decide +kernel)) (fun _ => ⟨_, rfl, rfl⟩) ?_ (by unfold goalsD; rw [if_neg (by decide +kernel), if_pos (by decide +kernel)]; show (if _ ∧ _ then _ else _) = _; rw [if_neg (fun h => ht h.2)]; rfl)
  rw [uses_eq hT hP false false false false (by decide +kernel)]
  simp [readsK, readsD, Si.notes]
theorem rd_if (C : Cx g) {e : Ex} {xs ys : List D} (he : e.wf 2) : Rd g (.tup [.str "IF", e.d, .lst xs, .lst ys]) (e.notes.map rdU) [] := by
  obtain ⟨f1, f2⟩ := Ex.fine2 he
  have hT : treesOf "IF" [.str "IF", e.d, .lst xs, .lst ys] = [] := (trees_none (idx := []) (by decide +kernel)).trans rfl
  have hP : partsOf "IF" [.str "IF", e.d, .lst xs, .lst ys] = [e.d] := by unfold partsOf; rw [if_pos rfl]; rfl
  refine rd_ok C hT hP 3 rfl (by decide +kernel) (fun p h => by rw [show listAt "IF" = none by decide +kernel] at h; cases h) (fun d hd => by cases hd) (by simp) (by decide +kernel) (by decide +kernel) (fun _ => by simp) (fun h => absurd h (by decide +kernel)) (fun h => absurd h (by decide +kernel)) (fun h => absurd h (by decide +kernel)) (fun h => absurd h (by decide +kernel)) (by simp [D.fines, f1]) (by simp only [D.wts]; exact o1 (Nat.add_le_add f2 (Nat.le_refl _)) rfl) (fun h => absurd h (by decide +kernel)) (fun h => absurd h (by decide +kernel)) ?_ (by unfold goalsD; rw [if_neg (by decide +kernel), if_neg (by decide +kernel)]; rfl)
  rw [uses_eq hT hP false false false false (by decide +kernel)]
  simp [readsK, Ex.reads, rd_map]
theorem lg_ne {t : Int} (h : t ∈ lg) : t ≠ 0 := by
  simp only [lg, List.mem_cons, List.not_mem_nil, or_false] at h
  omega
theorem Si.rd (C : Cx g) : ∀ (s : Si), s.wf → Rd g s.d s.notes s.goals
  | .let_ p e, h => rd_let C h.1 h.2
  | .print e f, h => rd_print C h.1 h.2
  | .go k t, h => by
    by_cases e : k = 0
    · subst e; exact rd_goto C
    · have h1 : (Si.go k t).d = (Si.go 1 t).d := by simp [Si.d, goK, e]
      rw [h1]; exact rd_gosub C
  | .for_ e f, h => rd_for C h.1 h.2
  | .next, _ => rd_next C
  | .read p q, h => rd_read C h.1 h.2
  | .input p, h => rd_input C h
  | .ongo e t u, h => rd_ongo C h.1
  | .dim e, h => rd_dim C h
  | .def_ e, h => rd_def C h
  | .swap p q, h => rd_swap C h.1 h.2
  | .fix k, _ => by
    by_cases e0 : k = 0
    · subst e0; exact rd_fix0 C
    by_cases e1 : k = 1
    · subst e1; exact rd_fix1 C
    by_cases e2 : k = 2
    · subst e2; exact rd_fix2 C
    have h1 : (Si.fix k).d = (Si.fix 3).d := by simp [Si.d, fixD, e0, e1, e2]
    rw [h1]; exact rd_fix3 C
  | .res k t, h => by
    by_cases e0 : k = 0
    · subst e0; exact rd_res0 C
    by_cases e1 : k = 1
    · subst e1; exact rd_res1 C (lg_ne h)
    have h1 : (Si.res k t).d = (Si.res 2 t).d := by simp [Si.d, resK, e0, e1]
    rw [h1]; exact rd_res2 C
end
end
set_option tactic.hygienic false
section

noncomputable def dA {K M : Type} (enc : M → D) (T : List (K × List M)) : List (K × AV) := T.map fun p => (p.1, AV.d (.lst (p.2.map enc)))
noncomputable def atK {K M : Type} [DecidableEq K] (T : List (K × List M)) (k : K) : List M := match T.find? (fun p => p.1 = k) with
  | some p => p.2
  | none => []
section
variable {K M : Type} [DecidableEq K] [DecidableEq M]
theorem look_atK (enc : M → D) (T : List (K × List M)) (k : K) : (look (dA enc T) k).getD (.d (.lst [])) = .d (.lst ((atK T k).map enc)) := by
  unfold dA atK
  rw [look_map (fun q : K × List M => AV.d (.lst (q.2.map enc))) T k]
  cases T.find? (fun p => p.1 = k) <;> rfl
theorem store_note (enc : M → D) {T : List (K × List M)} (hn : (T.map (·.1)).Nodup) (k : K) (m : M) : store (dA enc T) k (.d (.lst ((if m ∈ atK T k then atK T k else atK T k ++ [m]).map enc))) = dA enc (noteT T k m) := by
  unfold noteT atK
  cases h : T.find? (fun p => p.1 = k) with
  | none =>
    have hno : ((dA enc T).any fun kv => decide (kv.1 = k)) = false := by
      unfold dA
      rw [List.any_map, List.any_eq_false]
      intro q hq e
      have := List.find?_eq_none.mp h q hq
      exact this e
    unfold store
    rw [hno]
    simp [dA]
  | some p =>
    have hpm := List.mem_of_find?_eq_some h
    have hpk : p.1 = k := by have := List.find?_some h; simpa using this
    have hyes : ((dA enc T).any fun kv => decide (kv.1 = k)) = true := by
      unfold dA
      rw [List.any_map, List.any_eq_true]
      exact ⟨p, hpm, decide_eq_true hpk⟩
    unfold store
    rw [hyes]
    simp only [if_true]
    unfold dA
    rw [List.map_map]
    by_cases hm : m ∈ p.2
    · simp only [if_pos hm]
      refine List.map_congr_left fun q hq => ?_
      show (if q.1 = k then (q.1, AV.d (.lst (p.2.map enc))) else (q.1, AV.d (.lst (q.2.map enc)))) = (q.1, AV.d (.lst (q.2.map enc)))
      by_cases hk : q.1 = k
      · rw [if_pos hk, nodup_inj hn p hpm q hq (by rw [hk, hpk])]
      · rw [if_neg hk]
    · simp only [if_neg hm, List.map_map]
      refine List.map_congr_left fun q hq => ?_
      show (if q.1 = k then (q.1, AV.d (.lst ((p.2 ++ [m]).map enc))) else (q.1, AV.d (.lst (q.2.map enc)))) = ((if q.1 = k then (q.1, q.2 ++ [m]) else q).1, AV.d (.lst ((if q.1 = k then (q.1, q.2 ++ [m]) else q).2.map enc)))
      by_cases hk : q.1 = k
      · rw [if_pos hk, if_pos hk, nodup_inj hn p hpm q hq (by rw [hk, hpk])]
      · rw [if_neg hk, if_neg hk]
theorem atK_len (es : List (K × M)) (k : K) : (atK (bookOf es) k).length ≤ es.length := by
  unfold atK
  cases h : (bookOf es).find? (fun p => p.1 = k) with
  | none => simp
  | some p => exact (bookOf_len es).2 p (List.mem_of_find?_eq_some h)
end
section
variable {g : Gm} {n : Nat} {σ : St} {Q : AV → St → Prop} {env : Env} {ρ : Ro}
theorem lnotedN (C : Cx g) {nb : Addr} {es : List (Str × (Int × Bool))} {k : Str} {m : Int × Bool} (hb : σ nb = some (.dcts (dA eMark (bookOf es)))) (hl : es.length ≤ 900)
    (hq : Q (.d .none) (upd σ nb (.dcts (dA eMark (bookOf (es ++ [(k, m)])))))) {a : Addr} (hfn : FnAt g (dAt 29) a) : WC g (n + 1) (.ref a) [.cell nb, .d (.str k), .d (eMark m)] σ Q := by
  refine WC.fnR ["book", "key", "mark"] [("book", .cell nb), ("key", .d (.str k)), ("mark", .d (eMark m))] rfl hfn C.lim rfl (by intro pm cd doc vs hv; obtain ⟨_, _, _, e⟩ := len3 hv; subst e; exact rfl) (by decide +kernel) fun L cd => ?_
  have hnd := bookOf_nodup es
  have hal := atK_len es k
  have hTl := (bookOf_len es).1
  rw [bookOf_snoc] at hq
  generalize hT : bookOf es = T at *
  refine WSs.cons ?_
  refine WS.assign (by repeat first | exact Off.nil | with_reducible apply Off.skip | (apply Off.keepD; kernel_rfl)) ?_
  refine WE.meth "dict" "dict.get" PySem.F.plainAttrs_dict PySem.F.slot_dict_get PySem.F.type_dict_get ?_
  refine WE.name (by with_reducible repeat first | exact List.mem_cons_self | apply List.mem_cons_of_mem) ⟨DictV.ty (DictV.cellS hb), ?_⟩
  walk_at "s"
  refine WE.list ?_
  walk_at "s"
  refine ⟨[], rfl, by simp, ?_⟩
  walk_at "s"
  refine WC.dictGet (DictV.cellS hb) KeyV.str ?_
  rw [look_atK]
  refine WSs.cons ?_
  refine WS.setItem ?_
  refine WE.ifexp ?_
  walk_at "s"
  refine W2.inL (enc_mark.ok m) (by rw [D.flat]; exact enc_mark.flats _) (enc_mark.lay _) (WTr.bool ?_)
  have hh : hasM ((atK T k).map eMark) (eMark m) = true ↔ m ∈ atK T k := enc_mark.has _ _
  have hst := store_note eMark hnd k m
  by_cases hm : m ∈ atK T k
  · have hh' : (((atK T k).map eMark).any fun d => PyData.eqv d.py (eMark m).py) = true := hh.mpr hm
    rw [if_pos hh']
    rw [if_pos hm] at hst
    walk_at "s"
    refine WSet.dctS hb (by unfold dA; rw [List.length_map]; exact o1 (Nat.le_trans hTl hl) rfl) ?_
    rw [hst]
    exact WSs.nil hq
  · have hh' : ¬ (((atK T k).map eMark).any fun d => PyData.eqv d.py (eMark m).py) = true := fun x => hm (hh.mp x)
    rw [if_neg hh']
    rw [if_neg hm] at hst
    walk_at "s"
    refine WE.list ?_
    walk_at "s"
    refine ⟨[eMark m], rfl, by simp, ?_⟩
    refine W2.addL (by rw [List.length_map]; exact o1 (Nat.add_le_add (Nat.le_trans hal hl) (oC oN)) rfl) ?_
    walk_at "s"
    refine WSet.dctS hb (by unfold dA; rw [List.length_map]; exact o1 (Nat.le_trans hTl hl) rfl) ?_
    rw [show (atK T k).map eMark ++ [eMark m] = (atK T k ++ [m]).map eMark by rw [List.map_append]; rfl, hst]
    exact WSs.nil hq
theorem lnotedG (C : Cx g) {nb : Addr} {es : List (Int × Int)} {k : Int} {m : Int} (hb : σ nb = some (.dcti (dA D.int (bookOf es)))) (hl : es.length ≤ 900)
    (hq : Q (.d .none) (upd σ nb (.dcti (dA D.int (bookOf (es ++ [(k, m)])))))) {a : Addr} (hfn : FnAt g (dAt 29) a) : WC g (n + 1) (.ref a) [.cell nb, .d (.int k), .d (D.int m)] σ Q := by
  refine WC.fnR ["book", "key", "mark"] [("book", .cell nb), ("key", .d (.int k)), ("mark", .d (D.int m))] rfl hfn C.lim rfl (by intro pm cd doc vs hv; obtain ⟨_, _, _, e⟩ := len3 hv; subst e; exact rfl) (by decide +kernel) fun L cd => ?_
  have hnd := bookOf_nodup es
  have hal := atK_len es k
  have hTl := (bookOf_len es).1
  rw [bookOf_snoc] at hq
  generalize hT : bookOf es = T at *
  refine WSs.cons ?_
  refine WS.assign (by repeat first | exact Off.nil | with_reducible apply Off.skip | (apply Off.keepD; kernel_rfl)) ?_
  refine WE.meth "dict" "dict.get" PySem.F.plainAttrs_dict PySem.F.slot_dict_get PySem.F.type_dict_get ?_
  refine WE.name (by with_reducible repeat first | exact List.mem_cons_self | apply List.mem_cons_of_mem) ⟨DictV.ty (DictV.cellI hb), ?_⟩
  walk_at "s"
  refine WE.list ?_
  walk_at "s"
  refine ⟨[], rfl, by simp, ?_⟩
  walk_at "s"
  refine WC.dictGet (DictV.cellI hb) KeyV.int ?_
  rw [look_atK]
  refine WSs.cons ?_
  refine WS.setItem ?_
  refine WE.ifexp ?_
  walk_at "s"
  refine W2.inL (enc_int.ok m) (by rw [D.flat]; exact enc_int.flats _) (enc_int.lay _) (WTr.bool ?_)
  have hh : hasM ((atK T k).map D.int) (D.int m) = true ↔ m ∈ atK T k := enc_int.has _ _
  have hst := store_note D.int hnd k m
  by_cases hm : m ∈ atK T k
  · have hh' : (((atK T k).map D.int).any fun d => PyData.eqv d.py (D.int m).py) = true := hh.mpr hm
    rw [if_pos hh']
    rw [if_pos hm] at hst
    walk_at "s"
    refine WSet.dctI hb (by unfold dA; rw [List.length_map]; exact o1 (Nat.le_trans hTl hl) rfl) ?_
    rw [hst]
    exact WSs.nil hq
  · have hh' : ¬ (((atK T k).map D.int).any fun d => PyData.eqv d.py (D.int m).py) = true := fun x => hm (hh.mp x)
    rw [if_neg hh']
    rw [if_neg hm] at hst
    walk_at "s"
    refine WE.list ?_
    walk_at "s"
    refine ⟨[D.int m], rfl, by simp, ?_⟩
    refine W2.addL (by rw [List.length_map]; exact o1 (Nat.add_le_add (Nat.le_trans hal hl) (oC oN)) rfl) ?_
    walk_at "s"
    refine WSet.dctI hb (by unfold dA; rw [List.length_map]; exact o1 (Nat.le_trans hTl hl) rfl) ?_
    rw [show (atK T k).map D.int ++ [D.int m] = (atK T k ++ [m]).map D.int by rw [List.map_append]; rfl, hst]
    exact WSs.nil hq
end
end
set_option tactic.hygienic false
section

noncomputable abbrev Ln := Int × List Sm
noncomputable def pgOf (ls : List Ln) : List (Int × List D) := ls.map fun l => (l.1, l.2.map Sm.d)
noncomputable def nE (ls : List Ln) : List (Str × (Int × Bool)) := ls.flatMap fun l => (l.2.flatMap Sm.notes).map fun u => (u.1, (l.1, u.2))
noncomputable def gE (ls : List Ln) : List (Int × Int) := ls.flatMap fun l => (l.2.flatMap Sm.goals).map fun x => (x, l.1)
structure LnOk (l : Ln) : Prop where
  no : l.1 ∈ ([10, 20, 30, 40, 50, 60] : List Int)
  len : l.2.length ≤ 3
  wf : ∀ x ∈ l.2, Sm.wf x
structure Lw (cells : List Int) (s : Int) (b pc nb lb : Addr) (σ : St) (i : Int) (ls : List Ln) : Prop where
  box : σ b = some (boxC cells i s)
  pg : σ pc = some (.lst ((pgOf ls).map eLine))
  nm : σ nb = some (.dcts (dA eMark (bookOf (nE ls))))
  ld : σ lb = some (.dcti (dA D.int (bookOf (gE ls))))
  cl : cells.length ≤ 1000
  lo : 0 ≤ i + 1
  ok : ∀ l ∈ ls, LnOk l
theorem Ex.notes_len : ∀ (d : Nat) (e : Ex), e.wf d → e.notes.length ≤ 2 ^ d
  | d, .whole, _ => by simp [Ex.notes]
  | d, .name w, _ => by simp only [Ex.notes, List.length_singleton]; exact Nat.one_le_two_pow
  | d + 1, .item w e, h => by
    have h' : w ∈ lw ∧ e.wf d := h
    have := Ex.notes_len d e h'.2
    have h1 : 1 ≤ 2 ^ d := Nat.one_le_two_pow
    simp only [Ex.notes, List.length_cons, Nat.pow_succ]; omega
  | d + 1, .fn e, h => by
    have := Ex.notes_len d e h
    have h1 : 1 ≤ 2 ^ d := Nat.one_le_two_pow
    simp only [Ex.notes, List.length_cons, Nat.pow_succ]; omega
  | d + 1, .two a b, h => by
    have h' : a.wf d ∧ b.wf d := h
    have h1 := Ex.notes_len d a h'.1
    have h2 := Ex.notes_len d b h'.2
    simp only [Ex.notes, List.length_append, Nat.pow_succ]; omega
  | 0, .item w e, h => h.elim
  | 0, .fn e, h => h.elim
  | 0, .two a b, h => h.elim
theorem Ex.nl {e : Ex} (h : e.wf 2) : e.notes.length ≤ 4 := Ex.notes_len 2 e h
theorem Pl.nl {p : Pl} (h : p.wf) : p.notes.length ≤ 5 := by
  cases p with
  | name w => simp [Pl.notes]
  | item w e => have h' : w ∈ lw ∧ e.wf 2 := h; have := Ex.nl h'.2; simp [Pl.notes]; exact this
theorem Si.nl : ∀ {s : Si}, s.wf → s.notes.length ≤ 10
  | .let_ p e, h => by have h1 := Pl.nl h.1; have h2 := Ex.nl h.2; simp [Si.notes]; exact o1 (Nat.add_le_add h1 h2) rfl
  | .print e f, h => by have h1 := Ex.nl h.1; have h2 := Ex.nl h.2; simp [Si.notes]; exact o1 (Nat.add_le_add h1 h2) rfl
  | .go k t, h => by simp [Si.notes]
  | .for_ e f, h => by have h1 := Ex.nl h.1; have h2 := Ex.nl h.2; simp [Si.notes]; exact o1 (Nat.add_le_add h1 h2) rfl
  | .next, _ => by simp [Si.notes]
  | .read p q, h => by have h1 := Pl.nl h.1; have h2 := Pl.nl h.2; simp [Si.notes]; exact o1 (Nat.add_le_add h1 h2) rfl
  | .input p, h => by have h1 := Pl.nl h; simp [Si.notes]; exact o1 h1 rfl
  | .ongo e t u, h => by have h1 := Ex.nl h.1; simp [Si.notes]; exact o1 h1 rfl
  | .dim e, h => by have h1 := Ex.nl h; simp [Si.notes]; exact o1 h1 rfl
  | .def_ e, h => by have h1 := Ex.nl h; simp [Si.notes]; exact o1 h1 rfl
  | .swap p q, h => by have h1 := Pl.nl h.1; have h2 := Pl.nl h.2; simp [Si.notes]; exact o1 (Nat.add_le_add h1 h2) rfl
  | .fix k, _ => by simp [Si.notes]
  | .res k t, _ => by simp [Si.notes]
theorem Sm.nl {s : Sm} (h : s.wf) : s.notes.length ≤ 24 := by
  cases s with
  | one s => have := Si.nl h; show s.notes.length ≤ 24; exact o1 this rfl
  | iff e f o =>
    have h1 := Ex.nl h.1
    have h2 := Si.nl h.2.1
    cases o with
    | none => simp [Sm.notes]; exact o1 (Nat.add_le_add h1 h2) rfl
    | some x => have h3 := Si.nl (h.2.2 x (by simp)); simp [Sm.notes]; exact o1 (Nat.add_le_add h1 (Nat.add_le_add h2 h3)) rfl
theorem fm_le {α β : Type} (f : α → List β) (c : Nat) : ∀ (l : List α), (∀ x ∈ l, (f x).length ≤ c) → (l.flatMap f).length ≤ c * l.length
  | [], _ => by simp
  | x :: l, h => by
    have h1 := h x (.head _)
    have h2 := fm_le f c l fun y hy => h y (.tail _ hy)
    rw [List.flatMap_cons, List.length_append, List.length_cons, Nat.mul_succ]
    omega
theorem nE_len {ls : List Ln} (h : ∀ l ∈ ls, LnOk l) : (nE ls).length ≤ 72 * ls.length := by
  refine fm_le _ 72 ls fun l hl => ?_
  rw [List.length_map]
  have h1 := fm_le Sm.notes 24 l.2 fun x hx => Sm.nl ((h l hl).wf x hx)
  have h2 := (h l hl).len
  exact o1 (Nat.le_trans h1 (Nat.mul_le_mul (Nat.le_refl _) h2)) rfl
theorem gE_len {ls : List Ln} (h : ∀ l ∈ ls, LnOk l) : (gE ls).length ≤ 12 * ls.length := by
  refine fm_le _ 12 ls fun l hl => ?_
  rw [List.length_map]
  have h1 := fm_le Sm.goals 4 l.2 fun x hx => Sm.goals_len x
  have h2 := (h l hl).len
  exact o1 (Nat.le_trans h1 (Nat.mul_le_mul (Nat.le_refl _) h2)) rfl
theorem upd_self {α : Type} {f : Addr → Option α} {a : Addr} {x : α} (h : f a = some x) : upd f a x = f := by
  funext b; unfold upd
  by_cases e : b = a
  · rw [if_pos e, e, h]
  · rw [if_neg e]
section
variable {g : Gm} {n : Nat} {σ : St} {Q : AV → St → Prop} {env : Env} {ρ : Ro} {cells : List Int} {s : Int}
noncomputable abbrev lwS : Option Stmt := (dAt 30).body[3]?
noncomputable abbrev lwN : Option Stmt := (bodyOf lwS)[3]?
noncomputable abbrev lwG : Option Stmt := (bodyOf lwS)[4]?
noncomputable abbrev lwEnv (L a : Addr) (cd : Value) : Env := envOfC (dAt 30).name (dAt 30).scope L a cd
noncomputable abbrev lwB (b pc nb lb : Addr) : Ro := [("box", .cell b), ("program", .cell pc), ("names", .cell nb), ("leads", .cell lb)]
noncomputable abbrev lwB2 (b pc nb lb : Addr) (l : Int) (ns gs : D) : Ro := [("line", .d (.int l)), ("notes", .d ns), ("goals", .d gs), ("box", .cell b), ("program", .cell pc), ("names", .cell nb), ("leads", .cell lb)]
theorem law_names (C : Cx g) {b pc nb lb : Addr} {l : Int} {ns gs : D} {K : Fl → Ro → St → Prop} {L a : Addr} {cd : Value} {B : Ro} (hB : B = lwB2 b pc nb lb l ns gs) : ∀ (us : List (Str × Bool)) (ρ : Ro) (es : List (Str × (Int × Bool))),
    (∀ p ∈ B, p ∈ ρ) → es.length + us.length ≤ 900 →
    (∀ ρ', (∀ p ∈ B, p ∈ ρ') → K .next ρ' (upd σ nb (.dcts (dA eMark (bookOf (es ++ us.map fun u => (u.1, (l, u.2)))))))) →
    FL g (n + 7) (lwEnv L a cd) (tgtOf lwN) (bodyOf lwN) K (us.map eUse) ρ (upd σ nb (.dcts (dA eMark (bookOf es)))) := by
  intro us
  induction us with
  | nil => intro ρ es hsub _ hK; have := hK ρ hsub; rw [List.map_nil, List.append_nil] at this; exact this
  | cons u us ih =>
    intro ρ es hsub hl hK
    rw [List.length_cons] at hl
    refine WA.sub hsub ?_
    subst hB
    refine WA.tuple (xs := ["word", "how"]) (ps := [_, _]) rfl rfl rfl (Bound.all (by rfl)) (Offs.cons (by repeat first | exact Off.nil | with_reducible apply Off.skip | (apply Off.keepD; kernel_rfl)) (Offs.cons (by repeat first | exact Off.nil | with_reducible apply Off.skip | (apply Off.keepD; kernel_rfl)) .nil)) ?_
    obtain ⟨nt, hnt, ntF⟩ := C.lnoted
    refine WSs.cons ?_
    refine WS.expr ?_
    refine WE.callFn hnt ntF ?_
    walk_at "s"
    refine WE.tuple ?_
    walk_at "s"
    refine ⟨[.int l, .str (hw u.2)], rfl, by simp, ?_⟩
    walk_at "s"
    refine lnotedN C (es := es) (m := (l, u.2)) upd_same (by exact o1 (o6 hl) rfl) ?_ ntF
    rw [upd_upd]
    refine ⟨rfl, WSs.nil (ih _ (es ++ [(u.1, (l, u.2))]) (fun p hp => List.mem_cons_of_mem _ (List.mem_cons_of_mem _ hp)) (by simp; omega) fun ρ' h1 => ?_)⟩
    have := hK ρ' h1
    rw [List.map_cons] at this
    rw [List.append_assoc]
    exact this
theorem law_goals (C : Cx g) {b pc nb lb : Addr} {l : Int} {ns gs : D} {K : Fl → Ro → St → Prop} {L a : Addr} {cd : Value} {B : Ro} (hB : B = lwB2 b pc nb lb l ns gs) : ∀ (us : List Int) (ρ : Ro) (es : List (Int × Int)),
    (∀ p ∈ B, p ∈ ρ) → es.length + us.length ≤ 900 →
    (∀ ρ', (∀ p ∈ B, p ∈ ρ') → K .next ρ' (upd σ lb (.dcti (dA D.int (bookOf (es ++ us.map fun u => (u, l))))))) →
    FL g (n + 7) (lwEnv L a cd) (tgtOf lwG) (bodyOf lwG) K (us.map .int) ρ (upd σ lb (.dcti (dA D.int (bookOf es)))) := by
  intro us
  induction us with
  | nil => intro ρ es hsub _ hK; have := hK ρ hsub; rw [List.map_nil, List.append_nil] at this; exact this
  | cons u us ih =>
    intro ρ es hsub hl hK
    rw [List.length_cons] at hl
    refine WA.sub hsub ?_
    subst hB
    refine WA.name (by repeat first | exact Off.nil | with_reducible apply Off.skip | (apply Off.keepD; kernel_rfl)) ?_
    obtain ⟨nt, hnt, ntF⟩ := C.lnoted
    refine WSs.cons ?_
    refine WS.expr ?_
    refine WE.callFn hnt ntF ?_
    walk_at "s"
    refine lnotedG C (es := es) (m := l) upd_same (by exact o1 (o6 hl) rfl) ?_ ntF
    rw [upd_upd]
    refine ⟨rfl, WSs.nil (ih _ (es ++ [(u, l)]) (fun p hp => List.mem_cons_of_mem _ hp) (by simp; omega) fun ρ' h1 => ?_)⟩
    have := hK ρ' h1
    rw [List.map_cons] at this
    rw [List.append_assoc]
    exact this
theorem law_stmts (C : Cx g) {b nc gc : Addr} {σ₀ : St} {t elt : Expr} {R : List D → St → Prop}
    (ht : ∀ (d : D) (σ : St) (Q : Ro → Prop), (∀ ρ₁, (∀ p ∈ ρ, p ∈ ρ₁) → Q ρ₁) → WA g (n + 7) env t (.d d) ρ σ Q)
    (he : ∀ (ρ₁ : Ro) (σ : St) (Q : AV → St → Prop), (∀ p ∈ ρ, p ∈ ρ₁) → (∀ a, FnAt g (dAt 28) a → WC g (n + 7) (.ref a) [.cell b, .cell nc, .cell gc] σ Q) → WE g (n + 7) env ρ₁ σ elt Q) :
    ∀ (items : List D) (sts : List Sm) (σ : St) (i : Int), Mv cells s b nc gc σ₀ σ i (sts.flatMap Sm.notes) (sts.flatMap Sm.goals) → sts.length + items.length ≤ 3 → i + 82 * items.length ≤ 20000 → (∀ x ∈ sts, Sm.wf x) →
      (∀ (sts' : List Sm) i' σ', Mv cells s b nc gc σ₀ σ' i' (sts'.flatMap Sm.notes) (sts'.flatMap Sm.goals) → sts'.length ≤ 3 → i' ≤ i + 82 * items.length → (∀ x ∈ sts', Sm.wf x) → R (sts'.map Sm.d) σ') →
      CLoop g (n + 7) env t [] (CElt g (n + 7) env elt) items ρ σ (sts.map Sm.d) R := by
  intro items
  induction items with
  | nil =>
    intro sts σ i M hl hi hw hR
    exact hR sts i σ M (by simpa using hl) (by simp) hw
  | cons d r ih =>
    intro sts σ i M hl hi hw hR
    rw [List.length_cons] at hl hi hR
    refine ht d σ _ fun ρ₁ hs => ⟨hs, ?_⟩
    simp only [CIf, if_true]
    refine he ρ₁ σ _ hs fun a hfn => ?_
    have hgl := fm_le Sm.goals 4 sts fun x hx => Sm.goals_len x
    refine M.statement C (by omega) (by exact o1 (Nat.le_trans hgl (Nat.mul_le_mul (Nat.le_refl _) (o6 hl))) rfl) (fun p i' σ' hp h1 h2 M' => ?_) hfn
    refine ⟨p.d, rfl, by rw [List.length_map]; exact o1 (o6 hl) rfl, ?_⟩
    rw [show sts.map Sm.d ++ [p.d] = (sts ++ [p]).map Sm.d by rw [List.map_append]; rfl]
    refine ih (sts ++ [p]) σ' i' (M'.cast (by simp) (by simp)) (by rw [List.length_append, List.length_singleton]; omega) (by omega) (fun x hx => ?_) fun sts' i'' σ'' M'' h3 h4 h5 => hR sts' i'' σ'' M'' h3 (by omega) h5
    rcases List.mem_append.mp hx with hx | hx
    · exact hw x hx
    · rw [List.mem_singleton.mp hx]; exact hp
end
end
set_option tactic.hygienic false
section

section
variable {g : Gm} {n : Nat} {σ : St} {Q : AV → St → Prop} {env : Env} {ρ : Ro} {cells : List Int} {s : Int}
theorem law_turn (C : Cx g) {b pc nb lb : Addr} {i : Int} {ls : List Ln} {L a : Addr} {cd : Value} {x : Nat} (hx : x < 6) (W : Lw cells s b pc nb lb σ i ls) (hi : i ≤ 5000) (hl : ls.length ≤ 5) :
    WSs g (n + 7) (lwEnv L a cd) (("at", .d (.int (Int.ofNat x))) :: lwB b pc nb lb) σ (bodyOf lwS) (fun fl ρ' σ' => fl = .next ∧ (∀ p ∈ lwB b pc nb lb, p ∈ ρ') ∧ ∃ i' ls', Lw cells s b pc nb lb σ' i' ls' ∧ ls'.length = ls.length + 1 ∧ i' ≤ i + 250) := by
  obtain ⟨K, hKd⟩ : ∃ K : Fl → Ro → St → Prop, K = (fun fl ρ' σ' => fl = .next ∧ (∀ p ∈ lwB b pc nb lb, p ∈ ρ') ∧ ∃ i' ls', Lw cells s b pc nb lb σ' i' ls' ∧ ls'.length = ls.length + 1 ∧ i' ≤ i + 250) := ⟨_, rfl⟩
  rw [← hKd]
  have hlo := W.lo
  obtain ⟨da, hda, dF⟩ := C.draw
  obtain ⟨sa, hsa, sF⟩ := C.statement
  show WSs g (n + 7) _ _ σ ((bodyOf lwS).drop 0) K
  refine WSs.at 0 (by rfl) ?_
  refine WS.assignPar (xs := ["notes", "goals"]) (ps := [_, _]) rfl rfl (Bound.all (by rfl)) (by decide) ?_
  refine WEs.cons ?_
  refine WE.listCell ?_
  refine WEs.nil ?_
  refine ⟨[], rfl, by decide, fun nc hnc => ?_⟩
  refine WEs.cons ?_
  refine WE.listCell ?_
  refine WEs.nil ?_
  refine ⟨[], rfl, by decide, fun gc hgc => ?_⟩
  refine WEs.nil ?_
  refine And.intro rfl (Exists.intro _ (And.intro (Offs.cons (x := "notes") (a := .cell nc) (xs := ["goals"]) (as := [.cell gc]) (by repeat first | exact Off.nil | with_reducible apply Off.skip | (apply Off.keepD; kernel_rfl)) (Offs.cons (by repeat first | exact Off.nil | with_reducible apply Off.skip | (apply Off.keepD; kernel_rfl)) .nil)) ?_))
  obtain ⟨hgn, hgc'⟩ := upd_none hgc
  have ne : ∀ {y z : Addr} {c : Cell}, σ y = none → σ z = some c → z ≠ y := fun h1 h2 e => by rw [e, h1] at h2; cases h2
  have M : Mv cells s b nc gc (upd (upd σ nc (.lst [])) gc (.lst [])) (upd (upd σ nc (.lst [])) gc (.lst [])) i [] [] :=
    ⟨by rw [upd_ne (ne hgc' W.box), upd_ne (ne hnc W.box)]; exact W.box, by rw [upd_ne (Ne.symm hgn), upd_same]; rfl, by rw [upd_same]; rfl, Ne.symm hgn, fun _ _ _ _ => rfl, W.cl, W.lo, by simp; exact hlo, by simp; exact hlo⟩
  have h1pg : (upd (upd σ nc (.lst [])) gc (.lst [])) pc = some (.lst ((pgOf ls).map eLine)) := by rw [upd_ne (ne hgc' W.pg), upd_ne (ne hnc W.pg)]; exact W.pg
  have h1nm : (upd (upd σ nc (.lst [])) gc (.lst [])) nb = some (.dcts (dA eMark (bookOf (nE ls)))) := by rw [upd_ne (ne hgc' W.nm), upd_ne (ne hnc W.nm)]; exact W.nm
  have h1ld : (upd (upd σ nc (.lst [])) gc (.lst [])) lb = some (.dcti (dA D.int (bookOf (gE ls)))) := by rw [upd_ne (ne hgc' W.ld), upd_ne (ne hnc W.ld)]; exact W.ld
  have pb : pc ≠ b := fun e => by have := W.pg; rw [e, W.box] at this; cases this
  have nbb : nb ≠ b := fun e => by have := W.nm; rw [e, W.box] at this; cases this
  have lbb : lb ≠ b := fun e => by have := W.ld; rw [e, W.box] at this; cases this
  have np : nb ≠ pc := fun e => by have := W.nm; rw [e, W.pg] at this; cases this
  have lp : lb ≠ pc := fun e => by have := W.ld; rw [e, W.pg] at this; cases this
  have ln : lb ≠ nb := fun e => by have := W.ld; rw [e, W.nm] at this; cases this
  have pn := ne hnc W.pg
  have pg' := ne hgc' W.pg
  have nn := ne hnc W.nm
  have ng := ne hgc' W.nm
  have ln' := ne hnc W.ld
  have lg' := ne hgc' W.ld
  have bn := ne hnc W.box
  have bg := ne hgc' W.box
  generalize hσ₁ : upd (upd σ nc (.lst [])) gc (.lst []) = σ₁ at M h1pg h1nm h1ld ⊢
  show WSs g (n + 7) _ _ σ₁ ((bodyOf lwS).drop 1) K
  refine WSs.at 1 (by rfl) ?_
  refine WS.assign (by repeat first | exact Off.nil | with_reducible apply Off.skip | (apply Off.keepD; kernel_rfl)) ?_
  walk_at "s"
  refine W2.mulI (IntMulOk.of_left (by decide)) ?_
  refine W2.addI ?_
  have hline : (10 + 10 * Int.ofNat x) ∈ ([10, 20, 30, 40, 50, 60] : List Int) := by
    have : x = 0 ∨ x = 1 ∨ x = 2 ∨ x = 3 ∨ x = 4 ∨ x = 5 := e6 hx
    rcases this with rfl | rfl | rfl | rfl | rfl | rfl <;> decide
  generalize (10 + 10 * Int.ofNat x) = line at hline ⊢
  show WSs g (n + 7) _ _ σ₁ ((bodyOf lwS).drop 2) K
  refine WSs.at 2 (by rfl) ?_
  refine WS.expr ?_
  refine WE.meth "list" "list.append" PySem.F.plainAttrs_list PySem.F.slot_list_append PySem.F.type_list_append ?_
  refine WE.name (by with_reducible repeat first | exact List.mem_cons_self | apply List.mem_cons_of_mem) ⟨TyOf.lst h1pg, ?_⟩
  refine WEs.cons ?_
  refine WE.tuple ?_
  walk_at "s"
  refine WE.comp1 [("box", .cell b), ("notes", .cell nc), ("goals", .cell gc)] (by rfl) (fun p hp => ?_) ?_
  · simp only [List.mem_cons, List.not_mem_nil, or_false] at hp
    rcases hp with rfl | rfl | rfl <;> exact ⟨by (with_reducible repeat first | exact List.mem_cons_self | apply List.mem_cons_of_mem), rfl⟩
  refine WE.callT C.range ?_
  walk_at "s"
  refine WE.callFn hda dF ?_
  walk_at "s"
  refine M.draw C (by exact i1 hi rfl) (by decide) (fun v σ₂ v0 v3 M₂ => ?_) dF
  refine W2.addI ?_
  walk_at "s"
  obtain ⟨k, hk, hk3⟩ : ∃ k : Nat, 1 + v = (k : Int) ∧ k ≤ 3 := ⟨(1 + v).toNat, by omega, by omega⟩
  rw [hk]
  refine WC.range ?_
  refine ⟨_, IterV.rng (by exact o2 hk3 rfl), fun Cc => ?_⟩
  refine law_stmts C (fun d τ Q h => WA.name (by repeat first | exact Off.nil | with_reducible apply Off.skip | (apply Off.keepD; kernel_rfl)) (h _ fun p hp => List.mem_cons_of_mem _ hp)) (fun ρ₁ τ Q hs h => ?_) _ [] σ₂ (i + 1) M₂ (by simp; exact hk3) (by simp; omega) (fun x hx => by cases hx) fun sts i₃ σ₃ M₃ hs3 hi3 hws => ?_
  · refine WE.callFn hsa sF ?_
    refine WEs.cons ?_
    refine WE.name (hs _ (by with_reducible repeat first | exact List.mem_cons_self | apply List.mem_cons_of_mem)) ?_
    refine WEs.cons ?_
    refine WE.name (hs _ (by with_reducible repeat first | exact List.mem_cons_self | apply List.mem_cons_of_mem)) ?_
    refine WEs.cons ?_
    refine WE.name (hs _ (by with_reducible repeat first | exact List.mem_cons_self | apply List.mem_cons_of_mem)) ?_
    refine WEs.nil ?_
    exact h sa sF
  walk_at "s"
  refine ⟨[.int line, .lst (sts.map Sm.d)], rfl, by simp, ?_⟩
  walk_at "s"
  have h3pg : σ₃ pc = some (.lst ((pgOf ls).map eLine)) := (M₃.off pc pb pn pg').trans h1pg
  refine WC.append h3pg (by unfold pgOf; exact o1 (oM (oM hl)) rfl) ⟨rfl, ?_⟩
  have e4 : (pgOf ls).map eLine ++ [.tup [.int line, .lst (sts.map Sm.d)]] = (pgOf (ls ++ [(line, sts)])).map eLine := by unfold pgOf; simp
  rw [e4]
  show WSs g (n + 7) _ _ (upd σ₃ pc (.lst ((pgOf (ls ++ [(line, sts)])).map eLine))) ((bodyOf lwS).drop 3) K
  refine WSs.freeze (c := nc) (ds := (sts.flatMap Sm.notes).map eUse) (ρ' := [("line", .d (.int line)), ("notes", .d (.lst ((sts.flatMap Sm.notes).map eUse))), ("goals", .cell gc), ("box", .cell b), ("program", .cell pc), ("names", .cell nb), ("leads", .cell lb)]) (by rw [upd_ne pn.symm]; exact M₃.nts) (fun p hp => ?_) ?_
  · simp only [List.mem_cons, List.not_mem_nil, or_false] at hp
    rcases hp with rfl | rfl | rfl | rfl | rfl | rfl | rfl
    · exact .inl (by with_reducible repeat first | exact List.mem_cons_self | apply List.mem_cons_of_mem)
    · exact .inr ⟨rfl, by (with_reducible repeat first | exact List.mem_cons_self | apply List.mem_cons_of_mem)⟩
    all_goals exact .inl (by with_reducible repeat first | exact List.mem_cons_self | apply List.mem_cons_of_mem)
  refine WSs.freeze (c := gc) (ds := (sts.flatMap Sm.goals).map .int) (ρ' := lwB2 b pc nb lb line (.lst ((sts.flatMap Sm.notes).map eUse)) (.lst ((sts.flatMap Sm.goals).map .int))) (by rw [del_ne hgn, upd_ne pg'.symm]; exact M₃.gls) (fun p hp => ?_) ?_
  · simp only [List.mem_cons, List.not_mem_nil, or_false] at hp
    rcases hp with rfl | rfl | rfl | rfl | rfl | rfl | rfl
    · exact .inl (by with_reducible repeat first | exact List.mem_cons_self | apply List.mem_cons_of_mem)
    · exact .inl (by with_reducible repeat first | exact List.mem_cons_self | apply List.mem_cons_of_mem)
    · exact .inr ⟨rfl, by (with_reducible repeat first | exact List.mem_cons_self | apply List.mem_cons_of_mem)⟩
    all_goals exact .inl (by with_reducible repeat first | exact List.mem_cons_self | apply List.mem_cons_of_mem)
  have off6 : ∀ y, y ≠ nc → y ≠ gc → y ≠ pc → del (del (upd σ₃ pc (.lst ((pgOf (ls ++ [(line, sts)])).map eLine))) nc) gc y = σ₃ y := fun y h1 h2 h3 => by rw [del_ne h2, del_ne h1, upd_ne h3]
  have h6box : del (del (upd σ₃ pc (.lst ((pgOf (ls ++ [(line, sts)])).map eLine))) nc) gc b = some (boxC cells i₃ s) := (off6 b bn bg pb.symm).trans M₃.box
  have h6pg : del (del (upd σ₃ pc (.lst ((pgOf (ls ++ [(line, sts)])).map eLine))) nc) gc pc = some (.lst ((pgOf (ls ++ [(line, sts)])).map eLine)) := by rw [del_ne pg', del_ne pn, upd_same]
  have h6nm : del (del (upd σ₃ pc (.lst ((pgOf (ls ++ [(line, sts)])).map eLine))) nc) gc nb = some (.dcts (dA eMark (bookOf (nE ls)))) := ((off6 nb nn ng np).trans (M₃.off nb nbb nn ng)).trans h1nm
  have h6ld : del (del (upd σ₃ pc (.lst ((pgOf (ls ++ [(line, sts)])).map eLine))) nc) gc lb = some (.dcti (dA D.int (bookOf (gE ls)))) := ((off6 lb ln' lg' lp).trans (M₃.off lb lbb ln' lg')).trans h1ld
  generalize del (del (upd σ₃ pc (.lst ((pgOf (ls ++ [(line, sts)])).map eLine))) nc) gc = σ₆ at h6box h6pg h6nm h6ld ⊢
  have okl : LnOk (line, sts) := ⟨hline, hs3, hws⟩
  have hnl := fm_le Sm.notes 24 sts fun x hx => Sm.nl (hws x hx)
  have hgl := fm_le Sm.goals 4 sts fun x hx => Sm.goals_len x
  have hN := nE_len W.ok
  have hG := gE_len W.ok
  refine WSs.at 3 (by rfl) ?_
  refine WS.for ?_
  walk_at "s"
  refine ⟨_, IterV.lst, ?_⟩
  rw [← upd_self h6nm]
  refine law_names C (σ := σ₆) (l := line) (ns := .lst ((sts.flatMap Sm.notes).map eUse)) (gs := .lst ((sts.flatMap Sm.goals).map .int)) (pc := pc) rfl (sts.flatMap Sm.notes) _ (nE ls) (fun p hp => hp) (by exact o1 (Nat.add_le_add (Nat.le_trans hN (Nat.mul_le_mul (Nat.le_refl _) hl)) (Nat.le_trans hnl (Nat.mul_le_mul (Nat.le_refl _) hs3))) rfl) fun ρ₁ hs₁ => ?_
  refine WSs.sub hs₁ ?_
  show WSs g (n + 7) _ _ _ ((bodyOf lwS).drop 4) K
  refine WSs.at 4 (by rfl) ?_
  refine WS.for ?_
  walk_at "s"
  refine ⟨_, IterV.lst, ?_⟩
  have eN : nE ls ++ (sts.flatMap Sm.notes).map (fun u => (u.1, (line, u.2))) = nE (ls ++ [(line, sts)]) := by unfold nE; simp
  have eG : gE ls ++ (sts.flatMap Sm.goals).map (fun u => (u, line)) = gE (ls ++ [(line, sts)]) := by unfold gE; simp
  rw [eN]
  have h7ld : (upd σ₆ nb (.dcts (dA eMark (bookOf (nE (ls ++ [(line, sts)])))))) lb = some (.dcti (dA D.int (bookOf (gE ls)))) := by rw [upd_ne ln]; exact h6ld
  have h7box : (upd σ₆ nb (.dcts (dA eMark (bookOf (nE (ls ++ [(line, sts)])))))) b = some (boxC cells i₃ s) := by rw [upd_ne nbb.symm]; exact h6box
  have h7pg : (upd σ₆ nb (.dcts (dA eMark (bookOf (nE (ls ++ [(line, sts)])))))) pc = some (.lst ((pgOf (ls ++ [(line, sts)])).map eLine)) := by rw [upd_ne np.symm]; exact h6pg
  have h7nm : (upd σ₆ nb (.dcts (dA eMark (bookOf (nE (ls ++ [(line, sts)])))))) nb = some (.dcts (dA eMark (bookOf (nE (ls ++ [(line, sts)]))))) := upd_same
  generalize upd σ₆ nb (.dcts (dA eMark (bookOf (nE (ls ++ [(line, sts)]))))) = σ₇ at h7ld h7box h7pg h7nm ⊢
  rw [← upd_self h7ld]
  refine law_goals C (σ := σ₇) (l := line) (ns := .lst ((sts.flatMap Sm.notes).map eUse)) (gs := .lst ((sts.flatMap Sm.goals).map .int)) (b := b) (pc := pc) (nb := nb) rfl (sts.flatMap Sm.goals) _ (gE ls) (fun p hp => hp) (by exact o1 (Nat.add_le_add (Nat.le_trans hG (Nat.mul_le_mul (Nat.le_refl _) hl)) (Nat.le_trans hgl (Nat.mul_le_mul (Nat.le_refl _) hs3))) rfl) fun ρ₂ hs₂ => ?_
  rw [eG]
  refine WSs.nil ?_
  rw [hKd]
  refine ⟨rfl, fun p hp => hs₂ p (List.mem_cons_of_mem _ (List.mem_cons_of_mem _ (List.mem_cons_of_mem _ hp))), i₃, ls ++ [(line, sts)], ⟨?_, ?_, ?_, upd_same, W.cl, M₃.lo, ?_⟩, by simp, ?_⟩
  · rw [upd_ne lbb.symm]; exact h7box
  · rw [upd_ne lp.symm]; exact h7pg
  · rw [upd_ne ln.symm]; exact h7nm
  · intro l hl'
    rcases List.mem_append.mp hl' with h | h
    · exact W.ok l h
    · rw [List.mem_singleton.mp h]; exact okl
  · simp at hi3; omega
theorem law_lines (C : Cx g) {b pc nb lb : Addr} {K : Fl → Ro → St → Prop} {L a : Addr} {cd : Value} : ∀ (its : List Nat) (ρ : Ro) (σ : St) (i : Int) (ls : List Ln),
    (∀ p ∈ lwB b pc nb lb, p ∈ ρ) → (∀ x ∈ its, x < 6) → Lw cells s b pc nb lb σ i ls → ls.length + its.length ≤ 6 → i + 250 * its.length ≤ 5000 →
    (∀ ρ' σ' i' ls', (∀ p ∈ lwB b pc nb lb, p ∈ ρ') → Lw cells s b pc nb lb σ' i' ls' → ls'.length ≤ 6 → K .next ρ' σ') →
    FL g (n + 7) (lwEnv L a cd) (tgtOf lwS) (bodyOf lwS) K (its.map fun i => D.int (Int.ofNat i)) ρ σ := by
  intro its
  induction its with
  | nil => intro ρ σ i ls hsub _ W hl _ hK; exact hK ρ σ i ls hsub W (by simpa using hl)
  | cons x its ih =>
    intro ρ σ i ls hsub hx W hl hi hK
    rw [List.length_cons] at hl hi
    refine WA.sub hsub ?_
    refine WA.name (by repeat first | exact Off.nil | with_reducible apply Off.skip | (apply Off.keepD; kernel_rfl)) ?_
    refine WSs.mono (law_turn C (hx x (.head _)) W (by omega) (by omega)) fun fl ρ' σ' h => ?_
    obtain ⟨rfl, hs, i', ls', W', h1, h2⟩ := h
    exact ih ρ' σ' i' ls' hs (fun y hy => hx y (.tail _ hy)) W' (by omega) (by omega) hK
end
end
set_option tactic.hygienic false
section

-- how long the program's text is
structure D.sh (k : Nat) (d : D) : Prop where
  nice : D.nice k d
  show_ : d.py.showable = true
  len : d.py.shown.length + 2 ≤ 30 * d.wt
theorem shs {k : Nat} : ∀ {ds : List D}, (∀ d ∈ ds, D.sh k d) → PyData.showableAll (D.pys ds) = true ∧ ((PyData.shownAll (D.pys ds)).map (·.length)).sum + 2 * ds.length ≤ 30 * D.wts ds ∧ (PyData.shownAll (D.pys ds)).length = ds.length
  | [], _ => ⟨rfl, by simp [D.pys, PyData.shownAll, D.wts], rfl⟩
  | d :: ds, h => by
    obtain ⟨h1, h2, h3⟩ := shs fun x hx => h x (.tail _ hx)
    have h4 := h d (.head _)
    have h5 := h4.len
    refine ⟨by rw [D.pys, PyData.showableAll, h1, h4.show_]; rfl, ?_, by rw [D.pys, PyData.shownAll, List.length_cons, List.length_cons, h3]⟩
    rw [D.pys, PyData.shownAll, List.map_cons, List.sum_cons, List.length_cons, D.wts]
    omega
theorem textFrom_le : ∀ (ts : List Str) (k : Nat) (acc : Str), (textFrom k acc ts).length ≤ acc.length + (ts.map (·.length)).sum + 2 * ts.length
  | [], k, acc => by unfold textFrom; simp
  | t :: ts, k, acc => by
    unfold textFrom
    refine Nat.le_trans (textFrom_le ts _ _) ?_
    have e1 : (", " : Str).length = 2 := by decide +kernel
    have e0 : ("" : Str).length = 0 := by decide +kernel
    rw [List.map_cons, List.sum_cons, List.length_cons]
    split <;> simp only [PySem.Str.length_append] <;> omega
theorem D.sh.lst {k : Nat} {ds : List D} (h : ∀ d ∈ ds, D.sh k d) : D.sh (k + 1) (.lst ds) := by
  obtain ⟨h1, h2, h3⟩ := shs h
  refine ⟨.lst fun d hd => (h d hd).nice, by rw [D.py, PyData.showable]; exact h1, ?_⟩
  have h4 := textFrom_le (PyData.shownAll (D.pys ds)) 0 "["
  have e2 : ("[" : Str).length = 1 := by decide +kernel
  have e3 : ("]" : Str).length = 1 := by decide +kernel
  rw [h3, e2] at h4
  rw [D.py, PyData.shown, D.wt]
  unfold listText
  rw [PySem.Str.length_append, e3]
  omega
theorem D.sh.tup {k : Nat} {ds : List D} (h : ∀ d ∈ ds, D.sh k d) : D.sh (k + 1) (.tup ds) := by
  obtain ⟨h1, h2, h3⟩ := shs h
  refine ⟨.tup fun d hd => (h d hd).nice, by rw [D.py, PyData.showable]; exact h1, ?_⟩
  have h4 := StrLaws.join_length_le (", " : Str) (PyData.shownAll (D.pys ds))
  have e1 : (", " : Str).length = 2 := by decide +kernel
  have e2 : ("(" : Str).length = 1 := by decide +kernel
  have e3 : ∀ c : Bool, ((if c then ",)" else ")" : String) : Str).length ≤ 2 := by decide +kernel
  rw [e1, h3] at h4
  rw [D.py, PyData.shown, D.wt]
  unfold tupleText
  rw [PySem.Str.length_append, PySem.Str.length_append, e2]
  have := e3 ((PyData.shownAll (D.pys ds)).length == 1)
  omega
theorem D.sh.mono {j k : Nat} {d : D} (h : D.sh j d) (hk : j ≤ k) : D.sh k d := ⟨h.nice.mono hk, h.show_, h.len⟩
theorem D.sh.none : D.sh 0 .none := ⟨.none, by rw [D.py, PyData.showable], by decide +kernel⟩
theorem D.sh.bool (b : Bool) : D.sh 0 (.bool b) := ⟨.bool b, by rw [D.py, PyData.showable], by
  revert b; decide +kernel⟩
theorem D.sh.int {i : Int} (h0 : 0 ≤ i) (h1 : i ≤ 1000) : D.sh 0 (.int i) := by
  obtain ⟨h2, h3⟩ := sI_len h0 h1
  have h2 : (Str.ofString (toString i)).length ≤ 10 := h2
  exact ⟨.int i, by rw [D.py, PyData.showable]; exact decide_eq_true h3, by
    have e : (D.int i).wt = 1 := rfl
    rw [D.py, PyData.shown, e]; exact o1 (Nat.add_le_add h2 (Nat.le_refl _)) rfl⟩
noncomputable def strGood (x : Str) : Bool := PyData.strOk x && decide ((PyData.str x).shown.length ≤ 25)
theorem D.sh.str {x : Str} (h : strGood x = true) : D.sh 0 (.str x) := by
  unfold strGood at h
  rw [Bool.and_eq_true, decide_eq_true_eq] at h
  exact ⟨.str h.1, by rw [D.py, PyData.showable], by
    have e : (D.str x).wt = 1 := rfl
    rw [D.py, e]; have := h.2; exact o1 (Nat.add_le_add h.2 (Nat.le_refl _)) rfl⟩
theorem lw_good : ∀ w ∈ lw, strGood w = true := by decide +kernel
theorem all2 {k : Nat} {a b : D} (ha : D.sh k a) (hb : D.sh k b) : ∀ d ∈ [a, b], D.sh k d := fun d hd => by
  simp only [List.mem_cons, List.not_mem_nil, or_false] at hd
  rcases hd with rfl | rfl <;> assumption
theorem all1 {k : Nat} {a : D} (ha : D.sh k a) : ∀ d ∈ [a], D.sh k d := fun d hd => by rw [List.mem_singleton.mp hd]; exact ha
theorem allc {k : Nat} {a : D} {l : List D} (ha : D.sh k a) (hl : ∀ d ∈ l, D.sh k d) : ∀ d ∈ a :: l, D.sh k d := fun d hd => by
  rcases List.mem_cons.mp hd with rfl | h
  · exact ha
  · exact hl d h
theorem all0 {k : Nat} : ∀ d ∈ ([] : List D), D.sh k d := fun d hd => by cases hd
theorem lit {k : Nat} {x : Str} (h : strGood x = true) : D.sh k (.str x) := (D.sh.str h).mono (Nat.zero_le _)
theorem Ex.sh : ∀ (d : Nat) (e : Ex), e.wf d → D.sh (2 * d + 1) e.d
  | d, .whole, _ => (D.sh.tup (k := 0) (all2 (lit (by decide +kernel)) (.int (by decide) (by decide)))).mono (by omega)
  | d, .name w, h => by
    have hw : w ∈ lw := by unfold Ex.wf at h; exact h
    exact (D.sh.tup (k := 0) (all2 (lit (by decide +kernel)) (.str (lw_good w hw)))).mono (by omega)
  | d + 1, .item w e, h => by
    obtain ⟨hw, he⟩ : w ∈ lw ∧ e.wf d := h
    exact D.sh.tup (k := 2 * d + 2) (allc (lit (by decide +kernel)) (allc (lit (lw_good w hw)) (all1 (D.sh.lst (all1 (Ex.sh d e he))))))
  | d + 1, .fn e, h => by
    have he : e.wf d := h
    exact D.sh.tup (k := 2 * d + 2) (allc (lit (by decide +kernel)) (allc (lit (by decide +kernel)) (all1 (D.sh.lst (all1 (Ex.sh d e he))))))
  | d + 1, .two a b, h => by
    obtain ⟨ha, hb⟩ : a.wf d ∧ b.wf d := h
    exact D.sh.tup (k := 2 * d + 2) (allc (lit (by decide +kernel)) (allc (lit (by decide +kernel)) (allc ((Ex.sh d a ha).mono (by omega)) (all1 (D.sh.tup (allc (lit (by decide +kernel)) (all1 (Ex.sh d b hb))))))))
  | 0, .item w e, h => h.elim
  | 0, .fn e, h => h.elim
  | 0, .two a b, h => h.elim
theorem Ex.sh2 {e : Ex} (h : e.wf 2) : D.sh 5 e.d := Ex.sh 2 e h
theorem Pl.sh {p : Pl} (h : p.wf) : D.sh 7 p.d := by
  cases p with
  | name w => exact (D.sh.tup (k := 0) (all2 (lit (by decide +kernel)) (.str (lw_good w h)))).mono (by exact o1 (Nat.add_le_add (Nat.le_refl _) (Nat.le_refl _)) rfl)
  | item w e => exact D.sh.tup (k := 6) (allc (lit (by decide +kernel)) (allc (lit (lw_good w h.1)) (all1 (D.sh.lst (all1 (Ex.sh2 h.2))))))
theorem Pl.wt {p : Pl} (h : p.wf) : D.wt p.d ≤ 31 := by
  cases p with
  | name w => simp [Pl.d, D.wt, D.wts]
  | item w e => have := (Ex.fine2 h.2).2; simp only [Pl.d, D.wt, D.wts]; exact o1 (Nat.add_le_add (Nat.le_refl _) (Nat.add_le_add (Nat.le_refl _) (Nat.add_le_add (Nat.le_refl _) (Nat.add_le_add (Nat.add_le_add (Nat.le_refl _) (Nat.add_le_add this (Nat.le_refl _))) (Nat.le_refl _))))) rfl
theorem lg_int {k : Nat} {t : Int} (h : t ∈ lg) : D.sh k (.int t) := by
  simp only [lg, List.mem_cons, List.not_mem_nil, or_false] at h
  exact (D.sh.int (by omega) (by omega)).mono (Nat.zero_le _)
theorem fixD_sh (k : Int) : D.sh 8 (fixD k) ∧ D.wt (fixD k) ≤ 100 := by
  unfold fixD
  split
  · exact ⟨(D.sh.tup (k := 0) (all2 (lit (by decide +kernel)) .none)).mono (by exact o1 (Nat.add_le_add (Nat.le_refl _) (Nat.le_refl _)) rfl), by decide +kernel⟩
  · split
    · exact ⟨(D.sh.tup (k := 0) (all2 (lit (by decide +kernel)) (.int (by decide) (by decide)))).mono (by exact o1 (Nat.add_le_add (Nat.le_refl _) (Nat.le_refl _)) rfl), by decide +kernel⟩
    · split
      · exact ⟨(D.sh.tup (k := 1) (all2 (lit (by decide +kernel)) (D.sh.lst all0))).mono (by exact o1 (Nat.add_le_add (Nat.le_refl _) (Nat.le_refl _)) rfl), by decide +kernel⟩
      · exact ⟨(D.sh.tup (k := 0) (all2 (lit (by decide +kernel)) .none)).mono (by exact o1 (Nat.add_le_add (Nat.le_refl _) (Nat.le_refl _)) rfl), by decide +kernel⟩
theorem goK_good (k : Int) : strGood (goK k) = true := by unfold goK; split <;> decide +kernel
theorem resK_good (k : Int) : strGood (resK k) = true := by
  unfold resK
  split
  · decide +kernel
  · split <;> decide +kernel
theorem Si.sh : ∀ {s : Si}, s.wf → D.sh 10 s.d ∧ D.wt s.d ≤ 100
  | .let_ p e, h => by
    have h1 := Pl.wt h.1
    have h2 := (Ex.fine2 h.2).2
    exact ⟨(D.sh.tup (k := 7) (allc (lit (by decide +kernel)) (all2 (Pl.sh h.1) ((Ex.sh2 h.2).mono (by exact o1 (Nat.le_refl _) rfl))))).mono (by exact o1 (Nat.add_le_add (Nat.le_refl _) (Nat.le_refl _)) rfl), by simp only [Si.d, D.wt, D.wts]; exact o1 (Nat.add_le_add (Nat.le_refl _) (Nat.add_le_add (Nat.le_refl _) (Nat.add_le_add h1 (Nat.add_le_add h2 (Nat.le_refl _))))) rfl⟩
  | .print e f, h => by
    have h1 := (Ex.fine2 h.1).2
    have h2 := (Ex.fine2 h.2).2
    exact ⟨(D.sh.tup (k := 7) (allc (lit (by decide +kernel)) (all2 (D.sh.none.mono (by exact o1 (Nat.le_refl _) rfl)) (D.sh.lst (k := 6) (allc (D.sh.tup (allc (lit (by decide +kernel)) (all1 (Ex.sh2 h.1)))) (all2 (D.sh.tup (all1 (lit (by decide +kernel)))) (D.sh.tup (allc (lit (by decide +kernel)) (all1 (Ex.sh2 h.2)))))))))).mono (by exact o1 (Nat.add_le_add (Nat.le_refl _) (Nat.le_refl _)) rfl), by simp only [Si.d, D.wt, D.wts]; exact o1 (Nat.add_le_add (Nat.le_refl _) (Nat.add_le_add (Nat.le_refl _) (Nat.add_le_add (Nat.le_refl _) (Nat.add_le_add (Nat.add_le_add (Nat.le_refl _) (Nat.add_le_add (Nat.add_le_add (Nat.le_refl _) (Nat.add_le_add (Nat.le_refl _) (Nat.add_le_add h1 (Nat.le_refl _)))) (Nat.add_le_add (Nat.add_le_add (Nat.le_refl _) (Nat.add_le_add (Nat.le_refl _) (Nat.le_refl _))) (Nat.add_le_add (Nat.add_le_add (Nat.le_refl _) (Nat.add_le_add (Nat.le_refl _) (Nat.add_le_add h2 (Nat.le_refl _)))) (Nat.le_refl _))))) (Nat.le_refl _))))) rfl⟩
  | .go k t, h => ⟨(D.sh.tup (k := 0) (all2 (.str (goK_good k)) (lg_int h))).mono (by exact o1 (Nat.add_le_add (Nat.le_refl _) (Nat.le_refl _)) rfl), by simp [Si.d, D.wt, D.wts]⟩
  | .for_ e f, h => by
    have h1 := (Ex.fine2 h.1).2
    have h2 := (Ex.fine2 h.2).2
    exact ⟨(D.sh.tup (k := 5) (allc (lit (by decide +kernel)) (allc (lit (by decide +kernel)) (allc (Ex.sh2 h.1) (all2 (Ex.sh2 h.2) (D.sh.none.mono (by exact o1 (Nat.le_refl _) rfl))))))).mono (by exact o1 (Nat.add_le_add (Nat.le_refl _) (Nat.le_refl _)) rfl), by simp only [Si.d, D.wt, D.wts]; exact o1 (Nat.add_le_add (Nat.le_refl _) (Nat.add_le_add (Nat.le_refl _) (Nat.add_le_add (Nat.le_refl _) (Nat.add_le_add h1 (Nat.add_le_add h2 (Nat.add_le_add (Nat.le_refl _) (Nat.le_refl _))))))) rfl⟩
  | .next, _ => ⟨(D.sh.tup (k := 1) (all2 (lit (by decide +kernel)) (D.sh.lst (all1 (lit (by decide +kernel)))))).mono (by exact o1 (Nat.add_le_add (Nat.le_refl _) (Nat.le_refl _)) rfl), by simp [Si.d, D.wt, D.wts]⟩
  | .read p q, h => by
    have h1 := Pl.wt h.1
    have h2 := Pl.wt h.2
    exact ⟨(D.sh.tup (k := 8) (all2 (lit (by decide +kernel)) (D.sh.lst (all2 (Pl.sh h.1) (Pl.sh h.2))))).mono (by exact o1 (Nat.add_le_add (Nat.le_refl _) (Nat.le_refl _)) rfl), by simp only [Si.d, D.wt, D.wts]; exact o1 (Nat.add_le_add (Nat.le_refl _) (Nat.add_le_add (Nat.le_refl _) (Nat.add_le_add (Nat.add_le_add (Nat.le_refl _) (Nat.add_le_add h1 (Nat.add_le_add h2 (Nat.le_refl _)))) (Nat.le_refl _)))) rfl⟩
  | .input p, h => by
    have h1 := Pl.wt h
    exact ⟨(D.sh.tup (k := 8) (allc (lit (by decide +kernel)) (allc (D.sh.none.mono (by exact o1 (Nat.le_refl _) rfl)) (allc (lit (by decide +kernel)) (all2 ((D.sh.bool _).mono (by exact o1 (Nat.le_refl _) rfl)) (D.sh.lst (all1 (Pl.sh h)))))))).mono (by exact o1 (Nat.add_le_add (Nat.le_refl _) (Nat.le_refl _)) rfl), by simp only [Si.d, D.wt, D.wts]; exact o1 (Nat.add_le_add (Nat.le_refl _) (Nat.add_le_add (Nat.le_refl _) (Nat.add_le_add (Nat.le_refl _) (Nat.add_le_add (Nat.le_refl _) (Nat.add_le_add (Nat.le_refl _) (Nat.add_le_add (Nat.add_le_add (Nat.le_refl _) (Nat.add_le_add h1 (Nat.le_refl _))) (Nat.le_refl _))))))) rfl⟩
  | .ongo e t u, h => by
    have h1 := (Ex.fine2 h.1).2
    exact ⟨(D.sh.tup (k := 5) (allc (lit (by decide +kernel)) (allc (lit (by decide +kernel)) (all2 (Ex.sh2 h.1) ((D.sh.lst (k := 0) (all2 (lg_int h.2.1) (lg_int h.2.2))).mono (by exact o1 (Nat.add_le_add (Nat.le_refl _) (Nat.le_refl _)) rfl)))))).mono (by exact o1 (Nat.add_le_add (Nat.le_refl _) (Nat.le_refl _)) rfl), by simp only [Si.d, D.wt, D.wts]; exact o1 (Nat.add_le_add (Nat.le_refl _) (Nat.add_le_add (Nat.le_refl _) (Nat.add_le_add (Nat.le_refl _) (Nat.add_le_add h1 (Nat.add_le_add (Nat.add_le_add (Nat.le_refl _) (Nat.add_le_add (Nat.le_refl _) (Nat.add_le_add (Nat.le_refl _) (Nat.le_refl _)))) (Nat.le_refl _)))))) rfl⟩
  | .dim e, h => by
    have h1 := (Ex.fine2 h).2
    exact ⟨(D.sh.tup (k := 8) (all2 (lit (by decide +kernel)) (D.sh.lst (all1 (D.sh.tup (all2 (lit (by decide +kernel)) (D.sh.lst (all1 (Ex.sh2 h))))))))).mono (by exact o1 (Nat.add_le_add (Nat.le_refl _) (Nat.le_refl _)) rfl), by simp only [Si.d, D.wt, D.wts]; exact o1 (Nat.add_le_add (Nat.le_refl _) (Nat.add_le_add (Nat.le_refl _) (Nat.add_le_add (Nat.add_le_add (Nat.le_refl _) (Nat.add_le_add (Nat.add_le_add (Nat.le_refl _) (Nat.add_le_add (Nat.le_refl _) (Nat.add_le_add (Nat.add_le_add (Nat.le_refl _) (Nat.add_le_add h1 (Nat.le_refl _))) (Nat.le_refl _)))) (Nat.le_refl _))) (Nat.le_refl _)))) rfl⟩
  | .def_ e, h => by
    have h1 := (Ex.fine2 h).2
    exact ⟨(D.sh.tup (k := 5) (allc (lit (by decide +kernel)) (allc (lit (by decide +kernel)) (all2 (D.sh.lst (k := 4) (all1 (lit (by decide +kernel)))) (Ex.sh2 h))))).mono (by exact o1 (Nat.add_le_add (Nat.le_refl _) (Nat.le_refl _)) rfl), by simp only [Si.d, D.wt, D.wts]; exact o1 (Nat.add_le_add (Nat.le_refl _) (Nat.add_le_add (Nat.le_refl _) (Nat.add_le_add (Nat.le_refl _) (Nat.add_le_add (Nat.add_le_add (Nat.le_refl _) (Nat.add_le_add (Nat.le_refl _) (Nat.le_refl _))) (Nat.add_le_add h1 (Nat.le_refl _)))))) rfl⟩
  | .swap p q, h => by
    have h1 := Pl.wt h.1
    have h2 := Pl.wt h.2
    exact ⟨(D.sh.tup (k := 7) (allc (lit (by decide +kernel)) (all2 (Pl.sh h.1) (Pl.sh h.2)))).mono (by exact o1 (Nat.add_le_add (Nat.le_refl _) (Nat.le_refl _)) rfl), by simp only [Si.d, D.wt, D.wts]; exact o1 (Nat.add_le_add (Nat.le_refl _) (Nat.add_le_add (Nat.le_refl _) (Nat.add_le_add h1 (Nat.add_le_add h2 (Nat.le_refl _))))) rfl⟩
  | .fix k, _ => ⟨(fixD_sh k).1.mono (by exact o1 (Nat.le_refl _) rfl), (fixD_sh k).2⟩
  | .res k t, h => ⟨(D.sh.tup (k := 0) (all2 (.str (resK_good k)) (lg_int h))).mono (by exact o1 (Nat.add_le_add (Nat.le_refl _) (Nat.le_refl _)) rfl), by simp [Si.d, D.wt, D.wts]⟩
theorem Sm.sh {m : Sm} (h : m.wf) : D.sh 12 m.d ∧ D.wt m.d ≤ 300 := by
  cases m with
  | one s => have h' := Si.sh h; exact ⟨h'.1.mono (by exact o1 (Nat.le_refl _) rfl), Nat.le_trans h'.2 (by exact o1 (Nat.le_refl _) rfl)⟩
  | iff e f o =>
    obtain ⟨h1, h2, h3⟩ := h
    have g1 := (Ex.fine2 h1).2
    have g2 := Si.sh h2
    have g3 : (∀ d ∈ o.toList.map Si.d, D.sh 10 d) ∧ D.wts (o.toList.map Si.d) ≤ 100 := by
      cases o with
      | none => exact ⟨fun d hd => (by cases hd), by decide⟩
      | some x =>
        have := Si.sh (h3 x (by simp))
        exact ⟨all1 this.1, by show D.wts [x.d] ≤ 100; simp only [D.wts]; exact o1 (Nat.add_le_add this.2 (Nat.le_refl _)) rfl⟩
    refine ⟨D.sh.tup (k := 11) (allc (lit (by decide +kernel)) (allc ((Ex.sh2 h1).mono (by exact o1 (Nat.le_refl _) rfl)) (all2 (D.sh.lst (all1 g2.1)) (D.sh.lst g3.1)))), ?_⟩
    simp only [Sm.d, D.wt, D.wts]
    exact o1 (Nat.add_le_add (Nat.le_refl _) (Nat.add_le_add (Nat.le_refl _) (Nat.add_le_add g1 (Nat.add_le_add (Nat.add_le_add (Nat.le_refl _) (Nat.add_le_add g2.2 (Nat.le_refl _))) (Nat.add_le_add (Nat.add_le_add (Nat.le_refl _) g3.2) (Nat.le_refl _)))))) rfl
theorem wts_le (c : Nat) : ∀ (ds : List D), (∀ d ∈ ds, D.wt d ≤ c) → D.wts ds ≤ c * ds.length
  | [], _ => by simp [D.wts]
  | d :: ds, h => by
    have h1 := h d (.head _)
    have h2 := wts_le c ds fun x hx => h x (.tail _ hx)
    rw [D.wts, List.length_cons, Nat.mul_succ]; omega
theorem pg_sh {ls : List Ln} (h : ∀ l ∈ ls, LnOk l) (hl : ls.length ≤ 6) : D.sh 15 (.lst ((pgOf ls).map eLine)) ∧ D.wt (.lst ((pgOf ls).map eLine)) ≤ 6000 := by
  have key : ∀ d ∈ (pgOf ls).map eLine, D.sh 14 d ∧ D.wt d ≤ 903 := by
    intro d hd
    obtain ⟨p, hp, rfl⟩ := List.mem_map.mp hd
    obtain ⟨l, hl, rfl⟩ := List.mem_map.mp hp
    have o := h l hl
    have hn := o.no
    simp only [List.mem_cons, List.not_mem_nil, or_false] at hn
    have e1 : ∀ d ∈ l.2.map Sm.d, D.sh 12 d := fun d hd => by obtain ⟨m, hm, rfl⟩ := List.mem_map.mp hd; exact (Sm.sh (o.wf m hm)).1
    have e2 := wts_le 300 (l.2.map Sm.d) fun d hd => by obtain ⟨m, hm, rfl⟩ := List.mem_map.mp hd; exact (Sm.sh (o.wf m hm)).2
    have e3 := o.len
    rw [List.length_map] at e2
    refine ⟨D.sh.tup (k := 13) (all2 ((D.sh.int (by omega) (by omega)).mono (by exact o1 (Nat.le_refl _) rfl)) (D.sh.lst e1)), ?_⟩
    simp only [eLine, D.wt, D.wts]
    exact o1 (Nat.add_le_add (Nat.le_refl _) (Nat.add_le_add (Nat.le_refl _) (Nat.add_le_add (Nat.add_le_add (Nat.le_refl _) (Nat.le_trans e2 (Nat.mul_le_mul (Nat.le_refl _) e3))) (Nat.le_refl _)))) rfl
  refine ⟨D.sh.lst fun d hd => (key d hd).1, ?_⟩
  have := wts_le 903 _ fun d hd => (key d hd).2
  unfold pgOf at this ⊢
  rw [List.length_map, List.length_map] at this
  simp only [D.wt]
  exact o1 (Nat.add_le_add (Nat.le_refl _) (Nat.le_trans this (Nat.mul_le_mul (Nat.le_refl _) hl))) rfl
end
set_option tactic.hygienic false
section

theorem nodup_sub {α : Type} [DecidableEq α] : ∀ {l m : List α}, l.Nodup → (∀ x ∈ l, x ∈ m) → l.length ≤ m.length
  | [], m, _, _ => by simp
  | x :: l, m, hn, hs => by
    rw [List.nodup_cons] at hn
    have hx := hs x (.head _)
    have h1 : l.length ≤ (m.erase x).length := nodup_sub hn.2 fun y hy => by
      have hne : y ≠ x := fun e => hn.1 (e ▸ hy)
      exact (List.mem_erase_of_ne hne).mpr (hs y (.tail _ hy))
    rw [List.length_erase_of_mem hx] at h1
    have h2 : 0 < m.length := List.length_pos_of_mem hx
    rw [List.length_cons]; omega
noncomputable def nm7 : List Str := ["A", "B%", "C$", "A()", "B%()", "C$()", "FNX"]
theorem nm7_w : ∀ w ∈ lw, w ∈ nm7 ∧ w ++ "()" ∈ nm7 := by decide +kernel
theorem nm7_fnx : ("FNX" : Str) ∈ nm7 := by decide +kernel
theorem nm7_a : ("A" : Str) ∈ nm7 := by decide +kernel
theorem nm7_b : ("B%()" : Str) ∈ nm7 := by decide +kernel
theorem nm7_len : ∀ w ∈ nm7, w.length ≤ 10 := by decide +kernel
theorem Ex.keys : ∀ (d : Nat) (e : Ex), e.wf d → ∀ x ∈ e.notes, x ∈ nm7
  | d, .whole, _ => by simp [Ex.notes]
  | d, .name w, h => by
    have hw : w ∈ lw := by unfold Ex.wf at h; exact h
    intro x hx
    rw [List.mem_singleton.mp hx]; exact (nm7_w w hw).1
  | d + 1, .item w e, h => by
    obtain ⟨hw, he⟩ : w ∈ lw ∧ e.wf d := h
    intro x hx
    rcases List.mem_cons.mp hx with rfl | hx
    · exact (nm7_w w hw).2
    · exact Ex.keys d e he x hx
  | d + 1, .fn e, h => by
    have he : e.wf d := h
    intro x hx
    rcases List.mem_cons.mp hx with rfl | hx
    · exact nm7_fnx
    · exact Ex.keys d e he x hx
  | d + 1, .two a b, h => by
    obtain ⟨ha, hb⟩ : a.wf d ∧ b.wf d := h
    intro x hx
    rcases List.mem_append.mp hx with hx | hx
    · exact Ex.keys d a ha x hx
    · exact Ex.keys d b hb x hx
  | 0, .item w e, h => h.elim
  | 0, .fn e, h => h.elim
  | 0, .two a b, h => h.elim
theorem Ex.keyU {e : Ex} (h : e.wf 2) : ∀ u ∈ e.notes.map rdU, u.1 ∈ nm7 := fun u hu => by
  obtain ⟨x, hx, rfl⟩ := List.mem_map.mp hu
  exact Ex.keys 2 e h x hx
theorem Pl.keyU {p : Pl} (h : p.wf) : ∀ u ∈ p.notes, u.1 ∈ nm7 := by
  cases p with
  | name w => intro u hu; rw [List.mem_singleton.mp hu]; exact (nm7_w w h).1
  | item w e =>
    obtain ⟨hw, he⟩ : w ∈ lw ∧ e.wf 2 := h
    intro u hu
    rcases List.mem_cons.mp hu with rfl | hu
    · exact (nm7_w w hw).2
    · exact Ex.keyU he u hu
theorem app_all {α : Type} {P : α → Prop} {l m : List α} (h1 : ∀ x ∈ l, P x) (h2 : ∀ x ∈ m, P x) : ∀ x ∈ l ++ m, P x := fun x hx => by
  rcases List.mem_append.mp hx with h | h
  · exact h1 x h
  · exact h2 x h
theorem cons_all {α : Type} {P : α → Prop} {a : α} {m : List α} (h1 : P a) (h2 : ∀ x ∈ m, P x) : ∀ x ∈ a :: m, P x := fun x hx => by
  rcases List.mem_cons.mp hx with rfl | h
  · exact h1
  · exact h2 x h
theorem Si.keyU : ∀ {s : Si}, s.wf → ∀ u ∈ s.notes, u.1 ∈ nm7
  | .let_ p e, h => app_all (Pl.keyU h.1) (Ex.keyU h.2)
  | .print e f, h => app_all (Ex.keyU h.1) (Ex.keyU h.2)
  | .go k t, h => fun u hu => by cases hu
  | .for_ e f, h => cons_all nm7_a (app_all (Ex.keyU h.1) (Ex.keyU h.2))
  | .next, _ => cons_all nm7_a fun u hu => by cases hu
  | .read p q, h => app_all (Pl.keyU h.1) (Pl.keyU h.2)
  | .input p, h => Pl.keyU h
  | .ongo e t u, h => Ex.keyU h.1
  | .dim e, h => cons_all nm7_b (Ex.keyU h)
  | .def_ e, h => cons_all nm7_fnx (Ex.keyU h)
  | .swap p q, h => app_all (Pl.keyU h.1) (Pl.keyU h.2)
  | .fix k, _ => fun u hu => by cases hu
  | .res k t, _ => fun u hu => by cases hu
theorem Si.goal_lg : ∀ {s : Si}, s.wf → ∀ t ∈ s.goals, t ∈ lg
  | .let_ p e, h => fun u hu => by cases hu
  | .print e f, h => fun u hu => by cases hu
  | .go k t, h => fun u hu => by rw [List.mem_singleton.mp hu]; exact h
  | .for_ e f, h => fun u hu => by cases hu
  | .next, _ => fun u hu => by cases hu
  | .read p q, h => fun u hu => by cases hu
  | .input p, h => fun u hu => by cases hu
  | .ongo e t u, h => cons_all h.2.1 (cons_all h.2.2 fun u hu => by cases hu)
  | .dim e, h => fun u hu => by cases hu
  | .def_ e, h => fun u hu => by cases hu
  | .swap p q, h => fun u hu => by cases hu
  | .fix k, _ => fun u hu => by cases hu
  | .res k t, h => fun u hu => by rw [List.mem_singleton.mp hu]; exact h
theorem Sm.keyU {m : Sm} (h : m.wf) : ∀ u ∈ m.notes, u.1 ∈ nm7 := by
  cases m with
  | one s => exact Si.keyU h
  | iff e f o =>
    refine app_all (Ex.keyU h.1) (app_all (Si.keyU h.2.1) fun u hu => ?_)
    obtain ⟨x, hx, hu⟩ := List.mem_flatMap.mp hu
    exact Si.keyU (h.2.2 x hx) u hu
theorem Sm.goal_lg {m : Sm} (h : m.wf) : ∀ t ∈ m.goals, t ∈ lg := by
  cases m with
  | one s => exact Si.goal_lg h
  | iff e f o =>
    refine app_all (Si.goal_lg h.2.1) fun u hu => ?_
    obtain ⟨x, hx, hu⟩ := List.mem_flatMap.mp hu
    exact Si.goal_lg (h.2.2 x hx) u hu
noncomputable abbrev six : List Int := [10, 20, 30, 40, 50, 60]
theorem nE_mem {ls : List Ln} (h : ∀ l ∈ ls, LnOk l) : ∀ e ∈ nE ls, e.1 ∈ nm7 ∧ e.2.1 ∈ six := fun e he => by
  unfold nE at he
  obtain ⟨l, hl, h1⟩ := List.mem_flatMap.mp he
  obtain ⟨u, hu, rfl⟩ := List.mem_map.mp h1
  obtain ⟨m, hm, hu⟩ := List.mem_flatMap.mp hu
  exact ⟨Sm.keyU ((h l hl).wf m hm) u hu, (h l hl).no⟩
theorem gE_mem {ls : List Ln} (h : ∀ l ∈ ls, LnOk l) : ∀ e ∈ gE ls, e.1 ∈ lg ∧ e.2 ∈ six := fun e he => by
  unfold gE at he
  obtain ⟨l, hl, h1⟩ := List.mem_flatMap.mp he
  obtain ⟨u, hu, rfl⟩ := List.mem_map.mp h1
  obtain ⟨m, hm, hu⟩ := List.mem_flatMap.mp hu
  exact ⟨Sm.goal_lg ((h l hl).wf m hm) u hu, (h l hl).no⟩
theorem names_few {ls : List Ln} (h : ∀ l ∈ ls, LnOk l) : (bookOf (nE ls)).length ≤ 7 ∧ ∀ p ∈ bookOf (nE ls), p.2.length ≤ 12 := by
  constructor
  · have := nodup_sub (bookOf_nodup (nE ls)) (m := nm7) fun k hk => by
      obtain ⟨p, hp, rfl⟩ := List.mem_map.mp hk
      obtain ⟨e, he, h1⟩ := List.mem_map.mp (bookOf_mem _ p hp).1
      rw [← h1]; exact (nE_mem h e he).1
    rw [List.length_map] at this
    exact this
  · intro p hp
    obtain ⟨_, h2, h3⟩ := bookOf_mem _ p hp
    have := nodup_sub h2 (m := six.flatMap fun i => [(i, true), (i, false)]) fun m hm => by
      have := (nE_mem h _ (h3 m hm)).2
      refine List.mem_flatMap.mpr ⟨m.1, this, ?_⟩
      obtain ⟨i, b⟩ := m
      cases b <;> simp
    exact this
theorem goals_few {ls : List Ln} (h : ∀ l ∈ ls, LnOk l) : (bookOf (gE ls)).length ≤ 4 ∧ ∀ p ∈ bookOf (gE ls), p.2.length ≤ 6 := by
  constructor
  · have := nodup_sub (bookOf_nodup (gE ls)) (m := lg) fun k hk => by
      obtain ⟨p, hp, rfl⟩ := List.mem_map.mp hk
      obtain ⟨e, he, h1⟩ := List.mem_map.mp (bookOf_mem _ p hp).1
      rw [← h1]; exact (gE_mem h e he).1
    rw [List.length_map] at this
    exact this
  · intro p hp
    obtain ⟨_, h2, h3⟩ := bookOf_mem _ p hp
    exact nodup_sub h2 (m := six) fun m hm => (gE_mem h _ (h3 m hm)).2
theorem Si.simple (s : Si) : simpleS s.d := by
  cases s with
  | let_ p e => exact ⟨"LET", [p.d, e.d], rfl, by simp, by decide +kernel⟩
  | print e f => exact ⟨"PRINT", _, rfl, by simp, by decide +kernel⟩
  | go k t => exact ⟨goK k, _, rfl, by simp, by unfold goK; split <;> decide +kernel⟩
  | for_ e f => exact ⟨"FOR", _, rfl, by simp, by decide +kernel⟩
  | next => exact ⟨"NEXT", _, rfl, by simp, by decide +kernel⟩
  | read p q => exact ⟨"READ", _, rfl, by simp, by decide +kernel⟩
  | input p => exact ⟨"INPUT", _, rfl, by simp, by decide +kernel⟩
  | ongo e t u => exact ⟨"ONGO", _, rfl, by simp, by decide +kernel⟩
  | dim e => exact ⟨"DIM", _, rfl, by simp, by decide +kernel⟩
  | def_ e => exact ⟨"DEF", _, rfl, by simp, by decide +kernel⟩
  | swap p q => exact ⟨"SWAP", _, rfl, by simp, by decide +kernel⟩
  | fix k =>
    show simpleS (fixD k)
    unfold fixD
    split
    · exact ⟨"RESTORE", _, rfl, by simp, by decide +kernel⟩
    · split
      · exact ⟨"ONERR", _, rfl, by simp, by decide +kernel⟩
      · split
        · exact ⟨"ERASE", _, rfl, by simp, by decide +kernel⟩
        · exact ⟨"RETURN", _, rfl, by simp, by decide +kernel⟩
  | res k t =>
    refine ⟨resK k, _, rfl, by simp, ?_⟩
    unfold resK
    split
    · decide +kernel
    · split <;> decide +kernel
theorem Sm.stmt (m : Sm) : stmtOk m.d := by
  cases m with
  | one s => exact .inl (Si.simple s)
  | iff e f o =>
    refine .inr ⟨e.d, [f.d], o.toList.map Si.d, rfl, ?_, ?_⟩
    · cases o <;> simp
    · intro x hx
      rcases List.mem_append.mp hx with h | h
      · rw [List.mem_singleton.mp h]; exact Si.simple f
      · obtain ⟨y, _, rfl⟩ := List.mem_map.mp h; exact Si.simple y
section
variable {g : Gm}
theorem Sm.rd (C : Cx g) {m : Sm} (h : m.wf) : (∀ d ∈ exD m.d, RdOk g d (su d) (sg d)) ∧ (exD m.d).flatMap su = m.notes ∧ (exD m.d).flatMap sg = m.goals ∧ (exD m.d).length ≤ 3 := by
  have one : ∀ s : Si, s.wf → RdOk g s.d (su s.d) (sg s.d) ∧ su s.d = s.notes ∧ sg s.d = s.goals := fun s hs => by
    obtain ⟨h1, h2, h3⟩ := Si.rd C s hs
    exact ⟨by rw [h2, h3]; exact h1, h2, h3⟩
  cases m with
  | one s =>
    obtain ⟨h1, h2, h3⟩ := one s h
    have e : exD (Sm.one s).d = [s.d] := by show s.d :: subsD s.d = [s.d]; rw [simple_subs (Si.simple s)]
    rw [e]
    refine ⟨fun d hd => by rw [List.mem_singleton.mp hd]; exact h1, ?_, ?_, by simp⟩
    · simp [h2, Sm.notes]
    · simp [h3, Sm.goals]
  | iff e f o =>
    obtain ⟨he, hf, ho⟩ := h
    obtain ⟨i1, i2, i3⟩ := rd_if C (xs := [f.d]) (ys := o.toList.map Si.d) he
    obtain ⟨f1, f2, f3⟩ := one f hf
    have e1 : exD (Sm.iff e f o).d = (D.tup [.str "IF", e.d, .lst [f.d], .lst (o.toList.map Si.d)]) :: f.d :: o.toList.map Si.d := by
      show _ :: (if ("IF" : Str) = "IF" then [f.d] ++ o.toList.map Si.d else []) = _
      rw [if_pos rfl]; rfl
    rw [e1]
    have ho' : ∀ x ∈ o.toList, RdOk g x.d (su x.d) (sg x.d) ∧ su x.d = x.notes ∧ sg x.d = x.goals := fun x hx => one x (ho x hx)
    refine ⟨cons_all (by rw [i2, i3]; exact i1) (cons_all f1 fun d hd => ?_), ?_, ?_, ?_⟩
    · obtain ⟨x, hx, rfl⟩ := List.mem_map.mp hd; exact (ho' x hx).1
    · rw [List.flatMap_cons, List.flatMap_cons, i2, f2, fm_map, fm_congr fun x hx => (ho' x hx).2.1]; rfl
    · rw [List.flatMap_cons, List.flatMap_cons, i3, f3, fm_map, fm_congr fun x hx => (ho' x hx).2.2]; rfl
    · cases o <;> simp
theorem pg_names (C : Cx g) {ls : List Ln} (h : ∀ l ∈ ls, LnOk l) : namesE su (pgOf ls) = nE ls := by
  unfold namesE pgOf nE
  rw [fm_map]
  refine fm_congr fun l hl => ?_
  have e : (l.2.flatMap fun m => (exD m.d).flatMap su) = l.2.flatMap Sm.notes := fm_congr fun m hm => (Sm.rd C ((h l hl).wf m hm)).2.1
  show ((l.2.map Sm.d).flatMap exD).flatMap (fun d => (su d).map fun u => (u.1, (l.1, u.2))) = (l.2.flatMap Sm.notes).map fun u => (u.1, (l.1, u.2))
  rw [← e, ← map_fm, fm_map, List.flatMap_assoc]
theorem pg_goals (C : Cx g) {ls : List Ln} (h : ∀ l ∈ ls, LnOk l) : goalsE sg (pgOf ls) = gE ls := by
  unfold goalsE pgOf gE
  rw [fm_map]
  refine fm_congr fun l hl => ?_
  have e : (l.2.flatMap fun m => (exD m.d).flatMap sg) = l.2.flatMap Sm.goals := fm_congr fun m hm => (Sm.rd C ((h l hl).wf m hm)).2.2.1
  show ((l.2.map Sm.d).flatMap exD).flatMap (fun d => (sg d).map fun u => (u, l.1)) = (l.2.flatMap Sm.goals).map fun u => (u, l.1)
  rw [← e, ← map_fm, fm_map, List.flatMap_assoc]
theorem lost_len (known : List Int) (T : List (Int × List Int)) (h : ∀ p ∈ T, p.2.length ≤ 6) : (lostT known T).length ≤ 6 * T.length := by
  refine fm_le _ 6 T fun p hp => ?_
  split
  · simp
  · rw [List.length_map]; exact h p hp
theorem pg_ok (C : Cx g) {ls : List Ln} (h : ∀ l ∈ ls, LnOk l) (hl : ls.length ≤ 6) : PgOk g su sg (pgOf ls) := by
  have hN := nE_len h
  have hG := gE_len h
  obtain ⟨k1, k2⟩ := names_few h
  obtain ⟨k3, k4⟩ := goals_few h
  have six_bd : ∀ i ∈ six, 0 ≤ i ∧ i ≤ 1000 := by decide
  have lg_bd : ∀ i ∈ lg, 0 ≤ i ∧ i ≤ 1000 := by decide
  refine ⟨fun p hp => ?_, by rw [pg_names C h]; exact o1 (Nat.le_trans hN (Nat.mul_le_mul (Nat.le_refl _) hl)) rfl, by rw [pg_goals C h]; exact o1 (Nat.le_trans hG (Nat.mul_le_mul (Nat.le_refl _) hl)) rfl, fun p hp => ?_, ?_, ?_, by rw [pg_names C h]; exact o2 k1 rfl, by rw [pg_goals C h]; exact o2 k3 rfl, ?_⟩
  · obtain ⟨l, hl', rfl⟩ := List.mem_map.mp hp
    have o := h l hl'
    have hlen := fm_le (fun m : Sm => exD m.d) 3 l.2 fun m hm => (Sm.rd C (o.wf m hm)).2.2.2
    have := o.len
    refine ⟨fun d hd => ?_, ?_, fun d hd => ?_⟩
    · obtain ⟨m, _, rfl⟩ := List.mem_map.mp hd; exact Sm.stmt m
    · show ((l.2.map Sm.d).flatMap exD).length ≤ 900
      rw [fm_map]; exact o1 (Nat.le_trans hlen (Nat.mul_le_mul (Nat.le_refl _) this)) rfl
    · obtain ⟨x, hx, hd⟩ := List.mem_flatMap.mp hd
      obtain ⟨m, hm, rfl⟩ := List.mem_map.mp hx
      exact (Sm.rd C (o.wf m hm)).1 d hd
  · obtain ⟨l, hl', rfl⟩ := List.mem_map.mp hp
    exact six_bd _ (h l hl').no
  · rw [pg_goals C h]; exact fun e he => lg_bd _ (gE_mem h e he).1
  · rw [pg_names C h]; exact fun e he => by have := nm7_len _ (nE_mem h e he).1; exact o1 this rfl
  · rw [pg_goals C h]
    have := lost_len ((pgOf ls).map (·.1)) _ k4
    exact o2 (Nat.le_trans this (Nat.mul_le_mul (Nat.le_refl _) k3)) rfl
end
end
set_option tactic.hygienic false
section

noncomputable abbrev PG (ls : List Ln) : D := .lst ((pgOf ls).map eLine)
noncomputable abbrev KN (ls : List Ln) : List Int := (pgOf ls).map (·.1)
noncomputable abbrev lwF (ls : List Ln) : Ro := [("told", .d (.dcts (dN (bookOf (nE ls))))), ("goals", .d (.dcti (dG (bookOf (gE ls))))), ("ahead", .d (.str (PG ls).py.shown)), ("known", .d (.lst ((KN ls).map .int))), ("program", .d (PG ls)), ("names", .d (.dcts (dN (bookOf (nE ls))))), ("leads", .d (.dcti (dG (bookOf (gE ls)))))]
theorem nm7_ok : ∀ w ∈ nm7, PyData.strOk w = true := by decide +kernel
theorem nice_strs {xs : List Str} (h : ∀ x ∈ xs, PyData.strOk x = true) : D.nice 1 (.lst (xs.map .str)) := .lst fun d hd => by
  obtain ⟨x, hx, rfl⟩ := List.mem_map.mp hd
  exact .str (h x hx)
theorem keys_ok {ls : List Ln} (h : ∀ l ∈ ls, LnOk l) : ∀ k ∈ (bookOf (nE ls)).map (·.1), k ∈ nm7 := fun k hk => by
  obtain ⟨p, hp, rfl⟩ := List.mem_map.mp hk
  obtain ⟨e, he, h1⟩ := List.mem_map.mp (bookOf_mem _ p hp).1
  rw [← h1]; exact (nE_mem h e he).1
section
variable {g : Gm} {n : Nat} {σ : St} {Q : AV → St → Prop} {env : Env} {ρ : Ro}
theorem W2.neSame {k : Nat} {d : D} (h : D.nice k d) (hk : k ≤ 64) (hq : Q (.d (.bool false)) σ) : W2 g n (compareOp .NotEq) (.d d) (.d d) σ Q :=
  W2.neD (h.ok hk) (h.ok hk) (by rw [h.same]; exact hq)
theorem dictsI_ok {T : List (Int × List Int)} : ∀ p ∈ dG T, p.2.ok = true := fun p hp => by
  obtain ⟨q, _, rfl⟩ := List.mem_map.mp hp
  exact (D.nice.lst (k := 0) fun d hd => by obtain ⟨x, _, rfl⟩ := List.mem_map.mp hd; exact .int x).ok (by decide)
theorem collN {m : Nat} {T : List (Str × List (Int × Bool))} (h : T.length ≤ 900) : Collects g m (.d (.dcts (dN T))) ((T.map (·.1)).map .str) σ := by
  have := Collects.dcts (g := g) (n := m) (σ := σ) (kvs := dN T) (by rw [List.length_map]; exact o1 h rfl)
  rw [List.map_map] at this
  rw [List.map_map]; exact this
theorem collG {m : Nat} {T : List (Int × List Int)} (h : T.length ≤ 900) : Collects g m (.d (.dcti (dG T))) ((T.map (·.1)).map .int) σ := by
  have := Collects.dcti (g := g) (n := m) (σ := σ) (kvs := dG T) (by rw [List.length_map]; exact o1 h rfl)
  rw [List.map_map] at this
  rw [List.map_map]; exact this
variable {L a : Addr} {cd : Value} {K : Fl → Ro → St → Prop} {ls : List Ln}
theorem law_t6 (C : Cx g) (h : ∀ l ∈ ls, LnOk l) (hl : ls.length ≤ 6) (hr : WSs g (n + 7) (lwEnv L a cd) (lwF ls) σ ((dAt 30).body.drop 7) K) : WSs g (n + 7) (lwEnv L a cd) (lwF ls) σ ((dAt 30).body.drop 6) K := by
  obtain ⟨k1, k2⟩ := names_few h
  have hko := keys_ok h
  refine WSs.at 6 (by rfl) ?_
  refine WS.cond ?_
  refine WT.or_cons ?_
  refine WT.compare ?_
  walk_at "s"
  refine W2.neDictI dictsI_ok (WTr.bool ?_)
  rw [if_neg (by decide)]
  refine WT.or_cons ?_
  refine WT.compare ?_
  refine WE.callB C.sorted ?_
  walk_at "s"
  refine WC.sortedS (collN (by exact o1 k1 rfl)) (by rw [List.length_map]; exact o2 k1 rfl) ?_
  refine WE.callB C.sorted ?_
  walk_at "s"
  refine WC.sortedS (collN (by exact o1 k1 rfl)) (by rw [List.length_map]; exact o2 k1 rfl) ?_
  refine W2.neSame (nice_strs fun x hx => nm7_ok x (hko x ((sortS_perm _).mem_iff.mp hx))) (by decide) (WTr.bool ?_)
  rw [if_neg (by decide)]
  refine WT.or_nil ?_
  rw [if_neg (by decide)]
  exact WSs.nil hr
theorem law_t7 (C : Cx g) (h : ∀ l ∈ ls, LnOk l) (hl : ls.length ≤ 6) (hr : WSs g (n + 7) (lwEnv L a cd) (lwF ls) σ ((dAt 30).body.drop 8) K) : WSs g (n + 7) (lwEnv L a cd) (lwF ls) σ ((dAt 30).body.drop 7) K := by
  obtain ⟨k1, k2⟩ := names_few h
  have hnd := bookOf_nodup (nE ls)
  refine WSs.at 7 (by rfl) ?_
  refine WS.cond ?_
  refine WT.compare ?_
  refine WE.comp1 [("told", .d (.dcts (dN (bookOf (nE ls))))), ("names", .d (.dcts (dN (bookOf (nE ls)))))] (by rfl) (fun p hp => ?_) ?_
  · simp only [List.mem_cons, List.not_mem_nil, or_false] at hp
    rcases hp with rfl | rfl <;> exact ⟨by (with_reducible repeat first | exact List.mem_cons_self | apply List.mem_cons_of_mem), rfl⟩
  walk_at "s"
  refine ⟨_, IterV.dcts, fun Cc => CLoop.fm (fun _ => false) id _ [] (fun d hd => ?_) (by rw [List.length_map, List.length_map, List.length_nil]; exact o1 (Nat.add_le_add (Nat.le_refl _) k1) rfl) ?_⟩
  · obtain ⟨q, hq, rfl⟩ := List.mem_map.mp hd
    obtain ⟨r, hr, rfl⟩ := List.mem_map.mp hq
    have hrl := k2 r hr
    dsimp only
    refine WA.name (by repeat first | exact Off.nil | with_reducible apply Off.skip | (apply Off.keepD; kernel_rfl)) ⟨fun q hq => List.mem_cons_of_mem _ hq, ?_⟩
    have e : r.2.map eMark = (r.2.map fun m => (m.1, hw m.2)).map fun p : Int × Str => D.tup [.int p.1, .str p.2] := by rw [List.map_map]; rfl
    refine CIf.one ?_
    refine WT.compare ?_
    refine WE.callB C.sorted ?_
    walk_at "s"
    refine W2.itemDict DictV.dcts KeyV.str (look_dN hnd hr) ?_ (fun P v hr o => by cases hr; rfl)
    walk_at "s"
    refine WC.sorted (Collects.lst (by rw [List.length_map]; exact o1 hrl rfl)) (by rw [e]; exact SortOk.marks _) (by rw [List.length_map]; exact o2 hrl rfl) ?_
    refine WE.callB C.sorted ?_
    walk_at "s"
    refine W2.itemDict DictV.dcts KeyV.str (look_dN hnd hr) ?_ (fun P v hr o => by cases hr; rfl)
    walk_at "s"
    refine WC.sorted (Collects.lst (by rw [List.length_map]; exact o1 hrl rfl)) (by rw [e]; exact SortOk.marks _) (by rw [List.length_map]; exact o2 hrl rfl) ?_
    refine W2.neSame (k := 2) (.lst fun d hd => ?_) (by decide) (WTr.bool ⟨rfl, rfl, fun x => by cases x⟩)
    obtain ⟨m, _, rfl⟩ := List.mem_map.mp (detSort_mem _ _ d hd)
    exact nice_mark m
  · have e : (((dN (bookOf (nE ls))).map fun p => D.str p.1).filter fun _ => false).map id = [] := by
      rw [List.filter_eq_nil_iff.mpr fun x hx => by simp]; rfl
    rw [e, List.append_nil]
    refine WE.list ?_
    walk_at "s"
    refine ⟨[], rfl, by simp, ?_⟩
    refine W2.neSame (k := 1) (.lst fun d hd => by cases hd) (by decide) (WTr.bool ?_)
    rw [if_neg (by decide)]
    exact WSs.nil hr
theorem law_t8 (C : Cx g) (h : ∀ l ∈ ls, LnOk l) (hl : ls.length ≤ 6) (hr : WSs g (n + 7) (lwEnv L a cd) (lwF ls) σ ((dAt 30).body.drop 9) K) : WSs g (n + 7) (lwEnv L a cd) (lwF ls) σ ((dAt 30).body.drop 8) K := by
  have H := pg_ok C h hl
  obtain ⟨ca, hca, cF⟩ := C.lost_goals
  have hkl := H.kl
  have hnd := bookOf_nodup (gE ls)
  obtain ⟨k3, k4⟩ := goals_few h
  rw [pg_goals C h] at hkl
  have hkl' : (lostT (KN ls) (bookOf (gE ls))).length < 64 := hkl
  refine WSs.at 8 (by rfl) ?_
  refine WS.cond ?_
  refine WT.compare ?_
  refine WE.callFn hca cF ?_
  walk_at "s"
  refine lost_goals_spec (n := n + 1) C H (by unfold pgOf; rw [List.length_map]; exact o1 hl rfl) ?_ cF
  rw [pg_goals C h, show List.map (fun x : Int × List D => x.1) (pgOf ls) = KN ls from rfl]
  refine WE.callB C.sorted ?_
  refine WEs.cons ?_
  refine WE.comp2 [("leads", .d (.dcti (dG (bookOf (gE ls))))), ("known", .d (.lst ((KN ls).map .int)))] (by rfl) (fun p hp => ?_) ?_
  · simp only [List.mem_cons, List.not_mem_nil, or_false] at hp
    rcases hp with rfl | rfl <;> exact ⟨by (with_reducible repeat first | exact List.mem_cons_self | apply List.mem_cons_of_mem), rfl⟩
  walk_at "s"
  generalize hT : bookOf (gE ls) = T at *
  generalize hkn : KN ls = known at *
  refine ⟨_, IterV.dcti, fun Cc => CLoop.fm2 (fun d => !hasM (known.map .int) d) (fun d => (atI T d).map .int) (fun d e => .tup [e, d]) _ [] (fun d hd => ?_) ?_ ?_⟩
  · obtain ⟨q, hqm, rfl⟩ := List.mem_map.mp hd
    obtain ⟨r, hr, rfl⟩ := List.mem_map.mp hqm
    dsimp only
    refine WA.name (by repeat first | exact Off.nil | with_reducible apply Off.skip | (apply Off.keepD; kernel_rfl)) ⟨fun q hq => List.mem_cons_of_mem _ hq, ?_⟩
    refine CIf.one ?_
    refine WT.compare ?_
    walk_at "s"
    refine W2.notInL (enc_int.ok r.1) (by rw [D.flat]; exact enc_int.flats known) (enc_int.lay known) (WTr.bool ?_)
    refine ⟨rfl, rfl, fun _ => ?_⟩
    walk_at "s"
    refine W2.itemDict DictV.dcti KeyV.int (look_dG hnd hr) ?_ (fun P v hr o => by cases hr; rfl)
    refine ⟨rfl, ?_⟩
    rw [atI_at hnd hr]
    refine ⟨IterV.lst, fun e he => ?_⟩
    obtain ⟨x, hx, rfl⟩ := List.mem_map.mp he
    refine WA.name (by repeat first | exact Off.nil | with_reducible apply Off.skip | (apply Off.keepD; kernel_rfl)) ⟨fun q hq => List.mem_cons_of_mem _ hq, ?_⟩
    refine WE.tuple ?_
    walk_at "s"
    exact ⟨[.int x, .int r.1], rfl, by simp, rfl, rfl⟩
  · rw [fm_len _ _ (fun d e => D.tup [e, d]), lost_out hnd, List.length_map, List.length_nil]; exact o1 (Nat.add_le_add (Nat.le_refl _) (o5 hkl')) rfl
  · rw [List.nil_append, lost_out hnd]
    walk_at "s"
    refine WC.sorted (Collects.lst (by exact o1 (oM (o5 hkl')) rfl)) (SortOk.pairs _) (by simpa using hkl') ?_
    have nn : D.nice 2 (.lst (detSort ltD ((lostT known T).map ePair))) := .lst fun d hd => by
      obtain ⟨m, _, rfl⟩ := List.mem_map.mp (detSort_mem _ _ d hd)
      exact .tup fun d hd => by
        simp only [List.mem_cons, List.not_mem_nil, or_false] at hd
        rcases hd with rfl | rfl <;> exact .int _
    refine W2.neSame nn (by decide) ?_
    refine WTr.bool ?_
    rw [if_neg (by decide)]
    exact WSs.nil hr
theorem law_t9 (C : Cx g) (h : ∀ l ∈ ls, LnOk l) (hl : ls.length ≤ 6) (hr : WSs g (n + 7) (lwEnv L a cd) (lwF ls) σ ((dAt 30).body.drop 10) K) : WSs g (n + 7) (lwEnv L a cd) (lwF ls) σ ((dAt 30).body.drop 9) K := by
  have H := pg_ok C h hl
  obtain ⟨ca, hca, cF⟩ := C.never_set
  have hnd := bookOf_nodup (nE ls)
  obtain ⟨k1, k2⟩ := names_few h
  have hko := keys_ok h
  refine WSs.at 9 (by rfl) ?_
  refine WS.cond ?_
  refine WT.compare ?_
  refine WE.callFn hca cF ?_
  walk_at "s"
  refine never_set_spec (n := n + 1) C H ?_ cF
  rw [pg_names C h]
  refine WE.callB C.sorted ?_
  refine WEs.cons ?_
  refine WE.comp1 [("names", .d (.dcts (dN (bookOf (nE ls)))))] (by rfl) (fun p hp => ?_) ?_
  · rw [List.mem_singleton.mp hp]; exact ⟨by (with_reducible repeat first | exact List.mem_cons_self | apply List.mem_cons_of_mem), rfl⟩
  walk_at "s"
  have hlen : (bookOf (nE ls)).length ≤ 7 := k1
  generalize hT : bookOf (nE ls) = T at *
  refine ⟨_, IterV.dcts, fun Cc => CLoop.fm (fun d => unset T (unS d)) id _ [] (fun d hd => ?_) (by rw [List.length_map, List.length_map, List.length_nil]; exact o1 (Nat.add_le_add (Nat.le_refl _) k1) rfl) ?_⟩
  · obtain ⟨q, hq, rfl⟩ := List.mem_map.mp hd
    obtain ⟨r, hr, rfl⟩ := List.mem_map.mp hq
    have hrl := k2 r hr
    dsimp only
    refine WA.name (by repeat first | exact Off.nil | with_reducible apply Off.skip | (apply Off.keepD; kernel_rfl)) ⟨fun q hq => List.mem_cons_of_mem _ hq, ?_⟩
    refine CIf.one ?_
    refine WT.compare ?_
    refine WE.cStr ?_
    refine WE.comp1 [] (by rfl) (fun p hp => by cases hp) ?_
    walk_at "s"
    refine W2.itemDict DictV.dcts KeyV.str (look_dN hnd hr) ?_ (fun P v hr o => by cases hr; rfl)
    refine ⟨_, IterV.lst, fun Cd => CLoop.map (fun d => match d with | .tup [_, x] => x | _ => D.none) _ [] (fun d hd => ?_) (by rw [List.length_map, List.length_nil]; exact o1 (Nat.add_le_add (Nat.le_refl _) hrl) rfl) ?_⟩
    · obtain ⟨m, hm, rfl⟩ := List.mem_map.mp hd
      refine WA.tuple (xs := ["line", "how"]) (ps := [_, _]) rfl rfl rfl (Bound.all (by rfl)) (Offs.cons (by repeat first | exact Off.nil | with_reducible apply Off.skip | (apply Off.keepD; kernel_rfl)) (Offs.cons (by repeat first | exact Off.nil | with_reducible apply Off.skip | (apply Off.keepD; kernel_rfl)) .nil)) ⟨fun q hq => (by cases hq), ?_⟩
      walk_at "s"
      exact ⟨rfl, rfl⟩
    have e : ([] ++ (r.2.map eMark).map fun d : D => match d with | .tup [_, x] => x | _ => D.none) = r.2.map fun m => D.str (hw m.2) := by
      rw [List.nil_append, List.map_map]; rfl
    rw [e]
    refine W2.notInL (by decide +kernel) (by rw [D.flat]; exact (fine_hows r.2).1) (fine_hows r.2).2 (WTr.bool ?_)
    show _ ∧ (!hasM (r.2.map fun m => D.str (hw m.2)) (.str "set")) = unset T r.1 ∧ _
    rw [has_set]
    unfold unset
    rw [atN_at hnd hr]
    refine ⟨rfl, rfl, fun _ => ?_⟩
    walk_at "s"
    exact ⟨rfl, rfl⟩
  · have e : (((dN T).map fun p => D.str p.1).filter fun d => unset T (unS d)).map id = ((T.map (·.1)).filter (unset T)).map .str := by
      rw [List.map_id]
      have : ((dN T).map fun p => D.str p.1) = (T.map (·.1)).map .str := by rw [List.map_map, List.map_map]; rfl
      rw [this, List.filter_map]; rfl
    rw [List.nil_append, e]
    walk_at "s"
    have hfl : ((T.map (·.1)).filter (unset T)).length ≤ 7 := Nat.le_trans (List.length_filter_le _ _) (by rw [List.length_map]; exact hlen)
    refine WC.sortedS (Collects.lst (by rw [List.length_map]; exact o1 hfl rfl)) (by exact o2 hfl rfl) ?_
    refine W2.neSame (nice_strs fun x hx => nm7_ok x (hko x (List.mem_filter.mp ((sortS_perm _).mem_iff.mp hx)).1)) (by decide) (WTr.bool ?_)
    rw [if_neg (by decide)]
    exact WSs.nil hr
end
end
set_option tactic.hygienic false
section

theorem row_cps (k r : Str) : (k ++ ": " ++ r).cps.toList = k.cps.toList ++ 58 :: 32 :: r.cps.toList := by
  have e : (": " : Str).cps.toList = [58, 32] := by decide +kernel
  show ((k.cps ++ (": " : Str).cps) ++ r.cps).toList = _
  rw [Array.toList_append, Array.toList_append, e]; simp
theorem find_colon {k r : Str} (h : 58 ∉ k.cps.toList) : Txt.find (k ++ ": " ++ r) ":" = (k.length : Int) := by
  have ec : (":" : Str) = ⟨#[58]⟩ := by decide +kernel
  have hx := row_cps k r
  have hkl : k.cps.toList.length = k.length := by simp [Str.length]
  generalize k ++ ": " ++ r = x at hx ⊢
  rw [ec]
  unfold Txt.find
  have at1 : x.cps.toList[k.length]? = some 58 := by
    rw [hx, List.getElem?_append_right (by exact Nat.le_of_eq hkl), hkl, Nat.sub_self]; rfl
  rcases StrLaws.occ_head x ⟨#[58]⟩ 1 (Nat.le_refl 1) with ⟨_, hn⟩ | ⟨i, t, h0, hi, hn⟩
  · exact absurd ((StrLaws.subAt_one x 58 k.length).mpr at1) (hn k.length)
  · rw [h0]
    have hi' := (StrLaws.subAt_one x 58 i).mp hi
    have h1 : ¬ k.length < i := fun hlt => hn k.length hlt ((StrLaws.subAt_one x 58 k.length).mpr at1)
    have h2 : ¬ i < k.length := fun hlt => by
      rw [hx, List.getElem?_append_left (by omega)] at hi'
      exact h (List.mem_of_getElem? hi')
    show (i : Int) = (k.length : Int)
    omega
theorem slice_row (k r : Str) : Txt.slice (k ++ ": " ++ r) none (some (k.length : Int)) = k := by
  have hx := row_cps k r
  have hkl : k.cps.toList.length = k.length := by simp [Str.length]
  have hlen : (k.length : Int) ≤ (k ++ ": " ++ r).length := by
    rw [PySem.Str.length_append, PySem.Str.length_append]; omega
  have h := beq_iff_eq.mp (slice_closes_toL (x := k ++ ": " ++ r) (j := (k.length : Int)) (by exact i2 (Int.natCast_nonneg _) rfl) hlen)
  rw [h, hx]
  have e : (((k.length : Int) - 0).toNat) = k.cps.toList.length := by omega
  rw [e]
  show (⟨((k.cps.toList ++ 58 :: 32 :: r.cps.toList).take k.cps.toList.length).toArray⟩ : Str) = k
  rw [List.take_left]
theorem strOk_append {x y : Str} (hx : PyData.strOk x = true) (hy : PyData.strOk y = true) : PyData.strOk (x ++ y) = true := by
  unfold PyData.strOk at *
  show (x.cps ++ y.cps).all _ = true
  rw [Array.all_append, hx, hy]; rfl
theorem strOk_join {sep : Str} (hs : PyData.strOk sep = true) : ∀ {ys : List Str}, (∀ y ∈ ys, PyData.strOk y = true) → PyData.strOk (Str.join sep ys) = true
  | [], _ => by show PyData.strOk Str.empty = true; decide +kernel
  | [x], h => h x (.head _)
  | x :: y :: r, h => by
    show PyData.strOk (x ++ sep ++ Str.join sep (y :: r)) = true
    exact strOk_append (strOk_append (h x (.head _)) hs) (strOk_join hs fun z hz => h z (.tail _ hz))
theorem strOk_join' {sep : Str} (hs : PyData.strOk sep = true) {ys : List Str} (h : ∀ y ∈ ys, PyData.strOk y = true) : PyData.strOk (Txt.join sep ys) = true := by
  show PyData.strOk (Builtin.Str.glued sep ys) = true
  rw [StrLaws.glued_eq_join]; exact strOk_join hs h
theorem strOk_sI {i : Int} (h0 : 0 ≤ i) (h1 : i ≤ 1000) : PyData.strOk (sI i) = true := by
  have : ∀ n : Fin 1001, PyData.strOk (sI (Int.ofNat n.1)) = true := by decide +kernel
  have h := this ⟨i.toNat, by omega⟩
  have e : Int.ofNat i.toNat = i := by show ((i.toNat : Nat) : Int) = i; omega
  rw [e] at h
  exact h
theorem nm7_colon : ∀ w ∈ nm7, 58 ∉ w.cps.toList := by decide +kernel
theorem six_bd : ∀ i ∈ six, 0 ≤ i ∧ i ≤ 1000 := by decide
theorem lg_bd : ∀ i ∈ lg, 0 ≤ i ∧ i ≤ 1000 := by decide
theorem rowG_ok {ls : List Ln} (h : ∀ l ∈ ls, LnOk l) : ∀ r ∈ bookOf (gE ls), PyData.strOk (rowG (bookOf (gE ls)) r.1) = true := fun r hr => by
  unfold rowG
  rw [atI_at (bookOf_nodup _) hr]
  obtain ⟨h1, _, h3⟩ := bookOf_mem _ r hr
  obtain ⟨e, he, h4⟩ := List.mem_map.mp h1
  have hk : r.1 ∈ lg := by rw [← h4]; exact (gE_mem h e he).1
  refine strOk_append (strOk_append (strOk_sI (lg_bd _ hk).1 (lg_bd _ hk).2) (by decide +kernel)) (strOk_join' (by decide +kernel) fun y hy => ?_)
  obtain ⟨i, hi, rfl⟩ := List.mem_map.mp hy
  have := (gE_mem h _ (h3 i hi)).2
  exact strOk_sI (six_bd _ this).1 (six_bd _ this).2
section
variable {g : Gm} {n : Nat} {σ : St} {Q : AV → St → Prop} {env : Env} {ρ : Ro}
variable {L a : Addr} {cd : Value} {K : Fl → Ro → St → Prop} {ls : List Ln}
noncomputable abbrev rowsD (ls : List Ln) : D := .lst ((sortI ((bookOf (gE ls)).map (·.1))).map fun k => D.str (rowG (bookOf (gE ls)) k))
noncomputable abbrev lwF2 (ls : List Ln) : Ro := ("rows", .d (rowsD ls)) :: lwF ls
theorem rows_nice (h : ∀ l ∈ ls, LnOk l) : D.nice 1 (rowsD ls) := .lst fun d hd => by
  obtain ⟨k, hk, rfl⟩ := List.mem_map.mp hd
  obtain ⟨r, hr, rfl⟩ := List.mem_map.mp (sortI_mem _ k hk)
  exact .str (rowG_ok h r hr)
theorem law_t10 (C : Cx g) (h : ∀ l ∈ ls, LnOk l) (hl : ls.length ≤ 6) (hr : WSs g (n + 7) (lwEnv L a cd) (lwF2 ls) σ ((dAt 30).body.drop 11) K) : WSs g (n + 7) (lwEnv L a cd) (lwF ls) σ ((dAt 30).body.drop 10) K := by
  have hnd := bookOf_nodup (gE ls)
  obtain ⟨k3, k4⟩ := goals_few h
  have hbd : ∀ r ∈ bookOf (gE ls), (0 ≤ r.1 ∧ r.1 ≤ 1000) ∧ (∀ m ∈ r.2, 0 ≤ m ∧ m ≤ 1000) := fun r hr => by
    obtain ⟨h1, _, h3⟩ := bookOf_mem _ r hr
    obtain ⟨e, he, h4⟩ := List.mem_map.mp h1
    exact ⟨by rw [← h4]; exact lg_bd _ (gE_mem h e he).1, fun m hm => six_bd _ (gE_mem h _ (h3 m hm)).2⟩
  refine WSs.at 10 (by rfl) ?_
  refine WS.assignComp1 [("leads", .d (.dcti (dG (bookOf (gE ls)))))] (by repeat first | exact Off.nil | with_reducible apply Off.skip | (apply Off.keepD; kernel_rfl)) (by rfl) (fun p hp => ?_) ?_
  · rw [List.mem_singleton.mp hp]; exact ⟨by (with_reducible repeat first | exact List.mem_cons_self | apply List.mem_cons_of_mem), rfl⟩
  refine WE.callB C.sorted ?_
  walk_at "s"
  refine WC.sorted (collG (by exact o1 k3 rfl)) (SortOk.ints _) (by rw [List.length_map, List.length_map]; exact o2 k3 rfl) ?_
  rw [sortI_eq]
  have hsl : (sortI ((bookOf (gE ls)).map (·.1))).length ≤ 100000 := by
    have : (detSort ltD (((bookOf (gE ls)).map (·.1)).map D.int)).length ≤ 100000 := by
      unfold detSort
      rw [List.length_map, detIdx_len, List.length_map, List.length_map]; exact o1 k3 rfl
    rw [sortI_eq, List.length_map] at this
    exact this
  refine ⟨_, IterV.lst, fun Cc => CLoop.map (fun d => .str (rowG (bookOf (gE ls)) (unI d))) _ [] (fun d hd => ?_) (by rw [List.length_map, List.length_nil]; exact o1 (Nat.add_le_add (Nat.le_refl _) hsl) rfl) ?_⟩
  · obtain ⟨k, hk, rfl⟩ := List.mem_map.mp hd
    obtain ⟨r, hr, rfl⟩ := List.mem_map.mp (sortI_mem _ k hk)
    obtain ⟨⟨b1, b2⟩, b3⟩ := hbd r hr
    have b4 := k4 r hr
    obtain ⟨sl1, sl2⟩ := sI_len b1 b2
    have sl1 : (Str.ofString (toString r.1)).length ≤ 10 := sl1
    have hjoin := join_le (ys := r.2.map sI) (c := 10) (fun y hy => by obtain ⟨i, hi, rfl⟩ := List.mem_map.mp hy; exact (sI_len (b3 i hi).1 (b3 i hi).2).1) (by rw [List.length_map]; exact o1 b4 rfl) (by exact o1 (Nat.le_refl _) rfl)
    have h2 : (": " : Str).length = 2 := by decide +kernel
    refine WA.name (by repeat first | exact Off.nil | with_reducible apply Off.skip | (apply Off.keepD; kernel_rfl)) ⟨fun q hq => List.mem_cons_of_mem _ hq, ?_⟩
    refine WE.binop ?_
    refine WE.binop ?_
    refine WE.callT C.str ?_
    walk_at "s"
    refine WC.str sl2 ?_
    walk_at "s"
    refine W2.addS (by rw [h2, sizeLine_eq]; exact o1 (Nat.add_le_add sl1 (Nat.le_refl _)) rfl) ?_
    refine WE.meth "str" "str.join" PySem.F.plainAttrs_str PySem.F.slot_str_join PySem.F.type_str_join ?_
    walk_at "s"
    refine ⟨TyOf.str, ?_⟩
    refine WEs.cons ?_
    refine WE.comp1 [] (by rfl) (fun p hp => by cases hp) ?_
    walk_at "s"
    refine W2.itemDict DictV.dcti KeyV.int (look_dG hnd hr) ?_ (fun P v hr o => by cases hr; rfl)
    refine ⟨_, IterV.lst, fun Cd => CLoop.map (fun d => .str (sI (unI d))) _ [] (fun d hd => ?_) (by rw [List.length_map, List.length_nil]; exact o1 (Nat.add_le_add (Nat.le_refl _) b4) rfl) ?_⟩
    · obtain ⟨m, hm, rfl⟩ := List.mem_map.mp hd
      obtain ⟨m1, m2⟩ := sI_len (b3 m hm).1 (b3 m hm).2
      refine WA.name (by repeat first | exact Off.nil | with_reducible apply Off.skip | (apply Off.keepD; kernel_rfl)) ⟨fun q hq => (by cases hq), ?_⟩
      refine WE.callT C.str ?_
      walk_at "s"
      exact WC.str m2 ⟨rfl, rfl⟩
    have e : ([] ++ (r.2.map D.int).map fun d : D => D.str (sI (unI d))) = (r.2.map sI).map .str := by
      rw [List.nil_append, List.map_map, List.map_map]; rfl
    rw [e]
    walk_at "s"
    refine WC.join hjoin.1 (W2.addS ?_ ?_)
    · rw [PySem.Str.length_append, h2, sizeLine_eq]; exact o1 (Nat.add_le_add (Nat.add_le_add sl1 (Nat.le_refl _)) hjoin.2) rfl
    have e2 : rowG (bookOf (gE ls)) r.1 = toString r.1 ++ ": " ++ Txt.join " " (r.2.map sI) := by
      unfold rowG; rw [atI_at hnd hr]
    exact ⟨by rw [show unI (.int r.1) = r.1 from rfl, e2], rfl⟩
  · have e : ([] ++ ((sortI ((bookOf (gE ls)).map (·.1))).map D.int).map fun d => D.str (rowG (bookOf (gE ls)) (unI d))) = (sortI ((bookOf (gE ls)).map (·.1))).map fun k => D.str (rowG (bookOf (gE ls)) k) := by
      rw [List.nil_append, List.map_map]; rfl
    rw [e]
    show WSs g (n + 7) (lwEnv L a cd) (lwF2 ls) σ ((dAt 30).body.drop 11) K
    with_reducible exact hr
theorem law_t11 (C : Cx g) (h : ∀ l ∈ ls, LnOk l) (hl : ls.length ≤ 6) (hr : WSs g (n + 7) (lwEnv L a cd) (lwF2 ls) σ ((dAt 30).body.drop 12) K) : WSs g (n + 7) (lwEnv L a cd) (lwF2 ls) σ ((dAt 30).body.drop 11) K := by
  have H := pg_ok C h hl
  obtain ⟨ga, hga, gF⟩ := C.shown_goals
  obtain ⟨na, hna, nF⟩ := C.shown_names
  obtain ⟨k1, k2⟩ := names_few h
  have hko := keys_ok h
  have hnd := bookOf_nodup (nE ls)
  refine WSs.at 11 (by rfl) ?_
  refine WS.cond ?_
  refine WT.or_cons ?_
  refine WT.compare ?_
  refine WE.callFn hga gF ?_
  walk_at "s"
  refine shown_goals_spec (n := n + 1) C H ?_ gF
  rw [pg_goals C h]
  walk_at "s"
  refine W2.neSame (rows_nice h) (by decide) ?_
  refine WTr.bool ?_
  rw [if_neg (by decide)]
  refine WT.or_cons ?_
  refine WT.compare ?_
  refine WE.comp1 [] (by rfl) (fun p hp => by cases hp) ?_
  refine WE.callFn hna nF ?_
  walk_at "s"
  refine shown_names_spec (n := n + 1) C H ?_ nF
  rw [pg_names C h]
  have hbd : ∀ r ∈ bookOf (nE ls), r.1.length ≤ 10 ∧ (∀ m ∈ r.2, 0 ≤ m.1 ∧ m.1 ≤ 1000) := fun r hr => by
    obtain ⟨h1, _, h3⟩ := bookOf_mem _ r hr
    obtain ⟨e, he, h4⟩ := List.mem_map.mp h1
    exact ⟨by rw [← h4]; exact nm7_len _ (nE_mem h e he).1, fun m hm => six_bd _ (nE_mem h _ (h3 m hm)).2⟩
  have hlen : (sortS ((bookOf (nE ls)).map (·.1))).length ≤ 7 := by rw [(sortS_perm _).length_eq, List.length_map]; exact k1
  refine ⟨_, IterV.lst, fun Cc => CLoop.map (fun d => match d with | .str x => .str (Txt.slice x none (some (Txt.find x ":"))) | _ => D.none) _ [] (fun d hd => ?_) (by rw [List.length_map, List.length_nil]; exact o1 (Nat.add_le_add (Nat.le_refl _) hlen) rfl) ?_⟩
  · obtain ⟨k, hk, rfl⟩ := List.mem_map.mp hd
    obtain ⟨r, hr, rfl⟩ := List.mem_map.mp ((sortS_perm _).mem_iff.mp hk)
    obtain ⟨b1, b3⟩ := hbd r hr
    have b4 := k2 r hr
    have hml : ∀ m ∈ r.2, (markS m).length ≤ 11 := fun m hm => by
      unfold markS
      have := (sI_len (b3 m hm).1 (b3 m hm).2).1
      rw [PySem.Str.length_append]
      have h1 : ("=" : Str).length = 1 := by decide +kernel
      have h0 : ("" : Str).length = 0 := by decide +kernel
      split <;> omega
    have hjoin := join_le (ys := r.2.map markS) (c := 11) (fun y hy => by obtain ⟨i, hi, rfl⟩ := List.mem_map.mp hy; exact hml i hi) (by rw [List.length_map]; exact o1 b4 rfl) (by exact o1 (Nat.le_refl _) rfl)
    have h2 : (": " : Str).length = 2 := by decide +kernel
    have hrow : (rowN (bookOf (nE ls)) r.1).length ≤ sizeLine := by
      unfold rowN
      rw [atN_at hnd hr, PySem.Str.length_append, PySem.Str.length_append, h2, sizeLine_eq]; exact o1 (Nat.add_le_add (Nat.add_le_add b1 (Nat.le_refl _)) hjoin.2) rfl
    refine WA.name (by repeat first | exact Off.nil | with_reducible apply Off.skip | (apply Off.keepD; kernel_rfl)) ⟨fun q hq => (by cases hq), ?_⟩
    refine WE.slice ?_
    refine WE.name (by with_reducible repeat first | exact List.mem_cons_self | apply List.mem_cons_of_mem) ?_
    refine WO.none ?_
    refine WO.some ?_
    refine WE.meth "str" "str.find" PySem.F.plainAttrs_str PySem.F.slot_str_find PySem.F.type_str_find ?_
    refine WE.name (by with_reducible repeat first | exact List.mem_cons_self | apply List.mem_cons_of_mem) ⟨TyOf.str, ?_⟩
    walk_at "s"
    refine WC.find ?_
    refine W3.strTo hrow ?_
    exact ⟨rfl, rfl⟩
  · have e : ([] ++ ((sortS ((bookOf (nE ls)).map (·.1))).map fun k => D.str (rowN (bookOf (nE ls)) k)).map fun d : D => match d with | .str x => D.str (Txt.slice x none (some (Txt.find x ":"))) | _ => D.none) = (sortS ((bookOf (nE ls)).map (·.1))).map .str := by
      rw [List.nil_append, List.map_map]
      refine List.map_congr_left fun k hk => ?_
      have hkm := nm7_colon k (hko k ((sortS_perm _).mem_iff.mp hk))
      show D.str (Txt.slice (k ++ ": " ++ _) none (some (Txt.find (k ++ ": " ++ _) ":"))) = .str k
      rw [find_colon hkm, slice_row]
    rw [e]
    refine WE.callB C.sorted ?_
    walk_at "s"
    refine WC.sortedS (collN (by exact o1 k1 rfl)) (by rw [List.length_map]; exact o2 k1 rfl) ?_
    refine W2.neSame (nice_strs fun x hx => nm7_ok x (hko x ((sortS_perm _).mem_iff.mp hx))) (by decide) ?_
    refine WTr.bool ?_
    rw [if_neg (by decide)]
    refine WT.or_nil ?_
    rw [if_neg (by decide)]
    refine WSs.nil ?_
    show WSs g (n + 7) (lwEnv L a cd) (lwF2 ls) σ ((dAt 30).body.drop 12) K
    with_reducible exact hr
end
end
set_option tactic.hygienic false
section

noncomputable def mat1 : List D := [.str "SET", .str "M", .tup [.str "two", .str "*", .str "P", .str "Q"]]
noncomputable def mat2 : List D := [.str "READ", .lst [.tup [.str "R", .lst [.tup [.str "name", .str "N"]]]]]
noncomputable def mat3 : List D := [.str "PRINT", .lst [.tup [.str "M", .str ";"]]]
noncomputable def mat4 : List D := [.str "SET", .str "P", .tup [.str "ZER", .lst []]]
noncomputable def mu1 : List (Str × Str) := [("M()", "set"), ("P()", "read"), ("Q()", "read")]
noncomputable def mu2 : List (Str × Str) := [("R()", "set")]
noncomputable def mu3 : List (Str × Str) := [("M()", "read")]
noncomputable def mu4 : List (Str × Str) := [("P()", "set")]
section
variable {g : Gm} {n : Nat} {σ : St} {Q : AV → St → Prop} {env : Env} {ρ : Ro}
theorem pl (x : Str) (h : x.length ≤ 1000) : x.length + ("()" : Str).length ≤ sizeLine := by
  have : (("()" : Str)).length = 2 := by decide
  rw [this, sizeLine_eq]; exact o1 (Nat.add_le_add h (Nat.le_refl _)) rfl
theorem mat_lists (C : Cx g) {f : Str} {h : Str} {w : Str} {x : D} (hw : w.length ≤ 1000) (hf : (f = "PRINT" ∧ h = "read") ∨ (f ≠ "PRINT" ∧ f ≠ "SET" ∧ h = "set")) (hq : Q (.d (.lst [.tup [.str (w ++ "()"), .str h]])) σ) {a : Addr} (hfn : FnAt g (dAt 11) a) :
    WC g (n + 1) (.ref a) [.d (.tup [.str "MAT", .str f, .lst [.tup [.str w, x]]])] σ Q := by
  refine WC.fnR ["statement"] [("statement", .d (.tup [.str "MAT", .str f, .lst [.tup [.str w, x]]]))] rfl hfn C.lim rfl (by intro pm cd doc vs hv; obtain ⟨_, e⟩ := len1 hv; subst e; exact rfl) (by decide +kernel) fun L cd => ?_
  refine WSs.cons ?_
  refine WS.assignSwap (xs := ["form", "told"]) (Bound.all (by rfl)) (by decide) ?_
  walk_at "s"
  refine W2.itemT (d := .str f) (by exact i1 (Int.le_refl _) rfl) rfl (by simp) ?_
  walk_at "s"
  refine W2.itemT (d := .lst [.tup [.str w, x]]) (by exact i1 (Int.le_refl _) rfl) rfl (by simp) ?_
  walk_at "s"
  refine And.intro rfl (Exists.intro _ (And.intro (Offs.cons (x := "told") (a := .d (.lst [.tup [.str w, x]])) (xs := ["form"]) (as := [.d (.str f)]) (by repeat first | exact Off.nil | with_reducible apply Off.skip | (apply Off.keepD; kernel_rfl)) (Offs.cons (by repeat first | exact Off.nil | with_reducible apply Off.skip | (apply Off.keepD; kernel_rfl)) .nil)) ?_))
  refine WSs.cons ?_
  refine WS.cond ?_
  walk_at "s"
  refine W2.eqS (WTr.bool ?_)
  rcases hf with ⟨h1, h2⟩ | ⟨h1, h3, h2⟩
  · rw [if_pos (decide_eq_true h1)]
    refine WSs.cons ?_
    refine WS.ret ?_
    refine WE.comp1 [] (by rfl) (fun p hp => by cases hp) ?_
    walk_at "s"
    refine ⟨_, IterV.lst, fun Cd => CLoop.map (fun d => .tup [.str (w ++ "()"), .str "read"]) _ [] (fun d hd => ?_) (by simp) ?_⟩
    · rw [List.mem_singleton.mp hd]
      refine WA.tuple (xs := ["word", "sign"]) (ps := [_, _]) rfl rfl rfl (Bound.all (by rfl)) (Offs.cons (by repeat first | exact Off.nil | with_reducible apply Off.skip | (apply Off.keepD; kernel_rfl)) (Offs.cons (by repeat first | exact Off.nil | with_reducible apply Off.skip | (apply Off.keepD; kernel_rfl)) .nil)) ⟨fun q hq => (by cases hq), ?_⟩
      refine WE.tuple ?_
      walk_at "s"
      refine W2.addS (pl w hw) ?_
      walk_at "s"
      exact ⟨[.str (w ++ "()"), .str "read"], rfl, by simp, rfl, rfl⟩
    · subst h2; exact hq
  · rw [if_neg (by simpa using h1)]
    refine WSs.nil ?_
    refine WSs.cons ?_
    refine WS.cond ?_
    walk_at "s"
    refine W2.neS (WTr.bool ?_)
    rw [if_pos (decide_eq_true h3)]
    refine WSs.cons ?_
    refine WS.ret ?_
    refine WE.comp1 [] (by rfl) (fun p hp => by cases hp) ?_
    walk_at "s"
    refine ⟨_, IterV.lst, fun Cd => CLoop.map (fun d => .tup [.str (w ++ "()"), .str "set"]) _ [] (fun d hd => ?_) (by simp) ?_⟩
    · rw [List.mem_singleton.mp hd]
      refine WA.tuple (xs := ["word", "bounds"]) (ps := [_, _]) rfl rfl rfl (Bound.all (by rfl)) (Offs.cons (by repeat first | exact Off.nil | with_reducible apply Off.skip | (apply Off.keepD; kernel_rfl)) (Offs.cons (by repeat first | exact Off.nil | with_reducible apply Off.skip | (apply Off.keepD; kernel_rfl)) .nil)) ⟨fun q hq => (by cases hq), ?_⟩
      refine WE.tuple ?_
      walk_at "s"
      refine W2.addS (pl w hw) ?_
      walk_at "s"
      exact ⟨[.str (w ++ "()"), .str "set"], rfl, by simp, rfl, rfl⟩
    · subst h2; exact hq
noncomputable def matW (r : List D) : List (Str × D) := [("copy", .tup r), ("TRN", .tup r), ("INV", .tup r), ("scaled", .tup (r.drop 1)), ("two", .tup (r.drop 1))]
theorem mat_set (C : Cx g) {t w : Str} {r : List D} {ws : List Str} (ht : t.length ≤ 1000) (hr : 1 ≤ r.length) (hr2 : r.length ≤ 900) (hws : ∀ x ∈ ws, x.length ≤ 1000) (hwl : ws.length ≤ 900)
    (hlk : (look ((matW r).map fun p => (p.1, AV.d p.2)) w).getD (.d (.tup [])) = .d (.tup (ws.map .str)))
    (hq : Q (.d (.lst ([.tup [.str (t ++ "()"), .str "set"]] ++ (ws.map fun x => D.tup [.str (x ++ "()"), .str "read"])))) σ) {a : Addr} (hfn : FnAt g (dAt 11) a) :
    WC g (n + 1) (.ref a) [.d (.tup [.str "MAT", .str "SET", .str t, .tup (.str w :: r)])] σ Q := by
  refine WC.fnR ["statement"] [("statement", .d (.tup [.str "MAT", .str "SET", .str t, .tup (.str w :: r)]))] rfl hfn C.lim rfl (by intro pm cd doc vs hv; obtain ⟨_, e⟩ := len1 hv; subst e; exact rfl) (by decide +kernel) fun L cd => ?_
  refine WSs.cons ?_
  refine WS.assignSwap (xs := ["form", "told"]) (Bound.all (by rfl)) (by decide) ?_
  walk_at "s"
  refine W2.itemT (d := .str "SET") (by exact i1 (Int.le_refl _) rfl) rfl (by simp) ?_
  walk_at "s"
  refine W2.itemT (d := .str t) (by exact i1 (Int.le_refl _) rfl) rfl (by simp) ?_
  walk_at "s"
  refine And.intro rfl (Exists.intro _ (And.intro (Offs.cons (x := "told") (a := .d (.str t)) (xs := ["form"]) (as := [.d (.str "SET")]) (by repeat first | exact Off.nil | with_reducible apply Off.skip | (apply Off.keepD; kernel_rfl)) (Offs.cons (by repeat first | exact Off.nil | with_reducible apply Off.skip | (apply Off.keepD; kernel_rfl)) .nil)) ?_))
  refine WSs.cons ?_
  refine WS.cond ?_
  walk_at "s"
  refine W2.eqS (WTr.bool ?_)
  rw [if_neg (by decide +kernel)]
  refine WSs.nil ?_
  refine WSs.cons ?_
  refine WS.cond ?_
  walk_at "s"
  refine W2.neS (WTr.bool ?_)
  rw [if_neg (by decide +kernel)]
  refine WSs.nil ?_
  refine WSs.cons ?_
  refine WS.assign (by repeat first | exact Off.nil | with_reducible apply Off.skip | (apply Off.keepD; kernel_rfl)) ?_
  walk_at "s"
  refine W2.itemT (d := .tup (.str w :: r)) (by exact i1 (Int.le_refl _) rfl) rfl (by simp) ?_
  refine WSs.cons ?_
  refine WS.assign (by repeat first | exact Off.nil | with_reducible apply Off.skip | (apply Off.keepD; kernel_rfl)) ?_
  refine WE.meth "dict" "dict.get" PySem.F.plainAttrs_dict PySem.F.slot_dict_get PySem.F.type_dict_get ?_
  refine WE.dictD C.lim (by rfl) ?_
  refine WE.cStr ⟨_, rfl, ?_⟩
  walk_at "s"
  refine W3.tupFrom (k := 1) (by exact o1 (Nat.le_refl _) rfl) (by simp) (by exact o1 (oC hr2) rfl) ⟨_, rfl, ?_⟩
  refine WE.cStr ⟨_, rfl, ?_⟩
  walk_at "s"
  refine W3.tupFrom (k := 1) (by exact o1 (Nat.le_refl _) rfl) (by simp) (by exact o1 (oC hr2) rfl) ⟨_, rfl, ?_⟩
  refine WE.cStr ⟨_, rfl, ?_⟩
  walk_at "s"
  refine W3.tupFrom (k := 1) (by exact o1 (Nat.le_refl _) rfl) (by simp) (by exact o1 (oC hr2) rfl) ⟨_, rfl, ?_⟩
  refine WE.cStr ⟨_, rfl, ?_⟩
  walk_at "s"
  refine W3.tupFrom (k := 2) (by exact o1 (Nat.le_refl _) rfl) (by simp; omega) (by exact o1 (oC hr2) rfl) ⟨_, rfl, ?_⟩
  refine WE.cStr ⟨_, rfl, ?_⟩
  walk_at "s"
  refine W3.tupFrom (k := 2) (by exact o1 (Nat.le_refl _) rfl) (by simp; omega) (by exact o1 (oC hr2) rfl) ⟨_, rfl, ?_⟩
  refine ⟨?_, DictV.ty DictV.dcts, ?_⟩
  · have : (["copy", "TRN", "INV", "scaled", "two"] : List Str).Nodup := by decide +kernel
    exact this
  walk_at "s"
  refine W2.itemT (d := .str w) (by exact i1 (Int.le_refl _) rfl) rfl (by exact o1 (oC hr2) rfl) ?_
  walk_at "s"
  refine WE.tuple ?_
  walk_at "s"
  refine ⟨[], rfl, by simp, ?_⟩
  walk_at "s"
  refine WC.dictGet DictV.dcts KeyV.str ?_
  have hlk' := hlk
  show WSs g n _ (_ :: _) σ _ _
  rw [show ([("copy", D.tup ((D.str w :: r).drop 1)), ("TRN", .tup ((D.str w :: r).drop 1)), ("INV", .tup ((D.str w :: r).drop 1)), ("scaled", .tup ((D.str w :: r).drop 2)), ("two", .tup ((D.str w :: r).drop 2))] : List (Str × D)) = matW r from rfl, hlk]
  refine WSs.cons ?_
  refine WS.ret ?_
  refine WE.binop ?_
  refine WE.list ?_
  refine WEs.cons ?_
  refine WE.tuple ?_
  walk_at "s"
  refine W2.addS (pl t ht) ?_
  walk_at "s"
  refine ⟨[.str (t ++ "()"), .str "set"], rfl, by simp, ?_⟩
  walk_at "s"
  refine ⟨[.tup [.str (t ++ "()"), .str "set"]], rfl, by simp, ?_⟩
  refine WE.comp1 [] (by rfl) (fun p hp => by cases hp) ?_
  walk_at "s"
  refine ⟨_, IterV.tup, fun Cd => CLoop.map (fun d => match d with | .str x => .tup [.str (x ++ "()"), .str "read"] | _ => D.none) _ [] (fun d hd => ?_) (by rw [List.length_map, List.length_nil]; exact o1 (Nat.add_le_add (Nat.le_refl _) hwl) rfl) ?_⟩
  · obtain ⟨x, hx, rfl⟩ := List.mem_map.mp hd
    refine WA.name (by repeat first | exact Off.nil | with_reducible apply Off.skip | (apply Off.keepD; kernel_rfl)) ⟨fun q hq => (by cases hq), ?_⟩
    refine WE.tuple ?_
    walk_at "s"
    refine W2.addS (pl x (hws x hx)) ?_
    walk_at "s"
    exact ⟨[.str (x ++ "()"), .str "read"], rfl, by simp, rfl, rfl⟩
  · have e : ([] ++ (ws.map D.str).map fun d : D => match d with | .str x => D.tup [.str (x ++ "()"), .str "read"] | _ => D.none) = ws.map fun x => D.tup [.str (x ++ "()"), .str "read"] := by
      rw [List.nil_append, List.map_map]; rfl
    rw [e]
    refine W2.addL (by exact o1 (Nat.add_le_add (oC oN) (oM hwl)) rfl) ?_
    exact hq
end
end
set_option tactic.hygienic false
section

noncomputable abbrev M1 : D := .tup (.str "MAT" :: mat1)
noncomputable abbrev M2 : D := .tup (.str "MAT" :: mat2)
noncomputable abbrev M3 : D := .tup (.str "MAT" :: mat3)
noncomputable abbrev M4 : D := .tup (.str "MAT" :: mat4)
noncomputable def us1 : List (Str × Bool) := [("M()", true), ("P()", false), ("Q()", false)]
noncomputable def us2 : List (Str × Bool) := [("R()", true), ("N", false)]
noncomputable def us3 : List (Str × Bool) := [("M()", false)]
noncomputable def us4 : List (Str × Bool) := [("P()", true)]
noncomputable def suM : D → List (Str × Bool)
  | .tup [_, _, _, .tup [_, _, _, _]] => us1
  | .tup [_, _, .lst [.tup [_, .lst _]]] => us2
  | .tup [_, _, .lst [.tup [_, .str _]]] => us3
  | _ => us4
noncomputable def sgM : D → List Int := fun _ => []
noncomputable abbrev pM : List (Int × List D) := [(5, [M1, M2, M3, M4])]
noncomputable def TM : List (Str × List (Int × Bool)) := [("M()", [(5, true), (5, false)]), ("P()", [(5, false), (5, true)]), ("Q()", [(5, false)]), ("R()", [(5, true)]), ("N", [(5, false)])]
noncomputable def lRS : D := .lst [.str "read", .str "set"]
noncomputable def lR : D := .lst [.str "read"]
noncomputable def lS : D := .lst [.str "set"]
noncomputable def kvD : List (Str × D) := [("M()", lRS), ("P()", lRS), ("Q()", lR), ("R()", lS), ("N", lR)]
section
variable {g : Gm} {n : Nat} {σ : St} {Q : AV → St → Prop} {env : Env} {ρ : Ro}
theorem rd_mat (C : Cx g) {r p : List D} {mu : List (Str × Str)} {us : List (Str × Bool)} (hP : partsOf "MAT" (.str "MAT" :: r) = p) (hl : r.length ≤ 900) (hpf : D.fines p = true) (hpw : D.wts p ≤ 900) (hml : mu.length ≤ 900) (hu : usesOf "MAT" (.str "MAT" :: r) mu = us.map cU)
    (hmat : ∀ (n : Nat) (σ : St) (Q : AV → St → Prop) (a : Addr), FnAt g (dAt 11) a → Q (.d (.lst (mu.map pr))) σ → WC g (n + 1) (.ref a) [.d (.tup (.str "MAT" :: r))] σ Q) : RdOk g (.tup (.str "MAT" :: r)) us [] := by
  have hT : treesOf "MAT" (.str "MAT" :: r) = [] := (trees_none (idx := []) (by decide +kernel)).trans rfl
  refine ⟨fun n σ Q a hfn hq => ?_, fun n σ Q a hfn hq => ?_⟩
  · refine own_uses_spec C (mu := mu) hl (fun i hi => by rw [show placesAt "MAT" = [] by decide +kernel] at hi; cases hi) (fun p h => by rw [show listAt "MAT" = none by decide +kernel] at h; cases h) (by rw [hT]; exact fun d hd => by cases hd) (by rw [hT]; simp) (by decide +kernel) (fun h => absurd h (by decide +kernel)) (fun h => absurd h (by decide +kernel)) (fun h => absurd h (by decide +kernel)) (fun h => absurd h (by decide +kernel)) (fun h => absurd h (by decide +kernel)) hml (fun _ σ' Q' a' hfn' hq' => hmat (n + 2) σ' Q' a' hfn' hq') (by rw [hP]; exact hpf) (by rw [hP]; exact hpw) hfn ?_
    rw [hu, List.map_map]; exact hq
  · refine goals_of_spec C hl (fun h => absurd h (by decide +kernel)) (fun h => absurd h (by decide +kernel)) ?_ hfn
    have e : goalsD "MAT" (.str "MAT" :: r) = [] := by unfold goalsD; rw [if_neg (by decide +kernel), if_neg (by decide +kernel)]
    rw [e]; exact hq
theorem rd_m1 (C : Cx g) : RdOk g M1 us1 [] := rd_mat C (r := mat1) (mu := mu1) ((parts_rest (idx := [1, 2, 3]) 4 rfl (by decide +kernel)).trans rfl) (by decide) (by decide +kernel) (by decide +kernel) (by decide) (by decide +kernel) fun n σ Q a hfn hq =>
  mat_set C (t := "M") (w := "two") (r := [.str "*", .str "P", .str "Q"]) (ws := ["P", "Q"]) (by decide +kernel) (by decide) (by decide) (by decide +kernel) (by decide) (by kernel_rfl) hq hfn
theorem rd_m2 (C : Cx g) : RdOk g M2 us2 [] := rd_mat C (r := mat2) (mu := mu2) ((parts_rest (idx := [1, 2]) 3 rfl (by decide +kernel)).trans rfl) (by decide) (by decide +kernel) (by decide +kernel) (by decide) (by decide +kernel) fun n σ Q a hfn hq =>
  mat_lists C (f := "READ") (h := "set") (w := "R") (by decide +kernel) (.inr ⟨by decide +kernel, by decide +kernel, rfl⟩) hq hfn
theorem rd_m3 (C : Cx g) : RdOk g M3 us3 [] := rd_mat C (r := mat3) (mu := mu3) ((parts_rest (idx := [1, 2]) 3 rfl (by decide +kernel)).trans rfl) (by decide) (by decide +kernel) (by decide +kernel) (by decide) (by decide +kernel) fun n σ Q a hfn hq =>
  mat_lists C (f := "PRINT") (h := "read") (w := "M") (by decide +kernel) (.inl ⟨rfl, rfl⟩) hq hfn
theorem rd_m4 (C : Cx g) : RdOk g M4 us4 [] := rd_mat C (r := mat4) (mu := mu4) ((parts_rest (idx := [1, 2, 3]) 4 rfl (by decide +kernel)).trans rfl) (by decide) (by decide +kernel) (by decide +kernel) (by decide) (by decide +kernel) fun n σ Q a hfn hq =>
  mat_set C (t := "P") (w := "ZER") (r := [.lst []]) (ws := []) (by decide +kernel) (by decide) (by decide) (by decide) (by decide) (by kernel_rfl) hq hfn
theorem line_m (C : Cx g) : ∀ l ∈ pM, LineOk g suM sgM l := by
  intro l hl
  rw [List.mem_singleton.mp hl]
  have sm : ∀ (r : List D), r.length ≤ 900 → simpleS (.tup (.str "MAT" :: r)) := fun r hr => ⟨"MAT", r, rfl, hr, by decide +kernel⟩
  have s1 : simpleS M1 := sm _ (by decide)
  have s2 : simpleS M2 := sm _ (by decide)
  have s3 : simpleS M3 := sm _ (by decide)
  have s4 : simpleS M4 := sm _ (by decide)
  have hall : ∀ d ∈ [M1, M2, M3, M4], simpleS d := fun d hd => by
    simp only [List.mem_cons, List.not_mem_nil, or_false] at hd
    rcases hd with rfl | rfl | rfl | rfl <;> assumption
  have ex : [M1, M2, M3, M4].flatMap exD = [M1, M2, M3, M4] := subs_ex hall
  refine ⟨fun d hd => .inl (hall d hd), ?_, ?_⟩
  · show ([M1, M2, M3, M4].flatMap exD).length ≤ 900
    rw [ex]; decide
  · show ∀ d ∈ [M1, M2, M3, M4].flatMap exD, RdOk g d (suM d) (sgM d)
    rw [ex]
    intro d hd
    simp only [List.mem_cons, List.not_mem_nil, or_false] at hd
    rcases hd with rfl | rfl | rfl | rfl
    · exact rd_m1 C
    · exact rd_m2 C
    · exact rd_m3 C
    · exact rd_m4 C
theorem names_m : namesE suM pM = ([("M()", (5, true)), ("P()", (5, false)), ("Q()", (5, false)), ("R()", (5, true)), ("N", (5, false)), ("M()", (5, false)), ("P()", (5, true))] : List (Str × (Int × Bool))) := by decide +kernel
theorem goals_m : goalsE sgM pM = [] := by decide +kernel
theorem book_m : bookOf (namesE suM pM) = TM := by rw [names_m]; decide +kernel
theorem sort_rs : sortS (["set", "read"] : List Str) = (["read", "set"] : List Str) := (sortS_uniq (List.Perm.swap _ _ _) (by
  rw [List.pairwise_cons]
  exact ⟨fun x hx => by rw [List.mem_singleton.mp hx]; exact leSb_iff.mp (by decide +kernel), List.pairwise_singleton _ _⟩)).symm
theorem sort_sr : sortS (["read", "set"] : List Str) = (["read", "set"] : List Str) := (sortS_uniq (List.Perm.refl _) (by
  rw [List.pairwise_cons]
  exact ⟨fun x hx => by rw [List.mem_singleton.mp hx]; exact leSb_iff.mp (by decide +kernel), List.pairwise_singleton _ _⟩)).symm
theorem sort_one (x : Str) : sortS [x] = [x] := (sortS_uniq (List.Perm.refl _) (List.pairwise_singleton _ _)).symm
noncomputable def howsM (k : Str) : List Str := (atN TM k).map fun m => hw m.2
noncomputable def dictF : D → D
  | .str k => .tup [.str k, .lst ((sortS (howsM k)).map .str)]
  | _ => D.none
theorem dict_out : (((dN TM).map fun p => D.str p.1).map dictF) = kvD.map fun p => D.tup [.str p.1, p.2] := by
  have h1 : howsM "M()" = (["set", "read"] : List Str) := by decide +kernel
  have h2 : howsM "P()" = (["read", "set"] : List Str) := by decide +kernel
  have h3 : howsM "Q()" = (["read"] : List Str) := by decide +kernel
  have h4 : howsM "R()" = (["set"] : List Str) := by decide +kernel
  have h5 : howsM "N" = (["read"] : List Str) := by decide +kernel
  show [dictF (.str "M()"), dictF (.str "P()"), dictF (.str "Q()"), dictF (.str "R()"), dictF (.str "N")] = _
  simp only [dictF, h1, h2, h3, h4, h5, sort_rs, sort_sr, sort_one]
  rfl
theorem TM_nodup : (TM.map (·.1)).Nodup := by decide +kernel
theorem TM_small : ∀ r ∈ TM, r.2.length ≤ 2 := by decide +kernel
variable {L a : Addr} {cd : Value} {K : Fl → Ro → St → Prop} {ls : List Ln}
theorem kvD_ok : ∀ p ∈ kvD, p.2.ok = true := by
  intro p hp
  simp only [kvD, List.mem_cons, List.not_mem_nil, or_false] at hp
  have a1 : lRS.ok = true := (nice_strs (xs := ["read", "set"]) (by decide +kernel)).ok (by decide)
  have a2 : lR.ok = true := (nice_strs (xs := ["read"]) (by decide +kernel)).ok (by decide)
  have a3 : lS.ok = true := (nice_strs (xs := ["set"]) (by decide +kernel)).ok (by decide)
  rcases hp with rfl | rfl | rfl | rfl | rfl <;> assumption
noncomputable abbrev lwF3 (ls : List Ln) : Ro := [("due", .d (.dcts kvD)), ("told", .d (.dcts (dN TM))), ("ahead", .d (.str (PG ls).py.shown)), ("program", .d (PG ls))]
theorem law_t15 (C : Cx g) (h : ∀ l ∈ ls, LnOk l) (hl : ls.length ≤ 6) (hK : ∀ ρ' σ', K (.ret (.d (.bool true))) ρ' σ') : WSs g (n + 7) (lwEnv L a cd) (lwF3 ls) σ ((dAt 30).body.drop 15) K := by
  obtain ⟨h1, h2⟩ := pg_sh h hl
  have h3 := h1.len
  have h4 := h1.nice
  with_reducible refine WSs.at 15 (by with_unfolding_all rfl) ?_
  refine WS.ret ?_
  refine WE.and2 ?_
  refine WE.compare ?_
  refine WE.callB C.repr ?_
  walk_at "s"
  refine WC.repr h4.flat h1.show_ (PyData.hasDict_of_canLay _ h4.lay) (by have := h4.dep; exact o1 this rfl) (by rw [sizeLine_eq]; omega) ?_
  walk_at "s"
  refine W2.eqS (WTr.bool ?_)
  rw [if_pos (by simp)]
  refine WE.compare ?_
  refine WE.callT C.dict ?_
  refine WEs.cons ?_
  refine WE.comp1 [("told", .d (.dcts (dN TM)))] (by rfl) (fun p hp => ?_) ?_
  · rw [List.mem_singleton.mp hp]; exact ⟨by (with_reducible repeat first | exact List.mem_cons_self | apply List.mem_cons_of_mem), rfl⟩
  walk_at "s"
  refine ⟨_, IterV.dcts, fun Cc => CLoop.map dictF _ [] (fun d hd => ?_) (by decide) ?_⟩
  · obtain ⟨q, hq, rfl⟩ := List.mem_map.mp hd
    obtain ⟨r, hr, rfl⟩ := List.mem_map.mp hq
    have hrl := TM_small r hr
    dsimp only
    refine WA.name (by repeat first | exact Off.nil | with_reducible apply Off.skip | (apply Off.keepD; kernel_rfl)) ⟨fun q hq => List.mem_cons_of_mem _ hq, ?_⟩
    refine WE.tuple ?_
    walk_at "s"
    refine WE.callB C.sorted ?_
    refine WEs.cons ?_
    refine WE.comp1 [] (by rfl) (fun p hp => by cases hp) ?_
    walk_at "s"
    refine W2.itemDict DictV.dcts KeyV.str (look_dN TM_nodup hr) ?_ (fun P v hr o => by cases hr; rfl)
    refine ⟨_, IterV.lst, fun Cd => CLoop.map (fun d => match d with | .tup [_, x] => x | _ => D.none) _ [] (fun d hd => ?_) (by rw [List.length_map, List.length_nil]; exact o1 (Nat.add_le_add (Nat.le_refl _) hrl) rfl) ?_⟩
    · obtain ⟨m, hm, rfl⟩ := List.mem_map.mp hd
      refine WA.tuple (xs := ["line", "how"]) (ps := [_, _]) rfl rfl rfl (Bound.all (by rfl)) (Offs.cons (by repeat first | exact Off.nil | with_reducible apply Off.skip | (apply Off.keepD; kernel_rfl)) (Offs.cons (by repeat first | exact Off.nil | with_reducible apply Off.skip | (apply Off.keepD; kernel_rfl)) .nil)) ⟨fun q hq => (by cases hq), ?_⟩
      walk_at "s"
      exact ⟨rfl, rfl⟩
    have e : ([] ++ (r.2.map eMark).map fun d : D => match d with | .tup [_, x] => x | _ => D.none) = (howsM r.1).map .str := by
      unfold howsM
      rw [atN_at TM_nodup hr, List.nil_append, List.map_map, List.map_map]; rfl
    have hhl : (howsM r.1).length ≤ 2 := by unfold howsM; rw [atN_at TM_nodup hr, List.length_map]; exact hrl
    rw [e]
    walk_at "s"
    refine WC.sortedS (Collects.lst (by rw [List.length_map]; exact o1 hhl rfl)) (by exact o2 hhl rfl) ?_
    walk_at "s"
    exact ⟨[.str r.1, .lst ((sortS (howsM r.1)).map .str)], rfl, by simp, rfl, rfl⟩
  · rw [List.nil_append, dict_out]
    walk_at "s"
    refine WC.dictOf C.lim (by decide +kernel) (by decide) ?_
    walk_at "s"
    refine W2.eqDictS kvD_ok ?_
    exact hK _ _
theorem law_t14 (C : Cx g) (h : ∀ l ∈ ls, LnOk l) (hl : ls.length ≤ 6) (hK : ∀ ρ' σ', K (.ret (.d (.bool true))) ρ' σ') : WSs g (n + 7) (lwEnv L a cd) [("told", .d (.dcts (dN TM))), ("ahead", .d (.str (PG ls).py.shown)), ("program", .d (PG ls))] σ ((dAt 30).body.drop 14) K := by
  with_reducible refine WSs.at 14 (by with_unfolding_all rfl) ?_
  with_reducible refine WS.assign (hk := by with_unfolding_all first | exact Or.inl rfl | exact Or.inr ⟨rfl, rfl⟩) (hs := by with_unfolding_all rfl) (by repeat first | exact Off.nil | with_reducible apply Off.skip | (apply Off.keepD; kernel_rfl)) ?_
  with_reducible refine WE.dictD C.lim (by with_unfolding_all rfl) ?_
  with_reducible refine WPs.str ?_
  with_reducible refine WE.list ?_
  walk_at "s"
  refine ⟨[.str "read", .str "set"], rfl, by simp, _, rfl, ?_⟩
  with_reducible refine WPs.str ?_
  with_reducible refine WE.list ?_
  walk_at "s"
  refine ⟨[.str "read", .str "set"], rfl, by simp, _, rfl, ?_⟩
  with_reducible refine WPs.str ?_
  with_reducible refine WE.list ?_
  walk_at "s"
  refine ⟨[.str "read"], rfl, by simp, _, rfl, ?_⟩
  with_reducible refine WPs.str ?_
  with_reducible refine WE.list ?_
  walk_at "s"
  refine ⟨[.str "set"], rfl, by simp, _, rfl, ?_⟩
  with_reducible refine WPs.str ?_
  with_reducible refine WE.list ?_
  walk_at "s"
  refine ⟨[.str "read"], rfl, by simp, _, rfl, ?_⟩
  with_reducible refine WPs.nil ?_
  refine ⟨?_, ?_⟩
  · have : (["M()", "P()", "Q()", "R()", "N"] : List Str).Nodup := by decide +kernel
    exact this
  show WSs g (n + 7) _ (lwF3 ls) σ ((dAt 30).body.drop 15) K
  with_reducible exact law_t15 C h hl hK
theorem law_t13 (C : Cx g) (h : ∀ l ∈ ls, LnOk l) (hl : ls.length ≤ 6) (hK : ∀ ρ' σ', K (.ret (.d (.bool true))) ρ' σ') : WSs g (n + 7) (lwEnv L a cd) [("mats", .d (.lst [M1, M2])), ("ahead", .d (.str (PG ls).py.shown)), ("program", .d (PG ls))] σ ((dAt 30).body.drop 13) K := by
  obtain ⟨ca, hca, cF⟩ := C.cross_reference
  with_reducible refine WSs.at 13 (by with_unfolding_all rfl) ?_
  with_reducible refine WS.assign (hk := by with_unfolding_all first | exact Or.inl rfl | exact Or.inr ⟨rfl, rfl⟩) (hs := by with_unfolding_all rfl) (by repeat first | exact Off.nil | with_reducible apply Off.skip | (apply Off.keepD; kernel_rfl)) ?_
  refine WE.sub ?_
  refine WE.callFn hca cF ?_
  refine WEs.cons ?_
  refine WE.list ?_
  refine WEs.cons ?_
  refine WE.tuple ?_
  walk_at "s"
  refine WE.list ?_
  refine WEs.cons ?_
  refine WE.tuple ?_
  walk_at "s"
  refine WE.list ?_
  refine WEs.cons ?_
  refine WE.tuple ?_
  walk_at "s"
  refine ⟨[.str "M", .str ";"], rfl, by simp, ?_⟩
  walk_at "s"
  refine ⟨[.tup [.str "M", .str ";"]], rfl, by simp, ?_⟩
  walk_at "s"
  refine ⟨[.str "MAT", .str "PRINT", .lst [.tup [.str "M", .str ";"]]], rfl, by simp, ?_⟩
  refine WEs.cons ?_
  refine WE.tuple ?_
  walk_at "s"
  refine WE.tuple ?_
  walk_at "s"
  refine WE.list ?_
  walk_at "s"
  refine ⟨[], rfl, by simp, ?_⟩
  walk_at "s"
  refine ⟨[.str "ZER", .lst []], rfl, by simp, ?_⟩
  walk_at "s"
  refine ⟨[.str "MAT", .str "SET", .str "P", .tup [.str "ZER", .lst []]], rfl, by simp, ?_⟩
  walk_at "s"
  refine ⟨[M3, M4], rfl, by simp, ?_⟩
  refine W2.addL (by simp) ?_
  walk_at "s"
  refine ⟨[.int 5, .lst [M1, M2, M3, M4]], rfl, by simp, ?_⟩
  walk_at "s"
  refine ⟨[.tup [.int 5, .lst [M1, M2, M3, M4]]], rfl, by simp, ?_⟩
  walk_at "s"
  refine cross_reference_spec (n := n + 2) C (su := suM) (sg := sgM) (ls := pM) (line_m C) (by rw [names_m]; decide) (by rw [goals_m]; decide) ?_ cF
  rw [book_m]
  walk_at "s"
  refine W2.itemT (d := .dcts (dN TM)) (by exact i1 (Int.le_refl _) rfl) rfl (by simp) ?_
  show WSs g (n + 7) _ (("told", .d (.dcts (dN TM))) :: _) σ ((dAt 30).body.drop 14) K
  with_reducible refine WSs.sub (fun p hp => ?_) (law_t14 C h hl hK)
  simp only [List.mem_cons, List.not_mem_nil, or_false] at hp
  rcases hp with rfl | rfl | rfl <;> (with_reducible repeat first | exact List.mem_cons_self | apply List.mem_cons_of_mem)
theorem law_t12 (C : Cx g) (h : ∀ l ∈ ls, LnOk l) (hl : ls.length ≤ 6) (hK : ∀ ρ' σ', K (.ret (.d (.bool true))) ρ' σ') : WSs g (n + 7) (lwEnv L a cd) (lwF2 ls) σ ((dAt 30).body.drop 12) K := by
  with_reducible refine WSs.at 12 (by with_unfolding_all rfl) ?_
  with_reducible refine WS.assign (hk := by with_unfolding_all first | exact Or.inl rfl | exact Or.inr ⟨rfl, rfl⟩) (hs := by with_unfolding_all rfl) (by repeat first | exact Off.nil | with_reducible apply Off.skip | (apply Off.keepD; kernel_rfl)) ?_
  refine WE.list ?_
  refine WEs.cons ?_
  refine WE.tuple ?_
  walk_at "s"
  refine WE.tuple ?_
  walk_at "s"
  refine ⟨[.str "two", .str "*", .str "P", .str "Q"], rfl, by simp, ?_⟩
  walk_at "s"
  refine ⟨.str "MAT" :: mat1, rfl, by decide, ?_⟩
  refine WEs.cons ?_
  refine WE.tuple ?_
  walk_at "s"
  refine WE.list ?_
  refine WEs.cons ?_
  refine WE.tuple ?_
  walk_at "s"
  refine WE.list ?_
  refine WEs.cons ?_
  refine WE.tuple ?_
  walk_at "s"
  refine ⟨[.str "name", .str "N"], rfl, by simp, ?_⟩
  walk_at "s"
  refine ⟨[.tup [.str "name", .str "N"]], rfl, by simp, ?_⟩
  walk_at "s"
  refine ⟨[.str "R", .lst [.tup [.str "name", .str "N"]]], rfl, by simp, ?_⟩
  walk_at "s"
  refine ⟨[.tup [.str "R", .lst [.tup [.str "name", .str "N"]]]], rfl, by simp, ?_⟩
  walk_at "s"
  refine ⟨.str "MAT" :: mat2, rfl, by decide, ?_⟩
  walk_at "s"
  refine ⟨[M1, M2], rfl, by simp, ?_⟩
  show WSs g (n + 7) _ (("mats", .d (.lst [M1, M2])) :: _) σ ((dAt 30).body.drop 13) K
  with_reducible refine WSs.sub (fun p hp => ?_) (law_t13 C h hl hK)
  simp only [List.mem_cons, List.not_mem_nil, or_false] at hp
  rcases hp with rfl | rfl | rfl <;> (with_reducible repeat first | exact List.mem_cons_self | apply List.mem_cons_of_mem)
end
end
set_option tactic.hygienic false
section

noncomputable def absI (i : Int) : Int := if i < 0 then -i else i
section
variable {g : Gm} {n : Nat} {σ : St} {Q : AV → St → Prop} {env : Env} {ρ : Ro}
variable {L a : Addr} {cd : Value} {K : Fl → Ro → St → Prop} {ls : List Ln}
noncomputable abbrev lwF0 (ls : List Ln) : Ro := [("program", .d (PG ls)), ("names", .d (.dcts (dN (bookOf (nE ls))))), ("leads", .d (.dcti (dG (bookOf (gE ls)))))]
noncomputable abbrev lwF1 (ls : List Ln) : Ro := [("ahead", .d (.str (PG ls).py.shown)), ("known", .d (.lst ((KN ls).map .int))), ("program", .d (PG ls)), ("names", .d (.dcts (dN (bookOf (nE ls))))), ("leads", .d (.dcti (dG (bookOf (gE ls)))))]
theorem law_checks (C : Cx g) (h : ∀ l ∈ ls, LnOk l) (hl : ls.length ≤ 6) (hK : ∀ ρ' σ', K (.ret (.d (.bool true))) ρ' σ') : WSs g (n + 7) (lwEnv L a cd) (lwF ls) σ ((dAt 30).body.drop 6) K := by
  with_reducible refine law_t6 C h hl ?_
  with_reducible refine law_t7 C h hl ?_
  with_reducible refine law_t8 C h hl ?_
  with_reducible refine law_t9 C h hl ?_
  with_reducible refine law_t10 C h hl ?_
  with_reducible refine law_t11 C h hl ?_
  with_reducible exact law_t12 C h hl hK
theorem law_t5 (C : Cx g) (h : ∀ l ∈ ls, LnOk l) (hl : ls.length ≤ 6) (hK : ∀ ρ' σ', K (.ret (.d (.bool true))) ρ' σ') : WSs g (n + 7) (lwEnv L a cd) (lwF1 ls) σ ((dAt 30).body.drop 5) K := by
  have H := pg_ok C h hl
  obtain ⟨ca, hca, cF⟩ := C.cross_reference
  with_reducible refine WSs.at 5 (by with_unfolding_all rfl) ?_
  refine WS.assignTup ?_
  refine WE.callFn hca cF ?_
  walk_at "s"
  refine cross_reference_spec (n := n + 2) C H.ok H.n H.g ?_ cF
  rw [pg_names C h, pg_goals C h]
  refine WA.tuple (xs := ["told", "goals"]) (ps := [_, _]) rfl rfl rfl (Bound.all (by rfl)) (Offs.cons (by repeat first | exact Off.nil | with_reducible apply Off.skip | (apply Off.keepD; kernel_rfl)) (Offs.cons (by repeat first | exact Off.nil | with_reducible apply Off.skip | (apply Off.keepD; kernel_rfl)) .nil)) ?_
  show WSs g (n + 7) _ (("goals", _) :: ("told", _) :: lwF1 ls) σ ((dAt 30).body.drop 6) K
  with_reducible refine WSs.sub (fun p hp => ?_) (law_checks C h hl hK)
  simp only [List.mem_cons, List.not_mem_nil, or_false] at hp
  rcases hp with rfl | rfl | rfl | rfl | rfl | rfl | rfl <;> (with_reducible repeat first | exact List.mem_cons_self | apply List.mem_cons_of_mem)
theorem law_t4 (C : Cx g) (h : ∀ l ∈ ls, LnOk l) (hl : ls.length ≤ 6) (hK : ∀ ρ' σ', K (.ret (.d (.bool true))) ρ' σ') : WSs g (n + 7) (lwEnv L a cd) (lwF0 ls) σ ((dAt 30).body.drop 4) K := by
  obtain ⟨h1, h2⟩ := pg_sh h hl
  have h3 := h1.len
  have h4 := h1.nice
  with_reducible refine WSs.at 4 (by with_unfolding_all rfl) ?_
  refine WS.assignPar (xs := ["ahead", "known"]) (ps := [_, _]) rfl rfl (Bound.all (by rfl)) (by decide) ?_
  refine WEs.cons ?_
  refine WE.callB C.repr ?_
  walk_at "s"
  refine WC.repr h4.flat h1.show_ (PyData.hasDict_of_canLay _ h4.lay) (by have := h4.dep; exact o1 this rfl) (by rw [sizeLine_eq]; omega) ?_
  refine WEs.cons ?_
  refine WE.comp1 [] (by rfl) (fun p hp => by cases hp) ?_
  walk_at "s"
  refine ⟨_, IterV.lst, fun Cc => CLoop.map (fun d => match d with | .tup [x, _] => x | _ => D.none) _ [] (fun d hd => ?_) (by unfold pgOf; exact o1 (Nat.add_le_add oN (oM (oM hl))) rfl) ?_⟩
  · obtain ⟨l, hl, rfl⟩ := List.mem_map.mp hd
    refine WA.tuple (xs := ["line", "statements"]) (ps := [_, _]) rfl rfl rfl (Bound.all (by rfl)) (Offs.cons (by repeat first | exact Off.nil | with_reducible apply Off.skip | (apply Off.keepD; kernel_rfl)) (Offs.cons (by repeat first | exact Off.nil | with_reducible apply Off.skip | (apply Off.keepD; kernel_rfl)) .nil)) ⟨fun q hq => (by cases hq), ?_⟩
    walk_at "s"
    exact ⟨rfl, rfl⟩
  have ek : [] ++ (((pgOf ls).map eLine).map (fun d : D => match d with | .tup [x, _] => x | _ => D.none)) = (KN ls).map D.int := by rw [List.nil_append, List.map_map, List.map_map]; rfl
  rw [ek]
  walk_at "s"
  refine And.intro rfl (Exists.intro _ (And.intro (Offs.cons (x := "ahead") (a := .d (.str (PG ls).py.shown)) (xs := ["known"]) (as := [.d (.lst ((KN ls).map .int))]) (by repeat first | exact Off.nil | with_reducible apply Off.skip | (apply Off.keepD; kernel_rfl)) (Offs.cons (by repeat first | exact Off.nil | with_reducible apply Off.skip | (apply Off.keepD; kernel_rfl)) .nil)) ?_))
  show WSs g (n + 7) _ (("known", _) :: ("ahead", _) :: lwF0 ls) σ ((dAt 30).body.drop 5) K
  with_reducible refine WSs.sub (fun p hp => ?_) (law_t5 C h hl hK)
  simp only [List.mem_cons, List.not_mem_nil, or_false] at hp
  rcases hp with rfl | rfl | rfl | rfl | rfl <;> (with_reducible repeat first | exact List.mem_cons_self | apply List.mem_cons_of_mem)
theorem law_frozen (C : Cx g) {cells : List Int} {s : Int} {b pc nb lb : Addr} {i : Int} (W : Lw cells s b pc nb lb σ i ls) (hl : ls.length ≤ 6) (hK : ∀ ρ' σ', K (.ret (.d (.bool true))) ρ' σ') : WSs g (n + 7) (lwEnv L a cd) (lwB b pc nb lb) σ ((dAt 30).body.drop 4) K := by
  have np : nb ≠ pc := fun e => by have := W.nm; rw [e, W.pg] at this; cases this
  have lp : lb ≠ pc := fun e => by have := W.ld; rw [e, W.pg] at this; cases this
  have ln : lb ≠ nb := fun e => by have := W.ld; rw [e, W.nm] at this; cases this
  with_reducible refine WSs.freeze (c := pc) (ds := (pgOf ls).map eLine) (ρ' := [("program", .d (PG ls)), ("names", .cell nb), ("leads", .cell lb)]) W.pg (fun p hp => ?_) ?_
  · simp only [List.mem_cons, List.not_mem_nil, or_false] at hp
    rcases hp with rfl | rfl | rfl
    · exact .inr ⟨rfl, by (with_reducible repeat first | exact List.mem_cons_self | apply List.mem_cons_of_mem)⟩
    all_goals exact .inl (by with_reducible repeat first | exact List.mem_cons_self | apply List.mem_cons_of_mem)
  with_reducible refine WSs.freezeDS (c := nb) (L := dN (bookOf (nE ls))) (ρ' := [("program", .d (PG ls)), ("names", .d (.dcts (dN (bookOf (nE ls))))), ("leads", .cell lb)]) ?_ (fun p hp => ?_) ?_
  · rw [del_ne np, W.nm, List.map_map]; rfl
  · simp only [List.mem_cons, List.not_mem_nil, or_false] at hp
    rcases hp with rfl | rfl | rfl
    · exact .inl (by with_reducible repeat first | exact List.mem_cons_self | apply List.mem_cons_of_mem)
    · exact .inr ⟨rfl, by (with_reducible repeat first | exact List.mem_cons_self | apply List.mem_cons_of_mem)⟩
    · exact .inl (by with_reducible repeat first | exact List.mem_cons_self | apply List.mem_cons_of_mem)
  with_reducible refine WSs.freezeDI (c := lb) (L := dG (bookOf (gE ls))) (ρ' := lwF0 ls) ?_ (fun p hp => ?_) ?_
  · rw [del_ne ln, del_ne lp, W.ld, List.map_map]; rfl
  · simp only [List.mem_cons, List.not_mem_nil, or_false] at hp
    rcases hp with rfl | rfl | rfl
    · exact .inl (by with_reducible repeat first | exact List.mem_cons_self | apply List.mem_cons_of_mem)
    · exact .inl (by with_reducible repeat first | exact List.mem_cons_self | apply List.mem_cons_of_mem)
    · exact .inr ⟨rfl, by (with_reducible repeat first | exact List.mem_cons_self | apply List.mem_cons_of_mem)⟩
  with_reducible exact law_t4 C W.ok hl hK
set_option tactic.hygienic true in
theorem W3.rawTo {value slice : Expr} {l : Addr} {vs : List Value} {xs : List Int} {k : Nat} (hL : g.s₁.heap.IsList l vs.toArray) (hi : IntsAre vs xs) (hl : vs.length ≤ 100000) (hq : Q (.d (.lst ((xs.take k).map .int))) σ)
    (hs : ∀ o i, subscripted slice false o i = operate [i, o] (getItem o i) := by intro _ _; rfl) : W3 g n value slice (.raw (.ref l)) (.d .none) (.d (.int k)) σ Q := fun A E P s va vl vu hA S ha hvl hvu => by
  have ha' : va = .ref l := ha
  subst ha'
  cases hvl; cases hvu
  rename_i t
  have ht : s.heap.IsList l vs.toArray := by obtain ⟨o, ho, x⟩ := hL; exact ⟨o, S.up _ _ ho, x⟩
  have r : Reps g.prog g.w P (xs.map .int) vs := by
    clear hL ht hl hq
    induction hi with
    | nil => exact .nil
    | cons n t _ ih => exact .cons (.int n t) ih
  have ht' : (s.heap.push (sliceObj .none (.int k t))).IsList l vs.toArray := by obtain ⟨o, ho, x⟩ := ht; exact ⟨o, Heap.get?_push_of_some _ ho, x⟩
  refine tail_any (T := "list") ht'.typeIs slot_list_getitem.lookup (wpAny_getItem_list_slice ht' (Heap.IsSliceOf.new ..) .none (.int k t) .none (by simp) ?_ (by rw [List.size_toArray, sizeLine_eq]; exact o1 hl rfl)) (hs _ _)
  rw [pick_to]
  obtain ⟨k1, k2, k3⟩ := two_push (h := s.heap) (o := sliceObj .none (.int k t)) (o' := { cls := .type "list", data := .seq (vs.toArray.toList.take k).toArray }) rfl
  refine PostE.newData (tk := s.toks) S hq k1 k2 k3 fun hle hb => .lst hb (SeqO.of (vs := vs.take k)) ?_
  rw [List.map_take]
  exact (r.take k).mono (prog := g.prog) (w := g.w) hle
theorem law_spec (C : Cx g) {l : Addr} {vs : List Value} {xs : List Int} (hL : g.s₁.heap.IsList l vs.toArray) (hi : IntsAre vs xs) (hx : xs.length ≤ 1000) (hv : vs.length ≤ 1000) (hq : ∀ σ', Q (.d (.bool true)) σ') {a : Addr} (hfn : FnAt g (dAt 30) a) : WC g (n + 8) (.ref a) [.raw (.ref l)] σ Q := by
  refine WC.fnR ["script"] [("script", .raw (.ref l))] rfl hfn C.lim rfl (by intro pm cd doc vs hv; obtain ⟨_, e⟩ := len1 hv; subst e; exact rfl) (by decide +kernel) fun L cd => ?_
  obtain ⟨K, hKd⟩ : ∃ K : Fl → Ro → St → Prop, K = fun fl _ σ' => Q (retOf fl) σ' := ⟨_, rfl⟩
  rw [← hKd]
  have hK : ∀ ρ' σ', K (.ret (.d (.bool true))) ρ' σ' := fun ρ' σ' => by rw [hKd]; exact hq σ'
  clear hKd hq
  obtain ⟨da, hda, dF⟩ := C.draw
  show WSs g (n + 7) _ _ σ ((dAt 30).body.drop 0) K
  with_reducible refine WSs.at 0 (by with_unfolding_all rfl) ?_
  refine WS.assignComp1 [] (by repeat first | exact Off.nil | with_reducible apply Off.skip | (apply Off.keepD; kernel_rfl)) (by rfl) (fun p hp => by cases hp) ?_
  walk_at "s"
  refine W3.rawTo (k := 24) hL hi (by exact o1 hv rfl) ?_
  refine ⟨_, IterV.lst, fun Cc => CLoop.map (fun d => .int (absI (unI d))) _ [] (fun d hd => ?_) (by simp; exact o1 (Nat.le_trans (Nat.min_le_left _ _) (Nat.le_refl _)) rfl) ?_⟩
  · obtain ⟨i, _, rfl⟩ := List.mem_map.mp hd
    refine WA.name (by repeat first | exact Off.nil | with_reducible apply Off.skip | (apply Off.keepD; kernel_rfl)) ⟨fun q hq => (by cases hq), ?_⟩
    refine WE.callB C.abs ?_
    refine WEs.cons ?_
    refine WE.callT C.int ?_
    walk_at "s"
    refine WC.int ?_
    walk_at "s"
    refine WC.abs ?_
    exact ⟨rfl, rfl⟩
  obtain ⟨cells, hc⟩ : ∃ cells : List Int, cells = (xs.take 24).map absI := ⟨_, rfl⟩
  have ec : [] ++ ((xs.take 24).map D.int).map (fun d => D.int (absI (unI d))) = cells.map D.int := by
    rw [hc, List.nil_append, List.map_map, List.map_map]; rfl
  rw [ec]
  have hcl : cells.length ≤ 24 := by rw [hc, List.length_map, List.length_take]; exact o1 (Nat.le_trans (Nat.min_le_left _ _) (Nat.le_refl _)) rfl
  show WSs g (n + 7) _ [("cells", .d (.lst (cells.map .int))), ("script", .raw (.ref l))] σ ((dAt 30).body.drop 1) K
  with_reducible refine WSs.at 1 (by with_unfolding_all rfl) ?_
  with_reducible refine WS.assign (hk := by with_unfolding_all first | exact Or.inl rfl | exact Or.inr ⟨rfl, rfl⟩) (hs := by with_unfolding_all rfl) (by repeat first | exact Off.nil | with_reducible apply Off.skip | (apply Off.keepD; kernel_rfl)) ?_
  refine WE.listBox ?_
  walk_at "s"
  refine W2.subI ?_
  refine WEs.cons ?_
  refine WE.callB C.sum ?_
  refine WEs.cons ?_
  refine WE.comp1 [] (by rfl) (fun p hp => by cases hp) ?_
  walk_at "s"
  refine ⟨_, IterV.lst, fun Cc => CLoop.map (fun d => .int ((unI d).fmod 50)) _ [] (fun d hd => ?_) (by exact o1 (Nat.add_le_add oN (oM hcl)) rfl) ?_⟩
  · obtain ⟨i, _, rfl⟩ := List.mem_map.mp hd
    refine WA.name (by repeat first | exact Off.nil | with_reducible apply Off.skip | (apply Off.keepD; kernel_rfl)) ⟨fun q hq => (by cases hq), ?_⟩
    walk_at "s"
    refine W2.modI (by decide) ?_
    exact ⟨rfl, rfl⟩
  have es : [] ++ (cells.map D.int).map (fun d => D.int ((unI d).fmod 50)) = (cells.map fun i => i.fmod 50).map D.int := by
    rw [List.nil_append, List.map_map, List.map_map]; rfl
  rw [es]
  walk_at "s"
  refine WC.sum ?_
  walk_at "s"
  refine ⟨by simp, fun b hb => ?_⟩
  generalize (cells.map fun i => i.fmod 50).sum = s
  have hbx : (upd σ b (.box [.d (.lst (cells.map .int)), .d (.int (0 - 1)), .d (.int s)])) b = some (boxC cells (0 - 1) s) := upd_same
  generalize upd σ b (.box [.d (.lst (cells.map .int)), .d (.int (0 - 1)), .d (.int s)]) = σ₁ at hbx ⊢
  show WSs g (n + 7) _ [("box", .cell b), ("cells", .d (.lst (cells.map .int))), ("script", .raw (.ref l))] σ₁ ((dAt 30).body.drop 2) K
  with_reducible refine WSs.at 2 (by with_unfolding_all rfl) ?_
  refine WS.assignPar (xs := ["program", "names", "leads"]) (ps := [_, _, _]) rfl rfl (Bound.all (by rfl)) (by decide) ?_
  refine WEs.cons ?_
  refine WE.listCell ?_
  refine WEs.nil ?_
  refine ⟨[], rfl, by decide, fun pc hpc => ?_⟩
  refine WEs.cons ?_
  refine WE.dictS C.lim fun nb hnb => ?_
  refine WEs.cons ?_
  refine WE.dictI C.lim fun lb hlb => ?_
  refine WEs.nil ?_
  refine And.intro rfl (Exists.intro _ (And.intro (Offs.cons (x := "program") (a := .cell pc) (xs := ["names", "leads"]) (as := [.cell nb, .cell lb]) (by repeat first | exact Off.nil | with_reducible apply Off.skip | (apply Off.keepD; kernel_rfl)) (Offs.cons (by repeat first | exact Off.nil | with_reducible apply Off.skip | (apply Off.keepD; kernel_rfl)) (Offs.cons (by repeat first | exact Off.nil | with_reducible apply Off.skip | (apply Off.keepD; kernel_rfl)) .nil))) ?_))
  obtain ⟨hnp, hnb'⟩ := upd_none hnb
  obtain ⟨hln, hlb1⟩ := upd_none hlb
  obtain ⟨hlp, hlb'⟩ := upd_none hlb1
  have ne : ∀ {y z : Addr} {c : Cell}, σ₁ y = none → σ₁ z = some c → z ≠ y := fun h1 h2 e => by rw [e, h1] at h2; cases h2
  have W : Lw cells s b pc nb lb (upd (upd (upd σ₁ pc (.lst [])) nb (.dcts [])) lb (.dcti [])) (0 - 1) [] :=
    ⟨by rw [upd_ne (ne hlb' hbx), upd_ne (ne hnb' hbx), upd_ne (ne hpc hbx)]; exact hbx, by rw [upd_ne (Ne.symm hlp), upd_ne (Ne.symm hnp), upd_same]; rfl, by rw [upd_ne (Ne.symm hln), upd_same]; rfl, by rw [upd_same]; rfl, by exact o1 hcl rfl, by decide, fun l hl => by cases hl⟩
  generalize upd (upd (upd σ₁ pc (.lst [])) nb (.dcts [])) lb (.dcti []) = σ₂ at W ⊢
  show WSs g (n + 7) _ [("leads", .cell lb), ("names", .cell nb), ("program", .cell pc), ("box", .cell b), ("cells", .d (.lst (cells.map .int))), ("script", .raw (.ref l))] σ₂ ((dAt 30).body.drop 3) K
  with_reducible refine WSs.at 3 (by with_unfolding_all rfl) ?_
  refine WS.for ?_
  refine WE.callT C.range ?_
  walk_at "s"
  refine WE.callFn hda dF ?_
  walk_at "s"
  refine draw_spec C W.box W.lo (by decide) (by exact o1 hcl rfl) (by decide) ?_ dF
  refine W2.addI ?_
  walk_at "s"
  obtain ⟨v0, v6⟩ := drawV_bd cells (0 - 1 + 1) s 6 (by decide)
  have W' : Lw cells s b pc nb lb (upd σ₂ b (boxC cells (0 - 1 + 1) s)) (0 - 1 + 1) [] := by
    have pb : pc ≠ b := fun e => by have := W.pg; rw [e, W.box] at this; cases this
    have nbb : nb ≠ b := fun e => by have := W.nm; rw [e, W.box] at this; cases this
    have lbb : lb ≠ b := fun e => by have := W.ld; rw [e, W.box] at this; cases this
    exact ⟨upd_same, by rw [upd_ne pb]; exact W.pg, by rw [upd_ne nbb]; exact W.nm, by rw [upd_ne lbb]; exact W.ld, W.cl, by decide, fun l hl => by cases hl⟩
  generalize drawV cells (0 - 1 + 1) s 6 = v at v0 v6 ⊢
  obtain ⟨k, hk, hk6⟩ : ∃ k : Nat, 1 + v = (k : Int) ∧ k ≤ 6 := ⟨(1 + v).toNat, by omega, by omega⟩
  rw [hk]
  refine WC.range ?_
  refine ⟨_, IterV.rng (by exact o2 hk6 rfl), ?_⟩
  refine law_lines C (List.range k) _ _ (0 - 1 + 1) [] (fun p hp => ?_) (fun x hx => ?_) W' ?_ ?_ fun ρ' σ' i' ls' hs W'' hl' => ?_
  · simp only [List.mem_cons, List.not_mem_nil, or_false] at hp
    rcases hp with rfl | rfl | rfl | rfl <;> (with_reducible repeat first | exact List.mem_cons_self | apply List.mem_cons_of_mem)
  · have := List.mem_range.mp hx; omega
  · simp; exact hk6
  · rw [List.length_range]; omega
  show WSs g (n + 7) _ ρ' σ' ((dAt 30).body.drop 4) K
  with_reducible refine WSs.sub hs (law_frozen C W'' hl' hK)
end
end
end Mine
namespace Mine
set_option tactic.hygienic false
section
noncomputable def tabAtH (h : Heap) (x : Str) (D : List (Str × KTD.Dat)) : Bool := match h.nsMap mainGlobals x with
  | some (.ref a) => KTD.tabLook (KTD.datLooks h.get?) h.get? a D
  | _ => false
noncomputable def bltNames : List Str := ["isinstance", "len", "sorted", "abs", "sum", "repr", "int", "bool", "str", "tuple", "list", "dict", "range", "reversed", "enumerate"]
noncomputable def topOk (h : Heap) : Bool := h.isNs mainGlobals && bltNames.all (fun x => (h.nsMap mainGlobals x).isNone) &&
  (tabAtH h "SET_TREES" tTrees && tabAtH h "SET_LISTS" tLists && tabAtH h "SET_WORDS" tWords && tabAtH h "USED_WORDS" tUsed && tabAtH h "GOAL_PLACES" tGoals)
noncomputable def keepIx : List Nat := [1, 2, 3, 4, 5, 6, 7, 8, 9, 10, 11, 12, 13, 14, 15, 16, 17, 18, 19, 20, 21, 23, 24, 25, 26, 27, 28, 29, 30]
noncomputable def vq : Program := PySem.W.view Pw keepIx
noncomputable def lsq : List Str := ["SET_TREES", "SET_LISTS", "SET_WORDS", "USED_WORDS", "GOAL_PLACES"]
noncomputable def Hk : Hook where
  α := Bool
  obs := fun s => topOk s.heap
  val := fun _ => true
  says := fun _ h => ∃ h₀ : Heap, topOk h₀ = true ∧ ∀ b o, h₀.get? b = some o → h.get? b = some o
  of := fun _ s e => ⟨s.heap, e, fun _ _ e => e⟩
  keeps := fun _ _ _ x k' => x.elim fun h₀ y => ⟨h₀, y.1, fun b o q => k' b o (y.2 b o q)⟩
theorem left0 : LeftO Pw vq lsq (fun s => xlAt vq [] s && recOk [] s) Hk.obs Hk.val 2232 :=
  LeftO.of_split "special-get-raises" (by intro w; kernel_rfl)
theorem said0 : PySem.Challenge.rw_pq0166_01.wellSaid = true := by kernel_rfl
theorem bare0 : PySem.Challenge.rw_pq0166_01.row.prog.bare := ⟨rfl, rfl, rfl, rfl, rfl, by decide +kernel⟩
end
set_option tactic.hygienic false
section
theorem fn_of {g : Gm} {p : Program} {loose : List Str} {mean : ExcName → Option Value} {mg mb : Str → Option Value} (T : Top p loose mean mg mb g.s₁.heap) {i : Nat} {x : Str} (j : Nat) (hm : (recsOf p)[j]? = some (dAt i)) (hx : (dAt i).name = x) : FnG g x i := by
  obtain ⟨a, o, pm, cd, doc, h1, h2, h3, h4⟩ := T.fn (dAt i) (List.mem_of_getElem? hm)
  exact ⟨a, ⟨mg, T.g, by rw [← hx]; exact h1⟩, o, pm, cd, doc, h2, h3, h4⟩
theorem ns_same {h₀ h : Heap} {mg : Str → Option Value} (k : ∀ b o, h₀.get? b = some o → h.get? b = some o) (i : h₀.isNs mainGlobals = true) (G : h.Ns mainGlobals mg) (x : Str) : h₀.nsMap mainGlobals x = mg x := by
  obtain ⟨o, es, ep, ho, hd, _, hf⟩ := G
  obtain ⟨o', es', ep', ho', hd', _, hf'⟩ := Heap.Ns.of_isNs i
  have := k _ _ ho'
  rw [ho] at this
  cases this
  rw [hd] at hd'
  cases hd'
  exact (hf' x).symm.trans (hf x)
theorem blt_of {g : Gm} {p : Program} {loose : List Str} {mean : ExcName → Option Value} {mg mb : Str → Option Value} (T : Top p loose mean mg mb g.s₁.heap) (Y : Hk.says g.w g.s₁.heap) {x : Str} {v : Value} (hx : x ∈ bltNames) (hb : bootBuiltins x = some v) (hn : x ≠ "__name__") : BltIs g x v := by
  obtain ⟨h₀, e, k⟩ := Y
  obtain ⟨e, _⟩ := Bool.and_eq_true_iff.mp e
  obtain ⟨i, e⟩ := Bool.and_eq_true_iff.mp e
  refine ⟨mg, mb, T.g, ?_, T.b, (T.builtins x hn).trans hb⟩
  rw [← ns_same k i T.g x]
  exact Option.isNone_iff_eq_none.mp (List.all_eq_true.mp e x hx)
theorem tabs_of {g : Gm} {mg : Str → Option Value} (G : g.s₁.heap.Ns mainGlobals mg) (Y : Hk.says g.w g.s₁.heap) : TabG g "SET_TREES" tTrees ∧ TabG g "SET_LISTS" tLists ∧ TabG g "SET_WORDS" tWords ∧ TabG g "USED_WORDS" tUsed ∧ TabG g "GOAL_PLACES" tGoals := by
  obtain ⟨h₀, e, k⟩ := Y
  obtain ⟨e, e'⟩ := Bool.and_eq_true_iff.mp e
  obtain ⟨i, _⟩ := Bool.and_eq_true_iff.mp e
  have one : ∀ {x D}, tabAtH h₀ x D = true → TabG g x D := by
    intro x D e
    unfold tabAtH at e
    split at e
    · rename_i a h
      exact ⟨a, ⟨mg, G, (ns_same k i G x).symm.trans h⟩, KTD.text_of_look k e⟩
    · cases e
  obtain ⟨e', e5⟩ := Bool.and_eq_true_iff.mp e'
  obtain ⟨e', e4⟩ := Bool.and_eq_true_iff.mp e'
  obtain ⟨e', e3⟩ := Bool.and_eq_true_iff.mp e'
  obtain ⟨e1, e2⟩ := Bool.and_eq_true_iff.mp e'
  exact ⟨one e1, one e2, one e3, one e4, one e5⟩
theorem ints_len {vs : List Value} {xs : List Int} (h : IntsAre vs xs) : vs.length = xs.length := by
  induction h with
  | nil => rfl
  | cons n t _ ih => simp [ih]
set_option tactic.hygienic true in
theorem join0 : PySem.Challenge.rw_pq0166_01.Holds := holds_law said0 fun said => PySem.W.holds_open (r := PySem.Challenge.rw_pq0166_01.row) (q := vq) (loose := lsq) (Xt := fun s => xlAt vq [] s && recOk [] s) (XP := XL vq []) (Yf := Hk.obs) (Ya := Hk.val) (YP := Hk.says) (N := 2232) left0 Hk.of Hk.keeps (fun s e => xl_of s (Bool.and_eq_true_iff.mp e).1) XL.keeps (d := dAt 30) (kwd := []) (by kernel_rfl) (by kernel_rfl) (by kernel_rfl) (fun s e => recFacts_of (Bool.and_eq_true_iff.mp e).2) (by rfl) said (by kernel_rfl) bare0 ⟨[.list []], by decide +kernel, by decide +kernel⟩ (by
  intro w s₀ s₁ mg mb G Y fa o pm cd doc dV kV ho hd hcd hD hmg hg args vals as hpre hlay hrd hwl hlo
  have T := G.T
  have TB := tabs_of (g := ⟨PySem.Challenge.rw_pq0166_01.row.prog, w, s₁⟩) T.g Y
  have hmg' : mg (dAt 30).name = some (.ref fa) := hmg
  clear hd hcd hD hmg
  wrow_args hpre hlay hrd hwl hlo
  rename_i xs a1 a2 a3 a4 a5 b1 b2 l vs b3 hL c1 c2 c3 hI c4 hc c5
  have C : Cx ⟨PySem.Challenge.rw_pq0166_01.row.prog, w, s₁⟩ := {
    lim := T.nolimit
    is_whole := fn_of T 0 (by kernel_rfl) rfl
    name_of_tree := fn_of T 1 (by kernel_rfl) rfl
    is_tree := fn_of T 2 (by kernel_rfl) rfl
    names_read := fn_of T 3 (by kernel_rfl) rfl
    set_trees := fn_of T 4 (by kernel_rfl) rfl
    mat_uses := fn_of T 5 (by kernel_rfl) rfl
    own_uses := fn_of T 6 (by kernel_rfl) rfl
    read_parts := fn_of T 7 (by kernel_rfl) rfl
    goals_of := fn_of T 8 (by kernel_rfl) rfl
    all_statements := fn_of T 9 (by kernel_rfl) rfl
    noted := fn_of T 10 (by kernel_rfl) rfl
    cross_reference := fn_of T 11 (by kernel_rfl) rfl
    lost_goals := fn_of T 12 (by kernel_rfl) rfl
    never_set := fn_of T 13 (by kernel_rfl) rfl
    shown_names := fn_of T 14 (by kernel_rfl) rfl
    shown_goals := fn_of T 15 (by kernel_rfl) rfl
    draw := fn_of T 16 (by kernel_rfl) rfl
    exp := fn_of T 17 (by kernel_rfl) rfl
    place := fn_of T 18 (by kernel_rfl) rfl
    goal := fn_of T 19 (by kernel_rfl) rfl
    simple := fn_of T 20 (by kernel_rfl) rfl
    statement := fn_of T 21 (by kernel_rfl) rfl
    lnoted := fn_of T 22 (by kernel_rfl) rfl
    law := fn_of T 23 (by kernel_rfl) rfl
    trees := TB.1
    lists := TB.2.1
    words := TB.2.2.1
    used := TB.2.2.2.1
    goals := TB.2.2.2.2
    isi := blt_of T Y (by decide +kernel) (by kernel_rfl) (by decide +kernel)
    len := blt_of T Y (by decide +kernel) (by kernel_rfl) (by decide +kernel)
    sorted := blt_of T Y (by decide +kernel) (by kernel_rfl) (by decide +kernel)
    abs := blt_of T Y (by decide +kernel) (by kernel_rfl) (by decide +kernel)
    sum := blt_of T Y (by decide +kernel) (by kernel_rfl) (by decide +kernel)
    repr := blt_of T Y (by decide +kernel) (by kernel_rfl) (by decide +kernel)
    int := blt_of T Y (by decide +kernel) (by kernel_rfl) (by decide +kernel)
    bool := blt_of T Y (by decide +kernel) (by kernel_rfl) (by decide +kernel)
    str := blt_of T Y (by decide +kernel) (by kernel_rfl) (by decide +kernel)
    tuple := blt_of T Y (by decide +kernel) (by kernel_rfl) (by decide +kernel)
    list := blt_of T Y (by decide +kernel) (by kernel_rfl) (by decide +kernel)
    dict := blt_of T Y (by decide +kernel) (by kernel_rfl) (by decide +kernel)
    range := blt_of T Y (by decide +kernel) (by kernel_rfl) (by decide +kernel)
    reversed := blt_of T Y (by decide +kernel) (by kernel_rfl) (by decide +kernel)
    enum := blt_of T Y (by decide +kernel) (by kernel_rfl) (by decide +kernel) }
  have hfn : FnAt ⟨PySem.Challenge.rw_pq0166_01.row.prog, w, s₁⟩ (dAt 30) fa := by
    obtain ⟨a, o', pm', cd', doc', h1, h2, h3, h4⟩ := T.fn (dAt 30) (List.mem_of_getElem? (i := 23) (by kernel_rfl))
    have e : a = fa := by
      have := h1.symm.trans hmg'
      cases this; rfl
    subst e
    exact ⟨o', pm', cd', doc', h2, h3, h4⟩
  have S : SS PySem.Challenge.rw_pq0166_01.row.prog w s₁ (fun a => s₁.heap.get? a) (fun _ => none) s₁ := ⟨⟨fun _ _ e => e, fun _ _ e => e, fun _ _ e => by cases e⟩, hg, rfl⟩
  have hA : OkA 20 callerA := ⟨rfl, by decide +kernel, by decide +kernel, rfl⟩
  have hvl : vs.length = xs.length := ints_len hI
  have hxl : xs.length ≤ 63 := by omega
  have W := law_spec (g := ⟨PySem.Challenge.rw_pq0166_01.row.prog, w, s₁⟩) (n := 12) (σ := fun _ => none) (Q := fun a _ => a = .d (.bool true)) C hL hI (by omega) (by omega) (fun _ => rfl) hfn
  have X := W callerA (fun e s' => GoodWG Challenge.rw_pq0166_01.row.claim (classAt s₀.heap) (ExcName.means s₀.heap) [ofPy (PyData.list (List.map PyData.int xs))] s₁ (Except.error e) s') (fun a => s₁.heap.get? a) s₁ [.ref l] hA S (.cons rfl .nil)
  refine wpAny_mono X (fun v s' ⟨a, P', σ', ha, hr, S', t⟩ => ?_) fun _ _ e => e
  subst ha
  cases hr
  refine GoodW.toG ⟨.inl ⟨.bool true, .bool true, [], rfl, fun cls => ?_, .bool true, ?_, fun _ => ⟨List.nodup_nil, fun a ha => by cases ha⟩⟩, fun b o e => t.keep b o e rfl id, S'.os, S'.gens⟩
  · rfl
  · kernel_rfl)
end
end Mine
theorem PySem.Challenge.cw_pq0166_01_holds : PySem.Challenge.rw_pq0166_01.Holds := by
  exact Mine.join0
